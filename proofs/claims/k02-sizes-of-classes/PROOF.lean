import PyProof.Rows.All
import Wide.All
import OpenK.AllK
import Wide.FinOn
import HandS.ForMost
import HandS.ForExc
import HandS.TryMany
import HandS.ExcField
import HandS.CallLocal
import HandS.Conv
import HandS.Flow
import HandS.Style
import HandS.IsInst
import HandS.Wide
import HandS.SortInts
import HandS.SortKw
import HandS.TupAny
import HandS.TupMul
import HandS.Rev
import HandS.Zip
import HandS.RevTup
import KE.KDictKeyed
import HandS.WordsExc
import HandS.CallSlots
import HandS.SetFor
import KE.GoesMore
import HandS.Deep
import KE.DatumOrd
import KE.KDictDisplayH
import HandS.ExcInit
import KE.KExcSuper
import HandS.Strs
import KE.KDictCopyH
import KE.KDictSum
import HandS.NamedTupSort
import HandS.WideMore
import PyProof.Rows.SumAny
import PyProof.WalksMore
import PySem.Challenge.RW_branchsheets_k02_whole_sizes_of_classes
set_option Elab.async false
set_option linter.all false
set_option maxRecDepth 100000
set_option maxHeartbeats 4000000
/-! Fx: programs as functions of plain data. -/
namespace Fx
open PySem L2

/-! the sizes, as words that nothing unfolds -/
theorem ex_sz : ∃ f : Nat → Bool, ∀ n, f n = true ↔ n ≤ sizeLine := ⟨fun n => decide (n ≤ sizeLine), fun n => decide_eq_true_iff⟩
noncomputable def szFits : Nat → Bool := ex_sz.choose
theorem szFits_iff {n : Nat} : szFits n = true ↔ n ≤ sizeLine := ex_sz.choose_spec n
theorem szFits_lt {n : Nat} : szFits (n + 1) = true ↔ n < sizeLine := szFits_iff
theorem ex_w62 : ∃ f : Int → Bool, ∀ j, f j = true ↔ -4611686018427387904 ≤ j ∧ j < 4611686018427387904 := ⟨fun j => decide (-4611686018427387904 ≤ j ∧ j < 4611686018427387904), fun n => decide_eq_true_iff⟩
noncomputable def w62 : Int → Bool := ex_w62.choose
theorem w62_iff {j : Int} : w62 j = true ↔ -(2 ^ 62) ≤ j ∧ j < 2 ^ 62 := by
  rw [show w62 j = true ↔ _ from ex_w62.choose_spec j]; omega
theorem ex_w63 : ∃ f : Int → Bool, ∀ j, f j = true ↔ -9223372036854775808 ≤ j ∧ j < 9223372036854775808 := ⟨fun j => decide (-9223372036854775808 ≤ j ∧ j < 9223372036854775808), fun n => decide_eq_true_iff⟩
noncomputable def w63 : Int → Bool := ex_w63.choose
theorem w63_iff {j : Int} : w63 j = true ↔ -(2 ^ 63) ≤ j ∧ j < 2 ^ 63 := by
  rw [show w63 j = true ↔ _ from ex_w63.choose_spec j]; omega

/-- how tuples are known: by their items alone (they may be keys), or with their object too (their methods may be called) -/
class Md where
  fz : Bool
variable [Md]
def TupAt (H : Hp) (a : Addr) (vs : List V) : Prop := if Md.fz = true then ∃ o : Obj, o.dict = none ∧ H a = some (.frz o (.tup vs)) else H a = some (.tup vs)
/-- what a new tuple is laid as -/
def NewT (u : HO) (vs : List V) : Prop := if Md.fz = true then ∃ o : Obj, o.dict = none ∧ u = .frz o (.tup vs) else u = .tup vs
theorem TupAt.sq {K : PySem.W.Frag} {H : Hp} {a : Addr} {vs : List V} (h : TupAt H a vs) : SqT K H a vs := by
  unfold TupAt at h
  split at h
  · obtain ⟨o, _, h⟩ := h; exact .inl (.inr ⟨o, h⟩)
  · exact .inl (.inl h)
theorem TupAt.key {H : Hp} {a : Addr} {vs : List V} (h : TupAt H a vs) (m : Md.fz = false) : H a = some (.tup vs) := by
  unfold TupAt at h
  rw [m, if_neg (by decide)] at h
  exact h
theorem NewT.at {H : Hp} {a : Addr} {vs : List V} {u : HO} (n : NewT u vs) (h : H a = some u) : TupAt H a vs := by
  unfold NewT at n
  unfold TupAt
  split
  · rename_i m
    rw [if_pos m] at n
    obtain ⟨o, e, rfl⟩ := n
    exact ⟨o, e, h⟩
  · rename_i m
    rw [if_neg m] at n
    subst n
    exact h
theorem NewT.upd {H : Hp} {a : Addr} {vs : List V} {u : HO} (n : NewT u vs) : TupAt (upd H a u) a vs := n.at upd_same
/-- a tuple's place holds nothing that is written -/
theorem TupAt.some {H : Hp} {a : Addr} {vs : List V} (h : TupAt H a vs) : ∃ u, H a = some u ∧ NewT u vs := by
  unfold TupAt at h
  unfold NewT
  split at h
  · rename_i m
    obtain ⟨o, e, h⟩ := h
    exact ⟨_, h, by rw [if_pos m]; exact ⟨o, e, rfl⟩⟩
  · rename_i m
    exact ⟨_, h, by rw [if_neg m]⟩
/-- a new tuple is laid and tracked -/
theorem laidT {X : Cx} {pins : List (Addr × Obj)} {σ : St} {H : Hp} {s : Shared} {h' : Heap} {t' : Nat} {p : Addr} {o : Obj} {xs : List V} (I : Inv X pins σ H s) (k : ∀ b u, s.heap.get? b = some u → h'.get? b = some u) (hp : s.heap.objs.size ≤ p)
    (hg : h'.get? p = some o) (ho : o.dict = none) (ok : ∀ H', ObjOk X.prog X.w H' h' p (.tup xs)) : ∃ u, NewT u xs ∧ Inv X pins σ (upd H p u) { s with heap := h', toks := t' } := by
  cases m : Md.fz with
  | true => exact ⟨.frz o (.tup xs), by unfold NewT; rw [if_pos m]; exact ⟨o, ho, rfl⟩, I.laid (t' := t') k hp ⟨hg, ok _⟩⟩
  | false => exact ⟨.tup xs, by unfold NewT; rw [m, if_neg (by decide)], I.laid (t' := t') k hp (ok _)⟩

/-- plain data: what a Python value is, the mutable objects by their number in the store -/
inductive D where
  | non | bl (b : Bool) | int (i : Int) | str (x : Str) | ty (n : String) | fn (a : Addr)
  | tup (xs : List D) | lst (xs : List D) | loc (n : Nat)

/-- a mutable object -/
inductive O where
  | lst (xs : List D)
  | dk (kvs : List (Key × D))
  | dt (kvs : List (NestedKey × D))

mutual
/-- a key as data -/
def ofN : NestedKey → D
  | .none => .non
  | .num i => .int i
  | .text x => .str x
  | .tup ks => .tup (ofNs ks)
def ofNs : List NestedKey → List D
  | [] => []
  | k :: ks => ofN k :: ofNs ks
end
/-- the world that runs (where it is known) -/
class Mw where
  w : Option World
instance (priority := low) mw0 : Mw := ⟨none⟩
variable [Mw]
/-- a dict whose keys are tuples, nested: its entries in order, each key's place, each value -/
def entryN (w : World) (x : NestedKey × Addr × Value) : DictEntry := ⟨x.1.hash w, .ref x.2.1, x.2.2⟩
abbrev PWn : List (NestedKey × Addr × V) → List (NestedKey × Addr × Value) → Prop := Paired fun p q => p.1 = q.1 ∧ p.2.1 = q.2.1 ∧ RelV p.2.2 q.2.2
def DN (w : World) (a : Addr) (ws : List (NestedKey × Addr × V)) : HO := .ext fun h => (a == sysModules) = false ∧ ws.length ≤ sizeLine ∧ ∃ xs : List (NestedKey × Addr × Value), PWn ws xs ∧
  ∃ o es ep, h.get? a = some o ∧ o.ExactDict ∧ o.data = .dict es ep ∧ es.toList = xs.map (entryN w) ∧ (xs.map (·.1)).Nodup

abbrev Store := List O
abbrev En := List (Option D)

/-- where the store's objects lie; what is hidden (made, not yet told) -/
structure Mp where
  at' : Nat → Addr
  hid : Addr → Prop
def Mp.hide (ρ : Mp) (a : Addr) : Mp := ⟨ρ.at', fun b => ρ.hid b ∨ b = a⟩
/-- a list that is read only: not one of the store's -/
def LstAt (K : PySem.W.Frag) (H : Hp) (ρ : Mp) (n : Nat) (a : Addr) (xs : List V) : Prop :=
  (Rd H a (.lst xs) ∧ (∀ i, i < n → ρ.at' i ≠ a) ∧ ¬ ρ.hid a) ∨
    ∃ (o : Obj) (its : Array Value) (m : Nat), K.lookup a = some o ∧ o.cls = .type "list" ∧ o.dict = none ∧ o.data = .seq its m ∧ its.size ≤ sizeLine ∧ Vals xs its.toList
theorem LstAt.sq {K : PySem.W.Frag} {H : Hp} {ρ : Mp} {n : Nat} {a : Addr} {xs : List V} (h : LstAt K H ρ n a xs) : SqL K H a xs := h.imp (·.1) id

mutual
def RelD (K : PySem.W.Frag) (ρ : Mp) (n : Nat) (H : Hp) : D → V → Prop
  | .non, v => v = .non
  | .bl b, v => v = .bl b
  | .int i, v => v = .int i
  | .str x, v => v = .str x
  | .ty t, v => v = .ty t
  | .fn a, v => v = .ref a
  | .tup xs, v => ∃ a vs, v = .ref a ∧ TupAt H a vs ∧ RelDs K ρ n H xs vs
  | .lst xs, v => ∃ a vs, v = .ref a ∧ LstAt K H ρ n a vs ∧ RelDs K ρ n H xs vs
  | .loc i, v => v = .ref (ρ.at' i) ∧ i < n
def RelDs (K : PySem.W.Frag) (ρ : Mp) (n : Nat) (H : Hp) : List D → List V → Prop
  | [], vs => vs = []
  | d :: ds, vs => ∃ v r, vs = v :: r ∧ RelD K ρ n H d v ∧ RelDs K ρ n H ds r
end

def ObjR (K : PySem.W.Frag) (ρ : Mp) (n : Nat) (H : Hp) : O → Addr → Prop
  | .lst ds, a => ∃ vs, H a = some (.lst vs) ∧ RelDs K ρ n H ds vs
  | .dk kvs, a => ∃ ws : List (Key × V), H a = some (.dK ws) ∧ Paired (fun p q => p.1 = q.1 ∧ RelD K ρ n H p.2 q.2) kvs ws
  | .dt kvs, a => ∃ w ws, Mw.w = some w ∧ H a = some (DN w a ws) ∧ Paired (fun p q => p.1 = q.1 ∧ (RelD K ρ n H (ofN p.1) (.ref q.2.1) ∧ p.1.depth ≤ 8) ∧ RelD K ρ n H p.2 q.2.2) kvs ws

/-- the store lies in the heap -/
def isMut : HO → Bool
  | .lst _ => true
  | .dK _ => true
  | .ext _ => true
  | _ => false
theorem NewT.mut {u : HO} {vs : List V} (n : NewT u vs) : isMut u = false := by
  unfold NewT at n
  split at n
  · obtain ⟨o, _, rfl⟩ := n; rfl
  · subst n; rfl
structure R (K : PySem.W.Frag) (ρ : Mp) (st : Store) (H : Hp) : Prop where
  obj : ∀ i o, st[i]? = some o → ObjR K ρ st.length H o (ρ.at' i)
  inj : ∀ i j, i < st.length → j < st.length → ρ.at' i = ρ.at' j → i = j
  hid : ∀ a, ρ.hid a → ∃ u, H a = some u ∧ isMut u = true
  sep : ∀ i, i < st.length → ¬ ρ.hid (ρ.at' i)

/-- what a step may do to the heap -/
structure Ext (ρ : Mp) (n : Nat) (H : Hp) (ρ' : Mp) (n' : Nat) (H' : Hp) : Prop where
  le : n ≤ n'
  old : ∀ i, i < n → ρ'.at' i = ρ.at' i
  new : ∀ i, n ≤ i → i < n' → H (ρ'.at' i) = none
  keep : ∀ a o, H a = some o → (∀ i, i < n → ρ.at' i ≠ a) → H' a = some o
  hid : ρ'.hid = ρ.hid

section
variable {K : PySem.W.Frag} {ρ ρ' ρ'' : Mp} {st st' st'' : Store} {H H' H'' : Hp} {n n' n'' : Nat}

theorem R.at (r : R K ρ st H) {i : Nat} (h : i < st.length) : ∃ u, H (ρ.at' i) = some u ∧ isMut u = true := by
  have e : st[i]? = some st[i] := List.getElem?_eq_getElem h
  have q := r.obj i _ e
  revert q
  cases st[i] with
  | lst ds => rintro ⟨vs, h, _⟩; exact ⟨_, h, rfl⟩
  | dk ds => rintro ⟨vs, h, _⟩; exact ⟨_, h, rfl⟩
  | dt ds => rintro ⟨w, vs, _, h, _⟩; exact ⟨_, h, rfl⟩
theorem R.ne (r : R K ρ st H) {a : Addr} {u : HO} (h : H a = some u) (m : isMut u = false) : ∀ i, i < st.length → ρ.at' i ≠ a := fun i hi e => by
  obtain ⟨w, hw, mw⟩ := r.at hi
  rw [e, h] at hw; cases hw; rw [m] at mw; cases mw
theorem R.ne_none (r : R K ρ st H) {a : Addr} (h : H a = none) : ∀ i, i < st.length → ρ.at' i ≠ a := fun i hi e => by
  obtain ⟨w, hw, mw⟩ := r.at hi
  rw [e, h] at hw; cases hw
theorem R.nh_none (r : R K ρ st H) {a : Addr} (h : H a = none) : ¬ ρ.hid a := fun q => by
  obtain ⟨u, hu, _⟩ := r.hid a q
  rw [h] at hu; cases hu

theorem Ext.refl : Ext ρ n H ρ n H := ⟨Nat.le_refl _, fun _ _ => rfl, fun _ h1 h2 => absurd (Nat.lt_of_le_of_lt h1 h2) (Nat.lt_irrefl _), fun _ _ h _ => h, rfl⟩
/-- what is free behind a step was free ahead of it -/
theorem Ext.none_of (a : Ext ρ st.length H ρ' st'.length H') (m : R K ρ' st' H') {x : Addr} (q : H' x = none) : H x = none := by
  cases e : H x with
  | none => rfl
  | some u =>
    by_cases hm : ∃ j, j < st.length ∧ ρ.at' j = x
    · obtain ⟨j, hj, ej⟩ := hm
      obtain ⟨w, hw, _⟩ := m.at (Nat.lt_of_lt_of_le hj a.le)
      rw [a.old j hj, ej, q] at hw; cases hw
    · have := a.keep _ u e fun j hj z => hm ⟨j, hj, z⟩
      rw [q] at this; cases this
theorem Ext.trans (a : Ext ρ st.length H ρ' st'.length H') (r : R K ρ st H) (m : R K ρ' st' H') (b : Ext ρ' st'.length H' ρ'' n'' H'') : Ext ρ st.length H ρ'' n'' H'' := by
  refine ⟨Nat.le_trans a.le b.le, fun i hi => (b.old i (Nat.lt_of_lt_of_le hi a.le)).trans (a.old i hi), fun i h1 h2 => ?_, fun x o h1 h2 => ?_, b.hid.trans a.hid⟩
  · by_cases hi : i < st'.length
    · rw [b.old i hi]; exact a.new i h1 hi
    · exact a.none_of m (b.new i (Nat.le_of_not_lt hi) h2)
  · refine b.keep x o (a.keep x o h1 h2) fun i hi e => ?_
    by_cases hl : i < st.length
    · rw [a.old i hl] at e; exact h2 i hl e
    · have := a.new i (Nat.le_of_not_lt hl) hi
      rw [e, h1] at this; cases this

/-- .. more may be hidden, of what is new -/
structure ExtW (ρ : Mp) (n : Nat) (H : Hp) (ρ' : Mp) (n' : Nat) (H' : Hp) : Prop where
  le : n ≤ n'
  old : ∀ i, i < n → ρ'.at' i = ρ.at' i
  new : ∀ i, n ≤ i → i < n' → H (ρ'.at' i) = none
  keep : ∀ a o, H a = some o → (∀ i, i < n → ρ.at' i ≠ a) → H' a = some o
  hid : ∀ a, ρ'.hid a → ρ.hid a ∨ H a = none
theorem Ext.w (e : Ext ρ n H ρ' n' H') : ExtW ρ n H ρ' n' H' := ⟨e.le, e.old, e.new, e.keep, fun a h => .inl (by rw [← e.hid]; exact h)⟩
theorem ExtW.sqT (e : ExtW ρ st.length H ρ' n' H') (r : R K ρ st H) {a : Addr} {xs : List V} (h : SqT K H a xs) : SqT K H' a xs := by
  rcases h with (h | ⟨o, h⟩) | h
  · exact .inl (.inl (e.keep a _ h (r.ne h rfl)))
  · exact .inl (.inr ⟨o, e.keep a _ h (r.ne h rfl)⟩)
  · exact .inr h
theorem ExtW.lstAt (e : ExtW ρ n H ρ' n' H') {a : Addr} {xs : List V} (h : LstAt K H ρ n a xs) : LstAt K H' ρ' n' a xs := by
  rcases h with ⟨h, ni, nh⟩ | h
  · have nn : ∀ u, H a = some u → ∀ i, i < n' → ρ'.at' i ≠ a := fun u hu i hi z => by
      by_cases hl : i < n
      · rw [e.old i hl] at z; exact ni i hl z
      · have := e.new i (Nat.le_of_not_lt hl) hi
        rw [z, hu] at this; cases this
    have nh' : ∀ u, H a = some u → ¬ ρ'.hid a := fun u hu z => by
      rcases e.hid a z with q | q
      · exact nh q
      · rw [hu] at q; cases q
    rcases h with h | ⟨o, h⟩
    · exact .inl ⟨.inl (e.keep a _ h ni), nn _ h, nh' _ h⟩
    · exact .inl ⟨.inr ⟨o, e.keep a _ h ni⟩, nn _ h, nh' _ h⟩
  · exact .inr h
theorem Ext.sqT (e : Ext ρ st.length H ρ' n' H') (r : R K ρ st H) {a : Addr} {xs : List V} (h : SqT K H a xs) : SqT K H' a xs := e.w.sqT r h
theorem Ext.lstAt (e : Ext ρ n H ρ' n' H') {a : Addr} {xs : List V} (h : LstAt K H ρ n a xs) : LstAt K H' ρ' n' a xs := e.w.lstAt h

mutual
theorem RelD.monoW (e : ExtW ρ st.length H ρ' n' H') (r : R K ρ st H) : ∀ (d : D) {v : V}, RelD K ρ st.length H d v → RelD K ρ' n' H' d v
  | .non, v, h => by simpa only [RelD] using h
  | .bl b, v, h => by simpa only [RelD] using h
  | .int b, v, h => by simpa only [RelD] using h
  | .str b, v, h => by simpa only [RelD] using h
  | .ty b, v, h => by simpa only [RelD] using h
  | .fn b, v, h => by simpa only [RelD] using h
  | .tup xs, v, h => by
    simp only [RelD] at h ⊢
    obtain ⟨a, vs, rfl, s, q⟩ := h
    obtain ⟨u, s, nu⟩ := s.some
    exact ⟨a, vs, rfl, nu.at (e.keep a _ s (r.ne s nu.mut)), RelDs.monoW e r xs q⟩
  | .lst xs, v, h => by
    simp only [RelD] at h ⊢
    obtain ⟨a, vs, rfl, s, q⟩ := h
    exact ⟨a, vs, rfl, e.lstAt s, RelDs.monoW e r xs q⟩
  | .loc i, v, h => by
    simp only [RelD] at h ⊢
    rw [e.old i h.2]
    exact ⟨h.1, Nat.lt_of_lt_of_le h.2 e.le⟩
theorem RelDs.monoW (e : ExtW ρ st.length H ρ' n' H') (r : R K ρ st H) : ∀ (ds : List D) {vs : List V}, RelDs K ρ st.length H ds vs → RelDs K ρ' n' H' ds vs
  | [], vs, h => by simpa only [RelDs] using h
  | d :: ds, vs, h => by
    simp only [RelDs] at h ⊢
    obtain ⟨v, w, rfl, h1, h2⟩ := h
    exact ⟨v, w, rfl, RelD.monoW e r d h1, RelDs.monoW e r ds h2⟩
end
theorem RelD.mono {v : V} {d : D} (h : RelD K ρ st.length H d v) (e : Ext ρ st.length H ρ' n' H') (r : R K ρ st H) : RelD K ρ' n' H' d v := RelD.monoW e.w r d h
theorem RelDs.mono (e : Ext ρ st.length H ρ' n' H') (r : R K ρ st H) (ds : List D) {vs : List V} (h : RelDs K ρ st.length H ds vs) : RelDs K ρ' n' H' ds vs := RelDs.monoW e.w r ds h

theorem RelDs.len : ∀ {ds : List D} {vs : List V}, RelDs K ρ n H ds vs → vs.length = ds.length
  | [], vs, h => by simp only [RelDs] at h; subst h; rfl
  | d :: ds, vs, h => by
    simp only [RelDs] at h
    obtain ⟨v, w, rfl, _, h2⟩ := h
    simp [RelDs.len h2]
theorem RelDs.nil : RelDs K ρ n H [] [] := by simp [RelDs]
theorem RelDs.cons {d : D} {ds : List D} {v : V} {vs : List V} (h : RelD K ρ n H d v) (t : RelDs K ρ n H ds vs) : RelDs K ρ n H (d :: ds) (v :: vs) := by
  simp only [RelDs]; exact ⟨v, vs, rfl, h, t⟩
theorem RelDs.cases {d : D} {ds : List D} {vs : List V} (h : RelDs K ρ n H (d :: ds) vs) : ∃ v r, vs = v :: r ∧ RelD K ρ n H d v ∧ RelDs K ρ n H ds r := by
  simpa only [RelDs] using h
theorem RelDs.nil_eq {vs : List V} (h : RelDs K ρ n H [] vs) : vs = [] := by simpa only [RelDs] using h
theorem RelDs.get : ∀ {ds : List D} {vs : List V} {i : Nat} {d : D}, RelDs K ρ n H ds vs → ds[i]? = some d → ∃ v, vs[i]? = some v ∧ RelD K ρ n H d v
  | [], _, _, _, _, h => by simp at h
  | d :: ds, vs, 0, d', h, e => by
    obtain ⟨v, w, rfl, h1, h2⟩ := h.cases
    simp at e; subst e; exact ⟨v, rfl, h1⟩
  | d :: ds, vs, i + 1, d', h, e => by
    obtain ⟨v, w, rfl, h1, h2⟩ := h.cases
    obtain ⟨u, q1, q2⟩ := RelDs.get (i := i) h2 (by simpa using e)
    exact ⟨u, by simpa using q1, q2⟩
theorem RelDs.get' : ∀ {ds : List D} {vs : List V} {i : Nat} {v : V}, RelDs K ρ n H ds vs → vs[i]? = some v → ∃ d, ds[i]? = some d ∧ RelD K ρ n H d v
  | [], vs, i, v, h, e => by rw [h.nil_eq] at e; simp at e
  | d :: ds, vs, 0, v', h, e => by
    obtain ⟨v, w, rfl, h1, h2⟩ := h.cases
    simp at e; subst e; exact ⟨d, rfl, h1⟩
  | d :: ds, vs, i + 1, v', h, e => by
    obtain ⟨v, w, rfl, h1, h2⟩ := h.cases
    obtain ⟨u, q1, q2⟩ := RelDs.get' (i := i) h2 (by simpa using e)
    exact ⟨u, by simpa using q1, q2⟩
theorem RelDs.append : ∀ {xs ys : List D} {us ws : List V}, RelDs K ρ n H xs us → RelDs K ρ n H ys ws → RelDs K ρ n H (xs ++ ys) (us ++ ws)
  | [], _, us, _, h, t => by rw [h.nil_eq]; exact t
  | d :: ds, _, us, _, h, t => by
    obtain ⟨v, w, rfl, h1, h2⟩ := h.cases
    exact .cons h1 (RelDs.append h2 t)
theorem RelDs.take : ∀ {xs : List D} {us : List V} (k : Nat), RelDs K ρ n H xs us → RelDs K ρ n H (xs.take k) (us.take k)
  | [], us, k, h => by rw [h.nil_eq]; simp [RelDs]
  | d :: ds, us, 0, h => by simp [RelDs]
  | d :: ds, us, k + 1, h => by
    obtain ⟨v, w, rfl, h1, h2⟩ := h.cases
    exact .cons h1 (RelDs.take k h2)
theorem RelDs.drop : ∀ {xs : List D} {us : List V} (k : Nat), RelDs K ρ n H xs us → RelDs K ρ n H (xs.drop k) (us.drop k)
  | [], us, k, h => by rw [h.nil_eq]; simp [RelDs]
  | d :: ds, us, 0, h => h
  | d :: ds, us, k + 1, h => by
    obtain ⟨v, w, rfl, h1, h2⟩ := h.cases
    exact RelDs.drop k h2
theorem RelDs.set {d : D} {v : V} (r : RelD K ρ n H d v) : ∀ {xs : List D} {us : List V} (k : Nat), RelDs K ρ n H xs us → RelDs K ρ n H (xs.set k d) (us.set k v)
  | [], us, k, h => by rw [h.nil_eq]; simp [RelDs]
  | d :: ds, us, 0, h => by
    obtain ⟨v, w, rfl, h1, h2⟩ := h.cases
    exact .cons r h2
  | d :: ds, us, k + 1, h => by
    obtain ⟨v, w, rfl, h1, h2⟩ := h.cases
    exact .cons h1 (RelDs.set r k h2)
theorem RelDs.eraseIdx : ∀ {xs : List D} {us : List V} (k : Nat), RelDs K ρ n H xs us → RelDs K ρ n H (xs.eraseIdx k) (us.eraseIdx k)
  | [], us, k, h => by rw [h.nil_eq]; simp [RelDs]
  | d :: ds, us, 0, h => by
    obtain ⟨v, w, rfl, h1, h2⟩ := h.cases
    exact h2
  | d :: ds, us, k + 1, h => by
    obtain ⟨v, w, rfl, h1, h2⟩ := h.cases
    exact .cons h1 (RelDs.eraseIdx k h2)
theorem RelDs.reverse : ∀ {xs : List D} {us : List V}, RelDs K ρ n H xs us → RelDs K ρ n H xs.reverse us.reverse
  | [], us, h => by rw [h.nil_eq]; simp [RelDs]
  | d :: ds, us, h => by
    obtain ⟨v, w, rfl, h1, h2⟩ := h.cases
    rw [List.reverse_cons, List.reverse_cons]
    exact (RelDs.reverse h2).append (.cons h1 .nil)
theorem RelDs.dropLast {xs : List D} {us : List V} (h : RelDs K ρ n H xs us) : RelDs K ρ n H xs.dropLast us.dropLast := by
  rw [List.dropLast_eq_take, List.dropLast_eq_take, h.len]; exact h.take _
theorem RelDs.replicate {d : D} {v : V} (r : RelD K ρ n H d v) : ∀ k : Nat, RelDs K ρ n H (List.replicate k d) (List.replicate k v)
  | 0 => by simp [RelDs]
  | k + 1 => by rw [List.replicate_succ, List.replicate_succ]; exact .cons r (RelDs.replicate r k)
theorem RelDs.repl {xs : List D} {us : List V} (r : RelDs K ρ n H xs us) : ∀ k : Nat, RelDs K ρ n H (List.replicate k xs).flatten (List.replicate k us).flatten
  | 0 => by simp [RelDs]
  | k + 1 => by rw [List.replicate_succ, List.replicate_succ, List.flatten_cons, List.flatten_cons]; exact r.append (RelDs.repl r k)
theorem RelDs.ints : ∀ {ns : List Int} {vs : List V}, RelDs K ρ n H (ns.map .int) vs → vs = ns.map V.int
  | [], vs, h => h.nil_eq
  | i :: r, vs, h => by
    obtain ⟨v, w, rfl, h1, h2⟩ := RelDs.cases (show RelDs K ρ n H (.int i :: r.map D.int) vs from h)
    simp only [RelD] at h1
    rw [h1, RelDs.ints h2]; rfl
theorem RelDs.ints' : ∀ {ns : List Int}, RelDs K ρ n H (ns.map .int) (ns.map V.int)
  | [] => .nil
  | i :: r => .cons (by simp [RelD]) (RelDs.ints' (ns := r))
theorem RelDs.bls : ∀ {ns : List Bool} {vs : List V}, RelDs K ρ n H (ns.map .bl) vs → vs = ns.map V.bl
  | [], vs, h => h.nil_eq
  | i :: r, vs, h => by
    obtain ⟨v, w, rfl, h1, h2⟩ := RelDs.cases (show RelDs K ρ n H (.bl i :: r.map D.bl) vs from h)
    simp only [RelD] at h1
    rw [h1, RelDs.bls h2]; rfl
theorem R.push_ext (r : R K ρ st H) {p : Addr} {u : HO} (hp : H p = none) : Ext ρ st.length H ρ st.length (upd H p u) :=
  ⟨Nat.le_refl _, fun _ _ => rfl, fun _ h1 h2 => absurd (Nat.lt_of_le_of_lt h1 h2) (Nat.lt_irrefl _), fun a o h _ => by rw [upd_ne (ne_of_none h hp)]; exact h, rfl⟩
theorem Paired.monoP {α β : Type} {F G : α → β → Prop} : ∀ {l₁ : List α} {l₂ : List β}, Paired F l₁ l₂ → (∀ a b, F a b → G a b) → Paired G l₁ l₂
  | _, _, .nil, _ => .nil
  | _, _, .cons r t, f => .cons (f _ _ r) (Paired.monoP t f)
theorem ObjR.mono (e : Ext ρ st.length H ρ' n' H') (r : R K ρ st H) {a : Addr} (ha : ∀ u, H a = some u → H' a = some u) : ∀ {o : O}, ObjR K ρ st.length H o a → ObjR K ρ' n' H' o a
  | .lst ds, ⟨vs, h, q⟩ => ⟨vs, ha _ h, RelDs.mono e r ds q⟩
  | .dk ds, ⟨vs, h, q⟩ => ⟨vs, ha _ h, Paired.monoP q fun p q z => ⟨z.1, RelD.mono z.2 e r⟩⟩
  | .dt ds, ⟨w, vs, hw, h, q⟩ => ⟨w, vs, hw, ha _ h, Paired.monoP q fun p q z => ⟨z.1, ⟨RelD.mono z.2.1.1 e r, z.2.1.2⟩, RelD.mono z.2.2 e r⟩⟩
/-- an untracked new object -/
theorem R.free (r : R K ρ st H) {p : Addr} {u : HO} (hp : H p = none) : R K ρ st (upd H p u) :=
  ⟨fun i o h => (r.obj i o h).mono (r.push_ext hp) r fun w hw => by rw [upd_ne (ne_of_none hw hp)]; exact hw, r.inj,
    fun a h => let ⟨w, hw, m⟩ := r.hid a h; ⟨w, by rw [upd_ne (ne_of_none hw hp)]; exact hw, m⟩, r.sep⟩
/-- a new object of the store -/
def put (ρ : Mp) (n : Nat) (p : Addr) : Mp := ⟨fun i => if i = n then p else ρ.at' i, ρ.hid⟩
theorem put_at {ρ : Mp} {n : Nat} {p : Addr} : (put ρ n p).at' n = p := if_pos rfl
theorem put_ne {ρ : Mp} {n i : Nat} {p : Addr} (h : i ≠ n) : (put ρ n p).at' i = ρ.at' i := if_neg h
theorem put_ext {p : Addr} {u : HO} (hp : H p = none) : Ext ρ n H (put ρ n p) (n + 1) (upd H p u) :=
  ⟨Nat.le_succ _, fun i hi => put_ne (Nat.ne_of_lt hi), fun i h1 h2 => by
    have : i = n := by omega
    rw [this, put_at]; exact hp, fun a o h _ => by rw [upd_ne (ne_of_none h hp)]; exact h, rfl⟩
theorem R.alloc (r : R K ρ st H) {p : Addr} {u : HO} {o : O} (hp : H p = none) (ho : ObjR K (put ρ st.length p) (st.length + 1) (upd H p u) o p) : R K (put ρ st.length p) (st ++ [o]) (upd H p u) := by
  refine ⟨fun i x h => ?_, fun i j hi hj e => ?_, fun a h => let ⟨w, hw, m⟩ := r.hid a h; ⟨w, by rw [upd_ne (ne_of_none hw hp)]; exact hw, m⟩, fun i hi => ?_⟩
  · rw [List.length_append, List.length_singleton]
    by_cases hi : i < st.length
    · rw [List.getElem?_append_left hi] at h
      rw [put_ne (Nat.ne_of_lt hi)]
      exact (r.obj i x h).mono (put_ext hp) r fun w hw => by rw [upd_ne (ne_of_none hw hp)]; exact hw
    · have hl : i = st.length := by
        have := (List.getElem?_eq_some_iff.mp h).1
        simp at this; omega
      subst hl
      simp at h; subst h
      rw [put_at]; exact ho
  · rw [List.length_append, List.length_singleton] at hi hj
    by_cases h1 : i = st.length
    · by_cases h2 : j = st.length
      · rw [h1, h2]
      · rw [h1, put_at, put_ne h2] at e
        exact absurd e.symm (r.ne_none hp j (by omega))
    · by_cases h2 : j = st.length
      · rw [h2, put_at, put_ne h1] at e
        exact absurd e (r.ne_none hp i (by omega))
      · rw [put_ne h1, put_ne h2] at e
        exact r.inj i j (by omega) (by omega) e
  · rw [List.length_append, List.length_singleton] at hi
    by_cases h1 : i = st.length
    · rw [h1, put_at]; exact r.nh_none hp
    · rw [put_ne h1]; exact r.sep i (by omega)
/-- an object of the store is written -/
theorem R.set_ext (r : R K ρ st H) {i : Nat} {u : HO} (hi : i < st.length) : Ext ρ st.length H ρ st.length (upd H (ρ.at' i) u) :=
  ⟨Nat.le_refl _, fun _ _ => rfl, fun _ h1 h2 => absurd (Nat.lt_of_le_of_lt h1 h2) (Nat.lt_irrefl _), fun a o h q => by rw [upd_ne (Ne.symm (q i hi))]; exact h, rfl⟩
theorem R.set (r : R K ρ st H) {i : Nat} {u : HO} {o : O} (hi : i < st.length) (ho : ObjR K ρ st.length (upd H (ρ.at' i) u) o (ρ.at' i)) : R K ρ (st.set i o) (upd H (ρ.at' i) u) := by
  refine ⟨fun j x h => ?_, fun a b ha hb e => r.inj a b (by simpa using ha) (by simpa using hb) e, fun a h => ?_, fun j hj => r.sep j (by simpa using hj)⟩
  · rw [List.length_set]
    by_cases hj : j = i
    · subst hj
      rw [List.getElem?_set_self hi] at h
      cases h; exact ho
    · rw [List.getElem?_set_ne (Ne.symm hj)] at h
      have hl : j < st.length := (List.getElem?_eq_some_iff.mp h).1
      exact (r.obj j x h).mono (r.set_ext hi) r fun w hw => by rw [upd_ne (fun z => hj (r.inj j i hl hi z))]; exact hw
  · obtain ⟨w, hw, m⟩ := r.hid a h
    refine ⟨w, ?_, m⟩
    have ne : a ≠ ρ.at' i := fun z => r.sep i hi (z ▸ h)
    rw [upd_ne ne]; exact hw

/-! ### a new list that is not told yet -/
theorem LstAt.hide {p : Addr} {u : HO} (hp : H p = none) {a : Addr} {xs : List V} (h : LstAt K H ρ n a xs) : LstAt K (upd H p u) (ρ.hide p) n a xs := by
  rcases h with ⟨h, ni, nh⟩ | h
  · rcases h with h | ⟨o, h⟩
    · have ne : a ≠ p := ne_of_none h hp
      exact .inl ⟨.inl (by rw [upd_ne ne]; exact h), ni, fun z => z.elim nh ne⟩
    · have ne : a ≠ p := ne_of_none h hp
      exact .inl ⟨.inr ⟨o, by rw [upd_ne ne]; exact h⟩, ni, fun z => z.elim nh ne⟩
  · exact .inr h
theorem SqT.hide {p : Addr} {u : HO} (hp : H p = none) {a : Addr} {xs : List V} (h : SqT K H a xs) : SqT K (upd H p u) a xs := by
  rcases h with (h | ⟨o, h⟩) | h
  · exact .inl (.inl (by rw [upd_ne (ne_of_none h hp)]; exact h))
  · exact .inl (.inr ⟨o, by rw [upd_ne (ne_of_none h hp)]; exact h⟩)
  · exact .inr h
mutual
theorem RelD.hide {p : Addr} {u : HO} (hp : H p = none) : ∀ (d : D) {v : V}, RelD K ρ n H d v → RelD K (ρ.hide p) n (upd H p u) d v
  | .non, v, h => by simpa only [RelD] using h
  | .bl b, v, h => by simpa only [RelD] using h
  | .int b, v, h => by simpa only [RelD] using h
  | .str b, v, h => by simpa only [RelD] using h
  | .ty b, v, h => by simpa only [RelD] using h
  | .fn b, v, h => by simpa only [RelD] using h
  | .tup xs, v, h => by
    simp only [RelD] at h ⊢
    obtain ⟨a, vs, rfl, s, q⟩ := h
    obtain ⟨u', s, nu⟩ := s.some
    exact ⟨a, vs, rfl, nu.at (by rw [upd_ne (ne_of_none s hp)]; exact s), RelDs.hide hp xs q⟩
  | .lst xs, v, h => by
    simp only [RelD] at h ⊢
    obtain ⟨a, vs, rfl, s, q⟩ := h
    exact ⟨a, vs, rfl, s.hide hp, RelDs.hide hp xs q⟩
  | .loc i, v, h => by simpa only [RelD, Mp.hide] using h
theorem RelDs.hide {p : Addr} {u : HO} (hp : H p = none) : ∀ (ds : List D) {vs : List V}, RelDs K ρ n H ds vs → RelDs K (ρ.hide p) n (upd H p u) ds vs
  | [], vs, h => by simpa only [RelDs] using h
  | d :: ds, vs, h => by
    simp only [RelDs] at h ⊢
    obtain ⟨v, w, rfl, h1, h2⟩ := h
    exact ⟨v, w, rfl, RelD.hide hp d h1, RelDs.hide hp ds h2⟩
end
mutual
theorem RelD.show' {p : Addr} : ∀ (d : D) {v : V}, RelD K (ρ.hide p) n H d v → RelD K ρ n H d v
  | .non, v, h => by simpa only [RelD] using h
  | .bl b, v, h => by simpa only [RelD] using h
  | .int b, v, h => by simpa only [RelD] using h
  | .str b, v, h => by simpa only [RelD] using h
  | .ty b, v, h => by simpa only [RelD] using h
  | .fn b, v, h => by simpa only [RelD] using h
  | .tup xs, v, h => by
    simp only [RelD] at h ⊢
    obtain ⟨a, vs, rfl, s, q⟩ := h
    exact ⟨a, vs, rfl, s, RelDs.show' xs q⟩
  | .lst xs, v, h => by
    simp only [RelD] at h ⊢
    obtain ⟨a, vs, rfl, s, q⟩ := h
    refine ⟨a, vs, rfl, ?_, RelDs.show' xs q⟩
    rcases s with ⟨h, ni, nh⟩ | h
    · exact .inl ⟨h, ni, fun z => nh (.inl z)⟩
    · exact .inr h
  | .loc i, v, h => by simpa only [RelD, Mp.hide] using h
theorem RelDs.show' {p : Addr} : ∀ (ds : List D) {vs : List V}, RelDs K (ρ.hide p) n H ds vs → RelDs K ρ n H ds vs
  | [], vs, h => by simpa only [RelDs] using h
  | d :: ds, vs, h => by
    simp only [RelDs] at h ⊢
    obtain ⟨v, w, rfl, h1, h2⟩ := h
    exact ⟨v, w, rfl, RelD.show' d h1, RelDs.show' ds h2⟩
end
theorem R.hide (r : R K ρ st H) {p : Addr} {u : HO} (hp : H p = none) (m : isMut u = true) : R K (ρ.hide p) st (upd H p u) := by
  refine ⟨fun i o h => ?_, r.inj, fun a h => ?_, fun i hi h => h.elim (r.sep i hi) (r.ne_none hp i hi)⟩
  · have q := r.obj i o h
    have k : ∀ w, H (ρ.at' i) = some w → upd H p u (ρ.at' i) = some w := fun w hw => by rw [upd_ne (ne_of_none hw hp)]; exact hw
    revert q
    cases o with
    | lst ds => rintro ⟨vs, h, q⟩; exact ⟨vs, k _ h, RelDs.hide hp ds q⟩
    | dk ds => rintro ⟨vs, h, q⟩; exact ⟨vs, k _ h, Paired.monoP q fun p q z => ⟨z.1, RelD.hide hp _ z.2⟩⟩
    | dt ds => rintro ⟨w, vs, hw, h, q⟩; exact ⟨w, vs, hw, k _ h, Paired.monoP q fun p q z => ⟨z.1, ⟨RelD.hide hp _ z.2.1.1, z.2.1.2⟩, RelD.hide hp _ z.2.2⟩⟩
  · rcases h with h | rfl
    · obtain ⟨w, hw, m'⟩ := r.hid a h
      exact ⟨w, by rw [upd_ne (ne_of_none hw hp)]; exact hw, m'⟩
    · exact ⟨u, upd_same, m⟩
theorem R.show' {p : Addr} (r : R K (ρ.hide p) st H) : R K ρ st H := by
  refine ⟨fun i o h => ?_, r.inj, fun a h => r.hid a (.inl h), fun i hi h => r.sep i hi (.inl h)⟩
  have q := r.obj i o h
  revert q
  cases o with
  | lst ds => rintro ⟨vs, h, q⟩; exact ⟨vs, h, RelDs.show' ds q⟩
  | dk ds => rintro ⟨vs, h, q⟩; exact ⟨vs, h, Paired.monoP q fun p q z => ⟨z.1, RelD.show' _ z.2⟩⟩
  | dt ds => rintro ⟨w, vs, hw, h, q⟩; exact ⟨w, vs, hw, h, Paired.monoP q fun p q z => ⟨z.1, ⟨RelD.show' _ z.2.1.1, z.2.1.2⟩, RelD.show' _ z.2.2⟩⟩
end
end Fx

set_option Elab.async false
set_option linter.all false
set_option maxRecDepth 100000
set_option maxHeartbeats 4000000
/-! Fx: operations that make a new tuple, the tuple known with its object. -/
namespace Fx
open PySem L2 PyProof.Rows PySem.Spec
variable [Md]
variable [Mw]
variable {X : Cx}
theorem newT_ok {P : Program} {w : World} {H : Hp} {h' : Heap} {p : Addr} {o : Obj} {xs : List V} (hg : h'.get? p = some o) (ho : o.dict = none) (ok : ∀ H', ObjOk P w H' h' p (.tup xs)) : ∃ u, NewT u xs ∧ ObjOk P w (upd H p u) h' p u := by
  cases m : Md.fz with
  | true => exact ⟨.frz o (.tup xs), by unfold NewT; rw [if_pos m]; exact ⟨o, ho, rfl⟩, hg, ok _⟩
  | false => exact ⟨.tup xs, by unfold NewT; rw [m, if_neg (by decide)], ok _⟩
theorem tup_push {h : Heap} {xs : List V} {us : List Value} (hz : xs.length ≤ sizeLine) (r : Vals xs us) (P : Program) (w : World) (H' : Hp) : ObjOk P w H' (h.push { cls := .type "tuple", data := .seq us.toArray }) h.objs.size (.tup xs) := ⟨hz, us, r, IsTup.new _ _⟩
/-- t + u -/
def rCatN (K : PySem.W.Frag) : R2 := fun x y H Q => ∃ a b xs ys, x = .ref a ∧ y = .ref b ∧ SqT K H a xs ∧ SqT K H b ys ∧ xs.length + ys.length ≤ sizeLine ∧
  (xs = [] → Q (.ref b) H) ∧ (xs ≠ [] → ys = [] → Q (.ref a) H) ∧ (xs ≠ [] → ys ≠ [] → ∀ p u, H p = none → NewT u (xs ++ ys) → Q (.ref p) (upd H p u))
theorem op_catN : OpR X (binaryOp .Add) (rCatN X.K) := by
  intro pins s σ H x y v u Q I rx ry h
  obtain ⟨a, b, xs, ys, rfl, rfl, ha, hb, hz, q0, q1, q2⟩ := h
  cases rx
  cases ry
  obtain ⟨its, r1, p1, _⟩ := I.tuple ha
  obtain ⟨its2, r2, p2, _⟩ := I.tuple hb
  by_cases hx : xs = []
  · subst hx
    cases r1
    exact cat_tup0 p1 p2 ⟨.ref b, H, I, rfl, q0 rfl⟩
  · refine HT.cat_tup p1 p2 (fun z => hx (r1.nil_iff.mp z)) (fun z => ⟨.ref a, H, I, rfl, q1 hx (r2.nil_iff.mp z)⟩) (fun z => ?_) (by rw [← r1.length, ← r2.length]; exact hz)
    obtain ⟨u, nu, I2⟩ := laidT (t' := s.toks) (xs := xs ++ ys) I (fun b ob q => Heap.get?_push_of_some _ q) (Nat.le_refl _) (Heap.get?_push_size _ rfl) rfl fun H' => ⟨by rw [List.length_append]; exact hz, _, r1.append r2, IsTup.new _ _⟩
    exact ⟨.ref s.heap.objs.size, _, I2, rfl, q2 hx (fun w => z (r2.nil_iff.mpr w)) _ _ (I.hok.fresh (Nat.le_refl _)) nu⟩
/-- t[lo:hi]: the whole of it is t itself -/
def rSlN (K : PySem.W.Frag) : V → Option Int → Option Int → Hp → VK → Prop := fun x lo hi H Q => ∃ a xs, x = .ref a ∧ SqT K H a xs ∧
  (HT.sIx xs.length 0 lo = 0 ∧ HT.sIx xs.length xs.length hi = xs.length → Q (.ref a) H) ∧ (¬ (HT.sIx xs.length 0 lo = 0 ∧ HT.sIx xs.length xs.length hi = xs.length) → ∀ p u, H p = none → NewT u (cutV xs lo hi) → Q (.ref p) (upd H p u))
theorem sl_tupN : SlR X (rSlN X.K) := by
  intro pins s σ H x v vl vu lo hi sl Q I rx hs pl pu h
  obtain ⟨a, xs, rfl, hx, q1, q2⟩ := h
  cases rx
  obtain ⟨its, r, ht, hz⟩ := I.tuple hx
  have hlen : its.toArray.size = xs.length := by rw [List.size_toArray]; exact r.length.symm
  refine ⟨"tuple", _, PyProof.Rows.slot_tuple_getitem.lookup, ht.typeIs, ?_⟩
  by_cases hw : HT.sIx xs.length 0 lo = 0 ∧ HT.sIx xs.length xs.length hi = xs.length
  · exact getItem_tuple_whole ht hs pl pu (by rw [hlen]; exact hw) ⟨.ref a, H, I, rfl, q1 hw⟩
  · refine HT.getItem_tuple_cut ht hs pl pu (by rw [hlen]; exact hw) ?_ (by rw [hlen]; exact hz)
    rw [hlen]
    obtain ⟨u, nu, I2⟩ := laidT (t' := s.toks) (xs := cutV xs lo hi) I (fun b ob q => Heap.get?_push_of_some _ q) (Nat.le_refl _) (Heap.get?_push_size _ rfl) rfl fun H' => ⟨Nat.le_trans (cutV_length xs lo hi) hz, _, (r.drop (HT.sIx xs.length 0 lo)).take (HT.sIx xs.length xs.length hi - HT.sIx xs.length 0 lo), IsTup.new _ _⟩
    exact ⟨.ref s.heap.objs.size, _, I2, rfl, q2 hw _ _ (I.hok.fresh (Nat.le_refl _)) nu⟩
/-- tuple(x) -/
theorem call_tuple_ofN : CallR X (.type "tuple") (fun xs H Q => ∃ p ys, xs = [.ref p] ∧ ((SqL X.K H p ys ∧ ∀ l u, H l = none → NewT u ys → Q (.ref l) (upd H l u)) ∨ (SqT X.K H p ys ∧ Q (.ref p) H))) := by
  intro pins s σ H xs us Q I r h
  obtain ⟨p, ys, rfl, h⟩ := h
  obtain ⟨u, rfl, rx⟩ := vals1 r
  cases rx
  rcases h with ⟨hq, q⟩ | ⟨hq, q⟩
  · obtain ⟨its, r', pl, hz⟩ := I.list hq
    have hlen := r'.length
    refine call_tuple_list pl.isList (fun h' kp => ?_) (by simp only [List.size_toArray] <;> omega)
    have I1 : Inv X pins σ H { s with heap := h' } := I.kept (t' := s.toks) kp
    obtain ⟨u, nu, I2⟩ := laidT (t' := s.toks) (xs := ys) I1 (fun b ob q => Heap.get?_push_of_some _ q) (Nat.le_refl _) (Heap.get?_push_size _ rfl) rfl fun H' => tup_push hz r' _ _ H'
    exact ⟨.ref h'.objs.size, _, I2, rfl, q _ _ (I1.hok.fresh (Nat.le_refl _)) nu⟩
  · obtain ⟨its, r', pl, hz⟩ := I.tuple hq
    exact call_tuple_same pl ⟨.ref p, H, I, rfl, q⟩
/-- tuple(range(..)) -/
def tTupRgN (te : L2.St → Hp → (Int → Int → Hp → Prop) → Prop) : TE := fun σ H Q => te σ H fun a b H1 => RgOk a b ∧ ∀ q u, H1 q = none → NewT u (rgV a b) → Q (.ref q) (upd H1 q u)
theorem pe_tupRgN {e : Expr} {te : L2.St → Hp → (Int → Int → Hp → Prop) → Prop} {p pos : Pos} (hc : X.calm = true) (hg : Gl X "tuple") (hm : X.mg "tuple" = none) (he : PRg X e te) (na : starEach [e] X.env = (false, eval e X.env) :: starEach [] X.env := by rfl) : PE X (.Call (.Name "tuple" p) [e] [] pos) (tTupRgN te) := by
  refine ⟨fun pins s σ H Q I h => ?_⟩
  refine Call_ (ld_blt I hg hm boot_tuple (PyProof.Rows.callWith_type1 (args_cons (thn (he pins s σ H _ I h) fun x s1 ⟨r, a, b, t, u, v, H1, ex, hr, I1, ok, q⟩ => args_nil ?_) na) na))
  subst ex
  obtain ⟨b1, b2, b3, b4, b5⟩ := ok
  refine call_tuple_range (n := (b - a).toNat) (I1.ok.hd hc) hr (small_one b1 b2 b3 b4) (rangeSize_nat a b) b5 fun h' tk acc hk hi => ?_
  have I2 : Inv X pins σ H1 { s1 with heap := h', toks := tk } := I1.kept hk
  obtain ⟨u, nu, I3⟩ := laidT (t' := tk) (xs := rgV a b) I2 (fun c o e => Heap.get?_push_of_some _ e) (Nat.le_refl _) (Heap.get?_push_size _ rfl) rfl fun H' => ⟨by rw [rgV_length, sizeLine_eq]; omega, acc.toList, vals_rg hi, by rw [Array.toArray_toList]; exact IsTup.new _ _⟩
  exact ⟨.ref h'.objs.size, _, I3, rfl, q _ _ (I2.hok.fresh (Nat.le_refl _)) nu⟩
end Fx

set_option Elab.async false
set_option linter.all false
set_option maxRecDepth 100000
set_option maxHeartbeats 4000000
/-! Fx: dicts whose keys are tuples, nested. -/
namespace Fx
open PySem L2 PyProof.Rows PySem.Spec
mutual
/-- the value is that key -/
def NK (K : PySem.W.Frag) (H : Hp) : NestedKey → V → Prop
  | .none, v => v = .non
  | .num i, v => v = .int i
  | .text x, v => v = .str x
  | .tup ks, v => ∃ a vs, v = .ref a ∧ SqT K H a vs ∧ NKs K H ks vs
def NKs (K : PySem.W.Frag) (H : Hp) : List NestedKey → List V → Prop
  | [], vs => vs = []
  | k :: ks, vs => ∃ v r, vs = v :: r ∧ NK K H k v ∧ NKs K H ks r
end
section
variable [Md]
mutual
theorem nk_of {K : PySem.W.Frag} {ρ : Mp} {n : Nat} {H : Hp} : ∀ (k : NestedKey) {v : V}, RelD K ρ n H (ofN k) v → NK K H k v
  | .none, v, h => by simpa only [ofN, RelD, NK] using h
  | .num i, v, h => by simpa only [ofN, RelD, NK] using h
  | .text x, v, h => by simpa only [ofN, RelD, NK] using h
  | .tup ks, v, h => by
    simp only [ofN, RelD] at h
    obtain ⟨a, vs, e, s, q⟩ := h
    simp only [NK]
    exact ⟨a, vs, e, s.sq, nks_of ks q⟩
theorem nks_of {K : PySem.W.Frag} {ρ : Mp} {n : Nat} {H : Hp} : ∀ (ks : List NestedKey) {vs : List V}, RelDs K ρ n H (ofNs ks) vs → NKs K H ks vs
  | [], vs, h => by simpa only [ofNs, RelDs, NKs] using h
  | k :: ks, vs, h => by
    simp only [ofNs, RelDs] at h
    obtain ⟨v, r, e, h1, h2⟩ := h
    simp only [NKs]
    exact ⟨v, r, e, nk_of k h1, nks_of ks h2⟩
end
end
section
variable {X : Cx} {pins : List (Addr × Obj)} {σ : L2.St} {H : Hp} {s : Shared}
mutual
theorem nested_of (I : Inv X pins σ H s) : ∀ (k : NestedKey) {v : V} {u : Value}, NK X.K H k v → RelV v u → NestedIs s.heap k u
  | .none, v, u, h, r => by
    simp only [NK] at h
    subst h
    cases r
    exact .none
  | .num i, v, u, h, r => by
    simp only [NK] at h
    subst h
    obtain ⟨t, rfl⟩ := r
    exact .int i t
  | .text x, v, u, h, r => by
    simp only [NK] at h
    subst h
    obtain ⟨t, rfl⟩ := r
    exact .text x t
  | .tup ks, v, u, h, r => by
    simp only [NK] at h
    obtain ⟨a, vs, rfl, hs, q⟩ := h
    cases r
    obtain ⟨its, rv, ⟨o, ho, hc, n, hd⟩, hz⟩ := I.tuple hs
    exact .tup ho hc hd (by simpa using nesteds_of I ks q rv)
theorem nesteds_of (I : Inv X pins σ H s) : ∀ (ks : List NestedKey) {vs : List V} {us : List Value}, NKs X.K H ks vs → Vals vs us → NestedAll s.heap ks us
  | [], vs, us, h, r => by
    simp only [NKs] at h
    subst h
    cases r
    exact .nil
  | k :: ks, vs, us, h, r => by
    simp only [NKs] at h
    obtain ⟨v, w, rfl, h1, h2⟩ := h
    cases r with
    | cons r1 r2 => exact .cons (nested_of I k h1 r1) (nesteds_of I ks h2 r2)
end
end
/-- what is known of the entries -/
def Keys (K : PySem.W.Frag) (H : Hp) (ws : List (NestedKey × Addr × V)) : Prop := ∀ q ∈ ws, NK K H q.1 (.ref q.2.1) ∧ q.1.depth ≤ 8
abbrev dropA (ws : List (NestedKey × Addr × V)) : List (NestedKey × V) := ws.map fun q => (q.1, q.2.2)
def putN (ws : List (NestedKey × Addr × V)) (k : NestedKey) (b : Addr) (y : V) : List (NestedKey × Addr × V) :=
  if (ws.any fun q => decide (q.1 = k)) = true then ws.map (fun q => if q.1 = k then (q.1, q.2.1, y) else q) else ws ++ [(k, b, y)]
theorem pw_any {ws : List (NestedKey × Addr × V)} {xs : List (NestedKey × Addr × Value)} (h : PWn ws xs) (k : NestedKey) : (ws.any fun q => decide (q.1 = k)) = (atKey xs k).isSome := by
  unfold atKey
  rw [Option.isSome_map]
  induction h with
  | nil => rfl
  | @cons p q ps qs hq t ih =>
    rw [List.any_cons, ih, List.find?_cons, ← hq.1]
    by_cases e : p.1 = k
    · simp [e]
    · simp [e]
theorem pw_val {ws : List (NestedKey × Addr × V)} {xs : List (NestedKey × Addr × Value)} (h : PWn ws xs) (k : NestedKey) : RelO (valV (dropA ws) k) ((atKey xs k).map (·.2)) := by
  unfold atKey valV dropA
  induction h with
  | nil => exact trivial
  | @cons p q ps qs hq t ih =>
    rw [List.map_cons, List.find?_cons, List.find?_cons, ← hq.1]
    by_cases e : p.1 = k
    · simp only [e, decide_true, Option.map_some]
      exact hq.2.2
    · simp only [e, decide_false]
      exact ih
theorem pw_snoc {p : NestedKey × Addr × V} {q : NestedKey × Addr × Value} : ∀ {ws : List (NestedKey × Addr × V)} {xs : List (NestedKey × Addr × Value)}, PWn ws xs → (p.1 = q.1 ∧ p.2.1 = q.2.1 ∧ RelV p.2.2 q.2.2) → PWn (ws ++ [p]) (xs ++ [q])
  | _, _, .nil, hq => .cons hq .nil
  | _, _, .cons h t, hq => .cons h (pw_snoc t hq)
theorem pw_map {k : NestedKey} {y : V} {v : Value} (r : RelV y v) : ∀ {ws : List (NestedKey × Addr × V)} {xs : List (NestedKey × Addr × Value)}, PWn ws xs → PWn (ws.map fun q => if q.1 = k then (q.1, q.2.1, y) else q) (xs.map (putAt k v))
  | _, _, .nil => .nil
  | _, _, .cons (a := p) (b := q) hq t => by
    refine .cons ?_ (pw_map r t)
    unfold putAt
    dsimp only
    by_cases e : p.1 = k
    · rw [if_pos e, if_pos (hq.1.symm.trans e)]; exact ⟨hq.1, hq.2.1, r⟩
    · rw [if_neg e, if_neg (fun z => e (hq.1.trans z))]; exact hq
theorem pw_put {ws : List (NestedKey × Addr × V)} {xs : List (NestedKey × Addr × Value)} (h : PWn ws xs) {k : NestedKey} {b : Addr} {y : V} {v : Value} (r : RelV y v) : PWn (putN ws k b y) (storedH xs k b v) := by
  unfold putN storedH
  rw [pw_any h k]
  split
  · exact pw_map r h
  · exact pw_snoc h ⟨rfl, rfl, r⟩
theorem putN_len (ws : List (NestedKey × Addr × V)) (k : NestedKey) (b : Addr) (y : V) : (putN ws k b y).length ≤ ws.length + 1 := by
  unfold putN
  split <;> simp
section
variable {X : Cx} {pins : List (Addr × Obj)} {σ : L2.St} {H : Hp} {s : Shared} {a b : Addr} {ws : List (NestedKey × Addr × V)} {k : NestedKey} {A : Around} {E : Value → Shared → Prop}
theorem dn_of (I : Inv X pins σ H s) (e : H a = some (DN X.w a ws)) (hk : Keys X.K H ws) : (a == sysModules) = false ∧ ws.length ≤ sizeLine ∧ ∃ xs, PWn ws xs ∧ s.heap.DictOfH (nestedKind X.prog X.w) a xs := by
  obtain ⟨⟨h1, h2, xs, h3, o, es, ep, h4, h5, h6, h7, h8⟩, _⟩ := I.hok a _ e
  refine ⟨h1, h2, xs, h3, o, es, ep, h4, h5, h6, h7, ?_, h8⟩
  have all : ∀ {l : List (NestedKey × Addr × V)} {m : List (NestedKey × Addr × Value)}, PWn l m → Keys X.K H l → ∀ x ∈ m, (nestedKind X.prog X.w).is s.heap x.1 x.2.1 := by
    intro l m q
    induction q with
    | nil => intro _ x hx; exact nomatch hx
    | @cons p q ps qs hq t ih =>
      intro hl x hx
      rcases List.mem_cons.mp hx with e | hx
      · subst e
        obtain ⟨z1, z2⟩ := hl p List.mem_cons_self
        rw [← hq.1, ← hq.2.1]
        exact ⟨nested_of I _ z1 rfl, z2⟩
      · exact ih (fun z hz => hl z (List.mem_cons_of_mem _ hz)) x hx
  exact all h3 hk
theorem dn_room (hu : A.units + 10 < cLine) : (nestedKind X.prog X.w).room A.in1 := by
  show A.units + 1 + 8 < cLine
  omega
/-- d[k], k in d: what is there -/
def NGet (w : World) (K : PySem.W.Frag) (H : Hp) (a : Addr) (y : V) (r : Option V) : Prop := ∃ ws b k, H a = some (DN w a ws) ∧ Keys K H ws ∧ y = .ref b ∧ NK K H k (.ref b) ∧ k.depth ≤ 8 ∧ r = valV (dropA ws) k
def NPut (w : World) (K : PySem.W.Frag) (H : Hp) (a : Addr) (y v : V) (H' : Hp) : Prop := ∃ ws b k, H a = some (DN w a ws) ∧ Keys K H ws ∧ y = .ref b ∧ NK K H k (.ref b) ∧ k.depth ≤ 8 ∧ ws.length < sizeLine ∧ H' = upd H a (DN w a (putN ws k b v))
theorem n_is (I : Inv X pins σ H s) {y : V} {r : Option V} (g : NGet X.w X.K H a y r) : s.TypeIs (.ref a) "dict" := by
  obtain ⟨ws, b, k, e, hk, _⟩ := g
  obtain ⟨_, _, xs, _, dd⟩ := dn_of I e hk
  exact dd.typeIs
theorem n_getItem {y v : V} {u : Value} {Q : Value → Shared → Prop} (hu : A.units + 10 < cLine) (I : Inv X pins σ H s) (g : NGet X.w X.K H a y (some v)) (ry : RelV y u) (h : ∀ w' s', Inv X pins σ H s' → RelV v w' → Q w' s') :
    wpAny (model X.prog X.w) A (getItem (.ref a) u) Q E s := by
  obtain ⟨ws, b, k, e, hk, rfl, hb, hd, l⟩ := g
  cases ry
  obtain ⟨_, _, xs, pw, dd⟩ := dn_of I e hk
  obtain ⟨w', hw, rw'⟩ := RelO.some_of (v := v) (o := (atKey xs k).map (·.2)) (by rw [l]; exact pw_val pw k)
  obtain ⟨p, hp, hp2⟩ := Option.map_eq_some_iff.mp hw
  refine wpAny_getItem_heap (dn_room hu) ⟨nested_of I k hb rfl, hd⟩ dd hp ?_
  rw [hp2]
  exact h w' _ (I.tok _) rw'
theorem n_in {y : V} {r : Option V} {u : Value} {Q : Value → Shared → Prop} (hu : A.units + 10 < cLine) (I : Inv X pins σ H s) (g : NGet X.w X.K H a y r) (ry : RelV y u) (h : ∀ s', Inv X pins σ H s' → Q (.bool r.isSome) s') :
    wpAny (model X.prog X.w) A (compareOp .In u (.ref a)) Q E s := by
  obtain ⟨ws, b, k, e, hk, rfl, hb, hd, l⟩ := g
  cases ry
  obtain ⟨hm, _, xs, pw, dd⟩ := dn_of I e hk
  refine wpAny_in_heap (dn_room hu) ⟨nested_of I k hb rfl, hd⟩ hm dd ?_
  have q := (pw_val pw k).isSome_eq
  rw [Option.isSome_map] at q
  rw [← q, ← l]
  exact h _ (I.tok _)
theorem n_notIn {y : V} {r : Option V} {u : Value} {Q : Value → Shared → Prop} (hu : A.units + 10 < cLine) (I : Inv X pins σ H s) (g : NGet X.w X.K H a y r) (ry : RelV y u) (h : ∀ s', Inv X pins σ H s' → Q (.bool (!r.isSome)) s') :
    wpAny (model X.prog X.w) A (compareOp .NotIn u (.ref a)) Q E s := by
  obtain ⟨ws, b, k, e, hk, rfl, hb, hd, l⟩ := g
  cases ry
  obtain ⟨hm, _, xs, pw, dd⟩ := dn_of I e hk
  refine wpAny_notIn_heap (dn_room hu) ⟨nested_of I k hb rfl, hd⟩ hm dd ?_
  have q := (pw_val pw k).isSome_eq
  rw [Option.isSome_map] at q
  rw [← q, ← l]
  exact h _ (I.tok _)
theorem dn_new {P : Program} {w : World} {H' : Hp} {h' : Heap} {ws : List (NestedKey × Addr × V)} {xs : List (NestedKey × Addr × Value)} (hm : (a == sysModules) = false) (z : ws.length ≤ sizeLine) (pw : PWn ws xs) (dd : h'.DictOfH (nestedKind P w) a xs) : ObjOk P w H' h' a (DN w a ws) := by
  obtain ⟨o, es, ep, h4, h5, h6, h7, _, h8⟩ := dd
  exact ⟨⟨hm, z, xs, pw, o, es, ep, h4, h5, h6, h7, h8⟩, ⟨o, h4⟩, fun h1 h2 ⟨g1, g2, ys, g3, o', es', ep', g4, g5, g6, g7, g8⟩ hk => ⟨g1, g2, ys, g3, o', es', ep', hk _ g4, g5, g6, g7, g8⟩⟩
theorem n_setItem {y v : V} {u r : Value} {H' : Hp} {Q : Unit → Shared → Prop} (hu : A.units + 10 < cLine) (I : Inv X pins σ H s) (g : NPut X.w X.K H a y v H') (ry : RelV y u) (rv : RelV v r) (h : ∀ s', Inv X pins σ H' s' → Q () s') :
    wpAny (model X.prog X.w) A (setItem (.ref a) u r) Q E s := by
  obtain ⟨ws, b, k, e, hk, rfl, hb, hd, hz, rfl⟩ := g
  cases ry
  obtain ⟨hm, hz', xs, pw, dd⟩ := dn_of I e hk
  have hl : xs.length ≤ sizeLine := by rw [← Paired.length pw]; exact hz'
  refine wpAny_setItem_heap (hsz := hl) (dn_room hu) ⟨nested_of I k hb rfl, hd⟩ dd fun h' dd' hs => h _ ?_
  have ho : ∃ q, h'.get? a = some q := let ⟨q, _, _, hq, _⟩ := dd'; ⟨q, hq⟩
  exact d_write I (by rw [e]; exact True.intro) hs ho (dn_new hm (by have := putN_len ws k b v; omega) (pw_put pw rv) dd')
/-! ### the rules -/
def tFGet (w : World) (K : PySem.W.Frag) (td ty : TE) : TE := fun σ H Q => td σ H fun x H1 => ty σ H1 fun y H2 => ∃ a v, x = .ref a ∧ (DGet H2 a y (some v) ∨ NGet w K H2 a y (some v)) ∧ Q v H2
def tFIn (w : World) (K : PySem.W.Frag) (neg : Bool) (ty td : TE) : TE := fun σ H Q => ty σ H fun y H1 => td σ H1 fun x H2 => ∃ a o, x = .ref a ∧ (DGet H2 a y o ∨ NGet w K H2 a y o) ∧ Q (.bl (if neg = true then !o.isSome else o.isSome)) H2
def sFPut (w : World) (K : PySem.W.Frag) (td ty tv : TE) : TS := fun D σ H => tv σ H fun v H1 => td σ H1 fun x H2 => ty σ H2 fun y H3 => ∃ a H4, x = .ref a ∧ (DPut H3 a y v H4 ∨ NPut w K H3 a y v H4) ∧ D.nx σ H4
variable {o i e value : Expr} {pos pos' tpos : Pos} {td ty tv : TE}
theorem pe_fget (hu : X.A.units + 10 < cLine) (ho : PE X o td) (hi : PE X i ty) (hs : NoSl i) : PE X (.Subscript o i pos) (tFGet X.w X.K td ty) := by
  refine ⟨fun pins s σ H Q I h => subD_of PySem.F.slot_dict_getitem.lookup hs (thn (ho.run pins s σ H _ I h) fun u s1 ⟨x, H1, I1, rx, q1⟩ => thn (hi.run pins s1 σ H1 _ I1 q1) fun iv s2 ⟨y, H2, I2, ry, a, v, ex, g, q2⟩ => ?_)⟩
  subst ex
  obtain rfl : u = Value.ref a := rx
  rcases g with g | g
  · exact ⟨dict_typeIs I2 g, d_getItem (by omega) I2 g ry fun w' s3 I3 rw' => ⟨v, H2, I3, rw', q2⟩⟩
  · exact ⟨n_is I2 g, n_getItem hu I2 g ry fun w' s3 I3 rw' => ⟨v, H2, I3, rw', q2⟩⟩
theorem pc_fin (hu : X.A.units + 10 < cLine) (hi : PE X i ty) (ho : PE X o td) : PC X .In i o (tFIn X.w X.K false ty td) := by
  refine ⟨fun pins s σ H Q I h => thn (hi.run pins s σ H _ I h) fun iv s1 ⟨y, H1, I1, ry, q1⟩ => thn (ho.run pins s1 σ H1 _ I1 q1) fun u s2 ⟨x, H2, I2, rx, a, ov, ex, g, q2⟩ => ?_⟩
  subst ex
  obtain rfl : u = Value.ref a := rx
  rcases g with g | g
  · exact d_in (by omega) I2 g ry fun s3 I3 => ⟨.bl ov.isSome, H2, I3, rfl, q2⟩
  · exact n_in hu I2 g ry fun s3 I3 => ⟨.bl ov.isSome, H2, I3, rfl, q2⟩
theorem pc_fnotin (hu : X.A.units + 10 < cLine) (hi : PE X i ty) (ho : PE X o td) : PC X .NotIn i o (tFIn X.w X.K true ty td) := by
  refine ⟨fun pins s σ H Q I h => thn (hi.run pins s σ H _ I h) fun iv s1 ⟨y, H1, I1, ry, q1⟩ => thn (ho.run pins s1 σ H1 _ I1 q1) fun u s2 ⟨x, H2, I2, rx, a, ov, ex, g, q2⟩ => ?_⟩
  subst ex
  obtain rfl : u = Value.ref a := rx
  rcases g with g | g
  · exact d_notIn (by omega) I2 g ry fun s3 I3 => ⟨.bl (!ov.isSome), H2, I3, rfl, q2⟩
  · exact n_notIn hu I2 g ry fun s3 I3 => ⟨.bl (!ov.isSome), H2, I3, rfl, q2⟩
theorem ps_fput (hu : X.A.units + 10 < cLine) (ho : PE X o td) (hi : PE X i ty) (hv : PE X value tv) (hs : swapsWith value (some (.Subscript o i pos')) pos.line X.env = pure false) :
    PS X (.Assign [.Subscript o i pos'] value pos) (sFPut X.w X.K td ty tv) := by
  refine ⟨fun pins s σ H D I h => wpAny_Assign_Subscript (thn (hv.run pins s σ H _ I h) fun r s1 ⟨v, H1, I1, rv, q1⟩ => thn (ho.run pins s1 σ H1 _ I1 q1) fun u s2 ⟨x, H2, I2, rx, q2⟩ => thn (hi.run pins s2 σ H2 _ I2 q2) fun iv s3 ⟨y, H3, I3, ry, a, H4, ex, g, q3⟩ => ?_) hs⟩
  subst ex
  obtain rfl : u = Value.ref a := rx
  rcases g with g | g
  · exact d_setItem (by omega) I3 g ry rv fun s4 I4 => ⟨σ, H4, I4, q3⟩
  · exact n_setItem hu I3 g ry rv fun s4 I4 => ⟨σ, H4, I4, q3⟩
theorem dn_empty {P : Program} {w : World} {H' : Hp} (h : Heap) (hb : sysModules < h.objs.size) : ObjOk P w H' (h.push { cls := .type "dict", data := .dict #[] }) h.objs.size (DN w h.objs.size []) :=
  dn_new (beq_eq_false_iff_ne.mpr (Ne.symm (Nat.ne_of_lt hb))) (Nat.zero_le _) .nil (Heap.DictOfH.new h)
def tDNewN (w : World) : TE := fun _ H Q => ∀ p, H p = none → Q (.ref p) (upd H p (DN w p []))
theorem pe_dnewN : PE X (.Dict [] [] pos) (tDNewN X.w) := ⟨fun pins s σ H Q I h =>
  wpAny_Dict_empty ⟨.ref s.heap.objs.size, _, I.laid (a := s.heap.objs.size) (o := DN X.w s.heap.objs.size []) (t' := s.toks) (fun _ _ q => Heap.get?_push_of_some _ q) (Nat.le_refl _) (dn_empty s.heap I.big), rfl, h _ (I.hok.fresh (Nat.le_refl _))⟩⟩
end
end Fx

set_option Elab.async false
set_option linter.all false
set_option maxRecDepth 100000
set_option maxHeartbeats 4000000
namespace Fx
open PySem L2
variable [Md]
variable [Mw]

/-- an exception: its class, its own fields -/
structure Ex where
  cls : Addr
  fs : Option (List (Str × D))

/-- what an expression gives: nothing known, a value, an exception -/
inductive Rs (α : Type) where
  | no
  | ok (a : α) (st : Store)
  | er (x : Ex) (st : Store)

def Rs.bind {α β : Type} (r : Rs α) (k : α → Store → Rs β) : Rs β :=
  match r with
  | .no => .no
  | .ok a st => k a st
  | .er x st => .er x st
@[simp] theorem Rs.bind_no {α β : Type} (k : α → Store → Rs β) : (Rs.no : Rs α).bind k = .no := rfl
@[simp] theorem Rs.bind_ok {α β : Type} (a : α) (st : Store) (k : α → Store → Rs β) : (Rs.ok a st).bind k = k a st := rfl
@[simp] theorem Rs.bind_er {α β : Type} (x : Ex) (st : Store) (k : α → Store → Rs β) : (Rs.er x st : Rs α).bind k = .er x st := rfl
theorem Rs.bind_assoc {α β γ : Type} (r : Rs α) (k : α → Store → Rs β) (j : β → Store → Rs γ) : (r.bind k).bind j = r.bind fun a st => (k a st).bind j := by
  cases r <;> rfl

/-- what a statement does -/
inductive Rt where
  | no
  | nx (σ : En) (st : Store)
  | rt (d : D) (st : Store)
  | bk (σ : En) (st : Store)
  | ct (σ : En) (st : Store)
  | er (x : Ex) (σ : En) (st : Store)

abbrev SE := En → Store → Rs D
abbrev SB := En → Store → Rs Bool
abbrev SA := En → Store → Rs (List D)
abbrev SS := En → Store → Rt

def ExR (K : PySem.W.Frag) (ρ : Mp) (n : Nat) (H : Hp) (x : Ex) (cls : Value) (dd : Option Addr) : Prop :=
  cls = .ref x.cls ∧ match x.fs, dd with
    | none, none => True
    | some fs, some d => ∃ ws : List (Str × V), H d = some (.xd ws) ∧ Paired (fun p q => p.1 = q.1 ∧ RelD K ρ n H p.2 q.2) fs ws
    | _, _ => False

def EnvR (K : PySem.W.Frag) (ρ : Mp) (n : Nat) (H : Hp) (τ : En) (σ : St) : Prop :=
  τ.length = σ.length ∧ ∀ (i : Nat) (d : D), τ[i]? = some (some d) → ∃ v, σ[i]? = some (some v) ∧ RelD K ρ n H d v

abbrev Rl (α β : Type) := Hp → Mp → Store → Hp → α → β → Prop

section
variable {K : PySem.W.Frag} {ρ ρ' ρ'' : Mp} {st st' st'' : Store} {H H' H'' : Hp} {n n' n'' : Nat} {τ : En} {σ : St} {W : WX}

theorem EnvR.mono (e : Ext ρ st.length H ρ' n' H') (r : R K ρ st H) (h : EnvR K ρ st.length H τ σ) : EnvR K ρ' n' H' τ σ :=
  ⟨h.1, fun i d q => let ⟨v, a, b⟩ := h.2 i d q; ⟨v, a, b.mono e r⟩⟩
theorem EnvR.set {d : D} {v : V} (h : EnvR K ρ n H τ σ) (r : RelD K ρ n H d v) (i : Nat) : EnvR K ρ n H (τ.set i (some d)) (σ.set i (some v)) := by
  refine ⟨by simp [h.1], fun j d' q => ?_⟩
  by_cases hj : j = i
  · subst hj
    have hl : j < τ.length := by have := (List.getElem?_eq_some_iff.mp q).1; simpa using this
    rw [List.getElem?_set_self hl] at q
    cases q
    exact ⟨v, by rw [List.getElem?_set_self (h.1 ▸ hl)], r⟩
  · rw [List.getElem?_set_ne (Ne.symm hj)] at q
    obtain ⟨w, a, b⟩ := h.2 j d' q
    exact ⟨w, by rw [List.getElem?_set_ne (Ne.symm hj)]; exact a, b⟩
theorem EnvR.unset (h : EnvR K ρ n H τ σ) (i : Nat) : EnvR K ρ n H (τ.set i none) (σ.set i none) := by
  refine ⟨by simp [h.1], fun j d' q => ?_⟩
  by_cases hj : j = i
  · subst hj
    have hl : j < τ.length := by have := (List.getElem?_eq_some_iff.mp q).1; simpa using this
    rw [List.getElem?_set_self hl] at q
    cases q
  · rw [List.getElem?_set_ne (Ne.symm hj)] at q
    obtain ⟨w, a, b⟩ := h.2 j d' q
    exact ⟨w, by rw [List.getElem?_set_ne (Ne.symm hj)]; exact a, b⟩
/-- forgetting the comprehension's own slots -/
def wipeE (σ : En) : List Nat → En
  | [] => σ
  | v :: vs => (wipeE σ vs).set v none
theorem EnvR.wipe (h : EnvR K ρ n H τ σ) : ∀ vs : List Nat, EnvR K ρ n H (wipeE τ vs) (wipe σ vs)
  | [] => h
  | v :: vs => (EnvR.wipe h vs).unset v

/-- what is wanted of a result -/
def Out {α β : Type} (K : PySem.W.Frag) (Re : Rl α β) (W : WX) (σ : St) (ρ : Mp) (n : Nat) (H : Hp) (Q : β → Hp → Prop) : Rs α → Prop
  | .no => False
  | .ok d st' => ∀ ρ' H' v, Ext ρ n H ρ' st'.length H' → R K ρ' st' H' → Re H ρ' st' H' d v → Q v H'
  | .er x st' => ∀ ρ' H' cls dd, Ext ρ n H ρ' st'.length H' → R K ρ' st' H' → ExR K ρ' st'.length H' x cls dd → W cls dd σ H'
/-- the reading of an expression by its function of plain data -/
def tM {α β : Type} (K : PySem.W.Frag) (Re : Rl α β) (W : WX) (m : En → Store → Rs α) : St → Hp → (β → Hp → Prop) → Prop := fun σ H Q =>
  ∃ (ρ : Mp) (τ : En) (st : Store), R K ρ st H ∧ EnvR K ρ st.length H τ σ ∧ Out K Re W σ ρ st.length H Q (m τ st)
end

abbrev reD (K : PySem.W.Frag) : Rl D V := fun _ ρ st H d v => RelD K ρ st.length H d v
abbrev reL (K : PySem.W.Frag) : Rl (List D) (List V) := fun _ ρ st H ds vs => RelDs K ρ st.length H ds vs
abbrev reB : Rl Bool Bool := fun _ _ _ _ a b => a = b
/-- a list that this very expression has made: nothing else holds it -/
def reN (K : PySem.W.Frag) : Rl (List D) V := fun H0 ρ st H ds v => ∃ a vs, v = .ref a ∧ H0 a = none ∧ H a = some (.lst vs) ∧ R K (ρ.hide a) st H ∧ RelDs K (ρ.hide a) st.length H ds vs
class RlOk {α β : Type} (K : PySem.W.Frag) (Re : Rl α β) : Prop where
  back : ∀ {ρ ρ1 ρ' : Mp} {st st1 st' : Store} {H H1 H' : Hp} {d : α} {v : β}, Ext ρ st.length H ρ1 st1.length H1 → R K ρ1 st1 H1 → Re H1 ρ' st' H' d v → Re H ρ' st' H' d v
instance {K : PySem.W.Frag} : RlOk K (reD K) := ⟨fun _ _ h => h⟩
instance {K : PySem.W.Frag} : RlOk K (reL K) := ⟨fun _ _ h => h⟩
instance {K : PySem.W.Frag} : RlOk K reB := ⟨fun _ _ h => h⟩
instance {K : PySem.W.Frag} : RlOk K (reN K) := ⟨fun e r ⟨a, vs, h1, h2, h3⟩ => ⟨a, vs, h1, e.none_of r h2, h3⟩⟩

abbrev EvE (X : Cx) (W : WX) (e : Expr) (m : SE) : Prop := PE X e (tM X.K (reD X.K) W m)
abbrev EvB (X : Cx) (W : WX) (e : Expr) (m : SB) : Prop := PT X e (tM X.K reB W m)
abbrev EvW (X : Cx) (W : WX) (e : Expr) (m : SB) : Prop := PW X e (tM X.K reB W m)
abbrev EvA (X : Cx) (W : WX) (es : List Expr) (m : SA) : Prop := PA X es (tM X.K (reL X.K) W m)
/-- a new list that nothing else holds -/
abbrev EvF (X : Cx) (W : WX) (e : Expr) (m : SA) : Prop := PE X e (tM X.K (reN X.K) W m)

theorem PE.imp {X : Cx} {e : Expr} {t t' : TE} (h : PE X e t) (hi : ∀ σ H Q, t' σ H Q → t σ H Q) : PE X e t' := ⟨fun pins s σ H Q I q => h.run pins s σ H Q I (hi _ _ _ q)⟩
theorem PE.impI {X : Cx} {e : Expr} {t t' : TE} (h : PE X e t) (hi : ∀ pins s σ H Q, Inv X pins σ H s → t' σ H Q → t σ H Q) : PE X e t' := ⟨fun pins s σ H Q I q => h.run pins s σ H Q I (hi _ _ _ _ _ I q)⟩
theorem PT.imp {X : Cx} {e : Expr} {t t' : TT} (h : PT X e t) (hi : ∀ σ H Q, t' σ H Q → t σ H Q) : PT X e t' := ⟨fun pins s σ H Q I q => h.run pins s σ H Q I (hi _ _ _ q)⟩
theorem PW.imp {X : Cx} {e : Expr} {t t' : TT} (h : PW X e t) (hi : ∀ σ H Q, t' σ H Q → t σ H Q) : PW X e t' := ⟨fun wh pins s σ H Q I q => h.run wh pins s σ H Q I (hi _ _ _ q)⟩
theorem PA.imp {X : Cx} {e : List Expr} {t t' : TA} (h : PA X e t) (hi : ∀ σ H Q, t' σ H Q → t σ H Q) : PA X e t' := ⟨fun pos pins s σ H Q I q => h.run pos pins s σ H Q I (hi _ _ _ q)⟩
theorem PS.imp {X : Cx} {e : Stmt} {t t' : TS} (h : PS X e t) (hi : ∀ D σ H, t' D σ H → t D σ H) : PS X e t' := ⟨fun pins s σ H D I q => h.run pins s σ H D I (hi _ _ _ q)⟩
theorem PSs.imp {X : Cx} {e : List Stmt} {t t' : TS} (h : PSs X e t) (hi : ∀ D σ H, t' D σ H → t D σ H) : PSs X e t' := ⟨fun pins s σ H D I q => h.run pins s σ H D I (hi _ _ _ q)⟩

section
variable {α β γ δ : Type} {K : PySem.W.Frag} {ρ ρ' ρ1 : Mp} {st st' st1 : Store} {H H' H1 : Hp} {n n' : Nat} {τ : En} {σ : St} {W : WX} {Ra : Rl α β} {Rg : Rl γ δ} [RlOk K Ra] [RlOk K Rg]
/-- the result is wanted from a later state on -/
theorem Out.shift {Q : β → Hp → Prop} {r : Rs α} (h : Out K Ra W σ ρ st.length H Q r) (r0 : R K ρ st H) (e : Ext ρ st.length H ρ1 st1.length H1) (r1 : R K ρ1 st1 H1) : Out K Ra W σ ρ1 st1.length H1 Q r := by
  cases r with
  | no => exact h
  | ok d st' => exact fun ρ' H' v e' r' q => h ρ' H' v (e.trans r0 r1 e') r' (RlOk.back (K := K) e r1 q)
  | er x st' => exact fun ρ' H' c dd e' r' q => h ρ' H' c dd (e.trans r0 r1 e') r' q
/-- one step, then the rest -/
theorem Out.bind {Q : δ → Hp → Prop} {Q1 : β → Hp → Prop} {r : Rs α} {k : α → Store → Rs γ} (r0 : R K ρ st H) (h : Out K Rg W σ ρ st.length H Q (r.bind k))
    (hk : ∀ d st1 ρ1 H1 v, Ext ρ st.length H ρ1 st1.length H1 → R K ρ1 st1 H1 → Ra H ρ1 st1 H1 d v → Out K Rg W σ ρ1 st1.length H1 Q (k d st1) → Q1 v H1) : Out K Ra W σ ρ st.length H Q1 r := by
  cases r with
  | no => exact h
  | ok d st1 => exact fun ρ1 H1 v e1 r1 q => hk d st1 ρ1 H1 v e1 r1 q (Out.shift h r0 e1 r1)
  | er x st1 => exact h
theorem Out.mono {Q Q' : β → Hp → Prop} {r : Rs α} (h : Out K Ra W σ ρ n H Q r) (hq : ∀ v H', Q v H' → Q' v H') : Out K Ra W σ ρ n H Q' r := by
  cases r with
  | no => exact h
  | ok d st1 => exact fun ρ1 H1 v e1 r1 q => hq _ _ (h ρ1 H1 v e1 r1 q)
  | er x st1 => exact h
/-- nothing happens to the heap -/
theorem Out.here {Q : β → Hp → Prop} {d : α} {v : β} (r0 : R K ρ st H) (h : Out K Ra W σ ρ st.length H Q (.ok d st)) (q : Ra H ρ st H d v) : Q v H := h ρ H v .refl r0 q
/-- a new object that is not the store's -/
theorem Out.free {Q : β → Hp → Prop} {d : α} {v : β} {p : Addr} {u : HO} (r0 : R K ρ st H) (h : Out K Ra W σ ρ st.length H Q (.ok d st)) (hp : H p = none) (q : Ra H ρ st (upd H p u) d v) : Q v (upd H p u) :=
  h ρ _ v (r0.push_ext hp) (r0.free hp) q
/-- the first step of a reading -/
theorem tM.bind {Q : δ → Hp → Prop} {Q1 : β → Hp → Prop} {m : En → Store → Rs α} {k : α → Store → Rs γ} (r0 : R K ρ st H) (e0 : EnvR K ρ st.length H τ σ) (h : Out K Rg W σ ρ st.length H Q ((m τ st).bind k))
    (hk : ∀ d st1 ρ1 H1 v, Ext ρ st.length H ρ1 st1.length H1 → R K ρ1 st1 H1 → EnvR K ρ1 st1.length H1 τ σ → Ra H ρ1 st1 H1 d v → Out K Rg W σ ρ1 st1.length H1 Q (k d st1) → Q1 v H1) : tM K Ra W m σ H Q1 :=
  ⟨ρ, τ, st, r0, e0, Out.bind r0 h fun d st1 ρ1 H1 v e1 r1 q o => hk d st1 ρ1 H1 v e1 r1 (e0.mono e1 r0) q o⟩
theorem tM.go {Q : β → Hp → Prop} {m : En → Store → Rs α} (r0 : R K ρ st H) (e0 : EnvR K ρ st.length H τ σ) (h : Out K Ra W σ ρ st.length H Q (m τ st)) : tM K Ra W m σ H Q := ⟨ρ, τ, st, r0, e0, h⟩
end

/-! ### names, constants -/
def mVar (i : Nat) : SE := fun σ st => match σ[i]? with
  | some (some d) => .ok d st
  | _ => .no
def mC (d : D) : SE := fun _ st => .ok d st
section
variable {X : Cx} {W : WX} {e a b c : Expr} {es : List Expr} {m ma mb mc : SE} {ms : SA} {pos : Pos}
theorem ev_of_var {i : Nat} (h : PE X e (tVar i)) : EvE X W e (mVar i) := PE.imp h fun σ H Q ⟨ρ, τ, st, r, en, o⟩ => by
  unfold mVar at o
  cases q : τ[i]? with
  | none => rw [q] at o; exact o.elim
  | some x =>
    cases x with
    | none => rw [q] at o; exact o.elim
    | some d =>
      rw [q] at o
      obtain ⟨v, hv, rv⟩ := en.2 i d q
      exact ⟨v, hv, o.here r rv⟩
theorem ev_var (i : Nat) {x : Str} (hN : X.N[i]? = some x := by rfl) (hv : Vis X.env.scope x := by first | exact Or.inl rfl | exact Or.inr (Or.inl rfl) | exact Or.inr (Or.inr rfl)) (hd : (x == ("__debug__" : Str)) = false := by decide)
    (hcd : (x == ("__classdict__" : Str)) = false := by decide) : EvE X W (.Name x pos) (mVar i) := ev_of_var (pe_var hN hv hd hcd)
theorem ev_of_const {d : D} {v : V} (h : PE X e (tC v)) (hr : ∀ ρ n H, RelD X.K ρ n H d v) : EvE X W e (mC d) := PE.imp h fun σ H Q ⟨ρ, τ, st, r, en, o⟩ => o.here r (hr _ _ _)
theorem ev_int {i : Int} {j} : EvE X W (.Constant (.int i) j pos) (mC (.int i)) := ev_of_const pe_int fun _ _ _ => by simp [RelD]
theorem ev_bl {i : Bool} {j} : EvE X W (.Constant (.bool i) j pos) (mC (.bl i)) := ev_of_const pe_bl fun _ _ _ => by simp [RelD]
theorem ev_non {j} : EvE X W (.Constant .none j pos) (mC .non) := ev_of_const pe_non fun _ _ _ => by simp [RelD]
theorem ev_str {i : Str} {j} : EvE X W (.Constant (.str i) j pos) (mC (.str i)) := ev_of_const pe_str fun _ _ _ => by simp [RelD]
/-- a def (or a class) of the module as a value -/
theorem ev_fn {x : Str} {f : Addr} (hg : Gl X x) (hm : X.mg x = some (.ref f)) (hd : (x == ("__debug__" : Str)) = false := by decide) : EvE X W (.Name x pos) (mC (.fn f)) := ev_of_const (pe_glob (v := .ref f) hg hm rfl hd) fun _ _ _ => by simp [RelD]
theorem ev_gint {x : Str} {i : Int} {t : Tok} (hg : Gl X x) (hm : X.mg x = some (.int i t)) (hd : (x == ("__debug__" : Str)) = false := by decide) : EvE X W (.Name x pos) (mC (.int i)) := ev_of_const (pe_glob (v := .int i) hg hm ⟨t, rfl⟩ hd) fun _ _ _ => by simp [RelD]
theorem ev_gstr {x : Str} {i : Str} {t : Tok} (hg : Gl X x) (hm : X.mg x = some (.str i t)) (hd : (x == ("__debug__" : Str)) = false := by decide) : EvE X W (.Name x pos) (mC (.str i)) := ev_of_const (pe_glob (v := .str i) hg hm ⟨t, rfl⟩ hd) fun _ _ _ => by simp [RelD]
theorem ev_ty {x : Str} {T : String} (hg : Gl X x) (hm : X.mg x = none) (hv : bootBuiltins x = some (.type T)) (hn : x ≠ "__name__" := by decide) (hd : (x == ("__debug__" : Str)) = false := by decide) : EvE X W (.Name x pos) (mC (.ty T)) :=
  ev_of_const (pe_bltn (v := .ty T) hg hm hv rfl hn hd) fun _ _ _ => by simp [RelD]

/-! ### arguments -/
def mNil : SA := fun _ st => .ok [] st
def mCons (m : SE) (ms : SA) : SA := fun σ st => (m σ st).bind fun d st1 => (ms σ st1).bind fun ds st2 => .ok (d :: ds) st2
theorem ea_nil : EvA X W [] mNil := PA.imp pa_nil fun σ H Q ⟨ρ, τ, st, r, en, o⟩ => o.here r RelDs.nil
theorem ea_cons (h : EvE X W e m) (ht : EvA X W es ms) (hs : starEach (e :: es) X.env = (false, eval e X.env) :: starEach es X.env := by rfl) : EvA X W (e :: es) (mCons m ms) :=
  PA.imp (pa_cons h ht hs) fun σ H Q ⟨ρ, τ, st, r, en, o⟩ => tM.bind r en o fun d st1 ρ1 H1 v e1 r1 en1 q o1 =>
    tM.bind r1 en1 o1 fun ds st2 ρ2 H2 vs e2 r2 en2 qs o2 => o2.here r2 (.cons (q.mono e2 r1) qs)

/-! ### operators -/
/-- an operator by values -/
def OpS (X : Cx) (g : Value → Value → Sem Value) (f : D → D → Store → Rs D) : Prop :=
  ∃ r, OpR X g r ∧ ∀ (W : WX) (σ : St) (ρ : Mp) (st : Store) (H : Hp) (x y : D) (vx vy : V) (Q : VK), R X.K ρ st H → RelD X.K ρ st.length H x vx → RelD X.K ρ st.length H y vy → Out X.K (reD X.K) W σ ρ st.length H Q (f x y st) → r vx vy H Q
def mOp (f : D → D → Store → Rs D) (ma mb : SE) : SE := fun σ st => (ma σ st).bind fun x st1 => (mb σ st1).bind fun y st2 => f x y st2
theorem tM.op {f : D → D → Store → Rs D} {r : R2} (hr : ∀ (W : WX) (σ : St) (ρ : Mp) (st : Store) (H : Hp) (x y : D) (vx vy : V) (Q : VK), R X.K ρ st H → RelD X.K ρ st.length H x vx → RelD X.K ρ st.length H y vy → Out X.K (reD X.K) W σ ρ st.length H Q (f x y st) → r vx vy H Q)
    {σ : St} {H : Hp} {Q : VK} (h : tM X.K (reD X.K) W (mOp f ma mb) σ H Q) : tOp r (tM X.K (reD X.K) W ma) (tM X.K (reD X.K) W mb) σ H Q := by
  obtain ⟨ρ, τ, st, r0, en, o⟩ := h
  exact tM.bind r0 en o fun x st1 ρ1 H1 vx e1 r1 en1 qx o1 => tM.bind r1 en1 o1 fun y st2 ρ2 H2 vy e2 r2 en2 qy o2 => hr W σ ρ2 st2 H2 x y vx vy Q r2 (qx.mono e2 r1) qy o2
theorem ev_op {op : Operator} {f : D → D → Store → Rs D} (ho : OpS X (binaryOp op) f) (ha : EvE X W a ma) (hb : EvE X W b mb) : EvE X W (.BinOp a op b pos) (mOp f ma mb) := by
  obtain ⟨r, h1, h2⟩ := ho
  exact PE.imp (pe_op h1 ha hb) fun σ H Q h => tM.op h2 h
theorem ev_cmp {op : CmpOp} {f : D → D → Store → Rs D} (ho : OpS X (compareOp op) f) (ha : EvE X W a ma) (hb : EvE X W b mb) (hm : behindInMarks op b = false) : EvE X W (.Compare a [op] [b] pos) (mOp f ma mb) := by
  obtain ⟨r, h1, h2⟩ := ho
  exact PE.imp (pe_cmpR h1 ha hb hm) fun σ H Q h => tM.op h2 h
/-- a value that is a bool, as a test -/
def asB (r : Rs D) : Rs Bool := r.bind fun d st => match d with
  | .bl b => .ok b st
  | _ => .no
def mB (m : SE) : SB := fun σ st => asB (m σ st)
theorem tM.tst {σ : St} {H : Hp} {Q : Bool → Hp → Prop} (h : tM X.K reB W (mB m) σ H Q) : tM X.K (reD X.K) W m σ H fun x H' => ∃ k, x = .bl k ∧ Q k H' := by
  obtain ⟨ρ, τ, st, r0, en, o⟩ := h
  refine tM.bind r0 en o fun d st1 ρ1 H1 v e1 r1 en1 q o1 => ?_
  cases d with
  | bl b => simp only [RelD] at q; exact ⟨b, q, o1.here r1 rfl⟩
  | _ => exact o1.elim
theorem et_val (h : EvE X W e m) (he : ∀ whole, isTrue e X.env whole = (do let v ← whole; standAt e.pos; holding [v] (truthy v)) := by intro _; rfl) : EvB X W e (mB m) :=
  PT.imp (pt_val h he) fun σ H Q h => tM.tst h
theorem et_cmp {op : CmpOp} {f : D → D → Store → Rs D} (ho : OpS X (compareOp op) f) (ha : EvE X W a ma) (hb : EvE X W b mb) (hm : behindInMarks op b = false) : EvB X W (.Compare a [op] [b] pos) (mB (mOp f ma mb)) := by
  obtain ⟨r, h1, h2⟩ := ho
  refine PT.imp (pt_cmpR h1 ha hb hm) fun σ H Q h => ?_
  exact tM.op h2 (tM.tst h)
/-! ### and, or, not -/
variable {t u : SB} {rest : List Expr}
def mAnd (t u : SB) : SB := fun σ st => (t σ st).bind fun c st1 => if c = true then u σ st1 else .ok false st1
def mOr (t u : SB) : SB := fun σ st => (t σ st).bind fun c st1 => if c = true then .ok true st1 else u σ st1
def mNot (t : SB) : SB := fun σ st => (t σ st).bind fun c st1 => .ok (!c) st1
theorem et_of (h : EvW X W e t) : EvB X W e t := PW.pt h
theorem ew_and1 (h : EvB X W a t) : EvW X W (.BoolOp .And [a] pos) t := pw_and1 h
theorem ew_or1 (h : EvB X W a t) : EvW X W (.BoolOp .Or [a] pos) t := pw_or1 h
theorem ew_and (h : EvB X W a t) (h2 : EvW X W (.BoolOp .And (b :: rest) pos) u) : EvW X W (.BoolOp .And (a :: b :: rest) pos) (mAnd t u) := PW.imp (pw_and h h2) fun σ H Q ⟨ρ, τ, st, r0, en, o⟩ =>
  tM.bind r0 en o fun c st1 ρ1 H1 k e1 r1 en1 q o1 => by
    cases (show c = k from q)
    cases c with
    | true => exact tM.go r1 en1 o1
    | false => exact o1.here r1 rfl
theorem ew_or (h : EvB X W a t) (h2 : EvW X W (.BoolOp .Or (b :: rest) pos) u) : EvW X W (.BoolOp .Or (a :: b :: rest) pos) (mOr t u) := PW.imp (pw_or h h2) fun σ H Q ⟨ρ, τ, st, r0, en, o⟩ =>
  tM.bind r0 en o fun c st1 ρ1 H1 k e1 r1 en1 q o1 => by
    cases (show c = k from q)
    cases c with
    | false => exact tM.go r1 en1 o1
    | true => exact o1.here r1 rfl
theorem et_not (h : EvB X W a t) : EvB X W (.UnaryOp .Not a pos) (mNot t) := PT.imp (pt_not h) fun σ H Q ⟨ρ, τ, st, r0, en, o⟩ =>
  tM.bind r0 en o fun c st1 ρ1 H1 k e1 r1 en1 q o1 => by
    cases (show c = k from q)
    exact o1.here r1 rfl
/-- .. as values that are bools -/
def mAndV (ma mb : SE) : SE := fun σ st => (ma σ st).bind fun x st1 => match x with
  | .bl true => mb σ st1
  | .bl false => .ok (.bl false) st1
  | _ => .no
def mOrV (ma mb : SE) : SE := fun σ st => (ma σ st).bind fun x st1 => match x with
  | .bl false => mb σ st1
  | .bl true => .ok (.bl true) st1
  | _ => .no
def mNotV (ma : SE) : SE := fun σ st => (ma σ st).bind fun x st1 => match x with
  | .bl b => .ok (.bl (!b)) st1
  | _ => .no
theorem ev_one {op} (h : EvE X W a m) : EvE X W (.BoolOp op [a] pos) m := pe_one h
theorem ev_and (h : EvE X W a ma) (h2 : EvE X W (.BoolOp .And (b :: rest) pos) mb) : EvE X W (.BoolOp .And (a :: b :: rest) pos) (mAndV ma mb) := PE.imp (pe_and h h2) fun σ H Q ⟨ρ, τ, st, r0, en, o⟩ =>
  tM.bind r0 en o fun x st1 ρ1 H1 v e1 r1 en1 q o1 => by
    cases x with
    | bl c =>
      simp only [RelD] at q
      refine ⟨c, q, ?_⟩
      cases c with
      | true => exact tM.go r1 en1 o1
      | false => exact o1.here r1 (by simp [reD, RelD])
    | _ => exact o1.elim
theorem ev_or (h : EvE X W a ma) (h2 : EvE X W (.BoolOp .Or (b :: rest) pos) mb) : EvE X W (.BoolOp .Or (a :: b :: rest) pos) (mOrV ma mb) := PE.imp (pe_or h h2) fun σ H Q ⟨ρ, τ, st, r0, en, o⟩ =>
  tM.bind r0 en o fun x st1 ρ1 H1 v e1 r1 en1 q o1 => by
    cases x with
    | bl c =>
      simp only [RelD] at q
      refine ⟨c, q, ?_⟩
      cases c with
      | false => exact tM.go r1 en1 o1
      | true => exact o1.here r1 (by simp [reD, RelD])
    | _ => exact o1.elim
theorem ev_not (h : EvE X W a ma) : EvE X W (.UnaryOp .Not a pos) (mNotV ma) := PE.imp (pe_not h) fun σ H Q ⟨ρ, τ, st, r0, en, o⟩ =>
  tM.bind r0 en o fun x st1 ρ1 H1 v e1 r1 en1 q o1 => by
    cases x with
    | bl c =>
      simp only [RelD] at q
      exact ⟨c, q, o1.here r1 (by simp [reD, RelD])⟩
    | _ => exact o1.elim
def mIf (t : SB) (ma mb : SE) : SE := fun σ st => (t σ st).bind fun c st1 => if c = true then ma σ st1 else mb σ st1
theorem ev_if (h : EvB X W c t) (ha : EvE X W a ma) (hb : EvE X W b mb) : EvE X W (.IfExp c a b pos) (mIf t ma mb) := PE.imp (pe_ifExp h ha hb) fun σ H Q ⟨ρ, τ, st, r0, en, o⟩ =>
  tM.bind r0 en o fun c st1 ρ1 H1 k e1 r1 en1 q o1 => by
    cases (show c = k from q)
    cases c with
    | true => exact tM.go r1 en1 o1
    | false => exact tM.go r1 en1 o1
/-! ### displays -/
def mTup (ms : SA) : SE := fun σ st => (ms σ st).bind fun ds st1 => .ok (.tup ds) st1
def mNew (ms : SA) : SE := fun σ st => (ms σ st).bind fun ds st1 => .ok (.loc st1.length) (st1 ++ [.lst ds])
def mFrz (ms : SA) : SE := fun σ st => (ms σ st).bind fun ds st1 => .ok (.lst ds) st1
def LenA (ms : SA) (k : Nat) : Prop := ∀ σ st ds st', ms σ st = .ok ds st' → ds.length = k
theorem lenA_nil : LenA mNil 0 := fun σ st ds st' h => by unfold mNil at h; cases h; rfl
theorem lenA_cons {k : Nat} (h : LenA ms k) : LenA (mCons m ms) (k + 1) := fun σ st ds st' q => by
  unfold mCons at q
  cases e1 : m σ st with
  | no => rw [e1] at q; cases q
  | er x s => rw [e1] at q; cases q
  | ok d s1 =>
    rw [e1] at q
    simp only [Rs.bind_ok] at q
    cases e2 : ms σ s1 with
    | no => rw [e2] at q; cases q
    | er x s => rw [e2] at q; cases q
    | ok r s2 =>
      rw [e2] at q
      simp only [Rs.bind_ok] at q
      cases q
      simp [h _ _ _ _ e2]
theorem len100 {k : Nat} (h : k ≤ 100) : k ≤ sizeLine := Nat.le_trans h (by decide)
/-- a tuple of written items -/
def tTupN (t : TA) : TE := fun σ H Q => t σ H fun xs H1 => xs.length ≤ sizeLine ∧ ∀ p u, H1 p = none → NewT u xs → Q (.ref p) (upd H1 p u)
theorem pe_tupN {t : TA} {x1} (h : PA X es t) : PE X (.Tuple es x1 pos) (tTupN t) := by
  refine ⟨fun pins s σ H Q I hq => ?_⟩
  refine wpAny_Tuple_spliced (thn (h.run pos pins s σ H _ I hq) fun us s1 ⟨xs, H1, I1, r, z, q⟩ => ⟨by rw [← r.length]; exact z, ?_⟩)
  have hf : H1 s1.heap.objs.size = none := I1.hok.fresh (Nat.le_refl _)
  obtain ⟨u, nu, I2⟩ := laidT (t' := s1.toks) (xs := xs) I1 (fun b u e => Heap.get?_push_of_some _ e) (Nat.le_refl _) (Heap.get?_push_size _ rfl) rfl fun H' => tup_push z r _ _ H'
  exact ⟨.ref s1.heap.objs.size, upd H1 s1.heap.objs.size u, I2, rfl, q _ _ hf nu⟩
theorem ev_tup {x1} {k : Nat} (h : EvA X W es ms) (hl : LenA ms k) (hk : k ≤ 100 := by decide) : EvE X W (.Tuple es x1 pos) (mTup ms) := PE.imp (pe_tupN h) fun σ H Q ⟨ρ, τ, st, r0, en, o⟩ => by
  refine ⟨ρ, τ, st, r0, en, ?_⟩
  cases q : ms τ st with
  | no => simp only [mTup, q] at o; exact o
  | er x s => simp only [mTup, q] at o; exact o
  | ok ds st1 =>
    simp only [mTup, q] at o
    intro ρ1 H1 vs e1 r1 rv
    refine ⟨by rw [rv.len, hl _ _ _ _ q]; exact len100 hk, fun p u hp nu => ?_⟩
    refine (Out.shift o r0 e1 r1).free r1 hp ?_
    simp only [reD, RelD]
    exact ⟨p, vs, rfl, nu.upd, RelDs.mono (r1.push_ext hp) r1 ds rv⟩
/-- a new list, laid into the store -/
theorem Out.alloc {α : Type} {K : PySem.W.Frag} {ρ : Mp} {st : Store} {H : Hp} {σ : St} {Q : VK} {p : Addr} {u : HO} {o : O} (r0 : R K ρ st H) (h : Out K (reD K) W σ ρ st.length H Q (.ok (.loc st.length) (st ++ [o]))) (hp : H p = none)
    (q : ObjR K (put ρ st.length p) (st.length + 1) (upd H p u) o p) : Q (.ref p) (upd H p u) := by
  refine h (put ρ st.length p) _ (.ref p) ?_ (r0.alloc hp q) ?_
  · rw [List.length_append, List.length_singleton]; exact put_ext hp
  · simp only [reD, RelD, put_at, List.length_append, List.length_singleton]
    exact ⟨trivial, Nat.lt_succ_self _⟩
/-- a display of a list is new -/
theorem Out.fresh {K : PySem.W.Frag} {ρ : Mp} {st : Store} {H : Hp} {σ : St} {Q : VK} {p : Addr} {ds : List D} {vs : List V} (r0 : R K ρ st H) (h : Out K (reN K) W σ ρ st.length H Q (.ok ds st)) (hp : H p = none) (q : RelDs K ρ st.length H ds vs) : Q (.ref p) (upd H p (.lst vs)) :=
  h ρ _ (.ref p) (r0.push_ext hp) (r0.free hp) ⟨p, vs, rfl, hp, upd_same, r0.hide hp rfl, RelDs.hide hp ds q⟩
theorem ef_lst {k : Nat} (h : EvA X W es ms) (hl : LenA ms k) (hk : k ≤ 100 := by decide) : EvF X W (.List es pos) ms := PE.imp (pe_lst h) fun σ H Q ⟨ρ, τ, st, r0, en, o⟩ => by
  refine ⟨ρ, τ, st, r0, en, ?_⟩
  cases q : ms τ st with
  | no => rw [q] at o; exact o
  | er x s => rw [q] at o; exact o
  | ok ds st1 =>
    rw [q] at o
    intro ρ1 H1 vs e1 r1 rv
    refine ⟨by rw [rv.len, hl _ _ _ _ q]; exact len100 hk, fun p hp => ?_⟩
    exact (Out.shift o r0 e1 r1).fresh r1 hp rv
/-- a new list, as one that is only read -/
theorem tM.frz {σ : St} {H : Hp} {Q : VK} (h : tM X.K (reD X.K) W (mFrz ms) σ H Q) : tM X.K (reN X.K) W ms σ H Q := by
  obtain ⟨ρ, τ, st, r0, en, o⟩ := h
  exact tM.bind r0 en o fun ds st1 ρ1 H1 v e1 r1 en1 q o1 => by
    obtain ⟨a, vs, rfl, h0, ha, rh, rv⟩ := q
    refine o1.here r1 ?_
    simp only [reD, RelD]
    refine ⟨a, vs, rfl, .inl ⟨.inl ha, fun i hi z => rh.sep i hi (.inr z), fun z => ?_⟩, RelDs.show' ds rv⟩
    have z' : ρ.hid a := by rw [← e1.hid]; exact z
    exact r0.nh_none h0 z'
theorem ev_frz (h : EvF X W e ms) : EvE X W e (mFrz ms) := PE.imp h fun σ H Q q => tM.frz q
mutual
theorem RelD.told {K : PySem.W.Frag} {ρ : Mp} {n : Nat} {H : Hp} {p : Addr} : ∀ (d : D) {v : V}, RelD K (ρ.hide p) n H d v → RelD K (put ρ n p) (n + 1) H d v
  | .non, v, h => by simpa only [RelD] using h
  | .bl b, v, h => by simpa only [RelD] using h
  | .int b, v, h => by simpa only [RelD] using h
  | .str b, v, h => by simpa only [RelD] using h
  | .ty b, v, h => by simpa only [RelD] using h
  | .fn b, v, h => by simpa only [RelD] using h
  | .tup xs, v, h => by
    simp only [RelD] at h ⊢
    obtain ⟨a, vs, rfl, s, q⟩ := h
    exact ⟨a, vs, rfl, s, RelDs.told xs q⟩
  | .lst xs, v, h => by
    simp only [RelD] at h ⊢
    obtain ⟨a, vs, rfl, s, q⟩ := h
    refine ⟨a, vs, rfl, ?_, RelDs.told xs q⟩
    rcases s with ⟨h, ni, nh⟩ | h
    · refine .inl ⟨h, fun i hi z => ?_, fun z => nh (.inl z)⟩
      by_cases e : i = n
      · rw [e, put_at] at z; exact nh (.inr z.symm)
      · rw [put_ne e] at z; exact ni i (by omega) z
    · exact .inr h
  | .loc i, v, h => by
    simp only [RelD] at h ⊢
    rw [put_ne (Nat.ne_of_lt h.2)]
    exact ⟨h.1, Nat.lt_succ_of_lt h.2⟩
theorem RelDs.told {K : PySem.W.Frag} {ρ : Mp} {n : Nat} {H : Hp} {p : Addr} : ∀ (ds : List D) {vs : List V}, RelDs K (ρ.hide p) n H ds vs → RelDs K (put ρ n p) (n + 1) H ds vs
  | [], vs, h => by simpa only [RelDs] using h
  | d :: ds, vs, h => by
    simp only [RelDs] at h ⊢
    obtain ⟨v, w, rfl, h1, h2⟩ := h
    exact ⟨v, w, rfl, RelD.told d h1, RelDs.told ds h2⟩
end
theorem R.told {K : PySem.W.Frag} {ρ : Mp} {st : Store} {H : Hp} {p : Addr} {ds : List D} {vs : List V} (r : R K (ρ.hide p) st H) (np : ¬ ρ.hid p) (hp : H p = some (.lst vs)) (rv : RelDs K (ρ.hide p) st.length H ds vs) : R K (put ρ st.length p) (st ++ [.lst ds]) H := by
  have sep : ∀ i, i < st.length → ρ.at' i ≠ p := fun i hi z => r.sep i hi (.inr z)
  refine ⟨fun i x h => ?_, fun i j hi hj e => ?_, fun a h => r.hid a (.inl h), fun i hi => ?_⟩
  · rw [List.length_append, List.length_singleton]
    by_cases hi : i < st.length
    · rw [List.getElem?_append_left hi] at h
      rw [put_ne (Nat.ne_of_lt hi)]
      have q := r.obj i x h
      revert q
      cases x with
      | lst ds => rintro ⟨vs, h, q⟩; exact ⟨vs, h, RelDs.told ds q⟩
      | dk ds => rintro ⟨vs, h, q⟩; exact ⟨vs, h, Paired.monoP q fun p q z => ⟨z.1, RelD.told _ z.2⟩⟩
      | dt ds => rintro ⟨w, vs, hw, h, q⟩; exact ⟨w, vs, hw, h, Paired.monoP q fun p q z => ⟨z.1, ⟨RelD.told _ z.2.1.1, z.2.1.2⟩, RelD.told _ z.2.2⟩⟩
    · have hl : i = st.length := by
        have := (List.getElem?_eq_some_iff.mp h).1
        simp at this; omega
      subst hl
      simp at h; subst h
      rw [put_at]; exact ⟨vs, hp, RelDs.told ds rv⟩
  · rw [List.length_append, List.length_singleton] at hi hj
    by_cases h1 : i = st.length
    · by_cases h2 : j = st.length
      · rw [h1, h2]
      · rw [h1, put_at, put_ne h2] at e
        exact absurd e.symm (sep j (by omega))
    · by_cases h2 : j = st.length
      · rw [h2, put_at, put_ne h1] at e
        exact absurd e (sep i (by omega))
      · rw [put_ne h1, put_ne h2] at e
        exact r.inj i j (by omega) (by omega) e
  · rw [List.length_append, List.length_singleton] at hi
    by_cases h1 : i = st.length
    · rw [h1, put_at]; exact np
    · rw [put_ne h1]; exact fun z => r.sep i (by omega) (.inl z)
/-- a new list, laid into the store -/
theorem tM.new {σ : St} {H : Hp} {Q : VK} (h : tM X.K (reD X.K) W (mNew ms) σ H Q) : tM X.K (reN X.K) W ms σ H Q := by
  obtain ⟨ρ, τ, st, r0, en, o⟩ := h
  refine ⟨ρ, τ, st, r0, en, ?_⟩
  cases q : ms τ st with
  | no => simp only [mNew, q] at o; exact o
  | er x s => simp only [mNew, q] at o; exact o
  | ok ds st1 =>
    simp only [mNew, q] at o
    rintro ρ1 H1 v e1 r1 ⟨a, vs, rfl, h0, ha, rh, rv⟩
    have np : ¬ ρ1.hid a := by rw [e1.hid]; exact r0.nh_none h0
    refine o (put ρ1 st1.length a) H1 (.ref a) ?_ (rh.told np ha rv) ?_
    · rw [List.length_append, List.length_singleton]
      refine ⟨Nat.le_succ_of_le e1.le, fun i hi => (put_ne (by have := e1.le; omega)).trans (e1.old i hi), fun i h1 h2 => ?_, e1.keep, e1.hid⟩
      by_cases e : i = st1.length
      · rw [e, put_at]; exact h0
      · rw [put_ne e]; exact e1.new i h1 (by omega)
    · simp only [reD, RelD, put_at, List.length_append, List.length_singleton]
      exact ⟨trivial, Nat.lt_succ_self _⟩
theorem ev_new (h : EvF X W e ms) : EvE X W e (mNew ms) := PE.imp h fun σ H Q q => tM.new q
end
end Fx

set_option Elab.async false
set_option linter.all false
set_option maxRecDepth 100000
set_option maxHeartbeats 4000000
namespace Fx
open PySem L2
variable [Md]
variable [Mw]

/-! ### statements -/
def OutS (K : PySem.W.Frag) (W : WX) (ρ : Mp) (n : Nat) (H : Hp) (D : Ends) : Rt → Prop
  | .no => False
  | .nx τ' st' => ∀ ρ' H' σ', Ext ρ n H ρ' st'.length H' → R K ρ' st' H' → EnvR K ρ' st'.length H' τ' σ' → D.nx σ' H'
  | .rt d st' => ∀ ρ' H' v, Ext ρ n H ρ' st'.length H' → R K ρ' st' H' → RelD K ρ' st'.length H' d v → D.rt v H'
  | .bk τ' st' => ∀ ρ' H' σ', Ext ρ n H ρ' st'.length H' → R K ρ' st' H' → EnvR K ρ' st'.length H' τ' σ' → D.bk σ' H'
  | .ct τ' st' => ∀ ρ' H' σ', Ext ρ n H ρ' st'.length H' → R K ρ' st' H' → EnvR K ρ' st'.length H' τ' σ' → D.ct σ' H'
  | .er x τ' st' => ∀ ρ' H' σ' cls dd, Ext ρ n H ρ' st'.length H' → R K ρ' st' H' → EnvR K ρ' st'.length H' τ' σ' → ExR K ρ' st'.length H' x cls dd → W cls dd σ' H'
def tSt (K : PySem.W.Frag) (W : WX) (m : SS) : TS := fun D σ H =>
  ∃ (ρ : Mp) (τ : En) (st : Store), R K ρ st H ∧ EnvR K ρ st.length H τ σ ∧ OutS K W ρ st.length H D (m τ st)
abbrev EvS (X : Cx) (W : WX) (s : Stmt) (m : SS) : Prop := PS X s (tSt X.K W m)
abbrev EvSs (X : Cx) (W : WX) (ss : List Stmt) (m : SS) : Prop := PSs X ss (tSt X.K W m)

/-- an expression's result, in a statement -/
def Rs.go {α : Type} (r : Rs α) (τ : En) (k : α → Store → Rt) : Rt := match r with
  | .no => .no
  | .ok a st => k a st
  | .er x st => .er x τ st
@[simp] theorem Rs.go_no {α : Type} (τ : En) (k : α → Store → Rt) : (Rs.no : Rs α).go τ k = .no := rfl
@[simp] theorem Rs.go_ok {α : Type} (a : α) (st : Store) (τ : En) (k : α → Store → Rt) : (Rs.ok a st).go τ k = k a st := rfl
@[simp] theorem Rs.go_er {α : Type} (x : Ex) (st : Store) (τ : En) (k : α → Store → Rt) : (Rs.er x st : Rs α).go τ k = .er x τ st := rfl
/-- a statement, then the rest -/
def Rt.seq (r : Rt) (k : En → Store → Rt) : Rt := match r with
  | .nx τ st => k τ st
  | r => r
@[simp] theorem Rt.seq_no (k : En → Store → Rt) : Rt.no.seq k = .no := rfl
@[simp] theorem Rt.seq_nx (τ : En) (st : Store) (k : En → Store → Rt) : (Rt.nx τ st).seq k = k τ st := rfl
@[simp] theorem Rt.seq_rt (d : D) (st : Store) (k : En → Store → Rt) : (Rt.rt d st).seq k = .rt d st := rfl
@[simp] theorem Rt.seq_bk (τ : En) (st : Store) (k : En → Store → Rt) : (Rt.bk τ st).seq k = .bk τ st := rfl
@[simp] theorem Rt.seq_ct (τ : En) (st : Store) (k : En → Store → Rt) : (Rt.ct τ st).seq k = .ct τ st := rfl
@[simp] theorem Rt.seq_er (x : Ex) (τ : En) (st : Store) (k : En → Store → Rt) : (Rt.er x τ st).seq k = .er x τ st := rfl

/-- what a loop's body does, for the loop -/
def Rt.loop (r : Rt) (k : En → Store → Rt) : Rt := match r with
  | .nx τ st => k τ st
  | .ct τ st => k τ st
  | .bk τ st => .nx τ st
  | r => r
@[simp] theorem Rt.loop_no (k : En → Store → Rt) : Rt.no.loop k = .no := rfl
@[simp] theorem Rt.loop_nx (τ : En) (st : Store) (k : En → Store → Rt) : (Rt.nx τ st).loop k = k τ st := rfl
@[simp] theorem Rt.loop_rt (d : D) (st : Store) (k : En → Store → Rt) : (Rt.rt d st).loop k = .rt d st := rfl
@[simp] theorem Rt.loop_bk (τ : En) (st : Store) (k : En → Store → Rt) : (Rt.bk τ st).loop k = .nx τ st := rfl
@[simp] theorem Rt.loop_ct (τ : En) (st : Store) (k : En → Store → Rt) : (Rt.ct τ st).loop k = k τ st := rfl
@[simp] theorem Rt.loop_er (x : Ex) (τ : En) (st : Store) (k : En → Store → Rt) : (Rt.er x τ st).loop k = .er x τ st := rfl
section
variable {α β : Type} {K : PySem.W.Frag} {ρ ρ' ρ1 : Mp} {st st' st1 : Store} {H H' H1 : Hp} {n n' : Nat} {τ : En} {σ : St} {W : WX} {Ra : Rl α β} [RlOk K Ra] {D : Ends}
theorem OutS.shift {r : Rt} (h : OutS K W ρ st.length H D r) (r0 : R K ρ st H) (e : Ext ρ st.length H ρ1 st1.length H1) (r1 : R K ρ1 st1 H1) : OutS K W ρ1 st1.length H1 D r := by
  cases r with
  | no => exact h
  | nx a b => exact fun ρ' H' v e' r' q => h ρ' H' v (e.trans r0 r1 e') r' q
  | rt a b => exact fun ρ' H' v e' r' q => h ρ' H' v (e.trans r0 r1 e') r' q
  | bk a b => exact fun ρ' H' v e' r' q => h ρ' H' v (e.trans r0 r1 e') r' q
  | ct a b => exact fun ρ' H' v e' r' q => h ρ' H' v (e.trans r0 r1 e') r' q
  | er x a b => exact fun ρ' H' σ' c dd e' r' q z => h ρ' H' σ' c dd (e.trans r0 r1 e') r' q z
theorem OutS.go {r : Rs α} {k : α → Store → Rt} {Q1 : β → Hp → Prop} (r0 : R K ρ st H) (en : EnvR K ρ st.length H τ σ) (h : OutS K W ρ st.length H D (r.go τ k))
    (hk : ∀ d st1 ρ1 H1 v, Ext ρ st.length H ρ1 st1.length H1 → R K ρ1 st1 H1 → EnvR K ρ1 st1.length H1 τ σ → Ra H ρ1 st1 H1 d v → OutS K W ρ1 st1.length H1 D (k d st1) → Q1 v H1) : Out K Ra W σ ρ st.length H Q1 r := by
  cases r with
  | no => exact h
  | ok d st1 => exact fun ρ1 H1 v e1 r1 q => hk d st1 ρ1 H1 v e1 r1 (en.mono e1 r0) q (OutS.shift h r0 e1 r1)
  | er x st1 => exact fun ρ1 H1 c dd e1 r1 q => h ρ1 H1 σ c dd e1 r1 (en.mono e1 r0) q
theorem tM.goS {m : En → Store → Rs α} {k : α → Store → Rt} {Q1 : β → Hp → Prop} (r0 : R K ρ st H) (en : EnvR K ρ st.length H τ σ) (h : OutS K W ρ st.length H D ((m τ st).go τ k))
    (hk : ∀ d st1 ρ1 H1 v, Ext ρ st.length H ρ1 st1.length H1 → R K ρ1 st1 H1 → EnvR K ρ1 st1.length H1 τ σ → Ra H ρ1 st1 H1 d v → OutS K W ρ1 st1.length H1 D (k d st1) → Q1 v H1) : tM K Ra W m σ H Q1 :=
  ⟨ρ, τ, st, r0, en, OutS.go r0 en h hk⟩
theorem OutS.next {D : Ends} {τ' : En} {σ' : St} (r0 : R K ρ st H) (h : OutS K W ρ st.length H D (.nx τ' st)) (en : EnvR K ρ st.length H τ' σ') : D.nx σ' H := h ρ H σ' .refl r0 en
end

section
variable {X : Cx} {W : WX} {e a b c : Expr} {es : List Expr} {s : Stmt} {ss bs : List Stmt} {m ma mb mc : SE} {t : SB} {u v w : SS} {pos : Pos}
def sSkip : SS := fun τ st => .nx τ st
def sSeq (u v : SS) : SS := fun τ st => (u τ st).seq v
def sExpr (m : SE) : SS := fun τ st => (m τ st).go τ fun _ st1 => .nx τ st1
def sRet (m : SE) : SS := fun τ st => (m τ st).go τ fun d st1 => .rt d st1
def sRetN : SS := fun _ st => .rt .non st
def sIf (t : SB) (u v : SS) : SS := fun τ st => (t τ st).go τ fun c st1 => if c = true then u τ st1 else v τ st1
def sSet (i : Nat) (m : SE) : SS := fun τ st => (m τ st).go τ fun d st1 => .nx (τ.set i (some d)) st1
def sBrk : SS := fun τ st => .bk τ st
def sCnt : SS := fun τ st => .ct τ st
def sNo : SS := fun _ _ => .no
theorem es_nil : EvSs X W [] sSkip := PSs.imp pss_nil fun D σ H ⟨ρ, τ, st, r0, en, o⟩ => o.next r0 en
theorem es_pass : EvS X W (.Pass pos) sSkip := PS.imp ps_pass fun D σ H ⟨ρ, τ, st, r0, en, o⟩ => o.next r0 en
theorem es_brk : EvS X W (.Break pos) sBrk := PS.imp ps_break fun D σ H ⟨ρ, τ, st, r0, en, o⟩ => o ρ H σ .refl r0 en
theorem es_cnt : EvS X W (.Continue pos) sCnt := PS.imp ps_continue fun D σ H ⟨ρ, τ, st, r0, en, o⟩ => o ρ H σ .refl r0 en
theorem es_no : EvS X W s sNo := PS.imp ps_never fun D σ H ⟨ρ, τ, st, r0, en, o⟩ => o
theorem es_one (h : EvS X W s u) : EvSs X W [s] u := pss_one h
theorem es_cons (h : EvS X W s u) (h2 : EvSs X W ss v) : EvSs X W (s :: ss) (sSeq u v) := PSs.imp (pss_cons h h2) fun D σ H ⟨ρ, τ, st, r0, en, o⟩ => by
  refine ⟨ρ, τ, st, r0, en, ?_⟩
  unfold sSeq at o
  cases q : u τ st with
  | no => rw [q] at o; exact o
  | nx a b => rw [q] at o; exact fun ρ' H' σ' e r en' => ⟨ρ', a, b, r, en', OutS.shift o r0 e r⟩
  | rt a b => rw [q] at o; exact o
  | bk a b => rw [q] at o; exact o
  | ct a b => rw [q] at o; exact o
  | er x a b => rw [q] at o; exact o
theorem es_expr (h : EvE X W e m) (hs : swapsWith e none pos.line X.env = pure false := by rfl) : EvS X W (.Expr e pos) (sExpr m) := PS.imp (ps_expr h hs) fun D σ H ⟨ρ, τ, st, r0, en, o⟩ =>
  tM.goS r0 en o fun d st1 ρ1 H1 v e1 r1 en1 q o1 => o1.next r1 en1
theorem es_ret (h : EvE X W e m) : EvS X W (.Return (some e) pos) (sRet m) := PS.imp (ps_ret h) fun D σ H ⟨ρ, τ, st, r0, en, o⟩ =>
  tM.goS r0 en o fun d st1 ρ1 H1 v e1 r1 en1 q o1 => o1 ρ1 H1 v .refl r1 q
theorem es_retN : EvS X W (.Return none pos) sRetN := PS.imp ps_retN fun D σ H ⟨ρ, τ, st, r0, en, o⟩ => o ρ H .non .refl r0 (by simp [RelD])
theorem es_if (h : EvB X W c t) (ha : EvSs X W ss u) (hb : EvSs X W bs v) : EvS X W (.If c ss bs pos) (sIf t u v) := PS.imp (ps_if h ha hb) fun D σ H ⟨ρ, τ, st, r0, en, o⟩ =>
  tM.goS r0 en o fun k st1 ρ1 H1 k' e1 r1 en1 q o1 => by
    cases (show k = k' from q)
    cases k with
    | true => exact ⟨ρ1, τ, st1, r1, en1, o1⟩
    | false => exact ⟨ρ1, τ, st1, r1, en1, o1⟩
theorem es_set (i : Nat) {x : Str} {pos' : Pos} (hN : X.N.Nodup) (he : EvE X W e m) (hi : X.N[i]? = some x := by rfl) (hx : Loc X.env.scope x := by first | exact Or.inl rfl | exact Or.inr rfl) (hs : swapsWith e (some (.Name x pos')) pos.line X.env = pure false := by rfl)
    (hf : X.fn x = true ∨ X.env.scope.names.lookup x = some .local := by first | exact .inl rfl | exact .inr rfl | assumption) : EvS X W (.Assign [.Name x pos'] e pos) (sSet i m) :=
  PS.imp (ps_set hN hi hx he hs hf) fun D σ H ⟨ρ, τ, st, r0, en, o⟩ => tM.goS r0 en o fun d st1 ρ1 H1 v e1 r1 en1 q o1 => o1.next r1 (en1.set q i)

/-! ### targets of names -/
abbrev SG := D → En → Option En
def tG (K : PySem.W.Frag) (vs : List Nat) (g : SG) : TG := fun v σ H Q => ∃ (ρ : Mp) (τ : En) (st : Store) (d : D), R K ρ st H ∧ EnvR K ρ st.length H τ σ ∧ RelD K ρ st.length H d v ∧
  match g d τ with
  | none => False
  | some τ' => ∀ σ', EnvR K ρ st.length H τ' σ' → wipe σ' vs = wipe σ vs → Q σ' H
def tGs (K : PySem.W.Frag) (vs : List Nat) (g : List D → En → Option En) : TGs := fun us σ H Q => ∃ (ρ : Mp) (τ : En) (st : Store) (ds : List D), R K ρ st H ∧ EnvR K ρ st.length H τ σ ∧ RelDs K ρ st.length H ds us ∧
  match g ds τ with
  | none => False
  | some τ' => ∀ σ', EnvR K ρ st.length H τ' σ' → wipe σ' vs = wipe σ vs → Q σ' H
abbrev EvG (X : Cx) (vs : List Nat) (tg : Expr) (g : SG) : Prop := PG X tg (tG X.K vs g)
abbrev EvGs (X : Cx) (vs : List Nat) (tgs : List Expr) (g : List D → En → Option En) : Prop := PGs X tgs (tGs X.K vs g)
theorem PG.imp {X : Cx} {e : Expr} {t t' : TG} (h : PG X e t) (hi : ∀ v σ H Q, t' v σ H Q → t v σ H Q) : PG X e t' := ⟨fun pins s σ H v u Q I r q => h.run pins s σ H v u Q I r (hi _ _ _ _ q)⟩
theorem PGs.imp {X : Cx} {e : List Expr} {t t' : TGs} (h : PGs X e t) (hi : ∀ v σ H Q, t' v σ H Q → t v σ H Q) : PGs X e t' := ⟨fun pins s σ H v u Q I r q => h.run pins s σ H v u Q I r (hi _ _ _ _ q)⟩
theorem wipe_get {σ : St} {j : Nat} : ∀ {vs : List Nat}, (wipe σ vs)[j]? = if j ∈ vs then (σ[j]?).map (fun _ => none) else σ[j]?
  | [] => by simp [wipe]
  | v :: vs => by
    show ((wipe σ vs).set v none)[j]? = _
    rw [List.getElem?_set]
    by_cases hj : v = j
    · subst hj
      rw [if_pos rfl, if_pos List.mem_cons_self, wipe_length]
      split
      · rw [List.getElem?_eq_getElem (by assumption)]; rfl
      · rw [List.getElem?_eq_none (by omega)]; rfl
    · rw [if_neg hj, wipe_get]
      have : (j ∈ v :: vs) = (j ∈ vs) := by simp [Ne.symm hj]
      simp only [this]
theorem wipe_set {σ : St} {i : Nat} {x : Option V} {vs : List Nat} (h : i ∈ vs) : wipe (σ.set i x) vs = wipe σ vs := by
  refine List.ext_getElem? fun j => ?_
  rw [wipe_get, wipe_get, List.getElem?_set]
  by_cases hj : j ∈ vs
  · rw [if_pos hj, if_pos hj]
    split
    · subst i
      split
      · rw [List.getElem?_eq_getElem (by assumption)]; rfl
      · rw [List.getElem?_eq_none (by omega)]
    · rfl
  · rw [if_neg hj, if_neg hj, if_neg (show ¬ i = j from fun z => hj (z ▸ h))]
theorem wipe_wipe {σ : St} {vs : List Nat} : wipe (wipe σ vs) vs = wipe σ vs := by
  refine List.ext_getElem? fun j => ?_
  rw [wipe_get]
  by_cases hj : j ∈ vs
  · rw [if_pos hj, wipe_get, if_pos hj]
    cases σ[j]? <;> rfl
  · rw [if_neg hj]
def gN (i : Nat) : SG := fun d τ => some (τ.set i (some d))
theorem eg_name {vs : List Nat} (i : Nat) {x : Str} (hN : X.N.Nodup) (hv : i ∈ vs := by decide) (hi : X.N[i]? = some x := by rfl) (hx : Loc X.env.scope x := by first | exact Or.inl rfl | exact Or.inr rfl) (hf : X.fn x = true ∨ X.env.scope.names.lookup x = some .local := by first | exact .inl rfl | exact .inr rfl | assumption) :
    EvG X vs (.Name x pos) (gN i) := PG.imp (pg_name hN hi hx hf) fun v σ H Q ⟨ρ, τ, st, d, r, en, rd, q⟩ => q _ (en.set rd i) (wipe_set hv)
def gsNil : List D → En → Option En := fun ds τ => match ds with
  | [] => some τ
  | _ => none
def gsCons (g : SG) (gs : List D → En → Option En) : List D → En → Option En := fun ds τ => match ds with
  | d :: r => (g d τ).bind (gs r)
  | [] => none
theorem egs_nil {vs : List Nat} : EvGs X vs [] gsNil := PGs.imp pgs_nil fun us σ H Q ⟨ρ, τ, st, ds, r, en, rd, q⟩ => by
  cases ds with
  | nil => exact ⟨rd.nil_eq, q σ en rfl⟩
  | cons d r => exact q.elim
theorem egs_cons {vs : List Nat} {g : SG} {gs : List D → En → Option En} (h : EvG X vs e g) (h2 : EvGs X vs es gs) (hs : (assignEach (e :: es) X.env).map (·.2) = assign e X.env :: (assignEach es X.env).map (·.2) := by rfl) : EvGs X vs (e :: es) (gsCons g gs) :=
  PGs.imp (pgs_cons h h2 hs) fun us σ H Q ⟨ρ, τ, st, ds, r, en, rd, q⟩ => by
    cases ds with
    | nil => exact q.elim
    | cons d ds =>
      obtain ⟨v, w, rfl, r1, r2⟩ := rd.cases
      refine ⟨v, w, rfl, ρ, τ, st, d, r, en, r1, ?_⟩
      simp only [gsCons] at q
      cases e1 : g d τ with
      | none => rw [e1] at q; exact q
      | some τ1 =>
        rw [e1] at q
        simp only [Option.bind_some] at q
        intro σ1 en1 w1
        refine ⟨ρ, τ1, st, ds, r, en1, r2, ?_⟩
        cases e2 : gs ds τ1 with
        | none => rw [e2] at q; exact q
        | some τ2 =>
          rw [e2] at q
          exact fun σ2 en2 w2 => q σ2 en2 (w2.trans w1)
def gT (gs : List D → En → Option En) : SG := fun d τ => match d with
  | .tup ds => gs ds τ
  | _ => none
def LenG (gs : List D → En → Option En) (k : Nat) : Prop := ∀ ds τ τ', gs ds τ = some τ' → ds.length = k
theorem lenG_nil : LenG gsNil 0 := fun ds τ τ' h => by cases ds with
  | nil => rfl
  | cons d r => exact absurd h (by simp [gsNil])
theorem lenG_cons {g : SG} {gs : List D → En → Option En} {k : Nat} (h : LenG gs k) : LenG (gsCons g gs) (k + 1) := fun ds τ τ' q => by
  cases ds with
  | nil => exact absurd q (by simp [gsCons])
  | cons d r =>
    simp only [gsCons] at q
    cases e : g d τ with
    | none => rw [e] at q; exact absurd q (by simp)
    | some τ1 => rw [e] at q; simp only [Option.bind_some] at q; simp [h _ _ _ q]
theorem eg_tup {vs : List Nat} {k n : Nat} {gs : List D → En → Option En} (hc : X.calm = true) (h : EvGs X vs es gs) (hl : LenG gs n) (hn : (assignEach es X.env).length = n := by rfl) (hst : (assignEach es X.env).findIdx? (·.1) = none := by rfl) :
    EvG X vs (.Tuple es k pos) (gT gs) := PG.imp (pg_tup hc h hn hst) fun v σ H Q ⟨ρ, τ, st, d, r, en, rd, q⟩ => by
  cases d with
  | tup ds =>
    simp only [RelD] at rd
    obtain ⟨a, us, rfl, hs, rs⟩ := rd
    refine ⟨a, us, rfl, hs.sq, ?_, ρ, τ, st, ds, r, en, rs, q⟩
    rw [rs.len]
    simp only [gT] at q
    cases e : gs ds τ with
    | none => rw [e] at q; exact q.elim
    | some τ' => exact hl _ _ _ e
  | _ => exact q.elim
/-- x, y = e -/
def sAsg (g : SG) (m : SE) : SS := fun τ st => (m τ st).go τ fun d st1 => match g d τ with
  | some τ' => .nx τ' st1
  | none => .no
theorem es_asg {tg : Expr} {vs : List Nat} {g : SG} (he : EvE X W e m) (hg : EvG X vs tg g) (hs : swapsWithSole [tg] e pos.line X.env = pure false := by rfl) (hw : swappedStores [tg] e X.env = pure none := by rfl)
    (h1 : (assignEach [tg] X.env).map (·.2) = [assign tg X.env] := by rfl) : EvS X W (.Assign [tg] e pos) (sAsg g m) :=
  PS.imp (ps_asg he hg hs hw h1) fun D σ H ⟨ρ, τ, st, r0, en, o⟩ => tM.goS r0 en o fun d st1 ρ1 H1 v e1 r1 en1 q o1 => by
    refine ⟨ρ1, τ, st1, d, r1, en1, q, ?_⟩
    cases e2 : g d τ with
    | none => rw [e2] at o1; exact o1
    | some τ' => rw [e2] at o1; exact fun σ' en' _ => o1.next r1 en'
/-- x, y = a, b -/
def sPar (i j : Nat) (ma mb : SE) : SS := fun τ st => (ma τ st).go τ fun d st1 => (mb τ st1).go τ fun d2 st2 => .nx ((τ.set i (some d)).set j (some d2)) st2
theorem es_par (i j : Nat) {x y : Str} {px py pt : Pos} {kt k2 pt2} (hc : X.calm = true) (hN : X.N.Nodup) (ha : EvE X W a ma) (hb : EvE X W b mb) (hi : X.N[i]? = some x := by rfl) (hj : X.N[j]? = some y := by rfl) (hij : i ≠ j := by decide)
    (hx : X.env.scope.names.lookup x = some .local := by rfl) (hy : X.env.scope.names.lookup y = some .local := by rfl)
    (hw : swappedStores [.Tuple [.Name x px, .Name y py] kt pt] (.Tuple [a, b] k2 pt2) X.env = pure (some [x, y]) := by rfl)
    (hs : swapsWithSole [.Tuple [.Name x px, .Name y py] kt pt] (.Tuple [a, b] k2 pt2) pos.line X.env = pure false := by rfl)
    (s1 : starEach (a :: [b]) X.env = (false, eval a X.env) :: starEach [b] X.env := by rfl) (s2 : starEach (b :: []) X.env = (false, eval b X.env) :: starEach [] X.env := by rfl) :
    EvS X W (.Assign [.Tuple [.Name x px, .Name y py] kt pt] (.Tuple [a, b] k2 pt2) pos) (sPar i j ma mb) :=
  PS.imp (ps_par hc hN hi hj hij hx hy (pa_cons ha (pa_cons hb pa_nil s2) s1) hw hs) fun D σ H ⟨ρ, τ, st, r0, en, o⟩ => tM.goS r0 en o fun d st1 ρ1 H1 v e1 r1 en1 q o1 =>
    tM.goS r1 en1 o1 fun d2 st2 ρ2 H2 v2 e2 r2 en2 q2 o2 => ⟨v, v2, rfl, o2.next r2 ((en2.set (q.mono e2 r1) i).set q2 j)⟩
def sPar3 (i j l : Nat) (ma mb mc : SE) : SS := fun τ st => (ma τ st).go τ fun d st1 => (mb τ st1).go τ fun d2 st2 => (mc τ st2).go τ fun d3 st3 => .nx (((τ.set i (some d)).set j (some d2)).set l (some d3)) st3
theorem es_par3 (i j l : Nat) {x y z : Str} {px py pz pt : Pos} {kt k2 pt2} (hc : X.calm = true) (hN : X.N.Nodup) (ha : EvE X W a ma) (hb : EvE X W b mb) (hcc : EvE X W c mc) (hi : X.N[i]? = some x := by rfl) (hj : X.N[j]? = some y := by rfl) (hl : X.N[l]? = some z := by rfl)
    (hij : i ≠ j := by decide) (hil : i ≠ l := by decide) (hjl : j ≠ l := by decide)
    (hx : X.env.scope.names.lookup x = some .local := by rfl) (hy : X.env.scope.names.lookup y = some .local := by rfl) (hz : X.env.scope.names.lookup z = some .local := by rfl)
    (hw : swappedStores [.Tuple [.Name x px, .Name y py, .Name z pz] kt pt] (.Tuple [a, b, c] k2 pt2) X.env = pure (some [x, y, z]) := by rfl)
    (hs : swapsWithSole [.Tuple [.Name x px, .Name y py, .Name z pz] kt pt] (.Tuple [a, b, c] k2 pt2) pos.line X.env = pure false := by rfl)
    (s1 : starEach (a :: [b, c]) X.env = (false, eval a X.env) :: starEach [b, c] X.env := by rfl) (s2 : starEach (b :: [c]) X.env = (false, eval b X.env) :: starEach [c] X.env := by rfl) (s3 : starEach (c :: []) X.env = (false, eval c X.env) :: starEach [] X.env := by rfl) :
    EvS X W (.Assign [.Tuple [.Name x px, .Name y py, .Name z pz] kt pt] (.Tuple [a, b, c] k2 pt2) pos) (sPar3 i j l ma mb mc) :=
  PS.imp (ps_par3 hc hN hi hj hl hij hil hjl hx hy hz (pa_cons ha (pa_cons hb (pa_cons hcc pa_nil s3) s2) s1) hw hs) fun D σ H ⟨ρ, τ, st, r0, en, o⟩ => tM.goS r0 en o fun d st1 ρ1 H1 v e1 r1 en1 q o1 =>
    tM.goS r1 en1 o1 fun d2 st2 ρ2 H2 v2 e2 r2 en2 q2 o2 => tM.goS r2 en2 o2 fun d3 st3 ρ3 H3 v3 e3 r3 en3 q3 o3 =>
      ⟨v, v2, v3, rfl, o3.next r3 (((en3.set ((q.mono e2 r1).mono e3 r2) i).set (q2.mono e3 r2) j).set q3 l)⟩

/-! ### while -/
def whileN (t : SB) (b : SS) : Nat → SS
  | 0 => fun _ _ => .no
  | k + 1 => fun τ st => (t τ st).go τ fun c st1 => if c = true then (b τ st1).loop (whileN t b k) else .nx τ st1
theorem whileN_succ {t : SB} {b : SS} {r : Rt} (hr : r ≠ .no) : ∀ {k : Nat} {τ : En} {st : Store}, whileN t b k τ st = r → whileN t b (k + 1) τ st = r
  | 0, τ, st, h => absurd h (fun z => hr z.symm)
  | k + 1, τ, st, h => by
    have h' : ((t τ st).go τ fun c st1 => if c = true then (b τ st1).loop (whileN t b k) else .nx τ st1) = r := h
    show ((t τ st).go τ fun c st1 => if c = true then (b τ st1).loop (whileN t b (k + 1)) else .nx τ st1) = r
    cases e : t τ st with
    | no => rw [e] at h'; exact h'
    | er x s => rw [e] at h'; exact h'
    | ok c st1 =>
      rw [e] at h'
      simp only [Rs.go_ok] at h' ⊢
      cases c with
      | false => exact h'
      | true =>
        simp only [if_true] at h' ⊢
        cases e2 : b τ st1 with
        | nx a s => rw [e2] at h'; exact whileN_succ hr (k := k) h'
        | ct a s => rw [e2] at h'; exact whileN_succ hr (k := k) h'
        | no => rw [e2] at h'; exact h'
        | bk a s => rw [e2] at h'; exact h'
        | rt a s => rw [e2] at h'; exact h'
        | er x a s => rw [e2] at h'; exact h'
theorem whileN_le {t : SB} {b : SS} {r : Rt} (hr : r ≠ .no) {k j : Nat} (h : k ≤ j) {τ : En} {st : Store} (e : whileN t b k τ st = r) : whileN t b j τ st = r := by
  induction h with
  | refl => exact e
  | step _ ih => exact whileN_succ hr ih
open Classical in
noncomputable def sWhile (t : SB) (b : SS) : SS := fun τ st => if h : ∃ k, whileN t b k τ st ≠ .no then whileN t b h.choose τ st else .no
theorem sWhile_of {t : SB} {b : SS} {r : Rt} {k : Nat} {τ : En} {st : Store} (hr : r ≠ .no) (e : whileN t b k τ st = r) : sWhile t b τ st = r := by
  have h : ∃ k, whileN t b k τ st ≠ .no := ⟨k, by rw [e]; exact hr⟩
  unfold sWhile
  rw [dif_pos h]
  have h1 := h.choose_spec
  by_cases hk : k ≤ h.choose
  · exact whileN_le hr hk e
  · exact ((whileN_le h1 (Nat.le_of_lt (Nat.lt_of_not_le hk)) rfl).symm.trans e)
theorem sWhile_ex {t : SB} {b : SS} {τ : En} {st : Store} (h : sWhile t b τ st ≠ .no) : ∃ k, whileN t b k τ st = sWhile t b τ st := by
  unfold sWhile at h ⊢
  split
  · exact ⟨_, rfl⟩
  · rename_i hn; rw [dif_neg hn] at h; exact absurd rfl h
/-- one turn of a while -/
theorem sWhile_eq (t : SB) (b : SS) (τ : En) (st : Store) : sWhile t b τ st = (t τ st).go τ fun c st1 => if c = true then (b τ st1).loop (sWhile t b) else .nx τ st1 := by
  have key : ∀ {τ' : En} {st' : Store}, sWhile t b τ' st' ≠ .no → ∃ k, whileN t b k τ' st' = sWhile t b τ' st' := sWhile_ex
  by_cases hr : ((t τ st).go τ fun c st1 => if c = true then (b τ st1).loop (sWhile t b) else .nx τ st1) = .no
  · rw [hr]
    cases q : sWhile t b τ st with
    | no => rfl
    | _ =>
      exfalso
      obtain ⟨k, hk⟩ := key (τ' := τ) (st' := st) (by rw [q]; intro z; cases z)
      rw [q] at hk
      cases k with
      | zero => cases hk
      | succ k =>
        have hk' : ((t τ st).go τ fun c st1 => if c = true then (b τ st1).loop (whileN t b k) else .nx τ st1) = _ := hk
        cases e : t τ st with
        | no => rw [e] at hk'; cases hk'
        | er x s => rw [e] at hr; cases hr
        | ok c st1 =>
          rw [e] at hk' hr
          simp only [Rs.go_ok] at hk' hr
          cases c with
          | false => simp at hr
          | true =>
            simp only [if_true] at hk' hr
            cases e2 : b τ st1 with
            | nx a s => rw [e2] at hk' hr; simp only [Rt.loop_nx] at hk' hr; rw [sWhile_of (by intro z; cases z) hk'] at hr; cases hr
            | ct a s => rw [e2] at hk' hr; simp only [Rt.loop_ct] at hk' hr; rw [sWhile_of (by intro z; cases z) hk'] at hr; cases hr
            | no => rw [e2] at hk'; cases hk'
            | bk a s => rw [e2] at hr; cases hr
            | rt a s => rw [e2] at hr; cases hr
            | er x a s => rw [e2] at hr; cases hr
  · cases e : t τ st with
    | no => rw [e] at hr; exact absurd rfl hr
    | er x s => exact sWhile_of (k := 1) (by simp) (by simp [whileN, e])
    | ok c st1 =>
      rw [e] at hr
      simp only [Rs.go_ok] at hr ⊢
      cases c with
      | false => exact sWhile_of (k := 1) (by simp) (by simp [whileN, e])
      | true =>
        simp only [if_true] at hr ⊢
        cases e2 : b τ st1 with
        | nx a s =>
          rw [e2] at hr
          obtain ⟨k, hk⟩ := key hr
          exact sWhile_of (k := k + 1) hr (by simp only [whileN, e, Rs.go_ok, if_true, e2]; exact hk)
        | ct a s =>
          rw [e2] at hr
          obtain ⟨k, hk⟩ := key hr
          exact sWhile_of (k := k + 1) hr (by simp only [whileN, e, Rs.go_ok, if_true, e2]; exact hk)
        | no => rw [e2] at hr; exact absurd rfl hr
        | bk a s => exact sWhile_of (k := 1) (by simp) (by simp [whileN, e, e2])
        | rt a s => exact sWhile_of (k := 1) (by simp) (by simp [whileN, e, e2])
        | er x a s => exact sWhile_of (k := 1) (by simp) (by simp [whileN, e, e2])
theorem es_while (hp : PassesOwn (model X.prog X.w) X.A X.env X.xe) (hc : EvB X W c t) (hb : EvSs X W ss u) : EvS X W (.While c ss [] pos) (sWhile t u) := PS.imp (ps_while hp hc hb) fun D σ H ⟨ρ, τ, st, r0, en, o⟩ => by
  have hn : sWhile t u τ st ≠ .no := fun z => by rw [z] at o; exact o
  obtain ⟨k, hk⟩ := sWhile_ex hn
  rw [← hk] at o
  refine ⟨fun m σ H => ∃ ρ τ st, R X.K ρ st H ∧ EnvR X.K ρ st.length H τ σ ∧ OutS X.K W ρ st.length H D (whileN t u m τ st), ⟨k, ρ, τ, st, r0, en, o⟩, fun m σ H ⟨ρ, τ, st, r0, en, o⟩ => ?_⟩
  cases m with
  | zero => exact o.elim
  | succ m =>
    refine tM.goS (Ra := reB) r0 en o fun c st1 ρ1 H1 c' e1 r1 en1 q o1 => ?_
    cases (show c = c' from q)
    cases c with
    | false => exact o1.next r1 en1
    | true =>
      simp only [if_true] at o1 ⊢
      refine ⟨fun σ H => ∃ ρ τ st, R X.K ρ st H ∧ EnvR X.K ρ st.length H τ σ ∧ OutS X.K W ρ st.length H D (whileN t u m τ st), fun σ' H' h => ⟨m, Nat.lt_succ_self m, h⟩, ρ1, τ, st1, r1, en1, ?_⟩
      cases e2 : u τ st1 with
      | nx a s => rw [e2] at o1; exact fun ρ' H' σ' e' r' en' => ⟨ρ', a, s, r', en', OutS.shift o1 r1 e' r'⟩
      | ct a s => rw [e2] at o1; exact fun ρ' H' σ' e' r' en' => ⟨ρ', a, s, r', en', OutS.shift o1 r1 e' r'⟩
      | no => rw [e2] at o1; exact o1
      | bk a s => rw [e2] at o1; exact o1
      | rt a s => rw [e2] at o1; exact o1
      | er x a s => rw [e2] at o1; exact o1
end
end Fx

set_option Elab.async false
set_option linter.all false
set_option maxRecDepth 100000
set_option maxHeartbeats 4000000
namespace Fx
open PySem L2
variable [Md]
variable [Mw]

/-! ### what is walked -/
def ItR (K : PySem.W.Frag) (ρ : Mp) (st : Store) (H : Hp) (J : It) (ds : List D) : Prop :=
  ∀ (ρ2 : Mp) (st2 : Store) (H2 : Hp), ExtW ρ st.length H ρ2 st2.length H2 → R K ρ2 st2 H2 → ∀ i : Nat,
    (∀ d, ds[i]? = some d → J.go i H2 ∧ ∀ x H3, J.yld i H2 x H3 → Ext ρ2 st2.length H2 ρ2 st2.length H3 ∧ R K ρ2 st2 H3 ∧ RelD K ρ2 st2.length H3 d x) ∧
    (ds.length ≤ i → J.stop i H2)
abbrev reI (K : PySem.W.Frag) : Rl (List D) It := fun _ ρ st H ds J => ItR K ρ st H J ds
instance {K : PySem.W.Frag} : RlOk K (reI K) := ⟨fun _ _ h => h⟩
abbrev EvI (X : Cx) (W : WX) (tg iter : Expr) (m : SA) : Prop := PI X tg iter (tM X.K (reI X.K) W m)
theorem PI.imp {X : Cx} {tg e : Expr} {t t' : TI} (h : PI X tg e t) (hi : ∀ σ H Q, t' σ H Q → t σ H Q) : PI X tg e t' := ⟨fun pins s σ H Q I q => h.run pins s σ H Q I (hi _ _ _ q)⟩

section
variable {K : PySem.W.Frag} {ρ : Mp} {st : Store} {H : Hp} {ds : List D}
theorem itR_list {a : Addr} {vs : List V} (h : LstAt K H ρ st.length a vs) (rv : RelDs K ρ st.length H ds vs) (r : R K ρ st H) : ItR K ρ st H (Itl K a) ds := fun ρ2 st2 H2 e r2 i => by
  have h2 : SqL K H2 a vs := (e.lstAt h).sq
  refine ⟨fun d hd => ?_, fun hl => ⟨vs, h2, by rw [rv.len]; exact hl⟩⟩
  obtain ⟨v, hv, rd⟩ := rv.get hd
  refine ⟨⟨vs, v, h2, hv⟩, fun x H3 ⟨e3, q⟩ => ?_⟩
  subst e3
  have q' := q vs h2
  rw [hv] at q'; cases q'
  exact ⟨.refl, r2, RelD.monoW e r _ rd⟩
theorem itR_tup {a : Addr} {vs : List V} (h : SqT K H a vs) (rv : RelDs K ρ st.length H ds vs) (r : R K ρ st H) : ItR K ρ st H (Itt K a) ds := fun ρ2 st2 H2 e r2 i => by
  have h2 : SqT K H2 a vs := e.sqT r h
  refine ⟨fun d hd => ?_, fun hl => ⟨vs, h2, by rw [rv.len]; exact hl⟩⟩
  obtain ⟨v, hv, rd⟩ := rv.get hd
  refine ⟨⟨vs, v, h2, hv⟩, fun x H3 ⟨e3, q⟩ => ?_⟩
  subst e3
  have q' := q vs h2
  rw [hv] at q'; cases q'
  exact ⟨.refl, r2, RelD.monoW e r _ rd⟩
/-- the ints lo, lo + 1, .. -/
def rangeD (lo hi : Int) : List D := (List.range (hi - lo).toNat).map fun i => .int (lo + (i : Nat))
theorem itR_range {lo hi : Int} : ItR K ρ st H (Itr lo (hi - lo).toNat) (rangeD lo hi) := fun ρ2 st2 H2 e r2 i => by
  refine ⟨fun d hd => ?_, fun hl => show (hi - lo).toNat ≤ i by simpa [rangeD] using hl⟩
  unfold rangeD at hd
  rw [List.getElem?_map] at hd
  cases q : (List.range (hi - lo).toNat)[i]? with
  | none => rw [q] at hd; cases hd
  | some j =>
    rw [q] at hd
    obtain ⟨h1, h2⟩ := List.getElem?_eq_some_iff.mp q
    rw [List.getElem_range] at h2
    subst h2
    cases hd
    refine ⟨show i < (hi - lo).toNat by simpa using h1, fun x H3 ⟨e3, ex⟩ => ?_⟩
    subst e3; subst ex
    exact ⟨.refl, r2, by simp [RelD]⟩
end

section
variable {X : Cx} {W : WX} {e a b c tg iter : Expr} {es ifs : List Expr} {s : Stmt} {ss bs : List Stmt} {m ma mb mc : SE} {ms mi : SA} {t : SB} {u v w : SS} {pos : Pos}
/-- the value's items: a tuple, or a list that is only read -/
def itemsOf (r : Rs D) : Rs (List D) := r.bind fun d st => match d with
  | .tup ds => .ok ds st
  | .lst ds => .ok ds st
  | _ => .no
def mItems (m : SE) : SA := fun σ st => itemsOf (m σ st)
theorem ei_seq (h : EvE X W e m) : EvI X W tg e (mItems m) := by
  refine ⟨fun pins s σ H Rr I q => ?_⟩
  obtain ⟨ρ, τ, st, r0, en, o⟩ := q
  refine thn (h.run pins s σ H (fun x H1 => ∃ a, x = .ref a ∧ (((∃ vs, SqL X.K H1 a vs ∧ ∃ ρ1 st1 ds, R X.K ρ1 st1 H1 ∧ LstAt X.K H1 ρ1 st1.length a vs ∧ RelDs X.K ρ1 st1.length H1 ds vs ∧ Out X.K (reI X.K) W σ ρ1 st1.length H1 Rr (.ok ds st1))) ∨ (∃ vs, SqT X.K H1 a vs ∧ ∃ ρ1 st1 ds, R X.K ρ1 st1 H1 ∧ RelDs X.K ρ1 st1.length H1 ds vs ∧ Out X.K (reI X.K) W σ ρ1 st1.length H1 Rr (.ok ds st1)))) I ?_) fun v s1 ⟨x, H1, I1, r1, q1⟩ => ?_
  · refine tM.bind r0 en o fun d st1 ρ1 H1 v e1 r1 en1 q o1 => ?_
    cases d with
    | tup ds =>
      simp only [RelD] at q
      obtain ⟨a, vs, rfl, hs, rv⟩ := q
      exact ⟨a, rfl, .inr ⟨vs, hs.sq, ρ1, st1, ds, r1, rv, o1⟩⟩
    | lst ds =>
      simp only [RelD] at q
      obtain ⟨a, vs, rfl, hs, rv⟩ := q
      exact ⟨a, rfl, .inl ⟨vs, hs.sq, ρ1, st1, ds, r1, hs, rv, o1⟩⟩
    | _ => exact o1.elim
  · obtain ⟨a, e, q⟩ := q1
    subst e
    cases r1
    rcases q with ⟨vs, hq, ρ1, st1, ds, rr, hl, rv, o1⟩ | ⟨vs, hq, ρ1, st1, ds, rr, rv, o1⟩
    · obtain ⟨its, rw', p, hz⟩ := I1.list hq
      refine wpAny_pyIter_list p.isList ?_
      refine ⟨s1.heap.objs.size, [s1.heap.objs.size], _, Itl X.K a, H1, rfl, I1.kept (t' := s1.toks) fun b o e => Heap.get?_push_of_some _ e, turn_list a _, ⟨_, Heap.get?_push_size _ rfl, rfl, rfl⟩, fun b hb => ?_, o1 ρ1 H1 _ .refl rr ?_⟩
      · have e : b = s1.heap.objs.size := by simpa using hb
        subst e
        exact I1.fpOk (Nat.le_refl _) (I1.hok.fresh (Nat.le_refl _))
      · exact itR_list hl rv rr
    · obtain ⟨its, rw', p, hz⟩ := I1.tuple hq
      refine wpAny_pyIter_tuple (show s1.heap.IsTuple a its.toArray from p) ?_
      refine ⟨s1.heap.objs.size, [s1.heap.objs.size], _, Itt X.K a, H1, rfl, I1.kept (t' := s1.toks) fun b o e => Heap.get?_push_of_some _ e, turn_tuple a _, ⟨_, Heap.get?_push_size _ rfl, rfl, rfl⟩, fun b hb => ?_, o1 ρ1 H1 _ .refl rr (itR_tup hq rv rr)⟩
      have e : b = s1.heap.objs.size := by simpa using hb
      subst e
      exact I1.fpOk (Nat.le_refl _) (I1.hok.fresh (Nat.le_refl _))
/-- range(n), range(a, b) -/
noncomputable def rng1 (r : Rs (List D)) : Rs (List D) := r.bind fun ds st => match ds with
  | [.int j] => if j < 2 ^ 62 then .ok (rangeD 0 j) st else .no
  | _ => .no
noncomputable def rng2 (r : Rs (List D)) : Rs (List D) := r.bind fun ds st => match ds with
  | [.int i, .int j] => if w62 i = true ∧ w62 j = true then .ok (rangeD i j) st else .no
  | _ => .no
noncomputable def mRng1 (m : SE) : SA := fun σ st => (m σ st).bind fun d st1 => match d with
  | .int j => if w62 j = true then .ok (rangeD 0 j) st1 else .no
  | _ => .no
noncomputable def mRng2 (ma mb : SE) : SA := fun σ st => (ma σ st).bind fun d st1 => (mb σ st1).bind fun d2 st2 => match d, d2 with
  | .int i, .int j => if w62 i = true ∧ w62 j = true then .ok (rangeD i j) st2 else .no
  | _, _ => .no
theorem ei_range1 {p pos : Pos} (hm : X.mg "range" = none) (ha : EvE X W a ma) (hg : Gl X "range" := by rfl) (hs1 : starEach (a :: []) X.env = (false, eval a X.env) :: starEach [] X.env := by rfl) (hs : starEach [a] X.env = [(false, eval a X.env)] := by rfl) :
    EvI X W tg (.Call (.Name "range" p) [a] [] pos) (mRng1 ma) := PI.imp (pi_range1 hg hm (pa_cons ha pa_nil hs1) hs) fun σ H Rr ⟨ρ, τ, st, r0, en, o⟩ =>
  tM.bind r0 en o fun d st1 ρ1 H1 v e1 r1 en1 q o1 => by
    cases d with
    | int j =>
      simp only [RelD] at q
      subst q
      simp only at o1
      split at o1
      · rename_i hj
        refine ⟨j, rfl, (w62_iff.mp hj).1, (w62_iff.mp hj).2, o1.here r1 ?_⟩
        have e : (j - 0).toNat = j.toNat := by omega
        have := itR_range (K := X.K) (ρ := ρ1) (st := st1) (H := H1) (lo := 0) (hi := j)
        rw [e] at this; exact this
      · exact o1.elim
    | _ => exact o1.elim
theorem ei_range2 {p pos : Pos} (hm : X.mg "range" = none) (ha : EvE X W a ma) (hb : EvE X W b mb) (hg : Gl X "range" := by rfl) (hs1 : starEach (b :: []) X.env = (false, eval b X.env) :: starEach [] X.env := by rfl) (hs0 : starEach (a :: [b]) X.env = (false, eval a X.env) :: starEach [b] X.env := by rfl)
    (hs : starEach [a, b] X.env = [(false, eval a X.env), (false, eval b X.env)] := by rfl) (hs2 : starEach [b] X.env = [(false, eval b X.env)] := by rfl) :
    EvI X W tg (.Call (.Name "range" p) [a, b] [] pos) (mRng2 ma mb) := PI.imp (pi_range2 hg hm (pa_cons ha (pa_cons hb pa_nil hs1) hs0) hs hs2) fun σ H Rr ⟨ρ, τ, st, r0, en, o⟩ =>
  tM.bind r0 en o fun d st1 ρ1 H1 v e1 r1 en1 q o1 => tM.bind r1 en1 o1 fun d2 st2 ρ2 H2 v2 e2 r2 en2 q2 o2 => by
    cases d with
    | int i =>
      cases d2 with
      | int j =>
        simp only [RelD] at q q2
        subst q; subst q2
        simp only at o2
        split at o2
        · rename_i hj
          exact ⟨i, j, rfl, ⟨(w62_iff.mp hj.1).1, (w62_iff.mp hj.1).2, (w62_iff.mp hj.2).1, (w62_iff.mp hj.2).2⟩, o2.here r2 itR_range⟩
        · exact o2.elim
      | _ => exact o2.elim
    | _ => exact o2.elim

/-! ### for -/
def forS (g : SG) (b : SS) : List D → SS
  | [], τ, st => .nx τ st
  | d :: ds, τ, st => match g d τ with
    | none => .no
    | some τ1 => (b τ1 st).loop (forS g b ds)
def sFor (mi : SA) (g : SG) (b : SS) : SS := fun τ st => (mi τ st).go τ fun ds st1 => forS g b ds τ st1
theorem es_for {vs : List Nat} {g : SG} (hp : PassesOwn (model X.prog X.w) X.A X.env X.xe) (hc : X.calm = true) (hi : EvI X W tg iter mi) (hg : EvG X vs tg g) (hb : EvSs X W ss u)
    (hs : ∀ x, foldedSetIterable iter X.env x = pure x := by intro _; rfl) : EvS X W (.For tg iter ss [] pos) (sFor mi g u) := PS.imp (ps_for hp hc hi hg hb hs) fun D σ H ⟨ρ, τ, st, r0, en, o⟩ =>
  tM.goS r0 en o fun ds st1 ρ1 H1 J e1 r1 en1 q o1 => by
    refine ⟨fun i m σ H => m = ds.length - i ∧ i ≤ ds.length ∧ ∃ ρ τ st, Ext ρ1 st1.length H1 ρ st.length H ∧ R X.K ρ st H ∧ EnvR X.K ρ st.length H τ σ ∧ OutS X.K W ρ st.length H D (forS g u (ds.drop i) τ st),
      ⟨_, rfl, Nat.zero_le _, ρ1, τ, st1, .refl, r1, en1, by rw [List.drop_zero]; exact o1⟩, fun i m σ H ⟨hm, hi, ρ, τ, st, ex, r, en, o⟩ => ?_⟩
    obtain ⟨go, stop⟩ := q ρ st H ex.w r i
    by_cases hl : i < ds.length
    · have hd : ds[i]? = some ds[i] := List.getElem?_eq_getElem hl
      obtain ⟨g1, g2⟩ := go _ hd
      refine .inr ⟨g1, fun σ H => (ds.length - (i + 1)) = ds.length - (i + 1) ∧ i + 1 ≤ ds.length ∧ ∃ ρ τ st, Ext ρ1 st1.length H1 ρ st.length H ∧ R X.K ρ st H ∧ EnvR X.K ρ st.length H τ σ ∧ OutS X.K W ρ st.length H D (forS g u (ds.drop (i + 1)) τ st),
        fun σ' H' h => ⟨ds.length - (i + 1), by omega, h⟩, fun x H3 hy => ?_⟩
      obtain ⟨e3, r3, rd⟩ := g2 x H3 hy
      rw [List.drop_eq_getElem_cons hl] at o
      simp only [forS] at o
      refine ⟨ρ, τ, st, _, r3, en.mono e3 r, rd, ?_⟩
      cases e2 : g ds[i] τ with
      | none => rw [e2] at o; exact o
      | some τ1 =>
        rw [e2] at o
        simp only at o
        intro σ1 en1' _
        refine ⟨ρ, τ1, st, r3, en1', ?_⟩
        have o' := OutS.shift o r e3 r3
        have ex3 := ex.trans r1 r e3
        cases e4 : u τ1 st with
        | nx a s => rw [e4] at o'; exact fun ρ' H' σ' e' r' en' => ⟨rfl, hl, ρ', a, s, ex3.trans r1 r3 e', r', en', OutS.shift o' r3 e' r'⟩
        | ct a s => rw [e4] at o'; exact fun ρ' H' σ' e' r' en' => ⟨rfl, hl, ρ', a, s, ex3.trans r1 r3 e', r', en', OutS.shift o' r3 e' r'⟩
        | no => rw [e4] at o'; exact o'
        | bk a s => rw [e4] at o'; exact o'
        | rt a s => rw [e4] at o'; exact o'
        | er x a s => rw [e4] at o'; exact o'
    · refine .inl ⟨stop (by omega), ?_⟩
      rw [List.drop_eq_nil_of_le (by omega)] at o
      exact o.next r en

/-! ### list comprehensions -/
def compS (g : SG) (t : SB) (m : SE) (vs : List Nat) : List D → En → Store → List D → Rs (List D)
  | [], _, st, acc => .ok acc st
  | d :: ds, τ, st, acc => match g d (wipeE τ vs) with
    | none => .no
    | some τ1 => match t τ1 st with
      | .ok true st1 => (match m τ1 st1 with
        | .ok y st2 => if acc.length < sizeLine then compS g t m vs ds τ st2 (acc ++ [y]) else .no
        | _ => .no)
      | .ok false st1 => compS g t m vs ds τ st1 acc
      | _ => .no
def mComp (mi : SA) (g : SG) (t : SB) (m : SE) (vs : List Nat) : SA := fun τ st => (mi τ st).bind fun ds st1 => compS g t m vs ds τ st1 []
def mYes : SB := fun _ st => .ok true st
abbrev W0 : WX := fun _ _ _ _ => False
abbrev EvT (X : Cx) (W : WX) (ifs : List Expr) (t : SB) : Prop := PTs X ifs (tM X.K reB W t)
theorem PTs.imp {X : Cx} {e : List Expr} {t t' : TT} (h : PTs X e t) (hi : ∀ σ H Q, t' σ H Q → t σ H Q) : PTs X e t' := ⟨fun pins s σ H Q I q => h.run pins s σ H Q I (hi _ _ _ q)⟩
theorem eif_nil : EvT X W [] mYes := PTs.imp pts_nil fun σ H Q ⟨ρ, τ, st, r, en, o⟩ => o.here r rfl
theorem eif_one (h : EvB X W c t) : EvT X W [c] t := pts_one h
section
variable {K : PySem.W.Frag} {ρ : Mp} {n : Nat} {H : Hp} {p : Addr}
mutual
theorem RelD.hw {u : HO} {us : List V} (hp : H p = some (.lst us)) : ∀ (d : D) {v : V}, RelD K (ρ.hide p) n H d v → RelD K (ρ.hide p) n (upd H p u) d v
  | .non, v, h => by simpa only [RelD] using h
  | .bl b, v, h => by simpa only [RelD] using h
  | .int b, v, h => by simpa only [RelD] using h
  | .str b, v, h => by simpa only [RelD] using h
  | .ty b, v, h => by simpa only [RelD] using h
  | .fn b, v, h => by simpa only [RelD] using h
  | .tup xs, v, h => by
    simp only [RelD] at h ⊢
    obtain ⟨a, vs, rfl, s, q⟩ := h
    obtain ⟨u', s, nu⟩ := s.some
    exact ⟨a, vs, rfl, nu.at (by rw [upd_ne (ne_of s hp (by intro z; subst z; exact absurd nu.mut (by simp [isMut])))]; exact s), RelDs.hw hp xs q⟩
  | .lst xs, v, h => by
    simp only [RelD] at h ⊢
    obtain ⟨a, vs, rfl, s, q⟩ := h
    refine ⟨a, vs, rfl, ?_, RelDs.hw hp xs q⟩
    rcases s with ⟨h, ni, nh⟩ | h
    · have ne : a ≠ p := fun z => nh (.inr z)
      rcases h with h | ⟨o, h⟩
      · exact .inl ⟨.inl (by rw [upd_ne ne]; exact h), ni, nh⟩
      · exact .inl ⟨.inr ⟨o, by rw [upd_ne ne]; exact h⟩, ni, nh⟩
    · exact .inr h
  | .loc i, v, h => by simpa only [RelD] using h
theorem RelDs.hw {u : HO} {us : List V} (hp : H p = some (.lst us)) : ∀ (ds : List D) {vs : List V}, RelDs K (ρ.hide p) n H ds vs → RelDs K (ρ.hide p) n (upd H p u) ds vs
  | [], vs, h => by simpa only [RelDs] using h
  | d :: ds, vs, h => by
    simp only [RelDs] at h ⊢
    obtain ⟨v, w, rfl, h1, h2⟩ := h
    exact ⟨v, w, rfl, RelD.hw hp d h1, RelDs.hw hp ds h2⟩
end
theorem R.hw {st : Store} {u : HO} {us : List V} (r : R K (ρ.hide p) st H) (hp : H p = some (.lst us)) (m : isMut u = true) : R K (ρ.hide p) st (upd H p u) := by
  refine ⟨fun i o h => ?_, r.inj, fun a h => ?_, r.sep⟩
  · have q := r.obj i o h
    have hl : i < st.length := (List.getElem?_eq_some_iff.mp h).1
    have ne : (ρ.hide p).at' i ≠ p := fun z => r.sep i hl (.inr z)
    have k : ∀ w, H ((ρ.hide p).at' i) = some w → upd H p u ((ρ.hide p).at' i) = some w := fun w hw => by rw [upd_ne ne]; exact hw
    revert q
    cases o with
    | lst ds => rintro ⟨vs, h, q⟩; exact ⟨vs, k _ h, RelDs.hw hp ds q⟩
    | dk ds => rintro ⟨vs, h, q⟩; exact ⟨vs, k _ h, Paired.monoP q fun p' q z => ⟨z.1, RelD.hw hp _ z.2⟩⟩
    | dt ds => rintro ⟨w, vs, hw, h, q⟩; exact ⟨w, vs, hw, k _ h, Paired.monoP q fun p' q z => ⟨z.1, ⟨RelD.hw hp _ z.2.1.1, z.2.1.2⟩, RelD.hw hp _ z.2.2⟩⟩
  · by_cases e : a = p
    · subst e; exact ⟨u, upd_same, m⟩
    · obtain ⟨w, hw, mw⟩ := r.hid a h
      exact ⟨w, by rw [upd_ne e]; exact hw, mw⟩
theorem EnvR.hw {u : HO} {us : List V} {τ : En} {σ : St} (h : EnvR K (ρ.hide p) n H τ σ) (hp : H p = some (.lst us)) : EnvR K (ρ.hide p) n (upd H p u) τ σ :=
  ⟨h.1, fun i d q => let ⟨v, a, b⟩ := h.2 i d q; ⟨v, a, b.hw hp⟩⟩
theorem EnvR.hideN {u : HO} {τ : En} {σ : St} (h : EnvR K ρ n H τ σ) (hp : H p = none) : EnvR K (ρ.hide p) n (upd H p u) τ σ :=
  ⟨h.1, fun i d q => let ⟨v, a, b⟩ := h.2 i d q; ⟨v, a, b.hide hp⟩⟩
theorem _root_.Fx.Ext.hideW {ρ' : Mp} {n' : Nat} {H' : Hp} (e : Ext ρ n H ρ' n' H') (hp : H p = none) : ExtW ρ n H (ρ'.hide p) n' H' :=
  ⟨e.le, e.old, e.new, e.keep, fun a h => h.elim (fun z => .inl (by rw [← e.hid]; exact z)) fun z => .inr (z ▸ hp)⟩
theorem _root_.Fx.Ext.upd_new {ρ' : Mp} {n' : Nat} {H' : Hp} {u : HO} (e : Ext ρ n H ρ' n' H') (hp : H p = none) : Ext ρ n H ρ' n' (upd H' p u) :=
  ⟨e.le, e.old, e.new, fun a o h q => by rw [upd_ne (ne_of_none h hp)]; exact e.keep a o h q, e.hid⟩
/-- a map that hides what ρ.hide p hides is some map that hides p -/
theorem unhide {ρ' : Mp} (h : ρ'.hid = (ρ.hide p).hid) : ρ' = (Mp.mk ρ'.at' ρ.hid).hide p := by
  cases ρ' with
  | mk f g => cases (show g = (ρ.hide p).hid from h); rfl
end
theorem tM.lc {g : SG} {vs : List Nat} {σ : St} {H : Hp} {Q : VK} (h : tM X.K (reN X.K) W (mComp mi g t m vs) σ H Q) : tLc (tM X.K (reI X.K) W mi) (tG X.K vs g) (tM X.K reB W0 t) (tM X.K (reD X.K) W0 m) vs σ H Q := by
  obtain ⟨ρ, τ, st, r0, en, o⟩ := h
  -- the iterable; the start's heap is kept
  refine tM.bind (Ra := reI X.K) r0 en (show Out X.K (reN X.K) W σ ρ st.length H (fun v H' => Q v H') _ from o) fun ds st1 ρ1 H1 J e1 r1 en1 q o1 => ?_
  intro p hp
  have hpH : ∀ {x : Addr}, H1 x = none → H x = none := fun z => e1.none_of r1 z
  refine ⟨fun i k H' => k = ds.length - i ∧ i ≤ ds.length ∧ ∃ ρ' st' acc us, ρ'.hid = ρ1.hid ∧ Ext ρ1 st1.length H1 ρ' st'.length H' ∧ R X.K (ρ'.hide p) st' H' ∧ EnvR X.K (ρ'.hide p) st'.length H' τ σ ∧ H' p = some (.lst us) ∧
      RelDs X.K (ρ'.hide p) st'.length H' acc us ∧ Out X.K (reN X.K) W σ ρ1 st1.length H1 Q (compS g t m vs (ds.drop i) τ st' acc), ⟨_, rfl, Nat.zero_le _, ρ1, st1, [], [], rfl, r1.push_ext hp, r1.hide hp rfl, en1.hideN hp, upd_same, .nil, by rw [List.drop_zero]; exact o1⟩, fun i k H' ⟨hk, hi, ρ', st', acc, us, hh, ex, rr, en', hpu, ra, oo⟩ => ?_⟩
  have rs := R.show' rr
  obtain ⟨go, stop⟩ := q (ρ'.hide p) st' H' (ex.hideW hp) rr i
  by_cases hl : i < ds.length
  · have hd : ds[i]? = some ds[i] := List.getElem?_eq_getElem hl
    obtain ⟨g1, g2⟩ := go _ hd
    rw [List.drop_eq_getElem_cons hl] at oo
    simp only [compS] at oo
    refine .inr ⟨g1, fun H' => ∃ ρ' st' acc us, ρ'.hid = ρ1.hid ∧ Ext ρ1 st1.length H1 ρ' st'.length H' ∧ R X.K (ρ'.hide p) st' H' ∧ EnvR X.K (ρ'.hide p) st'.length H' τ σ ∧ H' p = some (.lst us) ∧
      RelDs X.K (ρ'.hide p) st'.length H' acc us ∧ Out X.K (reN X.K) W σ ρ1 st1.length H1 Q (compS g t m vs (ds.drop (i + 1)) τ st' acc), fun H2 h => ⟨ds.length - (i + 1), by omega, rfl, hl, h⟩, fun x H3 hy => ?_⟩
    obtain ⟨e3, r3, rd⟩ := g2 x H3 hy
    have en3 := (en'.mono e3 rr).wipe vs
    refine ⟨ρ'.hide p, wipeE τ vs, st', _, r3, en3, rd, ?_⟩
    cases q1 : g ds[i] (wipeE τ vs) with
    | none => rw [q1] at oo; exact oo
    | some τ1 =>
      rw [q1] at oo
      simp only at oo
      refine fun σ1 en4 w1 => ⟨w1.trans wipe_wipe, ρ'.hide p, τ1, st', r3, en4, ?_⟩
      have ra3 := RelDs.mono e3 rr acc ra
      -- the state for the next turn
      have nxt : ∀ {ρ4 : Mp} {st4 : Store} {H4 : Hp}, Ext (ρ'.hide p) st'.length H' ρ4 st4.length H4 → R X.K ρ4 st4 H4 → ∃ ρ5 : Mp, ρ5.hid = ρ1.hid ∧ ρ4 = ρ5.hide p ∧ Ext ρ1 st1.length H1 ρ5 st4.length H4 ∧ H4 p = some (.lst us) := fun {ρ4 st4 H4} e4 r4 => by
        have u := unhide (ρ := ρ') (p := p) e4.hid
        refine ⟨⟨ρ4.at', ρ'.hid⟩, hh, u, ex.trans r1 rs (st' := st') ?_, e4.keep p _ hpu fun i hi z => rr.sep i hi (.inr z)⟩
        exact ⟨e4.le, e4.old, e4.new, e4.keep, rfl⟩
      cases q2 : t τ1 st' with
      | no => rw [q2] at oo; exact oo.elim
      | er x s => rw [q2] at oo; exact oo.elim
      | ok b st2 =>
        rw [q2] at oo
        intro ρ4 H4 b' e4 r4 hb
        cases (show b = b' from hb)
        have e34 := e3.trans rr r3 e4
        obtain ⟨ρ5, h5, u5, ex5, hp5⟩ := nxt e34 r4
        have en5 : EnvR X.K ρ4 st2.length H4 τ σ := (en'.mono e34 rr)
        have ra5 := RelDs.mono e34 rr acc ra
        cases b with
        | false =>
          subst u5
          exact ⟨ρ5, st2, acc, us, h5, ex5, r4, en5, hp5, ra5, oo⟩
        | true =>
          simp only at oo
          refine ⟨ρ4, τ1, st2, r4, en4.mono e4 r3, ?_⟩
          cases q3 : m τ1 st2 with
          | no => rw [q3] at oo; exact oo.elim
          | er x s => rw [q3] at oo; exact oo.elim
          | ok y st6 =>
            rw [q3] at oo
            simp only at oo
            split at oo
            · rename_i hz
              intro ρ6 H6 vy e6 r6 ry
              have e36 := e34.trans rr r4 e6
              obtain ⟨ρ7, h7, u7, ex7, hp7⟩ := nxt e36 r6
              have ra7 := RelDs.mono e36 rr acc ra
              refine ⟨us, hp7, by rw [← ra7.len] at hz; exact hz, ?_⟩
              subst u7
              have ry' : RelD X.K (ρ7.hide p) st6.length H6 y vy := ry
              exact ⟨ρ7, st6, acc ++ [y], us ++ [vy], h7, ex7.upd_new hp, r6.hw hp7 rfl, (en'.mono e36 rr).hw hp7, upd_same, RelDs.hw hp7 _ (ra7.append (.cons ry' .nil)), oo⟩
            · exact oo.elim
  · refine .inl ⟨stop (by omega), ?_⟩
    rw [List.drop_eq_nil_of_le (by omega)] at oo
    exact oo ρ' H' (.ref p) ex rs ⟨p, us, rfl, hp, hpu, rr, ra⟩
theorem ef_comp {scope : Scope} {own : List (Str × Nat)} {g : SG} {ifs : List Expr} (hc : X.calm = true) (hN : X.N.Nodup) (hi : EvI X W tg iter mi) (ok : BlkOk X.N X.env.scope scope own)
    (hg : ∀ (s : Shared) (H : Hp) (C : Addr) (cl : List (Str × Addr)) (fp : List Addr), EvG (X.blk s H scope (compEnvC scope cl C X.env) fp) (own.map (·.2)) tg g)
    (ht : ∀ (s : Shared) (H : Hp) (C : Addr) (cl : List (Str × Addr)) (fp : List Addr), EvT (X.blk s H scope (compEnvC scope cl C X.env) fp) W0 ifs t)
    (he : ∀ (s : Shared) (H : Hp) (C : Addr) (cl : List (Str × Addr)) (fp : List Addr), EvE (X.blk s H scope (compEnvC scope cl C X.env) fp) W0 e m)
    (hs : ∀ x, foldedSetIterable iter X.env x = pure x := by intro _; rfl) :
    EvF X W (.ListComp e [⟨tg, iter, ifs, 0⟩] scope pos) (mComp mi g t m (own.map (·.2))) :=
  PE.imp (pe_lc (g := tG X.K (own.map (·.2)) g) (tt := tM X.K reB W0 t) (te := tM X.K (reD X.K) W0 m) hc hN hi ok hg ht he hs) fun σ H Q h => tM.lc h
/-- y = [..], where the store is swapped in -/
theorem ps_setC {i : Nat} {y : Str} {py spos : Pos} {scope : Scope} {own : List (Str × Nat)} {g : SG} {ifs : List Expr} {sm : SA → SE} (hsm : ∀ σ H Q, tM X.K (reD X.K) W (sm (mComp mi g t m (own.map (·.2)))) σ H Q → tM X.K (reN X.K) W (mComp mi g t m (own.map (·.2))) σ H Q)
    (hc : X.calm = true) (hN : X.N.Nodup) (hi : EvI X W tg iter mi) (ok : BlkOk X.N X.env.scope scope own)
    (hg : ∀ (s : Shared) (H : Hp) (C : Addr) (cl : List (Str × Addr)) (fp : List Addr), EvG (X.blk s H scope (compEnvC scope cl C X.env) fp) (own.map (·.2)) tg g)
    (ht : ∀ (s : Shared) (H : Hp) (C : Addr) (cl : List (Str × Addr)) (fp : List Addr), EvT (X.blk s H scope (compEnvC scope cl C X.env) fp) W0 ifs t)
    (he : ∀ (s : Shared) (H : Hp) (C : Addr) (cl : List (Str × Addr)) (fp : List Addr), EvE (X.blk s H scope (compEnvC scope cl C X.env) fp) W0 e m)
    (hy : X.N[i]? = some y := by rfl) (hyl : X.env.scope.names.lookup y = some .local := by rfl)
    (hsw : swapsWith (.ListComp e [⟨tg, iter, ifs, 0⟩] scope pos) (some (.Name y py)) spos.line X.env = pure true := by exact sw_true rfl rfl rfl (by decide +kernel))
    (hs : ∀ x, foldedSetIterable iter X.env x = pure x := by intro _; rfl) :
    EvS X W (.Assign [.Name y py] (.ListComp e [⟨tg, iter, ifs, 0⟩] scope pos) spos) (sSet i (sm (mComp mi g t m (own.map (·.2))))) :=
  PS.imp (ps_setLc (own := own) (g := tG X.K (own.map (fun p : Str × Nat => p.2)) g) (tt := tM X.K reB W0 t) (te := tM X.K (reD X.K) W0 m) hc hN hy hyl hsw hi ok hg ht he hs) fun D σ H ⟨ρ, τ, st, r0, en, o⟩ =>
    tM.lc (hsm σ H _ (tM.goS r0 en o fun d st1 ρ1 H1 v e1 r1 en1 q o1 => o1.next r1 (en1.set q i)))
end
end Fx

set_option Elab.async false
set_option linter.all false
set_option maxRecDepth 100000
set_option maxHeartbeats 4000000
namespace Fx
open PySem L2
variable [Md]
variable [Mw]

/-! ### defs -/
abbrev FS := List D → Store → Rs D
def spF (K : PySem.W.Frag) (n : Nat) (f : FS) : Sp := fun vs H Q E => ∃ (ρ : Mp) (st : Store) (ds : List D), ds.length = n ∧ R K ρ st H ∧ RelDs K ρ st.length H ds vs ∧
  Out K (reD K) (fun c d _ H' => E c d H') [] ρ st.length H Q (f ds st)
abbrev FnD (P : Program) (w : World) (K : PySem.W.Frag) (mg : Str → Option Value) (base : Heap) (k : Nat) (f : Addr) (fd : FuncData) (ps : List Str) (fs : FS) : Prop :=
  FnOk P w K mg base (L2.CX P w) k f fd ps (spF K ps.length fs)

section
variable {X : Cx} {W : WX} {e a b c : Expr} {es : List Expr} {m ma mb mc : SE} {ms : SA} {u v : SS} {pos p : Pos} {k : Nat} {f : Addr} {fd : FuncData} {ps : List Str} {fs : FS} {x : Str}
def mCall (fs : FS) (ms : SA) : SE := fun τ st => (ms τ st).bind fs
theorem spF.of {W : WX} {σ : St} {ρ : Mp} {st : Store} {H : Hp} {Q : VK} {ds : List D} {vs : List V} {n : Nat} {K : PySem.W.Frag} (r : R K ρ st H) (rv : RelDs K ρ st.length H ds vs) (hl : ds.length = n) (o : Out K (reD K) W σ ρ st.length H Q (fs ds st)) : spF K n fs vs H Q (WE W σ) := by
  refine ⟨ρ, st, ds, hl, r, rv, ?_⟩
  cases q : fs ds st with
  | no => rw [q] at o; exact o
  | ok d s => rw [q] at o; exact o
  | er x s => rw [q] at o; exact o
theorem ev_call (F : FnD X.prog X.w X.K X.mg X.base k f fd ps fs) (hr : Room k X.A) (tk : Takes X W) (hm : X.mg x = some (.ref f)) (hk : PySem.W.keepIn X.K (.ref f) = true) (hb : Binds X.K fd ps []) (ha : EvA X W (e :: es) ms) (hl : LenA ms ps.length) (hg : Gl X x := by rfl)
    (hdb : (x == ("__debug__" : Str)) = false := by decide) (he : starEach (e :: es) X.env = (false, eval e X.env) :: starEach es X.env := by rfl) (hpl : (backTo pos (starEach es X.env)).any (·.1) = false := by rfl) :
    EvE X W (.Call (.Name x p) (e :: es) [] pos) (mCall fs ms) := PE.imp (pe_callS F hr hg hm hk hb (fun σ => passAt tk σ) ha hdb he hpl) fun σ H Q ⟨ρ, τ, st, r0, en, o⟩ => by
  refine ⟨ρ, τ, st, r0, en, ?_⟩
  cases q : ms τ st with
  | no => simp only [mCall, q] at o; exact o
  | er x s => simp only [mCall, q] at o; exact o
  | ok ds st1 =>
    simp only [mCall, q] at o
    exact fun ρ1 H1 vs e1 r1 rv => spF.of r1 rv (hl _ _ _ _ q) (Out.shift o r0 e1 r1)
/-- a call without arguments -/
theorem ev_call0 (F : FnD X.prog X.w X.K X.mg X.base k f fd [] fs) (hr : Room k X.A) (hno : ∀ st x s, fs [] st ≠ .er x s) (hm : X.mg x = some (.ref f)) (hk : PySem.W.keepIn X.K (.ref f) = true) (hb : Binds X.K fd [] []) (hg : Gl X x := by rfl)
    (hdb : (x == ("__debug__" : Str)) = false := by decide) : EvE X W (.Call (.Name x p) [] [] pos) (mCall fs mNil) :=
  PE.imp (pe_call0 (E := fun _ _ _ => False) (dvs := []) F hr hg hm hk hb .nil (fun pins σ H s e s' I c => by
    obtain ⟨_, _, _, _, _, _, _, _, _, _, _, _, z⟩ := c
    exact z.elim) hdb) fun σ H Q ⟨ρ, τ, st, r0, en, o⟩ => by
    show spF X.K 0 fs ([] ++ []) H Q _
    refine ⟨ρ, st, [], rfl, r0, .nil, ?_⟩
    have o' : Out X.K (reD X.K) W σ ρ st.length H Q (fs [] st) := o
    cases q : fs [] st with
    | no => rw [q] at o'; exact o'
    | ok d s => rw [q] at o'; exact o'
    | er x s => exact absurd q (hno _ _ _)
/-- a call of a local name that holds one of several defs -/
def mCallV (tab : Addr → Option (Nat × FS)) (i : Nat) (ms : SA) : SE := fun τ st => match τ[i]? with
  | some (some (.fn f)) => (match tab f with
    | some (n, fs) => (ms τ st).bind fun ds st1 => if ds.length = n then fs ds st1 else .no
    | none => .no)
  | _ => .no
def TabOk (P : Program) (w : World) (K : PySem.W.Frag) (mg : Str → Option Value) (base : Heap) (k : Nat) (tab : Addr → Option (Nat × FS)) : Prop :=
  ∀ f n fs, tab f = some (n, fs) → ∃ fd ps, ps.length = n ∧ FnD P w K mg base k f fd ps fs ∧ PySem.W.keepIn K (.ref f) = true ∧ Binds K fd ps []
theorem ev_callV {tab : Addr → Option (Nat × FS)} (i : Nat) (T : TabOk X.prog X.w X.K X.mg X.base k tab) (hr : Room k X.A) (tk : Takes X W) (ha : EvA X W (e :: es) ms) (hN : X.N[i]? = some x := by rfl)
    (hv : Vis X.env.scope x := by first | exact Or.inl rfl | exact Or.inr (Or.inl rfl) | exact Or.inr (Or.inr rfl))
    (hdb : (x == ("__debug__" : Str)) = false := by decide) (hcd : (x == ("__classdict__" : Str)) = false := by decide)
    (he : starEach (e :: es) X.env = (false, eval e X.env) :: starEach es X.env := by rfl) (hpl : (backTo pos (starEach es X.env)).any (·.1) = false := by rfl) : EvE X W (.Call (.Name x p) (e :: es) [] pos) (mCallV tab i ms) := by
  refine ⟨fun pins s σ H Q I h => ?_⟩
  obtain ⟨ρ, τ, st, r0, en, o⟩ := h
  unfold mCallV at o
  cases q : τ[i]? with
  | none => rw [q] at o; exact o.elim
  | some y =>
    rw [q] at o
    cases y with
    | none => exact o.elim
    | some d =>
      cases d with
      | fn f =>
        simp only at o
        cases q2 : tab f with
        | none => rw [q2] at o; exact o.elim
        | some nf =>
          obtain ⟨n, fs⟩ := nf
          rw [q2] at o
          simp only at o
          obtain ⟨fd, ps, hps, F, hk, hb⟩ := T f n fs q2
          obtain ⟨v, hs, rv⟩ := en.2 i _ q
          simp only [RelD] at rv
          subst rv
          refine (wpAny_Call_Name_kw (thn ((pe_var (pos := p) hN hv hdb hcd).run pins s σ H (fun v H1 => v = .ref f ∧ H1 = H) I ⟨.ref f, hs, rfl, rfl⟩) fun u s1 ⟨v, H1, I1, r1, q1⟩ => ?_))
          obtain ⟨rfl, rfl⟩ := q1
          cases r1
          have ht : tM X.K (reL X.K) W ms σ H1 fun vs H2 => spF X.K ps.length fs vs H2 Q (WE W σ) := by
            refine ⟨ρ, τ, st, r0, en, ?_⟩
            cases q3 : ms τ st with
            | no => rw [q3] at o; exact o
            | er x s => rw [q3] at o; exact o
            | ok ds st1 =>
              rw [q3] at o
              simp only [Rs.bind_ok] at o
              split at o
              · rename_i hl
                exact fun ρ1 H1 vs e1 r1 rv => spF.of r1 rv (hl.trans hps.symm) (Out.shift o r0 e1 r1)
              · exact o.elim
          refine PySem.W.callWith_K (h₀ := X.base) I.ok.mod.kin hk (thn (ha.run pos pins s1 σ _ _ I1 ht) fun us s2 ⟨vs, H2, I2, r, q⟩ => ⟨I2.kIn, ?_⟩) he hpl
          exact run_fnS F hr hb (passAt tk σ) I2 r q
      | _ => exact o.elim

/-- a body, run from its arguments -/
def runF (N : List Str) (m : SS) : FS := fun ds st => match m (ds.map some ++ List.replicate (N.length - ds.length) none) st with
  | .nx _ st' => .ok .non st'
  | .rt d st' => .ok d st'
  | .er x _ st' => .er x st'
  | _ => .no
end

section
variable {P : Program} {w : World} {K : PySem.W.Frag} {mg : Str → Option Value} {base : Heap}
theorem envR_start {ρ : Mp} {n : Nat} {H : Hp} {N : List Str} {ds : List D} {vs : List V} (rv : RelDs K ρ n H ds vs) : EnvR K ρ n H (ds.map some ++ List.replicate (N.length - ds.length) none) (L2.start N vs) := by
  have hl := rv.len
  refine ⟨by simp [L2.start, hl], fun i d q => ?_⟩
  by_cases hi : i < ds.length
  · rw [List.getElem?_append_left (by simpa using hi), List.getElem?_map] at q
    cases e : ds[i]? with
    | none => rw [e] at q; cases q
    | some d' =>
      rw [e] at q; cases q
      obtain ⟨v, h1, h2⟩ := rv.get e
      exact ⟨v, by unfold L2.start; rw [List.getElem?_append_left (by simpa [hl] using hi), List.getElem?_map, h1]; rfl, h2⟩
  · rw [List.getElem?_append_right (by simpa using hi), List.getElem?_replicate] at q
    split at q <;> cases q
/-- THE RULE of a def -/
theorem fn_def {x qual : Str} {st : Stmt} {f : Addr} {fd : FuncData} {N ps : List Str} {k : Nat} {m : SS} (F : Fun K x qual st f fd) (S : FnScope N ps (defScope st))
    (hbody : ∀ (cdv : Value) (A : Around) (outer : List PySem.Env) (s : Shared) (H : Hp) (E : XK) (X : Cx), X = cxOf (L2.CX P w) P w K mg base N qual (defScope st) f cdv A outer s H E → Room k X.A → Takes X (fun c d _ H => E c d H) → PassesOwn (model X.prog X.w) X.A X.env X.xe →
      EvSs (cxOf (L2.CX P w) P w K mg base N qual (defScope st) f cdv A outer s H E) (fun c d _ H => E c d H) (defBody st) m) : FnD P w K mg base (k + 1) f fd ps (runF N m) := by
  refine F.okX S (fun vs H Q E h => ?_) (fun cdv A outer s H vs Q E hr h => ?_)
  · obtain ⟨ρ, st, ds, hl, r, rv, o⟩ := h
    rw [rv.len, hl]
  · obtain ⟨ρ, st', ds, hl, r, rv, o⟩ := h
    refine ⟨_, hbody cdv A outer s H E _ rfl hr (takes_of rfl rfl rfl rfl) (passes_of rfl), ρ, _, st', r, envR_start (N := N) rv, ?_⟩
    unfold runF at o
    show OutS K _ ρ st'.length H _ (m _ st')
    cases q : m (ds.map some ++ List.replicate (N.length - ds.length) none) st' with
    | no => rw [q] at o; exact o
    | nx a b => rw [q] at o; exact fun ρ' H' σ' e' r' _ => o ρ' H' .non e' r' (by simp [reD, RelD])
    | rt a b => rw [q] at o; exact o
    | bk a b => rw [q] at o; exact o.elim
    | ct a b => rw [q] at o; exact o.elim
    | er x a b => rw [q] at o; exact fun ρ' H' σ' c d e' r' _ z => o ρ' H' c d e' r' z
end
end Fx

set_option Elab.async false
set_option linter.all false
set_option maxRecDepth 100000
set_option maxHeartbeats 4000000
namespace Fx
open PySem L2
variable [Md]
variable [Mw]

/-! ### a def by what it gives: the objects that it leaves behind are forgotten, a list that it hands back is only read -/
mutual
def WfD (n : Nat) : D → Prop
  | .tup xs => WfDs n xs
  | .lst xs => WfDs n xs
  | .loc i => i < n
  | _ => True
def WfDs (n : Nat) : List D → Prop
  | [] => True
  | d :: ds => WfD n d ∧ WfDs n ds
end
def WfO (n : Nat) : O → Prop
  | .lst xs => WfDs n xs
  | .dk kvs => ∀ p ∈ kvs, WfD n p.2
  | .dt kvs => ∀ p ∈ kvs, WfD n p.2
def WfS (n : Nat) (st : Store) : Prop := ∀ (i : Nat) (o : O), st[i]? = some o → WfO n o
mutual
inductive Cv (n : Nat) (S : Store) : D → D → Prop
  | refl {d : D} (h : WfD n d) : Cv n S d d
  | tup {xs ys : List D} (h : Cvs n S xs ys) : Cv n S (.tup xs) (.tup ys)
  | lst {xs ys : List D} (h : Cvs n S xs ys) : Cv n S (.lst xs) (.lst ys)
  | frz {i : Nat} {xs ys : List D} (hn : n ≤ i) (hi : S[i]? = some (.lst xs)) (h : Cvs n S xs ys) : Cv n S (.loc i) (.lst ys)
inductive Cvs (n : Nat) (S : Store) : List D → List D → Prop
  | nil : Cvs n S [] []
  | cons {x y : D} {xs ys : List D} (h : Cv n S x y) (t : Cvs n S xs ys) : Cvs n S (x :: xs) (y :: ys)
end
theorem Cvs.refl {n : Nat} {S : Store} : ∀ {ds : List D}, WfDs n ds → Cvs n S ds ds
  | [], _ => .nil
  | d :: ds, h => by simp only [WfDs] at h; exact .cons (.refl h.1) (Cvs.refl h.2)
section
variable {K : PySem.W.Frag} {ρ : Mp} {n m : Nat} {H : Hp} {S st : Store}
mutual
theorem RelD.wf : ∀ (d : D) {v : V}, RelD K ρ n H d v → WfD n d
  | .non, v, h => by simp [WfD]
  | .bl b, v, h => by simp [WfD]
  | .int b, v, h => by simp [WfD]
  | .str b, v, h => by simp [WfD]
  | .ty b, v, h => by simp [WfD]
  | .fn b, v, h => by simp [WfD]
  | .tup xs, v, h => by
    simp only [RelD] at h
    obtain ⟨a, vs, _, _, q⟩ := h
    simp only [WfD]; exact RelDs.wf xs q
  | .lst xs, v, h => by
    simp only [RelD] at h
    obtain ⟨a, vs, _, _, q⟩ := h
    simp only [WfD]; exact RelDs.wf xs q
  | .loc i, v, h => by simp only [RelD] at h; simp only [WfD]; exact h.2
theorem RelDs.wf : ∀ (ds : List D) {vs : List V}, RelDs K ρ n H ds vs → WfDs n ds
  | [], vs, h => by simp [WfDs]
  | d :: ds, vs, h => by
    simp only [RelDs] at h
    obtain ⟨v, w, rfl, h1, h2⟩ := h
    simp only [WfDs]; exact ⟨RelD.wf d h1, RelDs.wf ds h2⟩
end
mutual
theorem RelD.less (hn : n ≤ m) : ∀ (d : D) {v : V}, RelD K ρ m H d v → WfD n d → RelD K ρ n H d v
  | .non, v, h, _ => by simpa only [RelD] using h
  | .bl b, v, h, _ => by simpa only [RelD] using h
  | .int b, v, h, _ => by simpa only [RelD] using h
  | .str b, v, h, _ => by simpa only [RelD] using h
  | .ty b, v, h, _ => by simpa only [RelD] using h
  | .fn b, v, h, _ => by simpa only [RelD] using h
  | .tup xs, v, h, q => by
    simp only [RelD] at h ⊢
    simp only [WfD] at q
    obtain ⟨a, vs, e, s, r⟩ := h
    exact ⟨a, vs, e, s, RelDs.less hn xs r q⟩
  | .lst xs, v, h, q => by
    simp only [RelD] at h ⊢
    simp only [WfD] at q
    obtain ⟨a, vs, e, s, r⟩ := h
    exact ⟨a, vs, e, s.imp (fun ⟨x, y, z⟩ => ⟨x, fun i hi => y i (Nat.lt_of_lt_of_le hi hn), z⟩) id, RelDs.less hn xs r q⟩
  | .loc i, v, h, q => by
    simp only [RelD] at h ⊢
    simp only [WfD] at q
    exact ⟨h.1, q⟩
theorem RelDs.less (hn : n ≤ m) : ∀ (ds : List D) {vs : List V}, RelDs K ρ m H ds vs → WfDs n ds → RelDs K ρ n H ds vs
  | [], vs, h, _ => by simpa only [RelDs] using h
  | d :: ds, vs, h, q => by
    simp only [RelDs] at h ⊢
    simp only [WfDs] at q
    obtain ⟨v, w, e, h1, h2⟩ := h
    exact ⟨v, w, e, RelD.less hn d h1 q.1, RelDs.less hn ds h2 q.2⟩
end
theorem Paired.withMem {α β : Type} {F G : α → β → Prop} : ∀ {l₁ : List α} {l₂ : List β}, Paired F l₁ l₂ → (∀ a b, a ∈ l₁ → F a b → G a b) → Paired G l₁ l₂
  | _, _, .nil, _ => .nil
  | _, _, .cons r t, f => .cons (f _ _ List.mem_cons_self r) (Paired.withMem t fun a b h q => f a b (List.mem_cons_of_mem _ h) q)
theorem Paired.left {α β : Type} {F : α → β → Prop} {P : α → Prop} : ∀ {l₁ : List α} {l₂ : List β}, Paired F l₁ l₂ → (∀ a b, F a b → P a) → ∀ a ∈ l₁, P a
  | _, _, .nil, _, a, h => by simp at h
  | _, _, .cons r t, f, a, h => by
    rcases List.mem_cons.mp h with rfl | h
    · exact f _ _ r
    · exact Paired.left t f a h
mutual
theorem wf_ofN {n : Nat} : ∀ k : NestedKey, WfD n (ofN k)
  | .none => by simp [ofN, WfD]
  | .num _ => by simp [ofN, WfD]
  | .text _ => by simp [ofN, WfD]
  | .tup ks => by simp only [ofN, WfD]; exact wf_ofNs ks
theorem wf_ofNs {n : Nat} : ∀ ks : List NestedKey, WfDs n (ofNs ks)
  | [] => by simp [ofNs, WfDs]
  | k :: ks => by simp only [ofNs, WfDs]; exact ⟨wf_ofN k, wf_ofNs ks⟩
end
theorem ObjR.wf {o : O} {a : Addr} (h : ObjR K ρ n H o a) : WfO n o := by
  cases o with
  | lst ds => obtain ⟨vs, _, q⟩ := h; exact RelDs.wf ds q
  | dk kvs => obtain ⟨ws, _, q⟩ := h; exact Paired.left q fun a b z => RelD.wf _ z.2
  | dt kvs => obtain ⟨w, ws, _, _, q⟩ := h; exact Paired.left q fun a b z => RelD.wf _ z.2.2
theorem ObjR.less (hn : n ≤ m) {o : O} {a : Addr} (h : ObjR K ρ m H o a) (w : WfO n o) : ObjR K ρ n H o a := by
  cases o with
  | lst ds => obtain ⟨vs, e, q⟩ := h; exact ⟨vs, e, RelDs.less hn ds q w⟩
  | dk kvs => obtain ⟨ws, e, q⟩ := h; exact ⟨ws, e, Paired.withMem q fun a b hm z => ⟨z.1, RelD.less hn _ z.2 (w a hm)⟩⟩
  | dt kvs => obtain ⟨w', ws, hw, e, q⟩ := h; exact ⟨w', ws, hw, e, Paired.withMem q fun a b hm z => ⟨z.1, ⟨RelD.less hn _ z.2.1.1 (wf_ofN _), z.2.1.2⟩, RelD.less hn _ z.2.2 (w a hm)⟩⟩
theorem R.wf (r : R K ρ st H) : WfS st.length st := fun i o h => (r.obj i o h).wf
theorem R.forget {g : Store} (r : R K ρ (st ++ g) H) (w : WfS st.length st) : R K ρ st H := by
  have hl : st.length ≤ (st ++ g).length := by simp
  refine ⟨fun i o h => ?_, fun i j hi hj => r.inj i j (by omega) (by omega), r.hid, fun i hi => r.sep i (by omega)⟩
  have hi : i < st.length := (List.getElem?_eq_some_iff.mp h).1
  exact (r.obj i o (by rw [List.getElem?_append_left hi]; exact h)).less hl (w i o h)
mutual
theorem Cv.rel (r : R K ρ S H) (hn : n ≤ S.length) : ∀ {d d' : D} {v : V}, Cv n S d d' → RelD K ρ S.length H d v → RelD K ρ n H d' v
  | d, _, v, .refl w, h => RelD.less hn d h w
  | .tup xs, .tup ys, v, .tup c, h => by
    simp only [RelD] at h ⊢
    obtain ⟨a, vs, e, s, q⟩ := h
    exact ⟨a, vs, e, s, Cvs.rel r hn c q⟩
  | .lst xs, .lst ys, v, .lst c, h => by
    simp only [RelD] at h ⊢
    obtain ⟨a, vs, e, s, q⟩ := h
    exact ⟨a, vs, e, s.imp (fun ⟨x, y, z⟩ => ⟨x, fun i hi => y i (Nat.lt_of_lt_of_le hi hn), z⟩) id, Cvs.rel r hn c q⟩
  | .loc i, .lst ys, v, .frz (xs := xs) hi hs c, h => by
    simp only [RelD] at h ⊢
    obtain ⟨rfl, hl⟩ := h
    obtain ⟨vs, e, q⟩ := r.obj i _ hs
    exact ⟨_, vs, rfl, .inl ⟨.inl e, fun j hj z => absurd (r.inj j i (by omega) hl z) (by omega), r.sep i hl⟩, Cvs.rel r hn c q⟩
theorem Cvs.rel (r : R K ρ S H) (hn : n ≤ S.length) : ∀ {ds ds' : List D} {vs : List V}, Cvs n S ds ds' → RelDs K ρ S.length H ds vs → RelDs K ρ n H ds' vs
  | [], [], vs, .nil, h => by simpa only [RelDs] using h
  | d :: ds, d' :: ds', vs, .cons c t, h => by
    simp only [RelDs] at h ⊢
    obtain ⟨v, w, e, h1, h2⟩ := h
    exact ⟨v, w, e, Cv.rel r hn c h1, Cvs.rel r hn t h2⟩
end
end

/-- r' says of r what callers need -/
def Ref (n0 : Nat) (r' r : Rs D) : Prop := match r' with
  | .no => True
  | .ok d' st' => ∃ d g, r = .ok d (st' ++ g) ∧ Cv st'.length (st' ++ g) d d' ∧ WfS st'.length st' ∧ n0 ≤ st'.length
  | .er x st' => ∃ g, r = .er x (st' ++ g) ∧ (∀ fs, x.fs = some fs → ∀ p ∈ fs, WfD st'.length p.2) ∧ WfS st'.length st' ∧ n0 ≤ st'.length
theorem fn_ref {P : Program} {w : World} {K : PySem.W.Frag} {mg : Str → Option Value} {base : Heap} {k : Nat} {f : Addr} {fd : FuncData} {ps : List Str} {fs fs' : FS} (F : FnD P w K mg base k f fd ps fs)
    (h : ∀ ds st, ds.length = ps.length → WfDs st.length ds → WfS st.length st → Ref st.length (fs' ds st) (fs ds st)) : FnD P w K mg base k f fd ps fs' := by
  refine FnOk.imp F fun vs H Q E hs => ?_
  obtain ⟨ρ, st, ds, hl, r, rv, o⟩ := hs
  refine ⟨ρ, st, ds, hl, r, rv, ?_⟩
  have q := h ds st hl (RelDs.wf ds rv) r.wf
  cases e : fs' ds st with
  | no => rw [e] at o; exact o.elim
  | ok d' st' =>
    rw [e] at o q
    obtain ⟨d, g, e2, c, wf, le⟩ := q
    rw [e2]
    intro ρ1 H1 v e1 r1 rd
    have hl' : st'.length ≤ (st' ++ g).length := by simp
    exact o ρ1 H1 v ⟨le, e1.old, fun i h1 h2 => e1.new i h1 (by omega), e1.keep, e1.hid⟩ (r1.forget wf) (Cv.rel r1 hl' c rd)
  | er x st' =>
    rw [e] at o q
    obtain ⟨g, e2, c, wf, le⟩ := q
    rw [e2]
    intro ρ1 H1 cls dd e1 r1 rd
    have hl' : st'.length ≤ (st' ++ g).length := by simp
    refine o ρ1 H1 cls dd ⟨le, e1.old, fun i h1 h2 => e1.new i h1 (by omega), e1.keep, e1.hid⟩ (r1.forget wf) ?_
    obtain ⟨hc, rd⟩ := rd
    refine ⟨hc, ?_⟩
    cases q1 : x.fs with
    | none =>
      rw [q1] at rd
      cases dd with
      | none => exact trivial
      | some d => exact rd.elim
    | some fs1 =>
      rw [q1] at rd
      cases dd with
      | none => exact rd.elim
      | some d =>
        obtain ⟨ws, hw, p⟩ := rd
        exact ⟨ws, hw, Paired.withMem p fun a b hm z => ⟨z.1, RelD.less hl' _ z.2 (c fs1 q1 a hm)⟩⟩
theorem Ref.no {n0 : Nat} {r : Rs D} : Ref n0 .no r := trivial
theorem Ref.pure {n0 : Nat} {d : D} {st : Store} {r : Rs D} (hw : WfS st.length st) (hd : WfD st.length d) (hn : n0 ≤ st.length) (g : Store) (e : r = .ok d (st ++ g)) : Ref n0 (.ok d st) r := ⟨d, g, e, .refl hd, hw, hn⟩
theorem Ref.err {n0 : Nat} {x : Ex} {st : Store} {r : Rs D} (hw : WfS st.length st) (hd : ∀ fs, x.fs = some fs → ∀ p ∈ fs, WfD st.length p.2) (hn : n0 ≤ st.length) (g : Store) (e : r = .er x (st ++ g)) : Ref n0 (.er x st) r := ⟨g, e, hd, hw, hn⟩
/-- a list made by the def is handed back -/
theorem Ref.list {n0 : Nat} {xs : List D} {st g : Store} {r : Rs D} {i : Nat} (hw : WfS st.length st) (hd : WfDs st.length xs) (hn : n0 ≤ st.length) (e : r = .ok (.loc i) (st ++ g)) (hi : st.length ≤ i) (hg : (st ++ g)[i]? = some (.lst xs)) : Ref n0 (.ok (.lst xs) st) r :=
  ⟨_, g, e, .frz hi hg (Cvs.refl hd), hw, hn⟩
end Fx

set_option Elab.async false
set_option linter.all false
set_option maxRecDepth 100000
set_option maxHeartbeats 4000000
namespace Fx
open PySem L2
variable [Md]
variable [Mw]

/-! ### reading sequences -/
def seqOf (d : D) (st : Store) : Option (List D) := match d with
  | .tup ds => some ds
  | .lst ds => some ds
  | .loc i => (match st[i]? with
    | some (.lst ds) => some ds
    | _ => none)
  | _ => none
def listOf (d : D) (st : Store) : Option (List D) := match d with
  | .lst ds => some ds
  | .loc i => (match st[i]? with
    | some (.lst ds) => some ds
    | _ => none)
  | _ => none
section
variable {K : PySem.W.Frag} {ρ : Mp} {st : Store} {H : Hp} {d : D} {v : V} {ds : List D}
theorem listOf_rel (r : R K ρ st H) (h : RelD K ρ st.length H d v) (e : listOf d st = some ds) : ∃ a vs, v = .ref a ∧ SqL K H a vs ∧ RelDs K ρ st.length H ds vs := by
  cases d with
  | lst xs =>
    simp only [listOf] at e; cases e
    simp only [RelD] at h
    obtain ⟨a, vs, rfl, s, q⟩ := h
    exact ⟨a, vs, rfl, s.sq, q⟩
  | loc i =>
    simp only [listOf] at e
    simp only [RelD] at h
    obtain ⟨rfl, _⟩ := h
    cases q : st[i]? with
    | none => rw [q] at e; cases e
    | some o =>
      rw [q] at e
      cases o with
      | lst xs =>
        cases e
        obtain ⟨vs, hv, rv⟩ := r.obj i _ q
        exact ⟨_, vs, rfl, SqL.of hv, rv⟩
      | _ => cases e
  | _ => cases e
theorem seqOf_rel (r : R K ρ st H) (h : RelD K ρ st.length H d v) (e : seqOf d st = some ds) : ∃ a vs, v = .ref a ∧ (SqL K H a vs ∨ TupAt H a vs) ∧ RelDs K ρ st.length H ds vs := by
  cases d with
  | tup xs =>
    simp only [seqOf] at e; cases e
    simp only [RelD] at h
    obtain ⟨a, vs, rfl, s, q⟩ := h
    exact ⟨a, vs, rfl, .inr s, q⟩
  | lst xs =>
    obtain ⟨a, vs, h1, h2, h3⟩ := listOf_rel r h (show listOf (.lst xs) st = some ds from e)
    exact ⟨a, vs, h1, .inl h2, h3⟩
  | loc i =>
    obtain ⟨a, vs, h1, h2, h3⟩ := listOf_rel r h (show listOf (.loc i) st = some ds from e)
    exact ⟨a, vs, h1, .inl h2, h3⟩
  | _ => cases e
theorem loc_rel (r : R K ρ st H) {i : Nat} (h : RelD K ρ st.length H (.loc i) v) (e : st[i]? = some (.lst ds)) : i < st.length ∧ v = .ref (ρ.at' i) ∧ ∃ vs, H (ρ.at' i) = some (.lst vs) ∧ RelDs K ρ st.length H ds vs := by
  simp only [RelD] at h
  obtain ⟨vs, hv, rv⟩ := r.obj i _ e
  exact ⟨h.2, h.1, vs, hv, rv⟩
end

/-! ### the ints' operators -/
section
variable {X : Cx} {W : WX}
theorem opS_ints {g : Value → Value → Sem Value} {C : Int → Int → Prop} {h : Int → Int → V} {hd : Int → Int → D} {f : D → D → Store → Rs D} (ho : OpR X g (rI C h))
    (hf : ∀ x y st, f x y st ≠ .no → ∃ i j, x = .int i ∧ y = .int j ∧ C i j ∧ f x y st = .ok (hd i j) st) (hr : ∀ i j ρ n H, RelD X.K ρ n H (hd i j) (h i j)) : OpS X g f := by
  refine ⟨_, ho, fun W σ ρ st H x y vx vy Q r rx ry o => ?_⟩
  have hn : f x y st ≠ .no := fun z => by rw [z] at o; exact o
  obtain ⟨i, j, rfl, rfl, c, e⟩ := hf x y st hn
  simp only [RelD] at rx ry
  rw [e] at o
  exact ⟨i, j, rx, ry, c, o.here r (hr _ _ _ _ _)⟩
def onII (f : Int → Int → D) : D → D → Store → Rs D := fun x y st => match x, y with
  | .int i, .int j => .ok (f i j) st
  | _, _ => .no
def onIIc (c : Int → Int → Bool) (f : Int → Int → D) : D → D → Store → Rs D := fun x y st => match x, y with
  | .int i, .int j => if c i j = true then .ok (f i j) st else .no
  | _, _ => .no
theorem onII_ok {f : Int → Int → D} {x y : D} {st : Store} (h : onII f x y st ≠ .no) : ∃ i j, x = .int i ∧ y = .int j ∧ True ∧ onII f x y st = .ok (f i j) st := by
  cases x with
  | int i =>
    cases y with
    | int j => exact ⟨i, j, rfl, rfl, trivial, rfl⟩
    | _ => exact absurd rfl h
  | _ => exact absurd rfl h
theorem onIIc_ok {c : Int → Int → Bool} {f : Int → Int → D} {x y : D} {st : Store} (h : onIIc c f x y st ≠ .no) : ∃ i j, x = .int i ∧ y = .int j ∧ c i j = true ∧ onIIc c f x y st = .ok (f i j) st := by
  cases x with
  | int i =>
    cases y with
    | int j =>
      simp only [onIIc] at h ⊢
      by_cases hc : c i j = true
      · exact ⟨i, j, rfl, rfl, hc, by rw [if_pos hc]⟩
      · rw [if_neg hc] at h; exact absurd rfl h
    | _ => exact absurd rfl h
  | _ => exact absurd rfl h
theorem rI_of0 {g : Value → Value → Sem Value} {h : Int → Int → V} (ho : OpR X g (rI0 h)) : OpR X g (rI (fun _ _ => True) h) := fun pins s σ H x y v u Q I rx ry ⟨i, j, e1, e2, _, q⟩ => ho pins s σ H x y v u Q I rx ry ⟨i, j, e1, e2, q⟩
/-- the bits of two factors -/
theorem ex_mulFits : ∃ f : Int → Int → Bool, ∀ i j, f i j = true ↔ ((-18446744073709551616 < i ∧ i < 18446744073709551616) ∨ (-18446744073709551616 < j ∧ j < 18446744073709551616) ∨ i.natAbs.log2 + j.natAbs.log2 < 100000000) :=
  ⟨fun i j => decide ((-18446744073709551616 < i ∧ i < 18446744073709551616) ∨ (-18446744073709551616 < j ∧ j < 18446744073709551616) ∨ i.natAbs.log2 + j.natAbs.log2 < 100000000), fun i j => decide_eq_true_iff⟩
noncomputable def mulFits : Int → Int → Bool := ex_mulFits.choose
theorem mulFits_iff {i j : Int} : mulFits i j = true ↔ ((-18446744073709551616 < i ∧ i < 18446744073709551616) ∨ (-18446744073709551616 < j ∧ j < 18446744073709551616) ∨ i.natAbs.log2 + j.natAbs.log2 < 100000000) := ex_mulFits.choose_spec i j
theorem mulFits_ok {i j : Int} (h : mulFits i j = true) : IntMulOk i j := by
  rcases mulFits_iff.mp h with h | h | h
  · exact IntMulOk.of_left (intBits_le_64 (by omega) (by omega))
  · exact IntMulOk.of_right (intBits_le_64 (by omega) (by omega))
  have b : ∀ x : Int, Builtin.Int.intBits x ≤ x.natAbs.log2 + 1 := fun x => by
    unfold Builtin.Int.intBits
    split <;> omega
  have h1 := b i
  have h2 := b j
  have h3 : i.natAbs.log2 + j.natAbs.log2 < 100000000 := h
  have e : bitsLine = 134217728 := by decide
  unfold IntMulOk
  intro z
  rw [Bool.and_eq_true] at z
  have z2 := z.2
  unfold Builtin.Int.intTooBig at z2
  have z3 := of_decide_eq_true z2
  rw [e] at z3
  omega
theorem ex_divFits : ∃ f : Int → Int → Bool, ∀ i j, f i j = true ↔ (0 < j ∧ j.natAbs.log2 < 9000) := ⟨fun _ j => decide (0 < j ∧ j.natAbs.log2 < 9000), fun i j => decide_eq_true_iff⟩
noncomputable def divFits : Int → Int → Bool := ex_divFits.choose
theorem divFits_iff {i j : Int} : divFits i j = true ↔ (0 < j ∧ j.natAbs.log2 < 9000) := ex_divFits.choose_spec i j
theorem opS_sub : OpS X (binaryOp .Sub) (onII fun i j => .int (i - j)) := opS_ints (rI_of0 op_sub) (fun x y st h => onII_ok h) (fun _ _ _ _ _ => by simp [RelD])
theorem op_mulX : OpR X (binaryOp .Mult) (rI (fun i j => mulFits i j = true) fun i j => .int (i * j)) := opI fun _ _ _ _ _ _ _ hc q => PyProof.Rows.mul_int q (mulFits_ok hc)
theorem opS_mulI : OpS X (binaryOp .Mult) (onIIc mulFits fun i j => .int (i * j)) := opS_ints op_mulX (fun x y st h => onIIc_ok h) (fun _ _ _ _ _ => by simp [RelD])
theorem op_fdivX : OpR X (binaryOp .FloorDiv) (rI (fun i j => divFits i j = true) fun i j => .int (i / j)) := opI fun i j _ _ _ _ _ hc q => by
  obtain ⟨h1, h2⟩ := divFits_iff.mp hc
  exact PyProof.Rows.floordiv_int (by omega) (by rw [Int.fdiv_eq_ediv_of_nonneg i (by omega)]; exact q) (.inl (PyProof.noPylong_of_log2 h2))
theorem opS_fdiv : OpS X (binaryOp .FloorDiv) (onIIc divFits fun i j => .int (i / j)) := opS_ints op_fdivX (fun x y st h => onIIc_ok h) (fun _ _ _ _ _ => by simp [RelD])
theorem opS_mod : OpS X (binaryOp .Mod) (onIIc (fun _ j => decide (0 < j)) fun i j => .int (i % j)) :=
  opS_ints (C := fun i j => decide (0 < j) = true) (fun pins s σ H x y v u Q I rx ry ⟨i, j, e1, e2, c, q⟩ => op_mod pins s σ H x y v u Q I rx ry ⟨i, j, e1, e2, of_decide_eq_true c, q⟩) (fun x y st h => onIIc_ok h) (fun _ _ _ _ _ => by simp [RelD])
theorem opS_lt : OpS X (compareOp .Lt) (onII fun i j => .bl (decide (i < j))) := opS_ints (rI_of0 op_lt) (fun x y st h => onII_ok h) (fun _ _ _ _ _ => by simp [RelD])
theorem opS_le : OpS X (compareOp .LtE) (onII fun i j => .bl (decide (i ≤ j))) := opS_ints (rI_of0 op_le) (fun x y st h => onII_ok h) (fun _ _ _ _ _ => by simp [RelD])
theorem opS_gt : OpS X (compareOp .Gt) (onII fun i j => .bl (decide (j < i))) := opS_ints (rI_of0 op_gt) (fun x y st h => onII_ok h) (fun _ _ _ _ _ => by simp [RelD])
theorem opS_ge : OpS X (compareOp .GtE) (onII fun i j => .bl (decide (j ≤ i))) := opS_ints (rI_of0 op_ge) (fun x y st h => onII_ok h) (fun _ _ _ _ _ => by simp [RelD])
/-! + of ints, texts, tuples, lists -/
noncomputable def fAdd : D → D → Store → Rs D := fun x y st => match x, y with
  | .int i, .int j => .ok (.int (i + j)) st
  | .str a, .str b => if szFits (a.length + b.length) = true then .ok (.str (a ++ b)) st else .no
  | .tup a, .tup b => if szFits (a.length + b.length) = true then .ok (.tup (a ++ b)) st else .no
  | x, y => .no
theorem opS_add : OpS X (binaryOp .Add) fAdd := by
  refine ⟨_, (op_add.or op_add_str).or op_catN, fun W σ ρ st H x y vx vy Q r rx ry o => ?_⟩
  cases x with
  | int i =>
    cases y with
    | int j => simp only [RelD] at rx ry; exact .inl (.inl ⟨i, j, rx, ry, o.here r (by simp [reD, RelD])⟩)
    | _ => exact o.elim
  | str a =>
    cases y with
    | str b =>
      simp only [RelD] at rx ry
      simp only [fAdd] at o
      split at o
      · rename_i h; exact .inl (.inr ⟨a, b, rx, ry, szFits_iff.mp h, o.here r (by simp [reD, RelD])⟩)
      · exact o.elim
    | _ => exact o.elim
  | tup a =>
    cases y with
    | tup b =>
      simp only [RelD] at rx ry
      simp only [fAdd] at o
      obtain ⟨p, us, rfl, hs, rs⟩ := rx
      obtain ⟨p2, ws, rfl, ht, rt⟩ := ry
      split at o
      · rename_i h0
        have h := szFits_iff.mp h0
        refine .inr ⟨p, p2, us, ws, rfl, rfl, hs.sq, ht.sq, by rw [rs.len, rt.len]; exact h, fun e => ?_, fun e1 e2 => ?_, fun e1 e2 q u hq nu => ?_⟩
        · subst e
          have : a = [] := List.length_eq_zero_iff.mp (by rw [← rs.len]; rfl)
          subst this
          exact o.here r (by simp only [reD, RelD, List.nil_append]; exact ⟨p2, ws, rfl, ht, rt⟩)
        · subst e2
          have : b = [] := List.length_eq_zero_iff.mp (by rw [← rt.len]; rfl)
          subst this
          exact o.here r (by simp only [reD, RelD, List.append_nil]; exact ⟨p, us, rfl, hs, rs⟩)
        · refine o.free r hq ?_
          simp only [reD, RelD]
          exact ⟨q, _, rfl, nu.upd, RelDs.mono (r.push_ext hq) r _ (rs.append rt)⟩
      · exact o.elim
    | _ => exact o.elim
  | _ => exact o.elim

/-! ### == -/
mutual
def toPy : D → PyData
  | .bl b => .bool b
  | .int i => .int i
  | .str x => .str x
  | .tup xs => .tuple (toPys xs)
  | .lst xs => .list (toPys xs)
  | _ => .none
def toPys : List D → List PyData
  | [] => []
  | d :: ds => toPy d :: toPys ds
end
mutual
def dOk : D → Bool
  | .non => true
  | .bl _ => true
  | .int _ => true
  | .str x => PyData.strOk x
  | .tup xs => dOks xs
  | .lst xs => dOks xs
  | _ => false
def dOks : List D → Bool
  | [] => true
  | d :: ds => dOk d && dOks ds
end
mutual
theorem canLay_of : ∀ d : D, dOk d = true → (toPy d).canLay0 = true
  | .non, _ => rfl
  | .bl _, _ => rfl
  | .int _, _ => rfl
  | .str x, h => h
  | .tup xs, h => by
    simp only [dOk] at h; simp only [toPy, PyData.canLay0]; exact canLays_of xs h
  | .lst xs, h => by
    simp only [dOk] at h; simp only [toPy, PyData.canLay0]; exact canLays_of xs h
theorem canLays_of : ∀ ds : List D, dOks ds = true → PyData.canLayAll0 (toPys ds) = true
  | [], _ => rfl
  | d :: ds, h => by
    simp only [dOks, Bool.and_eq_true] at h
    simp only [toPys, PyData.canLayAll0, Bool.and_eq_true]
    exact ⟨canLay_of d h.1, canLays_of ds h.2⟩
end
section
variable {K : PySem.W.Frag} {ρ : Mp} {n : Nat} {H : Hp}
mutual
theorem dp_of : ∀ (d : D) {v : V}, dOk d = true → RelD K ρ n H d v → Dp K H v (toPy d)
  | .non, v, _, h => by simp only [RelD] at h; subst h; exact .non
  | .bl b, v, _, h => by simp only [RelD] at h; subst h; exact .bl b
  | .int b, v, _, h => by simp only [RelD] at h; subst h; exact .int b
  | .str b, v, _, h => by simp only [RelD] at h; subst h; exact .str b
  | .tup xs, v, k, h => by
    simp only [RelD] at h
    simp only [dOk] at k
    obtain ⟨a, vs, rfl, s, q⟩ := h
    simp only [toPy]
    exact .tup s.sq (dps_of xs k q)
  | .lst xs, v, k, h => by
    simp only [RelD] at h
    simp only [dOk] at k
    obtain ⟨a, vs, rfl, s, q⟩ := h
    simp only [toPy]
    exact .lst s.sq (dps_of xs k q)
theorem dps_of : ∀ (ds : List D) {vs : List V}, dOks ds = true → RelDs K ρ n H ds vs → DpAll K H vs (toPys ds)
  | [], vs, _, h => by rw [h.nil_eq]; exact .nil
  | d :: ds, vs, k, h => by
    simp only [dOks, Bool.and_eq_true] at k
    obtain ⟨v, w, rfl, h1, h2⟩ := h.cases
    simp only [toPys]
    exact .cons (dp_of d k.1 h1) (dps_of ds k.2 h2)
end
end
def shD (d : D) : Bool := dOk d && decide ((toPy d).depth ≤ 64)
theorem shaped_of {d : D} (h : shD d = true) : SeqAt.shaped (toPy d) = true := by
  unfold shD at h
  rw [Bool.and_eq_true] at h
  unfold SeqAt.shaped
  rw [canLay_of d h.1, h.2]; rfl
def eqD (x y : D) : Bool := PyData.eqv (toPy x) (toPy y)
def fEq : D → D → Store → Rs D := fun x y st => if shD x = true ∧ shD y = true then .ok (.bl (eqD x y)) st else .no
def fNe : D → D → Store → Rs D := fun x y st => if shD x = true ∧ shD y = true then .ok (.bl (!eqD x y)) st else .no
theorem shD_ok {d : D} (h : shD d = true) : dOk d = true := by unfold shD at h; rw [Bool.and_eq_true] at h; exact h.1
theorem opS_eq (hu : X.A.units + 64 < cLine) : OpS X (compareOp .Eq) fEq := by
  refine ⟨_, op_eqD hu, fun W σ ρ st H x y vx vy Q r rx ry o => ?_⟩
  unfold fEq at o
  split at o
  · rename_i h
    exact ⟨_, _, dp_of x (shD_ok h.1) rx, dp_of y (shD_ok h.2) ry, shaped_of h.1, shaped_of h.2, o.here r (by simp [reD, RelD, eqD])⟩
  · exact o.elim
theorem opS_ne (hu : X.A.units + 64 < cLine) : OpS X (compareOp .NotEq) fNe := by
  refine ⟨_, op_neD hu, fun W σ ρ st H x y vx vy Q r rx ry o => ?_⟩
  unfold fNe at o
  split at o
  · rename_i h
    exact ⟨_, _, dp_of x (shD_ok h.1) rx, dp_of y (shD_ok h.2) ry, shaped_of h.1, shaped_of h.2, o.here r (by simp [reD, RelD, eqD])⟩
  · exact o.elim
/-! ### is -/
def fIs : D → D → Store → Rs D := fun x y st => match x, y with
  | .bl a, .bl b => .ok (.bl (decide (a = b))) st
  | .non, .non => .ok (.bl true) st
  | .bl _, .non => .ok (.bl false) st
  | .int _, .non => .ok (.bl false) st
  | .str _, .non => .ok (.bl false) st
  | .tup _, .non => .ok (.bl false) st
  | .lst _, .non => .ok (.bl false) st
  | .loc _, .non => .ok (.bl false) st
  | .fn _, .non => .ok (.bl false) st
  | _, _ => .no
def fIsNot : D → D → Store → Rs D := fun x y st => (fIs x y st).bind fun d st1 => match d with
  | .bl b => .ok (.bl (!b)) st1
  | _ => .no
theorem opS_is : OpS X (compareOp .Is) fIs := by
  refine ⟨_, op_isBl.or op_isN, fun W σ ρ st H x y vx vy Q r rx ry o => ?_⟩
  cases y with
  | bl b =>
    cases x with
    | bl a => simp only [RelD] at rx ry; exact .inl ⟨a, b, rx, ry, o.here r (by simp [reD, RelD])⟩
    | _ => exact o.elim
  | non =>
    simp only [RelD] at ry
    subst ry
    refine .inr ⟨rfl, ?_⟩
    cases x with
    | non => simp only [RelD] at rx; subst rx; exact o.here r (by simp [reD, RelD])
    | bl a => simp only [RelD] at rx; subst rx; exact o.here r (by simp [reD, RelD])
    | int a => simp only [RelD] at rx; subst rx; exact o.here r (by simp [reD, RelD])
    | str a => simp only [RelD] at rx; subst rx; exact o.here r (by simp [reD, RelD])
    | fn a => simp only [RelD] at rx; subst rx; exact o.here r (by simp [reD, RelD])
    | tup a => simp only [RelD] at rx; obtain ⟨_, _, rfl, _⟩ := rx; exact o.here r (by simp [reD, RelD])
    | lst a => simp only [RelD] at rx; obtain ⟨_, _, rfl, _⟩ := rx; exact o.here r (by simp [reD, RelD])
    | loc a => simp only [RelD] at rx; obtain ⟨rfl, _⟩ := rx; exact o.here r (by simp [reD, RelD])
    | ty a => exact o.elim
  | _ => cases x <;> exact o.elim
theorem opS_isNot : OpS X (compareOp .IsNot) fIsNot := by
  refine ⟨_, op_notBl.or op_notN, fun W σ ρ st H x y vx vy Q r rx ry o => ?_⟩
  cases y with
  | bl b =>
    cases x with
    | bl a => simp only [RelD] at rx ry; exact .inl ⟨a, b, rx, ry, Out.here (d := D.bl (!decide (a = b))) r o (by simp [reD, RelD])⟩
    | _ => exact o.elim
  | non =>
    simp only [RelD] at ry
    subst ry
    refine .inr ⟨rfl, ?_⟩
    cases x with
    | non => simp only [RelD] at rx; subst rx; exact Out.here (d := D.bl (!true)) r o (by simp [reD, RelD])
    | bl a => simp only [RelD] at rx; subst rx; exact Out.here (d := D.bl (!false)) r o (by simp [reD, RelD])
    | int a => simp only [RelD] at rx; subst rx; exact Out.here (d := D.bl (!false)) r o (by simp [reD, RelD])
    | str a => simp only [RelD] at rx; subst rx; exact Out.here (d := D.bl (!false)) r o (by simp [reD, RelD])
    | fn a => simp only [RelD] at rx; subst rx; exact Out.here (d := D.bl (!false)) r o (by simp [reD, RelD])
    | tup a => simp only [RelD] at rx; obtain ⟨_, _, rfl, _⟩ := rx; exact Out.here (d := D.bl (!false)) r o (by simp [reD, RelD])
    | lst a => simp only [RelD] at rx; obtain ⟨_, _, rfl, _⟩ := rx; exact Out.here (d := D.bl (!false)) r o (by simp [reD, RelD])
    | loc a => simp only [RelD] at rx; obtain ⟨rfl, _⟩ := rx; exact Out.here (d := D.bl (!false)) r o (by simp [reD, RelD])
    | ty a => exact o.elim
  | _ => cases x <;> exact o.elim
end
end Fx

set_option Elab.async false
set_option linter.all false
set_option maxRecDepth 100000
set_option maxHeartbeats 4000000
namespace Fx
open PySem L2
variable [Md]
variable [Mw]

section
variable {X : Cx} {W : WX} {e a b c o i : Expr} {es : List Expr} {m ma mb mc mo mi : SE} {ms : SA} {pos p : Pos} {x : Str}
/-! ### - and chains -/
def mNeg (m : SE) : SE := fun τ st => (m τ st).bind fun d st1 => match d with
  | .int i => .ok (.int (-i)) st1
  | _ => .no
theorem ev_neg (h : EvE X W a ma) : EvE X W (.UnaryOp .USub a pos) (mNeg ma) := PE.imp (pe_un un_neg h) fun σ H Q ⟨ρ, τ, st, r0, en, o⟩ =>
  tM.bind r0 en o fun d st1 ρ1 H1 v e1 r1 en1 q o1 => by
    cases d with
    | int i => simp only [RelD] at q; exact ⟨i, q, o1.here r1 (by simp [reD, RelD])⟩
    | _ => exact o1.elim
def mChain (f g : D → D → Store → Rs D) (ma mb mc : SE) : SE := fun τ st => (ma τ st).bind fun x st1 => (mb τ st1).bind fun y st2 => (f x y st2).bind fun z st3 => match z with
  | .bl true => (mc τ st3).bind fun u st4 => g y u st4
  | .bl false => .ok (.bl false) st3
  | _ => .no
theorem OpS.imp {g : Value → Value → Sem Value} {f : D → D → Store → Rs D} (ho : OpS X g f) : ∃ r, OpR X g r ∧ ∀ (W : WX) (σ : St) (ρ : Mp) (st : Store) (H : Hp) (x y : D) (vx vy : V) (Q : VK), R X.K ρ st H → RelD X.K ρ st.length H x vx → RelD X.K ρ st.length H y vy → Out X.K (reD X.K) W σ ρ st.length H Q (f x y st) → r vx vy H Q := ho
theorem tM.chain {op op' : CmpOp} {f g : D → D → Store → Rs D} {r r' : R2}
    (h2 : ∀ (W : WX) (σ : St) (ρ : Mp) (st : Store) (H : Hp) (x y : D) (vx vy : V) (Q : VK), R X.K ρ st H → RelD X.K ρ st.length H x vx → RelD X.K ρ st.length H y vy → Out X.K (reD X.K) W σ ρ st.length H Q (f x y st) → r vx vy H Q)
    (h3 : ∀ (W : WX) (σ : St) (ρ : Mp) (st : Store) (H : Hp) (x y : D) (vx vy : V) (Q : VK), R X.K ρ st H → RelD X.K ρ st.length H x vx → RelD X.K ρ st.length H y vy → Out X.K (reD X.K) W σ ρ st.length H Q (g x y st) → r' vx vy H Q)
    {σ : St} {H : Hp} {Q : VK} (h : tM X.K (reD X.K) W (mChain f g ma mb mc) σ H Q) : tChain r r' (tM X.K (reD X.K) W ma) (tM X.K (reD X.K) W mb) (tM X.K (reD X.K) W mc) σ H Q := by
  obtain ⟨ρ, τ, st, r0, en, o⟩ := h
  exact tM.bind r0 en o fun x st1 ρ1 H1 vx e1 r1 en1 qx o1 => tM.bind r1 en1 o1 fun y st2 ρ2 H2 vy e2 r2 en2 qy o2 =>
    h2 W σ ρ2 st2 H2 x y vx vy _ r2 (qx.mono e2 r1) qy (Out.bind r2 o2 fun z st3 ρ3 H3 vz e3 r3 qz o3 => by
      cases z with
      | bl k =>
        simp only [reD, RelD] at qz
        refine ⟨k, qz, ?_⟩
        cases k with
        | false => exact o3.here r3 (by simp [reD, RelD])
        | true =>
          rw [if_pos rfl]
          exact tM.bind r3 (en2.mono e3 r2) o3 fun u st4 ρ4 H4 vu e4 r4 en4 qu o4 => h3 W σ ρ4 st4 H4 y u vy vu Q r4 ((qy.mono e3 r2).mono e4 r3) qu o4
      | _ => exact o3.elim)
theorem ev_chain {op op' : CmpOp} {f g : D → D → Store → Rs D} (hf : OpS X (compareOp op) f) (hg : OpS X (compareOp op') g) (ha : EvE X W a ma) (hb : EvE X W b mb) (hc : EvE X W c mc) (hm : lastMarks [op, op'] [b, c] = false := by with_unfolding_all rfl) :
    EvE X W (.Compare a [op, op'] [b, c] pos) (mChain f g ma mb mc) := by
  obtain ⟨r, h1, h2⟩ := hf
  obtain ⟨r', h1', h2'⟩ := hg
  exact PE.imp (pe_chain h1 h1' ha hb hc hm) fun σ H Q h => tM.chain (op := op) (op' := op') h2 h2' h
theorem et_chain {op op' : CmpOp} {f g : D → D → Store → Rs D} (hf : OpS X (compareOp op) f) (hg : OpS X (compareOp op') g) (ha : EvE X W a ma) (hb : EvE X W b mb) (hc : EvE X W c mc) (hm : lastMarks [op, op'] [b, c] = false := by with_unfolding_all rfl) :
    EvB X W (.Compare a [op, op'] [b, c] pos) (mB (mChain f g ma mb mc)) := by
  obtain ⟨r, h1, h2⟩ := hf
  obtain ⟨r', h1', h2'⟩ := hg
  exact PT.imp (pt_chain h1 h1' ha hb hc hm) fun σ H Q h => tM.chain (op := op) (op' := op') h2 h2' (tM.tst h)

/-! ### calls of built-ins -/
abbrev FB (α : Type) := List D → Store → Rs α
def CallS {α : Type} (X : Cx) (Re : Rl α V) (f : Value) (fb : FB α) : Prop :=
  ∃ r, CallR X f r ∧ ∀ (W : WX) (σ : St) (ρ : Mp) (st : Store) (H : Hp) (ds : List D) (vs : List V) (Q : VK), R X.K ρ st H → RelDs X.K ρ st.length H ds vs → Out X.K Re W σ ρ st.length H Q (fb ds st) → r vs H Q
def mFn {α : Type} (fb : FB α) (ms : SA) : En → Store → Rs α := fun τ st => (ms τ st).bind fb
theorem ev_bf {α : Type} {Re : Rl α V} [RlOk X.K Re] {id : String} {fb : FB α} (hc : CallS X Re (.builtin id) fb) (hm : X.mg x = none) (hv : bootBuiltins x = some (.builtin id)) (ha : EvA X W (e :: es) ms) (hg : Gl X x := by rfl) (hn : x ≠ "__name__" := by decide) (hdb : (x == ("__debug__" : Str)) = false := by decide)
    (he : starEach (e :: es) X.env = (false, eval e X.env) :: starEach es X.env := by rfl) (hpl : (backTo pos (starEach es X.env)).any (·.1) = false := by rfl) : PE X (.Call (.Name x p) (e :: es) [] pos) (tM X.K Re W (mFn fb ms)) := by
  obtain ⟨r, h1, h2⟩ := hc
  exact PE.imp (pe_callB h1 hg hm hv ha hn hdb he hpl) fun σ H Q ⟨ρ, τ, st, r0, en, o⟩ => tM.bind r0 en o fun ds st1 ρ1 H1 vs e1 r1 en1 q o1 => h2 W σ ρ1 st1 H1 ds vs Q r1 q o1
theorem ev_bt {α : Type} {Re : Rl α V} [RlOk X.K Re] {id : String} {fb : FB α} (hc : CallS X Re (.type id) fb) (hm : X.mg x = none) (hv : bootBuiltins x = some (.type id)) (ha : EvA X W (e :: es) ms) (hg : Gl X x := by rfl) (hn : x ≠ "__name__" := by decide) (hdb : (x == ("__debug__" : Str)) = false := by decide)
    (he : starEach (e :: es) X.env = (false, eval e X.env) :: starEach es X.env := by rfl) (hpl : (backTo pos (starEach es X.env)).any (·.1) = false := by rfl) : PE X (.Call (.Name x p) (e :: es) [] pos) (tM X.K Re W (mFn fb ms)) := by
  obtain ⟨r, h1, h2⟩ := hc
  exact PE.imp (pe_callTy h1 hg hm hv ha hn hdb he hpl) fun σ H Q ⟨ρ, τ, st, r0, en, o⟩ => tM.bind r0 en o fun ds st1 ρ1 H1 vs e1 r1 en1 q o1 => h2 W σ ρ1 st1 H1 ds vs Q r1 q o1

theorem RelDs.one {K : PySem.W.Frag} {ρ : Mp} {n : Nat} {H : Hp} {d : D} {vs : List V} (h : RelDs K ρ n H [d] vs) : ∃ v, vs = [v] ∧ RelD K ρ n H d v := by
  obtain ⟨v, w, rfl, h1, h2⟩ := h.cases
  exact ⟨v, by rw [h2.nil_eq], h1⟩
theorem RelDs.two {K : PySem.W.Frag} {ρ : Mp} {n : Nat} {H : Hp} {d d2 : D} {vs : List V} (h : RelDs K ρ n H [d, d2] vs) : ∃ v v2, vs = [v, v2] ∧ RelD K ρ n H d v ∧ RelD K ρ n H d2 v2 := by
  obtain ⟨v, w, rfl, h1, h2⟩ := h.cases
  obtain ⟨v2, rfl, h3⟩ := h2.one
  exact ⟨v, v2, rfl, h1, h3⟩
noncomputable def fLen : FB D := fun ds st => match ds with
  | [.str z] => if szFits z.length = true then .ok (.int z.length) st else .no
  | [d] => (match seqOf d st with
    | some xs => .ok (.int xs.length) st
    | none => (match d with
      | .loc i => (match st[i]? with
        | some (.dk kvs) => .ok (.int kvs.length) st
        | _ => .no)
      | _ => .no))
  | _ => .no
theorem Paired.len {α β : Type} {F : α → β → Prop} : ∀ {l₁ : List α} {l₂ : List β}, Paired F l₁ l₂ → l₂.length = l₁.length
  | _, _, .nil => rfl
  | _, _, .cons _ t => by simp [Paired.len t]
theorem cs_len : CallS X (reD X.K) (.builtin "len") fLen := by
  refine ⟨_, (call_len_str.or call_len_seq).or call_lenD, fun W σ ρ st H ds vs Q r rv o => ?_⟩
  match ds, rv, o with
  | [d], rv, o =>
    obtain ⟨v, rfl, rd⟩ := rv.one
    by_cases hs : ∃ z, d = .str z
    · obtain ⟨z, rfl⟩ := hs
      simp only [RelD] at rd
      simp only [fLen] at o
      split at o
      · rename_i h; subst rd; exact .inl (.inl ⟨z, rfl, szFits_iff.mp h, o.here r (by simp [reD, RelD])⟩)
      · exact o.elim
    · have e : fLen [d] st = (match seqOf d st with
        | some xs => .ok (.int xs.length) st
        | none => (match d with
          | .loc i => (match st[i]? with
            | some (.dk kvs) => .ok (.int kvs.length) st
            | _ => .no)
          | _ => .no)) := by
        cases d <;> first | rfl | exact absurd ⟨_, rfl⟩ hs
      rw [e] at o
      cases q : seqOf d st with
      | some xs =>
        rw [q] at o
        obtain ⟨a, us, rfl, h, ru⟩ := seqOf_rel r rd q
        exact .inl (.inr ⟨a, us, rfl, h.imp id TupAt.sq, o.here r (by simp [reD, RelD, ru.len])⟩)
      | none =>
        rw [q] at o
        cases d with
        | loc i =>
          simp only at o
          cases q2 : st[i]? with
          | none => rw [q2] at o; exact o.elim
          | some ob =>
            rw [q2] at o
            cases ob with
            | dk kvs =>
              simp only [RelD] at rd
              obtain ⟨ws, hw, hp⟩ := r.obj i _ q2
              obtain ⟨rfl, _⟩ := rd
              exact .inr ⟨_, ws, rfl, hw, o.here r (by simp [reD, RelD, Paired.len hp])⟩
            | _ => exact o.elim
        | _ => exact o.elim
  | [], _, o => exact o.elim
  | _ :: _ :: _, _, o => simp [fLen] at o; exact o.elim
def fAbs : FB D := fun ds st => match ds with
  | [.int i] => .ok (.int (if i < 0 then -i else i)) st
  | _ => .no
theorem cs_abs : CallS X (reD X.K) (.builtin "abs") fAbs := by
  refine ⟨_, call_abs, fun W σ ρ st H ds vs Q r rv o => ?_⟩
  match ds, rv, o with
  | [.int i], rv, o =>
    obtain ⟨v, rfl, rd⟩ := rv.one
    simp only [RelD] at rd; subst rd
    exact ⟨i, rfl, o.here r (by simp [reD, RelD])⟩
  | [], _, o => exact o.elim
  | [.non], _, o | [.bl _], _, o | [.str _], _, o | [.ty _], _, o | [.fn _], _, o | [.tup _], _, o | [.lst _], _, o | [.loc _], _, o => exact o.elim
  | _ :: _ :: _, _, o => simp [fAbs] at o; exact o.elim
def fInt : FB D := fun ds st => match ds with
  | [.int i] => .ok (.int i) st
  | [.bl b] => .ok (.int (if b then 1 else 0)) st
  | _ => .no
theorem cs_int : CallS X (reD X.K) (.type "int") fInt := by
  refine ⟨_, call_int1, fun W σ ρ st H ds vs Q r rv o => ?_⟩
  match ds, rv, o with
  | [.int i], rv, o =>
    obtain ⟨v, rfl, rd⟩ := rv.one
    simp only [RelD] at rd; subst rd
    exact .inl ⟨i, rfl, o.here r (by simp [reD, RelD])⟩
  | [.bl i], rv, o =>
    obtain ⟨v, rfl, rd⟩ := rv.one
    simp only [RelD] at rd; subst rd
    exact .inr ⟨i, rfl, o.here r (by simp [reD, RelD])⟩
  | [], _, o => exact o.elim
  | [.non], _, o | [.str _], _, o | [.ty _], _, o | [.fn _], _, o | [.tup _], _, o | [.lst _], _, o | [.loc _], _, o => exact o.elim
  | _ :: _ :: _, _, o => simp [fInt] at o; exact o.elim
def fMin2 : FB D := fun ds st => match ds with
  | [.int i, .int j] => .ok (.int (if j < i then j else i)) st
  | _ => .no
def fMax2 : FB D := fun ds st => match ds with
  | [.int i, .int j] => .ok (.int (if j > i then j else i)) st
  | _ => .no
theorem two_ints {f : Int → Int → D} {ds : List D} {st : Store} {r : Rs D} (h : (match ds with
  | [.int i, .int j] => Rs.ok (f i j) st
  | _ => .no) = r) (hn : r ≠ .no) : ∃ i j, ds = [.int i, .int j] ∧ r = .ok (f i j) st := by
  split at h
  · exact ⟨_, _, rfl, h.symm⟩
  · exact absurd h.symm hn
theorem cs_min2 (hc : X.calm = true) : CallS X (reD X.K) (.builtin "min") fMin2 := by
  refine ⟨_, call_min2 hc, fun W σ ρ st H ds vs Q r rv o => ?_⟩
  obtain ⟨i, j, rfl, e⟩ := two_ints (f := fun i j => .int (if j < i then j else i)) (show fMin2 ds st = fMin2 ds st from rfl) (fun z => by rw [z] at o; exact o)
  rw [e] at o
  obtain ⟨v, v2, rfl, r1, r2⟩ := rv.two
  simp only [RelD] at r1 r2; subst r1; subst r2
  exact ⟨i, j, rfl, o.here r (by simp [reD, RelD])⟩
theorem cs_max2 (hc : X.calm = true) : CallS X (reD X.K) (.builtin "max") fMax2 := by
  refine ⟨_, call_max2 hc, fun W σ ρ st H ds vs Q r rv o => ?_⟩
  obtain ⟨i, j, rfl, e⟩ := two_ints (f := fun i j => .int (if j > i then j else i)) (show fMax2 ds st = fMax2 ds st from rfl) (fun z => by rw [z] at o; exact o)
  rw [e] at o
  obtain ⟨v, v2, rfl, r1, r2⟩ := rv.two
  simp only [RelD] at r1 r2; subst r1; subst r2
  exact ⟨i, j, rfl, o.here r (by simp [reD, RelD])⟩
/-- tuple(x), list(x) of a sequence -/
def fTuple : FB D := fun ds st => match ds with
  | [d] => (match seqOf d st with
    | some xs => .ok (.tup xs) st
    | none => .no)
  | _ => .no
def fList : FB (List D) := fun ds st => match ds with
  | [d] => (match seqOf d st with
    | some xs => .ok xs st
    | none => .no)
  | _ => .no
theorem one_seq {α : Type} {f : List D → α} {ds : List D} {st : Store} {r : Rs α} (h : (match ds with
  | [d] => (match seqOf d st with
    | some xs => Rs.ok (f xs) st
    | none => .no)
  | _ => .no) = r) (hn : r ≠ .no) : ∃ d xs, ds = [d] ∧ seqOf d st = some xs ∧ r = .ok (f xs) st := by
  split at h
  · split at h
    · exact ⟨_, _, rfl, by assumption, h.symm⟩
    · exact absurd h.symm hn
  · exact absurd h.symm hn
theorem cs_tuple : CallS X (reD X.K) (.type "tuple") fTuple := by
  refine ⟨_, call_tuple_ofN, fun W σ ρ st H ds vs Q r rv o => ?_⟩
  obtain ⟨d, xs, rfl, hx, e⟩ := one_seq (f := D.tup) (show fTuple ds st = fTuple ds st from rfl) (fun z => by rw [z] at o; exact o)
  rw [e] at o
  obtain ⟨v, rfl, rd⟩ := rv.one
  obtain ⟨a, us, rfl, h, ru⟩ := seqOf_rel r rd hx
  rcases h with h | h
  · refine ⟨a, us, rfl, .inl ⟨h, fun l u hl nu => o.free r hl ?_⟩⟩
    simp only [reD, RelD]
    exact ⟨l, us, rfl, nu.upd, RelDs.mono (r.push_ext hl) r _ ru⟩
  · exact ⟨a, us, rfl, .inr ⟨h.sq, o.here r (by simp only [reD, RelD]; exact ⟨a, us, rfl, h, ru⟩)⟩⟩
theorem Out.fresh' {K : PySem.W.Frag} {ρ : Mp} {st : Store} {H : Hp} {σ : St} {Q : VK} {p : Addr} {ds : List D} {vs : List V} (r0 : R K ρ st H) (h : Out K (reN K) W σ ρ st.length H Q (.ok ds st)) (hp : H p = none) (q : RelDs K ρ st.length H ds vs) : Q (.ref p) (upd H p (.lst vs)) := Out.fresh r0 h hp q
theorem cs_list : CallS X (reN X.K) (.type "list") fList := by
  refine ⟨_, call_list_of, fun W σ ρ st H ds vs Q r rv o => ?_⟩
  obtain ⟨d, xs, rfl, hx, e⟩ := one_seq (f := id) (show fList ds st = fList ds st from rfl) (fun z => by rw [z] at o; exact o)
  rw [e] at o
  obtain ⟨v, rfl, rd⟩ := rv.one
  obtain ⟨a, us, rfl, h, ru⟩ := seqOf_rel r rd hx
  exact ⟨a, us, rfl, h.imp id TupAt.sq, fun l hl => Out.fresh r o hl ru⟩
/-! lists of ints, of bools -/
def intsOf : List D → Option (List Int)
  | [] => some []
  | .int i :: r => (intsOf r).map (i :: ·)
  | _ :: _ => none
def blsOf : List D → Option (List Bool)
  | [] => some []
  | .bl i :: r => (blsOf r).map (i :: ·)
  | _ :: _ => none
theorem intsOf_eq : ∀ {ds : List D} {ns : List Int}, intsOf ds = some ns → ds = ns.map D.int
  | [], ns, h => by simp [intsOf] at h; subst h; rfl
  | d :: r, ns, h => by
    cases d with
    | int i =>
      simp only [intsOf] at h
      cases e : intsOf r with
      | none => rw [e] at h; cases h
      | some ms => rw [e] at h; cases h; rw [intsOf_eq e]; rfl
    | _ => cases h
theorem blsOf_eq : ∀ {ds : List D} {ns : List Bool}, blsOf ds = some ns → ds = ns.map D.bl
  | [], ns, h => by simp [blsOf] at h; subst h; rfl
  | d :: r, ns, h => by
    cases d with
    | bl i =>
      simp only [blsOf] at h
      cases e : blsOf r with
      | none => rw [e] at h; cases h
      | some ms => rw [e] at h; cases h; rw [blsOf_eq e]; rfl
    | _ => cases h
@[simp] theorem intsOf_map (ns : List Int) : intsOf (ns.map D.int) = some ns := by
  induction ns with
  | nil => rfl
  | cons n r ih => simp [intsOf, ih]
@[simp] theorem blsOf_map (ns : List Bool) : blsOf (ns.map D.bl) = some ns := by
  induction ns with
  | nil => rfl
  | cons n r ih => simp [blsOf, ih]
def onBls (f : List Bool → D) : FB D := fun ds st => match ds with
  | [d] => (match listOf d st with
    | some xs => (match blsOf xs with
      | some bs => .ok (f bs) st
      | none => .no)
    | none => .no)
  | _ => .no
def onInts {α : Type} (f : List Int → α) : FB α := fun ds st => match ds with
  | [d] => (match listOf d st with
    | some xs => (match intsOf xs with
      | some bs => .ok (f bs) st
      | none => .no)
    | none => .no)
  | _ => .no
theorem onBls_ok {f : List Bool → D} {ds : List D} {st : Store} (hn : onBls f ds st ≠ .no) : ∃ d bs, ds = [d] ∧ listOf d st = some (bs.map D.bl) ∧ onBls f ds st = .ok (f bs) st := by
  unfold onBls at hn ⊢
  split
  · split
    · split
      · rename_i h1 _ _ h2; exact ⟨_, _, rfl, by rw [h1, blsOf_eq h2], rfl⟩
      · rename_i h1 _ h2; simp [h1, h2] at hn
    · rename_i h1; simp [h1] at hn
  · rename_i h; split at hn
    · exact absurd rfl (h _)
    · exact absurd rfl hn
theorem onInts_ok {α : Type} {f : List Int → α} {ds : List D} {st : Store} (hn : onInts f ds st ≠ .no) : ∃ d bs, ds = [d] ∧ listOf d st = some (bs.map D.int) ∧ onInts f ds st = .ok (f bs) st := by
  unfold onInts at hn ⊢
  split
  · split
    · split
      · rename_i h1 _ _ h2; exact ⟨_, _, rfl, by rw [h1, intsOf_eq h2], rfl⟩
      · rename_i h1 _ h2; simp [h1, h2] at hn
    · rename_i h1; simp [h1] at hn
  · rename_i h; split at hn
    · exact absurd rfl (h _)
    · exact absurd rfl hn
theorem cs_all (hc : X.calm = true) : CallS X (reD X.K) (.builtin "all") (onBls fun bs => .bl (bs.all id)) := by
  refine ⟨_, cr_all hc, fun W σ ρ st H ds vs Q r rv o => ?_⟩
  obtain ⟨d, bs, rfl, hx, e⟩ := onBls_ok (fun z => by rw [z] at o; exact o)
  rw [e] at o
  obtain ⟨v, rfl, rd⟩ := rv.one
  obtain ⟨a, us, rfl, h, ru⟩ := listOf_rel r rd hx
  rw [ru.bls] at h
  exact ⟨a, bs, rfl, h, o.here r (by simp [reD, RelD])⟩
theorem cs_any (hc : X.calm = true) : CallS X (reD X.K) (.builtin "any") (onBls fun bs => .bl (bs.any id)) := by
  refine ⟨_, cr_any hc, fun W σ ρ st H ds vs Q r rv o => ?_⟩
  obtain ⟨d, bs, rfl, hx, e⟩ := onBls_ok (fun z => by rw [z] at o; exact o)
  rw [e] at o
  obtain ⟨v, rfl, rd⟩ := rv.one
  obtain ⟨a, us, rfl, h, ru⟩ := listOf_rel r rd hx
  rw [ru.bls] at h
  exact ⟨a, bs, rfl, h, o.here r (by simp [reD, RelD])⟩
theorem cs_sum (hc : X.calm = true) : CallS X (reD X.K) (.builtin "sum") (onInts fun ns => .int ns.sum) := by
  refine ⟨_, cr_sum hc, fun W σ ρ st H ds vs Q r rv o => ?_⟩
  obtain ⟨d, bs, rfl, hx, e⟩ := onInts_ok (fun z => by rw [z] at o; exact o)
  rw [e] at o
  obtain ⟨v, rfl, rd⟩ := rv.one
  obtain ⟨a, us, rfl, h, ru⟩ := listOf_rel r rd hx
  rw [ru.ints] at h
  exact ⟨a, bs, rfl, h, o.here r (by simp [reD, RelD])⟩
/-- the ints in order -/
def insI (n : Int) : List Int → List Int
  | [] => [n]
  | m :: r => if n ≤ m then n :: m :: r else m :: insI n r
def sortI : List Int → List Int
  | [] => []
  | n :: r => insI n (sortI r)
theorem insI_perm (n : Int) : ∀ l : List Int, (insI n l).Perm (n :: l)
  | [] => .refl _
  | m :: r => by
    unfold insI
    split
    · exact .refl _
    · exact ((insI_perm n r).cons m).trans (.swap n m r)
theorem sortI_perm : ∀ l : List Int, (sortI l).Perm l
  | [] => .refl _
  | n :: r => (insI_perm n (sortI r)).trans ((sortI_perm r).cons n)
theorem insI_sorted (n : Int) : ∀ {l : List Int}, l.Pairwise (· ≤ ·) → (insI n l).Pairwise (· ≤ ·)
  | [], _ => List.pairwise_singleton _ _
  | m :: r, h => by
    unfold insI
    split
    · rename_i hnm
      refine List.pairwise_cons.mpr ⟨fun x hx => ?_, h⟩
      rcases List.mem_cons.mp hx with rfl | hx
      · exact hnm
      · exact Int.le_trans hnm ((List.pairwise_cons.mp h).1 x hx)
    · rename_i hnm
      refine List.pairwise_cons.mpr ⟨fun x hx => ?_, insI_sorted n (List.pairwise_cons.mp h).2⟩
      rcases List.mem_cons.mp ((insI_perm n r).mem_iff.mp hx) with rfl | hx
      · omega
      · exact (List.pairwise_cons.mp h).1 x hx
theorem sortI_sorted : ∀ l : List Int, (sortI l).Pairwise (· ≤ ·)
  | [] => .nil
  | n :: r => insI_sorted n (sortI_sorted r)
theorem sorted_uniq : ∀ {l l' : List Int}, l.Perm l' → l.Pairwise (· ≤ ·) → l'.Pairwise (· ≤ ·) → l = l'
  | [], l', p, _, _ => by rw [List.nil_perm] at p; exact p.symm
  | x :: r, l', p, h, h' => by
    cases l' with
    | nil => exact absurd p.length_eq (by simp)
    | cons y s =>
      have hx : x ∈ y :: s := p.mem_iff.mp List.mem_cons_self
      have hy : y ∈ x :: r := p.mem_iff.mpr List.mem_cons_self
      have e : x = y := by
        rcases List.mem_cons.mp hx with e | hx
        · exact e
        · rcases List.mem_cons.mp hy with e | hy
          · exact e.symm
          · exact Int.le_antisymm ((List.pairwise_cons.mp h).1 y hy) ((List.pairwise_cons.mp h').1 x hx)
      subst e
      rw [sorted_uniq (List.Perm.cons_inv p) (List.pairwise_cons.mp h).2 (List.pairwise_cons.mp h').2]
theorem cs_sorted : CallS X (reN X.K) (.builtin "sorted") (onInts fun ns => (sortI ns).map D.int) := by
  refine ⟨_, cr_sortedI, fun W σ ρ st H ds vs Q r rv o => ?_⟩
  obtain ⟨d, bs, rfl, hx, e⟩ := onInts_ok (fun z => by rw [z] at o; exact o)
  rw [e] at o
  obtain ⟨v, rfl, rd⟩ := rv.one
  obtain ⟨a, us, rfl, h, ru⟩ := listOf_rel r rd hx
  rw [ru.ints] at h
  refine ⟨a, bs, rfl, h, fun ns' p h1 h2 hp => ?_⟩
  have e' : ns' = sortI bs := sorted_uniq (h1.trans (sortI_perm bs).symm) h2 (sortI_sorted bs)
  subst e'
  exact Out.fresh r o hp RelDs.ints'
end
end Fx

set_option Elab.async false
set_option linter.all false
set_option maxRecDepth 100000
set_option maxHeartbeats 4000000
namespace Fx
open PySem L2
variable [Md]
variable [Mw]

section
variable {X : Cx} {W : WX} {e a b c o i value : Expr} {es : List Expr} {m ma mb mc mo mi mv : SE} {ms : SA} {pos p pos' apos cpos : Pos} {x : Str}
/-! ### x[i] -/
noncomputable def fIx : D → D → Store → Rs D := fun x y st => match y with
  | .int k => (match seqOf x st with
    | some xs => (match atI xs k with
      | some d => .ok d st
      | none => .no)
    | none => (match x with
      | .str z => if szFits z.length = true then (match atI z.cps.toList k with
        | some c => .ok (.str ⟨#[c]⟩) st
        | none => .no) else .no
      | _ => .no))
  | _ => .no
theorem RelDs.atI {K : PySem.W.Frag} {ρ : Mp} {n : Nat} {H : Hp} {ds : List D} {vs : List V} (h : RelDs K ρ n H ds vs) {k : Int} {d : D} (e : L2.atI ds k = some d) : ∃ v, L2.atI vs k = some v ∧ RelD K ρ n H d v := by
  unfold L2.atI at e ⊢
  rw [h.len]
  cases q : ixN ds.length k with
  | none => rw [q] at e; cases e
  | some j => rw [q] at e; simp only [Option.bind_some] at e ⊢; exact h.get e
theorem ev_ix (ha : EvE X W a ma) (hb : EvE X W b mb) (hs : PlainIx b := by exact fun _ _ => rfl) : EvE X W (.Subscript a b pos) (mOp fIx ma mb) := PE.imp (pe_ix ix_seq ha hb hs) fun σ H Q h =>
  tM.op (X := X) (W := W) (fun W σ ρ st H x y vx vy Q r rx ry o => by
    cases y with
    | int k =>
      simp only [RelD] at ry
      subst ry
      simp only [fIx] at o
      cases q : seqOf x st with
      | some xs =>
        rw [q] at o
        simp only at o
        cases q2 : L2.atI xs k with
        | none => rw [q2] at o; exact o.elim
        | some d =>
          rw [q2] at o
          obtain ⟨p, us, rfl, h, ru⟩ := seqOf_rel r rx q
          obtain ⟨v, h1, h2⟩ := ru.atI q2
          rcases h with h | h
          · exact .inl ⟨p, us, k, v, rfl, rfl, h, h1, o.here r h2⟩
          · exact .inr (.inl ⟨p, us, k, v, rfl, rfl, h.sq, h1, o.here r h2⟩)
      | none =>
        rw [q] at o
        cases x with
        | str z =>
          simp only at o
          split at o
          · rename_i hz
            cases q2 : L2.atI z.cps.toList k with
            | none => rw [q2] at o; exact o.elim
            | some c =>
              rw [q2] at o
              simp only [RelD] at rx
              exact .inr (.inr ⟨z, k, c, rx, rfl, (szFits_iff.mp hz), q2, o.here r (by simp [reD, RelD])⟩)
          · exact o.elim
        | _ => exact o.elim
    | _ => exact o.elim) h

/-! ### slices -/
abbrev reO : Rl (Option Int) (Option Int) := fun _ _ _ _ a b => a = b
instance {K : PySem.W.Frag} : RlOk K reO := ⟨fun _ _ h => h⟩
abbrev SO := En → Store → Rs (Option Int)
abbrev EvO (X : Cx) (W : WX) (e : Option Expr) (m : SO) : Prop := PO X e (tM X.K reO W m)
def mNoPart : SO := fun _ st => .ok none st
def mPart (m : SE) : SO := fun τ st => (m τ st).bind fun d st1 => match d with
  | .int i => .ok (some i) st1
  | _ => .no
theorem PO.imp {e : Option Expr} {t t' : St → Hp → (Option Int → Hp → Prop) → Prop} (h : PO X e t) (hi : ∀ σ H Q, t' σ H Q → t σ H Q) : PO X e t' := ⟨fun pins s σ H Q I q => h.run pins s σ H Q I (hi _ _ _ q)⟩
theorem eo_none : EvO X W none mNoPart := PO.imp po_none fun σ H Q ⟨ρ, τ, st, r0, en, o⟩ => o.here r0 rfl
theorem eo_some (h : EvE X W e m) : EvO X W (some e) (mPart m) := PO.imp (po_some h) fun σ H Q ⟨ρ, τ, st, r0, en, o⟩ =>
  tM.bind r0 en o fun d st1 ρ1 H1 v e1 r1 en1 q o1 => by
    cases d with
    | int k => simp only [RelD] at q; exact ⟨k, q, o1.here r1 rfl⟩
    | _ => exact o1.elim
def cutD (xs : List D) (lo hi : Option Int) : List D := (xs.drop (HT.sIx xs.length 0 lo)).take (HT.sIx xs.length xs.length hi - HT.sIx xs.length 0 lo)
theorem RelDs.cut {K : PySem.W.Frag} {ρ : Mp} {n : Nat} {H : Hp} {ds : List D} {vs : List V} (h : RelDs K ρ n H ds vs) (lo hi : Option Int) : RelDs K ρ n H (cutD ds lo hi) (cutV vs lo hi) := by
  unfold cutD cutV
  rw [h.len]
  exact (h.drop _).take _
/-- a slice: of a tuple a tuple, of a list a list that is only read -/
def fSl (x : D) (lo hi : Option Int) (st : Store) : Rs D := match x with
  | .tup xs => .ok (.tup (cutD xs lo hi)) st
  | x => (match listOf x st with
    | some xs => .ok (.lst (cutD xs lo hi)) st
    | none => .no)
def mSl (f : D → Option Int → Option Int → Store → Rs D) (m : SE) (ml mh : SO) : SE := fun τ st => (m τ st).bind fun d st1 => (ml τ st1).bind fun lo st2 => (mh τ st2).bind fun hi st3 => f d lo hi st3
theorem ev_sl {lo hi : Option Expr} {ml mh : SO} (ha : EvE X W a ma) (hl : EvO X W lo ml) (hh : EvO X W hi mh) : EvE X W (.Subscript a (.Slice lo hi none p) pos) (mSl fSl ma ml mh) :=
  PE.imp (pe_slice (sl_tupN.or sl_list) ha hl hh) fun σ H Q ⟨ρ, τ, st, r0, en, o⟩ => tM.bind r0 en o fun d st1 ρ1 H1 v e1 r1 en1 q o1 => tM.bind r1 en1 o1 fun l st2 ρ2 H2 l' e2 r2 en2 q2 o2 => tM.bind r2 en2 o2 fun h st3 ρ3 H3 h' e3 r3 en3 q3 o3 => by
    cases (show l = l' from q2)
    cases (show h = h' from q3)
    have q' := (q.mono e2 r1).mono e3 r2
    have gen : ∀ {xs : List D}, listOf d st3 = some xs → Out X.K (reD X.K) W σ ρ3 st3.length H3 Q (.ok (.lst (cutD xs l h)) st3) → rSlL X.K v l h H3 Q := fun {xs} hx ox => by
      obtain ⟨p, us, rfl, hs, ru⟩ := listOf_rel r3 q' hx
      refine ⟨p, us, rfl, hs, fun y hy => ox.free r3 hy ?_⟩
      simp only [reD, RelD]
      exact ⟨y, _, rfl, .inl ⟨.inl upd_same, r3.ne_none hy, r3.nh_none hy⟩, RelDs.mono (r3.push_ext hy) r3 _ (ru.cut l h)⟩
    cases d with
    | tup xs =>
      simp only [fSl] at o3
      simp only [RelD] at q'
      obtain ⟨p, us, rfl, hs, ru⟩ := q'
      refine .inl ⟨p, us, rfl, hs.sq, fun hw => o3.here r3 ?_, fun hw y u hy nu => o3.free r3 hy ?_⟩
      · simp only [reD, RelD]
        have e : cutD xs l h = xs := by
          unfold cutD
          rw [ru.len] at hw
          rw [hw.1, hw.2]
          simp
        rw [e]
        exact ⟨p, us, rfl, hs, ru⟩
      · simp only [reD, RelD]
        exact ⟨y, _, rfl, nu.upd, RelDs.mono (r3.push_ext hy) r3 _ (ru.cut l h)⟩
    | lst xs => exact .inr (gen (xs := xs) rfl o3)
    | loc k =>
      simp only [fSl] at o3
      cases e : listOf (.loc k) st3 with
      | none => rw [e] at o3; exact o3.elim
      | some xs => rw [e] at o3; exact .inr (gen e o3)
    | _ => exact o3.elim
/-- xs[::-1] of a list, as a list that is only read -/
def mRevL (m : SE) : SA := fun τ st => (m τ st).bind fun d st1 => match listOf d st1 with
  | some xs => .ok xs.reverse st1
  | none => .no
theorem ef_revL {k : Nat} {p1 p2 p3 : Pos} (ha : EvE X W a ma) : EvF X W (.Subscript a (.Slice none none (some (.UnaryOp .USub (.Constant (.int 1) k p1) p2)) p3) pos) (mRevL ma) :=
  PE.imp (pe_revL ha) fun σ H Q ⟨ρ, τ, st, r0, en, o⟩ => tM.bind r0 en o fun d st1 ρ1 H1 v e1 r1 en1 q o1 => by
    cases e : listOf d st1 with
    | none => rw [e] at o1; exact o1.elim
    | some xs =>
      rw [e] at o1
      obtain ⟨p, us, rfl, hs, ru⟩ := listOf_rel r1 q e
      exact ⟨p, us, rfl, hs, fun y hy => Out.fresh r1 o1 hy ru.reverse⟩

/-! ### xs[i] = v -/
def fSetL (ob k d : D) (st : Store) : Option Store := match ob, k with
  | .loc n, .int k => (match st[n]? with
    | some (.lst xs) => (match ixN xs.length k with
      | some j => some (st.set n (.lst (xs.set j d)))
      | none => none)
    | _ => none)
  | _, _ => none
def sSub (f : D → D → D → Store → Option Store) (mo mi m : SE) : SS := fun τ st => (m τ st).go τ fun d st1 => (mo τ st1).go τ fun ob st2 => (mi τ st2).go τ fun k st3 => match f ob k d st3 with
  | some st4 => .nx τ st4
  | none => .no
theorem setL_ok {K : PySem.W.Frag} {ρ : Mp} {st st' : Store} {H : Hp} {ob k d : D} {vo vk vd : V} (r : R K ρ st H) (ro : RelD K ρ st.length H ob vo) (rk : RelD K ρ st.length H k vk) (rd : RelD K ρ st.length H d vd) (h : fSetL ob k d st = some st') {Q : Hp → Prop}
    (q : ∀ H', Ext ρ st.length H ρ st'.length H' → R K ρ st' H' → Q H') : rSetL vo vk vd H Q := by
  cases ob with
  | loc n =>
    cases k with
    | int k =>
      simp only [fSetL] at h
      cases e : st[n]? with
      | none => rw [e] at h; cases h
      | some ob =>
        rw [e] at h
        cases ob with
        | lst xs =>
          simp only at h
          cases e2 : ixN xs.length k with
          | none => rw [e2] at h; cases h
          | some j =>
            rw [e2] at h
            cases h
            obtain ⟨hl, rfl, vs, hv, rv⟩ := loc_rel r ro e
            simp only [RelD] at rk
            subst rk
            refine ⟨_, vs, k, j, rfl, rfl, hv, by rw [rv.len]; exact e2, q _ ?_ (r.set hl ⟨_, upd_same, ?_⟩)⟩
            · rw [List.length_set]; exact r.set_ext hl
            · exact RelDs.mono (r.set_ext hl) r _ (rv.set rd j)
        | _ => cases h
    | _ => cases h
  | _ => cases h
theorem es_sub (ho : EvE X W o mo) (hi : EvE X W i mi) (hv : EvE X W value mv) (hs : swapsWithSole [.Subscript o i pos'] value pos.line X.env = pure false := by rfl) (hw : swappedStores [.Subscript o i pos'] value X.env = pure none := by rfl)
    (h1 : (assignEach [.Subscript o i pos'] X.env).map (·.2) = [assign (.Subscript o i pos') X.env] := by rfl)
    (ha : ∀ v, assign (.Subscript o i pos') X.env v = (do
      let ov ← holding [v] (eval o X.env)
      let iv ← holding [v, ov] (eval i X.env)
      standAt pos'
      holding [v, ov, iv] (setItem ov iv v)
      release [v, ov, iv] []) := by intro _; rfl) : EvS X W (.Assign [.Subscript o i pos'] value pos) (sSub fSetL mo mi mv) :=
  PS.imp (ps_asg hv (pg_sub ho hi set_list ha) hs hw h1) fun D σ H ⟨ρ, τ, st, r0, en, oo⟩ => tM.goS r0 en oo fun d st1 ρ1 H1 v e1 r1 en1 q o1 => tM.goS r1 en1 o1 fun ob st2 ρ2 H2 vo e2 r2 en2 q2 o2 => tM.goS r2 en2 o2 fun k st3 ρ3 H3 vk e3 r3 en3 q3 o3 => by
    cases e : fSetL ob k d st3 with
    | none => rw [e] at o3; exact o3.elim
    | some st4 =>
      rw [e] at o3
      exact setL_ok r3 (q2.mono e3 r2) q3 ((q.mono e2 r1).mono e3 r2) e fun H' ex r4 => o3 ρ3 H' σ ex r4 (en3.mono ex r3)

/-! ### dicts -/
def keyOf : D → Option Key
  | .int i => some (.inl i)
  | .str x => some (.inr x)
  | _ => none
def keysOf : List D → Option (List Key)
  | [] => some []
  | d :: r => match keyOf d, keysOf r with
    | some k, some ks => some (k :: ks)
    | _, _ => none
theorem keyOf_rel {K : PySem.W.Frag} {ρ : Mp} {n : Nat} {H : Hp} {d : D} {v : V} {k : Key} (h : RelD K ρ n H d v) (e : keyOf d = some k) : v = kV k := by
  cases d with
  | int i => simp only [RelD] at h; cases e; exact h
  | str i => simp only [RelD] at h; cases e; exact h
  | _ => cases e
theorem keysOf_rel {K : PySem.W.Frag} {ρ : Mp} {n : Nat} {H : Hp} : ∀ {ds : List D} {vs : List V} {ks : List Key}, RelDs K ρ n H ds vs → keysOf ds = some ks → vs = ks.map kV
  | [], vs, ks, h, e => by simp [keysOf] at e; subst e; exact h.nil_eq
  | d :: r, vs, ks, h, e => by
    obtain ⟨v, w, rfl, h1, h2⟩ := h.cases
    simp only [keysOf] at e
    cases q : keyOf d with
    | none => rw [q] at e; cases e
    | some k =>
      cases q2 : keysOf r with
      | none => rw [q, q2] at e; cases e
      | some ks' =>
        rw [q, q2] at e
        cases e
        rw [keyOf_rel h1 q, keysOf_rel h2 q2]; rfl
section
variable {κ : Type} [DecidableEq κ]
def valD (kvs : List (κ × D)) (k : κ) : Option D := (kvs.find? fun kv => decide (kv.1 = k)).map (·.2)
def putD (kvs : List (κ × D)) (k : κ) (v : D) : List (κ × D) :=
  if (kvs.any fun kv => decide (kv.1 = k)) = true then kvs.map (fun kv => if kv.1 = k then (kv.1, v) else kv) else kvs ++ [(k, v)]
variable {K : PySem.W.Frag} {ρ : Mp} {n : Nat} {H : Hp}
abbrev PairR (K : PySem.W.Frag) (ρ : Mp) (n : Nat) (H : Hp) : List (κ × D) → List (κ × V) → Prop := Paired fun p q => p.1 = q.1 ∧ RelD K ρ n H p.2 q.2
theorem PairR.val {kvs : List (κ × D)} {ws : List (κ × V)} (h : PairR K ρ n H kvs ws) (k : κ) : (valD kvs k = none ∧ valV ws k = none) ∨ ∃ d v, valD kvs k = some d ∧ valV ws k = some v ∧ RelD K ρ n H d v := by
  induction h with
  | nil => exact .inl ⟨rfl, rfl⟩
  | @cons p q l₁ l₂ h t ih =>
    by_cases e : p.1 = k
    · refine .inr ⟨p.2, q.2, ?_, valV_pos (h.1.symm.trans e), h.2⟩
      unfold valD; rw [List.find?_cons, decide_eq_true e]; rfl
    · have e' : ¬ q.1 = k := fun z => e (h.1.trans z)
      rw [valV_neg e']
      have : valD (p :: l₁) k = valD l₁ k := by unfold valD; rw [List.find?_cons, decide_eq_false e]
      rw [this]; exact ih
theorem PairR.any {kvs : List (κ × D)} {ws : List (κ × V)} (h : PairR K ρ n H kvs ws) (k : κ) : (kvs.any fun kv => decide (kv.1 = k)) = (ws.any fun kv => decide (kv.1 = k)) := by
  induction h with
  | nil => rfl
  | cons h t ih => rw [List.any_cons, List.any_cons, ih, h.1]
theorem PairR.snoc {kvs : List (κ × D)} {ws : List (κ × V)} (h : PairR K ρ n H kvs ws) {k : κ} {d : D} {v : V} (r : RelD K ρ n H d v) : PairR K ρ n H (kvs ++ [(k, d)]) (ws ++ [(k, v)]) := by
  induction h with
  | nil => exact .cons ⟨rfl, r⟩ .nil
  | cons h t ih => exact .cons h ih
theorem PairR.map {kvs : List (κ × D)} {ws : List (κ × V)} (h : PairR K ρ n H kvs ws) {k : κ} {d : D} {v : V} (r : RelD K ρ n H d v) :
    PairR K ρ n H (kvs.map fun kv => if kv.1 = k then (kv.1, d) else kv) (ws.map fun kv => if kv.1 = k then (kv.1, v) else kv) := by
  induction h with
  | nil => exact .nil
  | @cons p q l₁ l₂ h t ih =>
    refine .cons ?_ ih
    show (if p.1 = k then (p.1, d) else p).1 = (if q.1 = k then (q.1, v) else q).1 ∧ RelD K ρ n H (if p.1 = k then (p.1, d) else p).2 (if q.1 = k then (q.1, v) else q).2
    by_cases e : p.1 = k
    · rw [if_pos e, if_pos (h.1.symm.trans e)]; exact ⟨h.1, r⟩
    · rw [if_neg e, if_neg (fun z => e (h.1.trans z))]; exact h
theorem PairR.put {kvs : List (κ × D)} {ws : List (κ × V)} (h : PairR K ρ n H kvs ws) {k : κ} {d : D} {v : V} (r : RelD K ρ n H d v) : PairR K ρ n H (putD kvs k d) (putK ws k v) := by
  unfold putD putK
  rw [h.any k]
  split
  · exact h.map r
  · exact h.snoc r
end
mutual
/-- the key that a tuple is -/
def toN : D → Option NestedKey
  | .non => some .none
  | .int i => some (.num i)
  | .str x => some (.text x)
  | .tup xs => (toNs xs).map .tup
  | _ => none
def toNs : List D → Option (List NestedKey)
  | [] => some []
  | d :: ds => (toN d).bind fun k => (toNs ds).map fun ks => k :: ks
end
mutual
theorem ofN_toN : ∀ (d : D) {k : NestedKey}, toN d = some k → ofN k = d
  | .non, k, h => by simp only [toN, Option.some.injEq] at h; subst h; rfl
  | .int i, k, h => by simp only [toN, Option.some.injEq] at h; subst h; rfl
  | .str i, k, h => by simp only [toN, Option.some.injEq] at h; subst h; rfl
  | .tup xs, k, h => by
    simp only [toN] at h
    obtain ⟨ks, h1, rfl⟩ := Option.map_eq_some_iff.mp h
    rw [ofN, ofNs_toNs xs h1]
  | .bl _, k, h => by simp [toN] at h
  | .ty _, k, h => by simp [toN] at h
  | .fn _, k, h => by simp [toN] at h
  | .lst _, k, h => by simp [toN] at h
  | .loc _, k, h => by simp [toN] at h
theorem ofNs_toNs : ∀ (ds : List D) {ks : List NestedKey}, toNs ds = some ks → ofNs ks = ds
  | [], ks, h => by simp only [toNs, Option.some.injEq] at h; subst h; rfl
  | d :: ds, ks, h => by
    simp only [toNs] at h
    obtain ⟨k, h1, h2⟩ := Option.bind_eq_some_iff.mp h
    obtain ⟨r, h3, rfl⟩ := Option.map_eq_some_iff.mp h2
    rw [ofNs, ofN_toN d h1, ofNs_toNs ds h3]
end
def keyN (d : D) : Option NestedKey := match d with
  | .tup _ => (match toN d with
    | some k => if k.depth ≤ 8 then some k else none
    | none => none)
  | _ => none
theorem keyN_ok {d : D} {k : NestedKey} (h : keyN d = some k) : ofN k = d ∧ k.depth ≤ 8 ∧ ∃ xs, d = .tup xs := by
  cases d with
  | tup xs =>
    simp only [keyN] at h
    cases e : toN (.tup xs) with
    | none => rw [e] at h; cases h
    | some q =>
      rw [e] at h
      simp only at h
      split at h
      · cases h; exact ⟨ofN_toN _ e, by assumption, xs, rfl⟩
      · cases h
  | _ => cases h
theorem keyN_rel {K : PySem.W.Frag} {ρ : Mp} {n : Nat} {H : Hp} {d : D} {v : V} {k : NestedKey} (h : RelD K ρ n H d v) (e : keyN d = some k) : ∃ b, v = .ref b ∧ RelD K ρ n H (ofN k) (.ref b) ∧ NK K H k (.ref b) ∧ k.depth ≤ 8 := by
  obtain ⟨e1, e2, xs, rfl⟩ := keyN_ok e
  rw [← e1] at h
  have h' := h
  rw [e1] at h'
  simp only [RelD] at h'
  obtain ⟨a, vs, rfl, _⟩ := h'
  exact ⟨a, rfl, h, nk_of k h, e2⟩
abbrev TR (K : PySem.W.Frag) (ρ : Mp) (n : Nat) (H : Hp) : List (NestedKey × D) → List (NestedKey × Addr × V) → Prop := Paired fun p q => p.1 = q.1 ∧ (RelD K ρ n H (ofN p.1) (.ref q.2.1) ∧ p.1.depth ≤ 8) ∧ RelD K ρ n H p.2 q.2.2
theorem TR.pair {K : PySem.W.Frag} {ρ : Mp} {n : Nat} {H : Hp} : ∀ {kvs : List (NestedKey × D)} {ws : List (NestedKey × Addr × V)}, TR K ρ n H kvs ws → PairR K ρ n H kvs (dropA ws)
  | _, _, .nil => .nil
  | _, _, .cons h t => .cons ⟨h.1, h.2.2⟩ (TR.pair t)
theorem TR.keys {K : PySem.W.Frag} {ρ : Mp} {n : Nat} {H : Hp} : ∀ {kvs : List (NestedKey × D)} {ws : List (NestedKey × Addr × V)}, TR K ρ n H kvs ws → Keys K H ws
  | _, _, .nil => fun q hq => nomatch hq
  | _, _, .cons h t => fun q hq => by
    rcases List.mem_cons.mp hq with e | hq
    · subst e
      have := nk_of _ h.2.1.1
      rw [h.1] at this
      exact ⟨this, by rw [← h.1]; exact h.2.1.2⟩
    · exact TR.keys t q hq
theorem TR.any {K : PySem.W.Frag} {ρ : Mp} {n : Nat} {H : Hp} (k : NestedKey) : ∀ {kvs : List (NestedKey × D)} {ws : List (NestedKey × Addr × V)}, TR K ρ n H kvs ws → (kvs.any fun kv => decide (kv.1 = k)) = (ws.any fun kv => decide (kv.1 = k))
  | _, _, .nil => rfl
  | _, _, .cons h t => by rw [List.any_cons, List.any_cons, TR.any k t, h.1]
theorem TR.snoc {K : PySem.W.Frag} {ρ : Mp} {n : Nat} {H : Hp} {p : NestedKey × D} {q : NestedKey × Addr × V} (z : p.1 = q.1 ∧ (RelD K ρ n H (ofN p.1) (.ref q.2.1) ∧ p.1.depth ≤ 8) ∧ RelD K ρ n H p.2 q.2.2) : ∀ {kvs : List (NestedKey × D)} {ws : List (NestedKey × Addr × V)}, TR K ρ n H kvs ws → TR K ρ n H (kvs ++ [p]) (ws ++ [q])
  | _, _, .nil => .cons z .nil
  | _, _, .cons h t => .cons h (TR.snoc z t)
theorem TR.map {K : PySem.W.Frag} {ρ : Mp} {n : Nat} {H : Hp} {k : NestedKey} {d : D} {v : V} (r : RelD K ρ n H d v) : ∀ {kvs : List (NestedKey × D)} {ws : List (NestedKey × Addr × V)}, TR K ρ n H kvs ws → TR K ρ n H (kvs.map fun kv => if kv.1 = k then (kv.1, d) else kv) (ws.map fun q => if q.1 = k then (q.1, q.2.1, v) else q)
  | _, _, .nil => .nil
  | _, _, .cons (a := p) (b := q) h t => by
    refine .cons ?_ (TR.map r t)
    dsimp only
    by_cases e : p.1 = k
    · rw [if_pos e, if_pos (h.1.symm.trans e)]; exact ⟨h.1, h.2.1, r⟩
    · rw [if_neg e, if_neg (fun z => e (h.1.trans z))]; exact h
theorem TR.put {K : PySem.W.Frag} {ρ : Mp} {n : Nat} {H : Hp} {kvs : List (NestedKey × D)} {ws : List (NestedKey × Addr × V)} (h : TR K ρ n H kvs ws) {k : NestedKey} {b : Addr} {d : D} {v : V} (hk : RelD K ρ n H (ofN k) (.ref b)) (hd : k.depth ≤ 8) (r : RelD K ρ n H d v) : TR K ρ n H (putD kvs k d) (putN ws k b v) := by
  unfold putD putN
  rw [h.any k]
  split
  · exact h.map r
  · exact h.snoc ⟨rfl, ⟨hk, hd⟩, r⟩
/-- d[k], where it is there -/
def dGet (ob k : D) (st : Store) : Option (Option D) := match ob with
  | .loc n => (match st[n]? with
    | some (.dk kvs) => (match keyOf k with
      | some q => some (valD kvs q)
      | none => none)
    | some (.dt kvs) => (match keyN k with
      | some q => some (valD kvs q)
      | none => none)
    | _ => none)
  | _ => none
theorem dGet_rel {K : PySem.W.Frag} {ρ : Mp} {st : Store} {H : Hp} {ob k : D} {vo vk : V} {res : Option D} {wd : World} (hw : Mw.w = some wd) (r : R K ρ st H) (ro : RelD K ρ st.length H ob vo) (rk : RelD K ρ st.length H k vk) (h : dGet ob k st = some res) :
    ∃ a w, vo = .ref a ∧ (DGet H a vk w ∨ NGet wd K H a vk w) ∧ ((res = none ∧ w = none) ∨ ∃ d v, res = some d ∧ w = some v ∧ RelD K ρ st.length H d v) := by
  cases ob with
  | loc n =>
    simp only [dGet] at h
    simp only [RelD] at ro
    obtain ⟨rfl, hl⟩ := ro
    cases e : st[n]? with
    | none => rw [e] at h; cases h
    | some ob =>
      rw [e] at h
      cases ob with
      | dk kvs =>
        simp only at h
        cases q : keyOf k with
        | none => rw [q] at h; cases h
        | some kk =>
          rw [q] at h
          cases h
          obtain ⟨ws, hw, hp⟩ := r.obj n _ e
          rw [keyOf_rel rk q]
          refine ⟨_, valV ws kk, rfl, .inl (DGet.k hw), ?_⟩
          rcases PairR.val hp kk with ⟨h1, h2⟩ | ⟨d, v, h1, h2, h3⟩
          · exact .inl ⟨h1, h2⟩
          · exact .inr ⟨d, v, h1, h2, h3⟩
      | dt kvs =>
        simp only at h
        cases q : keyN k with
        | none => rw [q] at h; cases h
        | some kk =>
          rw [q] at h
          cases h
          obtain ⟨w', ws, hw', hH, hp⟩ := r.obj n _ e
          rw [hw] at hw'
          cases hw'
          obtain ⟨b, rfl, hb, hnk, hdp⟩ := keyN_rel rk q
          refine ⟨_, valV (dropA ws) kk, rfl, .inr ⟨ws, b, kk, hH, TR.keys hp, rfl, hnk, hdp, rfl⟩, ?_⟩
          rcases PairR.val (TR.pair hp) kk with ⟨h1, h2⟩ | ⟨d, v, h1, h2, h3⟩
          · exact .inl ⟨h1, h2⟩
          · exact .inr ⟨d, v, h1, h2, h3⟩
      | lst xs => cases h
  | _ => cases h
def fDGet : D → D → Store → Rs D := fun ob k st => match dGet ob k st with
  | some (some d) => .ok d st
  | _ => .no
def fDIn (b : Bool) : D → D → Store → Rs D := fun k ob st => match dGet ob k st with
  | some (some _) => .ok (.bl b) st
  | some none => .ok (.bl (!b)) st
  | none => .no
theorem ev_dget (hu : X.A.units + 65 < cLine) (hw : Mw.w = some X.w) (ho : EvE X W o mo) (hi : EvE X W i mi) (hs : NoSl i := by exact fun _ _ => rfl) : EvE X W (.Subscript o i pos) (mOp fDGet mo mi) := PE.imp (pe_fget (by omega) ho hi hs) fun σ H Q ⟨ρ, τ, st, r0, en, oo⟩ =>
  tM.bind r0 en oo fun ob st1 ρ1 H1 vo e1 r1 en1 q o1 => tM.bind r1 en1 o1 fun k st2 ρ2 H2 vk e2 r2 en2 q2 o2 => by
    simp only [fDGet] at o2
    cases e : dGet ob k st2 with
    | none => rw [e] at o2; exact o2.elim
    | some res =>
      rw [e] at o2
      obtain ⟨a, w, rfl, g, z⟩ := dGet_rel hw r2 (q.mono e2 r1) q2 e
      rcases z with ⟨rfl, rfl⟩ | ⟨d, v, rfl, rfl, rd⟩
      · exact o2.elim
      · exact ⟨a, v, rfl, g, o2.here r2 rd⟩
theorem tM.din {bb : Bool} {σ : L2.St} {H : Hp} {Q : VK} (hw : Mw.w = some X.w) (h : tM X.K (reD X.K) W (mOp (fDIn bb) mi mo) σ H Q) : tFIn X.w X.K (!bb) (tM X.K (reD X.K) W mi) (tM X.K (reD X.K) W mo) σ H Q := by
  obtain ⟨ρ, τ, st, r0, en, oo⟩ := h
  exact tM.bind r0 en oo fun k st1 ρ1 H1 vk e1 r1 en1 q o1 => tM.bind r1 en1 o1 fun ob st2 ρ2 H2 vo e2 r2 en2 q2 o2 => by
    simp only [fDIn] at o2
    cases e : dGet ob k st2 with
    | none => rw [e] at o2; exact o2.elim
    | some res =>
      rw [e] at o2
      obtain ⟨a, w, rfl, g, z⟩ := dGet_rel hw r2 q2 (q.mono e2 r1) e
      refine ⟨a, w, rfl, g, ?_⟩
      rcases z with ⟨rfl, rfl⟩ | ⟨d, v, rfl, rfl, rd⟩
      · exact o2.here r2 (by cases bb <;> simp [reD, RelD])
      · exact o2.here r2 (by cases bb <;> simp [reD, RelD])
theorem ev_din (hu : X.A.units + 65 < cLine) (hw : Mw.w = some X.w) (hi : EvE X W i mi) (ho : EvE X W o mo) (hm : behindInMarks .In o = false := by rfl) : EvE X W (.Compare i [.In] [o] pos) (mOp (fDIn true) mi mo) := PE.imp (pe_cmp (pc_fin (by omega) hi ho) hm) fun σ H Q h => tM.din hw h
theorem ev_dnotin (hu : X.A.units + 65 < cLine) (hw : Mw.w = some X.w) (hi : EvE X W i mi) (ho : EvE X W o mo) (hm : behindInMarks .NotIn o = false := by rfl) : EvE X W (.Compare i [.NotIn] [o] pos) (mOp (fDIn false) mi mo) := PE.imp (pe_cmp (pc_fnotin (by omega) hi ho) hm) fun σ H Q h => tM.din hw h
theorem et_din (hu : X.A.units + 65 < cLine) (hw : Mw.w = some X.w) (hi : EvE X W i mi) (ho : EvE X W o mo) (hm : behindInMarks .In o = false := by rfl) : EvB X W (.Compare i [.In] [o] pos) (mB (mOp (fDIn true) mi mo)) := PT.imp (pt_cmp (pc_fin (by omega) hi ho) hm) fun σ H Q h => tM.din hw (tM.tst h)
theorem et_dnotin (hu : X.A.units + 65 < cLine) (hw : Mw.w = some X.w) (hi : EvE X W i mi) (ho : EvE X W o mo) (hm : behindInMarks .NotIn o = false := by rfl) : EvB X W (.Compare i [.NotIn] [o] pos) (mB (mOp (fDIn false) mi mo)) := PT.imp (pt_cmp (pc_fnotin (by omega) hi ho) hm) fun σ H Q h => tM.din hw (tM.tst h)
def mDNewK : SE := fun _ st => .ok (.loc st.length) (st ++ [.dk []])
def mDNewT : SE := fun _ st => .ok (.loc st.length) (st ++ [.dt []])
theorem ev_dnewK : EvE X W (.Dict [] [] pos) mDNewK := PE.imp pe_dnewK fun σ H Q ⟨ρ, τ, st, r0, en, o⟩ => fun p hp => Out.alloc (α := Unit) r0 o hp ⟨[], upd_same, .nil⟩
theorem ev_dnewT (hw : Mw.w = some X.w) : EvE X W (.Dict [] [] pos) mDNewT := PE.imp pe_dnewN fun σ H Q ⟨ρ, τ, st, r0, en, o⟩ => fun p hp => Out.alloc (α := Unit) r0 o hp ⟨_, [], hw, upd_same, .nil⟩
@[simp] theorem x_mDNewT {σ : En} {st : Store} : mDNewT σ st = .ok (.loc st.length) (st ++ [.dt []]) := rfl
noncomputable def fSetD (ob k d : D) (st : Store) : Option Store := match ob with
  | .loc n => (match st[n]? with
    | some (.dk kvs) => (match keyOf k with
      | some q => if szFits (kvs.length + 1) = true then some (st.set n (.dk (putD kvs q d))) else none
      | none => none)
    | some (.dt kvs) => (match keyN k with
      | some q => if szFits (kvs.length + 1) = true then some (st.set n (.dt (putD kvs q d))) else none
      | none => none)
    | _ => none)
  | _ => none
theorem setD_ok {K : PySem.W.Frag} {ρ : Mp} {st st' : Store} {H : Hp} {ob k d : D} {vo vk vd : V} {wd : World} (hw : Mw.w = some wd) (r : R K ρ st H) (ro : RelD K ρ st.length H ob vo) (rk : RelD K ρ st.length H k vk) (rd : RelD K ρ st.length H d vd) (h : fSetD ob k d st = some st') :
    ∃ a H', vo = .ref a ∧ (DPut H a vk vd H' ∨ NPut wd K H a vk vd H') ∧ Ext ρ st.length H ρ st'.length H' ∧ R K ρ st' H' := by
  cases ob with
  | loc n =>
    simp only [fSetD] at h
    simp only [RelD] at ro
    obtain ⟨rfl, hl⟩ := ro
    cases e : st[n]? with
    | none => rw [e] at h; cases h
    | some ob =>
      rw [e] at h
      cases ob with
      | dk kvs =>
        simp only at h
        cases q : keyOf k with
        | none => rw [q] at h; cases h
        | some kk =>
          rw [q] at h
          simp only at h
          split at h
          · rename_i hz
            cases h
            obtain ⟨ws, hw, hp⟩ := r.obj n _ e
            rw [keyOf_rel rk q]
            refine ⟨_, _, rfl, .inl (DPut.k hw (by rw [Paired.len hp]; exact (szFits_lt.mp hz))), ?_, r.set hl ⟨_, upd_same, ?_⟩⟩
            · rw [List.length_set]; exact r.set_ext hl
            · exact Paired.monoP (PairR.put hp rd) fun p q z => ⟨z.1, RelD.mono z.2 (r.set_ext hl) r⟩
          · cases h
      | dt kvs =>
        simp only at h
        cases q : keyN k with
        | none => rw [q] at h; cases h
        | some kk =>
          rw [q] at h
          simp only at h
          split at h
          · rename_i hz
            cases h
            obtain ⟨w', ws, hw', hH, hp⟩ := r.obj n _ e
            rw [hw] at hw'
            cases hw'
            obtain ⟨b, rfl, hb, hnk, hdp⟩ := keyN_rel rk q
            refine ⟨_, _, rfl, .inr ⟨ws, b, kk, hH, TR.keys hp, rfl, hnk, hdp, by rw [Paired.len hp]; exact (szFits_lt.mp hz), rfl⟩, ?_, r.set hl ⟨_, _, hw, upd_same, ?_⟩⟩
            · rw [List.length_set]; exact r.set_ext hl
            · exact Paired.monoP (TR.put hp hb hdp rd) fun p q z => ⟨z.1, ⟨RelD.mono z.2.1.1 (r.set_ext hl) r, z.2.1.2⟩, RelD.mono z.2.2 (r.set_ext hl) r⟩
          · cases h
      | lst xs => cases h
  | _ => cases h
theorem es_dput (hu : X.A.units + 65 < cLine) (hw : Mw.w = some X.w) (ho : EvE X W o mo) (hi : EvE X W i mi) (hv : EvE X W value mv) (hs : swapsWith value (some (.Subscript o i pos')) pos.line X.env = pure false := by rfl) :
    EvS X W (.Assign [.Subscript o i pos'] value pos) (sSub fSetD mo mi mv) :=
  PS.imp (ps_fput (by omega) ho hi hv hs) fun D σ H ⟨ρ, τ, st, r0, en, oo⟩ => tM.goS r0 en oo fun d st1 ρ1 H1 v e1 r1 en1 q o1 => tM.goS r1 en1 o1 fun ob st2 ρ2 H2 vo e2 r2 en2 q2 o2 => tM.goS r2 en2 o2 fun k st3 ρ3 H3 vk e3 r3 en3 q3 o3 => by
    cases e : fSetD ob k d st3 with
    | none => rw [e] at o3; exact o3.elim
    | some st4 =>
      rw [e] at o3
      obtain ⟨a, H', rfl, p, ex, r4⟩ := setD_ok hw r3 (q2.mono e3 r2) q3 ((q.mono e2 r1).mono e3 r2) e
      exact ⟨a, H', rfl, p, o3 ρ3 H' σ ex r4 (en3.mono ex r3)⟩
end
end Fx

set_option Elab.async false
set_option linter.all false
set_option maxRecDepth 100000
set_option maxHeartbeats 4000000
namespace Fx
open PySem L2
variable [Md]
variable [Mw]

section
variable {X : Cx} {W : WX} {e a b c o i value : Expr} {es : List Expr} {m ma mb mc mo mi mv : SE} {ms : SA} {pos p p2 pos' pos2 apos cpos : Pos} {x : Str}
/-! ### a list's methods -/
abbrev FM := D → List D → Store → Rs D
def mMeth (fm : FM) (mo : SE) (ms : SA) : SE := fun τ st => (mo τ st).bind fun ob st1 => match listOf ob st1 with
  | some _ => (ms τ st1).bind fun ds st2 => fm ob ds st2
  | none => .no
def MethS (X : Cx) (id : String) (fm : FM) : Prop := ∃ r, MtR X id r ∧ ∀ (W : WX) (σ : St) (ρ : Mp) (st : Store) (H : Hp) (ob : D) (ds : List D) (vo : V) (vs : List V) (Q : VK), R X.K ρ st H → RelD X.K ρ st.length H ob vo → RelDs X.K ρ st.length H ds vs →
  Out X.K (reD X.K) W σ ρ st.length H Q (fm ob ds st) → r vo vs H Q
theorem ev_bm {name : Str} {id : String} {fm : FM} (slot : PySem.Slot "list" name id) (hty : typeOf (.builtin id) = pure (.type "method_descriptor")) (hm : MethS X id fm) (ho : EvE X W o mo) (ha : EvA X W (e :: es) ms)
    (hbase : attributeBase o name X.env (eval o X.env) = eval o X.env := by rfl)
    (hfew : ((backTo cpos (starEach (e :: es) X.env)).all (fun x => !x.1) && (backToKw cpos (keywordEach [] X.env)).all (fun x => x.1.isSome)
      && decide ((e :: es).length + ([] : List Keyword).length + (if ([] : List Keyword).isEmpty then 0 else 1) < 30)) = true := by rfl)
    (hline : (apos.endLine == cpos.line) = true := by rfl) (hs : starEach (e :: es) X.env = (false, eval e X.env) :: starEach es X.env := by rfl) (hplain : (backTo cpos (starEach es X.env)).any (·.1) = false := by rfl) :
    EvE X W (.Call (.Attribute o name apos) (e :: es) [] cpos) (mMeth fm mo ms) := by
  obtain ⟨r, h1, h2⟩ := hm
  refine PE.imp (pe_bm PySem.F.plainAttrs_list slot hty h1 ho ha hbase hfew hline hs hplain) fun σ H Q ⟨ρ, τ, st, r0, en, oo⟩ => tM.bind r0 en oo fun ob st1 ρ1 H1 v e1 r1 en1 q o1 => ?_
  cases hl : listOf ob st1 with
  | none => rw [hl] at o1; exact o1.elim
  | some xs =>
    rw [hl] at o1
    obtain ⟨p, us, rfl, hs, _⟩ := listOf_rel r1 q hl
    exact ⟨.inl ⟨rfl, us, hs⟩, tM.bind r1 en1 o1 fun ds st2 ρ2 H2 vs e2 r2 en2 q2 o2 => h2 W σ ρ2 st2 H2 ob ds _ vs Q r2 (q.mono e2 r1) q2 o2⟩
theorem ev_bm0 {name : Str} {id : String} {fm : FM} (slot : PySem.Slot "list" name id) (hty : typeOf (.builtin id) = pure (.type "method_descriptor")) (hm : MethS X id fm) (ho : EvE X W o mo)
    (hbase : attributeBase o name X.env (eval o X.env) = eval o X.env := by rfl) (hline : (apos.endLine == cpos.line) = true := by rfl) : EvE X W (.Call (.Attribute o name apos) [] [] cpos) (mMeth fm mo mNil) := by
  obtain ⟨r, h1, h2⟩ := hm
  refine PE.imp (pe_bm0 PySem.F.plainAttrs_list slot hty h1 ho hbase hline) fun σ H Q ⟨ρ, τ, st, r0, en, oo⟩ => tM.bind r0 en oo fun ob st1 ρ1 H1 v e1 r1 en1 q o1 => ?_
  cases hl : listOf ob st1 with
  | none => rw [hl] at o1; exact o1.elim
  | some xs =>
    rw [hl] at o1
    obtain ⟨p, us, rfl, hs, _⟩ := listOf_rel r1 q hl
    exact ⟨.inl ⟨rfl, us, hs⟩, h2 W σ ρ1 st1 H1 ob [] _ [] Q r1 q .nil o1⟩
/-- a change of a list of the store -/
def onLoc (ob : D) (st : Store) (f : List D → Option (D × List D)) : Rs D := match ob with
  | .loc n => (match st[n]? with
    | some (.lst xs) => (match f xs with
      | some (d, ys) => .ok d (st.set n (.lst ys))
      | none => .no)
    | _ => .no)
  | _ => .no
theorem onLoc_ok {ob : D} {st : Store} {f : List D → Option (D × List D)} (h : onLoc ob st f ≠ .no) : ∃ n xs d ys, ob = .loc n ∧ st[n]? = some (.lst xs) ∧ f xs = some (d, ys) ∧ onLoc ob st f = .ok d (st.set n (.lst ys)) := by
  cases ob with
  | loc n =>
    simp only [onLoc] at h ⊢
    cases e : st[n]? with
    | none => rw [e] at h; exact absurd rfl h
    | some u =>
      rw [e] at h
      cases u with
      | lst xs =>
        simp only at h ⊢
        cases e2 : f xs with
        | none => rw [e2] at h; exact absurd rfl h
        | some p => obtain ⟨d, ys⟩ := p; exact ⟨n, xs, d, ys, rfl, e, e2, by simp only⟩
      | _ => exact absurd rfl h
  | _ => exact absurd rfl h
/-- writing a list of the store, in a reading -/
theorem Out.write {K : PySem.W.Frag} {ρ : Mp} {st : Store} {H : Hp} {σ : St} {Q : VK} {n : Nat} {d : D} {v : V} {ys : List D} {us : List V} (r0 : R K ρ st H) (h : Out K (reD K) W σ ρ st.length H Q (.ok d (st.set n (.lst ys)))) (hn : n < st.length)
    (hy : RelDs K ρ st.length H ys us) (hd : RelD K ρ st.length H d v) : Q v (upd H (ρ.at' n) (.lst us)) := by
  have ex := r0.set_ext (u := .lst us) hn
  refine h ρ _ v ?_ (r0.set hn ⟨us, upd_same, RelDs.mono ex r0 _ hy⟩) ?_
  · rw [List.length_set]; exact ex
  · simp only [reD]; rw [List.length_set]; exact hd.mono ex r0
noncomputable def fApp : FM := fun ob ds st => match ds with
  | [d] => onLoc ob st fun xs => if szFits (xs.length + 1) = true then some (.non, xs ++ [d]) else none
  | _ => .no
theorem ms_append : MethS X "list.append" fApp := by
  refine ⟨_, mt_append, fun W σ ρ st H ob ds vo vs Q r ro rv oo => ?_⟩
  match ds, rv, oo with
  | [d], rv, oo =>
    obtain ⟨v, rfl, rd⟩ := rv.one
    obtain ⟨n, xs, d', ys, rfl, e1, e2, e3⟩ := onLoc_ok (fun z => by simp only [fApp] at oo; rw [z] at oo; exact oo)
    simp only [fApp] at oo
    rw [e3] at oo
    split at e2
    · rename_i hz
      cases e2
      obtain ⟨hl, rfl, us, hv, ru⟩ := loc_rel r ro e1
      exact ⟨_, us, v, rfl, rfl, hv, by rw [ru.len]; exact (szFits_lt.mp hz), oo.write r hl (ru.append (.cons rd .nil)) (by simp [RelD])⟩
    · cases e2
  | [], _, oo => exact oo.elim
  | _ :: _ :: _, _, oo => simp [fApp] at oo; exact oo.elim
/-- the list given is another one, or is not one of the store's -/
noncomputable def fExt : FM := fun ob ds st => match ds with
  | [d] => (match listOf d st with
    | some zs => onLoc ob st fun xs => if szFits (xs.length + zs.length) = true then some (.non, xs ++ zs) else none
    | none => .no)
  | _ => .no
theorem lst_of {X : Cx} {pins : List (Addr × Obj)} : True := trivial
def fPop : FM := fun ob ds st => match ds with
  | [] => onLoc ob st fun xs => (xs[xs.length - 1]?).map fun d => (d, xs.dropLast)
  | _ => .no
theorem ms_pop : MethS X "list.pop" fPop := by
  refine ⟨_, mt_pop, fun W σ ρ st H ob ds vo vs Q r ro rv oo => ?_⟩
  match ds, rv, oo with
  | [], rv, oo =>
    obtain rfl := rv.nil_eq
    obtain ⟨n, xs, d', ys, rfl, e1, e2, e3⟩ := onLoc_ok (fun z => by simp only [fPop] at oo; rw [z] at oo; exact oo)
    simp only [fPop] at oo
    rw [e3] at oo
    cases q : xs[xs.length - 1]? with
    | none => rw [q] at e2; cases e2
    | some d =>
      rw [q] at e2
      cases e2
      obtain ⟨hl, rfl, us, hv, ru⟩ := loc_rel r ro e1
      obtain ⟨v, h1, h2⟩ := ru.get q
      exact ⟨_, us, v, rfl, rfl, hv, by rw [ru.len]; exact h1, oo.write r hl ru.dropLast h2⟩
  | _ :: _, _, oo => simp [fPop] at oo; exact oo.elim
noncomputable def fPopAt : FM := fun ob ds st => match ds with
  | [.int k] => if w63 k = true then onLoc ob st (fun xs => match ixN xs.length k with
    | some j => (xs[j]?).map fun d => (d, xs.eraseIdx j)
    | none => none) else .no
  | _ => .no
theorem ms_popAt : MethS X "list.pop" fPopAt := by
  refine ⟨_, mt_popAt, fun W σ ρ st H ob ds vo vs Q r ro rv oo => ?_⟩
  have hne : fPopAt ob ds st ≠ .no := fun z => by rw [z] at oo; exact oo
  unfold fPopAt at hne oo
  split at hne
  · rename_i k
    simp only at oo
    split at hne
    · rename_i hk0
      rw [if_pos hk0] at oo
      have hk := w63_iff.mp hk0
      obtain ⟨v, rfl, rd⟩ := rv.one
      simp only [RelD] at rd
      subst rd
      obtain ⟨n, xs, d', ys, rfl, e1, e2, e3⟩ := onLoc_ok hne
      rw [e3] at oo
      cases q0 : ixN xs.length k with
      | none => rw [q0] at e2; cases e2
      | some j =>
        rw [q0] at e2
        simp only at e2
        cases q : xs[j]? with
        | none => rw [q] at e2; cases e2
        | some d =>
          rw [q] at e2
          cases e2
          obtain ⟨hl, rfl, us, hv, ru⟩ := loc_rel r ro e1
          obtain ⟨v, h1, h2⟩ := ru.get q
          exact ⟨_, us, k, j, v, rfl, rfl, hv, hk.1, hk.2, by rw [ru.len]; exact (ixN_seq q0).1, h1, oo.write r hl (ru.eraseIdx j) h2⟩
    · exact absurd rfl hne
  · exact absurd rfl hne
/-! ### list(range(..)), tuple(range(..)) -/
abbrev reRg : Rl (Int × Int) (Int × Int) := fun _ _ _ _ a b => a = b
instance {K : PySem.W.Frag} : RlOk K reRg := ⟨fun _ _ h => h⟩
theorem ex_rgFits : ∃ f : Int → Int → Bool, ∀ i j, f i j = true ↔ RgOk i j := ⟨fun i j => @decide (RgOk i j) (by unfold RgOk; infer_instance), fun i j => @decide_eq_true_iff _ (_)⟩
noncomputable def rgFits : Int → Int → Bool := ex_rgFits.choose
theorem rg_rel {K : PySem.W.Frag} {ρ : Mp} {n : Nat} {H : Hp} (i j : Int) : RelDs K ρ n H (rangeD i j) (rgV i j) := by
  unfold rangeD rgV
  induction List.range (j - i).toNat with
  | nil => exact .nil
  | cons k r ih => exact .cons (by simp [RelD]) ih
noncomputable def mRgL1 (m : SE) : SA := fun τ st => (m τ st).bind fun d st1 => match d with
  | .int j => if rgFits 0 j = true then .ok (rangeD 0 j) st1 else .no
  | _ => .no
noncomputable def mRgL2 (ma mb : SE) : SA := fun τ st => (ma τ st).bind fun d st1 => (mb τ st1).bind fun d2 st2 => match d, d2 with
  | .int i, .int j => if rgFits i j = true then .ok (rangeD i j) st2 else .no
  | _, _ => .no
def mTupOf (m : SA) : SE := fun τ st => (m τ st).bind fun ds st1 => .ok (.tup ds) st1
theorem rgFits_ok {i j : Int} (h : rgFits i j = true) : RgOk i j := (ex_rgFits.choose_spec i j).mp h
section
variable (hc : X.calm = true) (hm : X.mg "range" = none)
theorem ef_listRg1 (hm2 : X.mg "list" = none) (ha : EvE X W a ma) (hc : X.calm = true) (hm : X.mg "range" = none) (hg : Gl X "range" := by rfl) (hg2 : Gl X "list" := by rfl) (na : starEach [a] X.env = (false, eval a X.env) :: starEach [] X.env := by rfl)
    (na2 : starEach [Expr.Call (.Name "range" p2) [a] [] pos2] X.env = (false, eval (.Call (.Name "range" p2) [a] [] pos2) X.env) :: starEach [] X.env := by rfl) :
    EvF X W (.Call (.Name "list" p) [.Call (.Name "range" p2) [a] [] pos2] [] pos) (mRgL1 ma) := PE.imp (pe_listRg hc hg2 hm2 (prg_1 hg hm ha na) na2) fun σ H Q ⟨ρ, τ, st, r0, en, oo⟩ =>
  tM.bind r0 en oo fun d st1 ρ1 H1 v e1 r1 en1 q o1 => by
    cases d with
    | int j =>
      simp only [RelD] at q
      simp only at o1
      split at o1
      · rename_i h; exact ⟨j, q, rgFits_ok h, fun y hy => Out.fresh r1 o1 hy (rg_rel _ _)⟩
      · exact o1.elim
    | _ => exact o1.elim
theorem ef_listRg2 (hm2 : X.mg "list" = none) (ha : EvE X W a ma) (hb : EvE X W b mb) (hc : X.calm = true) (hm : X.mg "range" = none) (hg : Gl X "range" := by rfl) (hg2 : Gl X "list" := by rfl) (na : starEach [a, b] X.env = (false, eval a X.env) :: starEach [b] X.env := by rfl)
    (nb : starEach [b] X.env = (false, eval b X.env) :: starEach [] X.env := by rfl) (hp : (backTo pos2 (starEach [b] X.env)).any (·.1) = false := by rfl)
    (na2 : starEach [Expr.Call (.Name "range" p2) [a, b] [] pos2] X.env = (false, eval (.Call (.Name "range" p2) [a, b] [] pos2) X.env) :: starEach [] X.env := by rfl) :
    EvF X W (.Call (.Name "list" p) [.Call (.Name "range" p2) [a, b] [] pos2] [] pos) (mRgL2 ma mb) := PE.imp (pe_listRg hc hg2 hm2 (prg_2 hg hm ha hb na nb hp) na2) fun σ H Q ⟨ρ, τ, st, r0, en, oo⟩ =>
  tM.bind r0 en oo fun d st1 ρ1 H1 v e1 r1 en1 q o1 => tM.bind r1 en1 o1 fun d2 st2 ρ2 H2 v2 e2 r2 en2 q2 o2 => by
    cases d with
    | int i =>
      cases d2 with
      | int j =>
        simp only [RelD] at q q2
        simp only at o2
        split at o2
        · rename_i h; exact ⟨i, j, q, q2, rgFits_ok h, fun y hy => Out.fresh r2 o2 hy (rg_rel _ _)⟩
        · exact o2.elim
      | _ => exact o2.elim
    | _ => exact o2.elim
theorem ev_tupRg1 (hm2 : X.mg "tuple" = none) (ha : EvE X W a ma) (hc : X.calm = true) (hm : X.mg "range" = none) (hg : Gl X "range" := by rfl) (hg2 : Gl X "tuple" := by rfl) (na : starEach [a] X.env = (false, eval a X.env) :: starEach [] X.env := by rfl)
    (na2 : starEach [Expr.Call (.Name "range" p2) [a] [] pos2] X.env = (false, eval (.Call (.Name "range" p2) [a] [] pos2) X.env) :: starEach [] X.env := by rfl) :
    EvE X W (.Call (.Name "tuple" p) [.Call (.Name "range" p2) [a] [] pos2] [] pos) (mTupOf (mRgL1 ma)) := PE.imp (pe_tupRgN hc hg2 hm2 (prg_1 hg hm ha na) na2) fun σ H Q ⟨ρ, τ, st, r0, en, oo⟩ => by
  have oo' : Out X.K (reD X.K) W σ ρ st.length H Q ((ma τ st).bind fun d st1 => (match d with
    | .int j => if rgFits 0 j = true then Rs.ok (rangeD 0 j) st1 else .no
    | _ => .no).bind fun ds st2 => .ok (.tup ds) st2) := by
    unfold mTupOf mRgL1 at oo
    rw [Rs.bind_assoc] at oo
    exact oo
  refine tM.bind r0 en oo' fun d st1 ρ1 H1 v e1 r1 en1 q o1 => ?_
  cases d with
  | int j =>
    simp only [RelD] at q
    simp only at o1
    split at o1
    · rename_i h
      refine ⟨j, q, rgFits_ok h, fun y u hy nu => Out.free (d := D.tup (rangeD 0 j)) r1 o1 hy ?_⟩
      simp only [reD, RelD]
      exact ⟨y, _, rfl, nu.upd, rg_rel _ _⟩
    · exact o1.elim
  | _ => exact o1.elim
end
/-! ### xs * k of a list -/
theorem Out.bindE {α β γ δ : Type} {K : PySem.W.Frag} {ρ : Mp} {st : Store} {H : Hp} {σ : St} {Ra : Rl α β} {Rg : Rl γ δ} [RlOk K Ra] [RlOk K Rg] {Q : δ → Hp → Prop} {Q1 : β → Hp → Prop} {r : Rs α} {k : α → Store → Rs γ} (r0 : R K ρ st H) (h : Out K Rg W σ ρ st.length H Q (r.bind k))
    (hk : ∀ d st1 ρ1 H1 v, r = .ok d st1 → Ext ρ st.length H ρ1 st1.length H1 → R K ρ1 st1 H1 → Ra H ρ1 st1 H1 d v → Out K Rg W σ ρ1 st1.length H1 Q (k d st1) → Q1 v H1) : Out K Ra W σ ρ st.length H Q1 r := by
  cases r with
  | no => exact h
  | ok d st1 => exact fun ρ1 H1 v e1 r1 q => hk d st1 ρ1 H1 v rfl e1 r1 q (Out.shift h r0 e1 r1)
  | er x st1 => exact h
/-- [a, b] * k -/
noncomputable def mMulD (ms : SA) (mb : SE) : SA := fun τ st => (ms τ st).bind fun xs st1 => (mb τ st1).bind fun y st2 => match y with
  | .int k => if w63 k = true ∧ szFits (xs.length * k.toNat) = true then .ok (List.replicate k.toNat xs).flatten st2 else .no
  | _ => .no
theorem ef_mulD {n : Nat} (h : EvA X W es ms) (hl : LenA ms n) (hb : EvE X W b mb) (hk : n ≤ 100 := by decide) : EvF X W (.BinOp (.List es pos2) .Mult b pos) (mMulD ms mb) := PE.imp (pe_op op_rep (pe_lst h) hb) fun σ H Q ⟨ρ, τ, st, r0, en, oo⟩ => by
  show tLst _ σ H _
  refine ⟨ρ, τ, st, r0, en, Out.bindE (Ra := reL X.K) r0 oo fun xs st1 ρ1 H1 vs eq e1 r1 rv o1 => ⟨by rw [rv.len, hl _ _ _ _ eq]; exact len100 hk, fun p hp => ?_⟩⟩
  -- the display is an object of the heap, not of the store
  have en1 := (en.mono e1 r0).mono (r1.push_ext (u := .lst vs) hp) r1
  have r2 := r1.free (u := .lst vs) hp
  have o2 := Out.shift o1 r1 (r1.push_ext (u := .lst vs) hp) r2
  refine tM.bind r2 en1 o2 fun y st3 ρ3 H3 vy e3 r3 en3 q3 o3 => ?_
  cases y with
  | int k =>
    simp only [RelD] at q3
    simp only at o3
    split at o3
    · rename_i hz
      have hp3 : H3 p = some (.lst vs) := e3.keep p _ upd_same (r1.ne_none hp)
      refine ⟨p, k, vs, rfl, q3, hp3, (w63_iff.mp hz.1).1, (w63_iff.mp hz.1).2, by rw [rv.len]; exact szFits_iff.mp hz.2, fun y hy => Out.fresh r3 o3 hy (RelDs.repl ?_ _)⟩
      exact RelDs.mono e3 r2 _ (RelDs.mono (r1.push_ext hp) r1 _ rv)
    · exact o3.elim
  | _ => exact o3.elim
/-! ### isinstance -/
inductive Ty | non | bool | int | str | tup | list | dict
  deriving DecidableEq
def Ty.nm : Ty → String
  | .non => "NoneType" | .bool => "bool" | .int => "int" | .str => "str" | .tup => "tuple" | .list => "list" | .dict => "dict"
def Ty.sub (a b : Ty) : Bool := decide (a = b) || (decide (a = .bool) && decide (b = .int))
theorem kit_nm (a b : Ty) : kitB a.nm b.nm = some (a.sub b) := by
  cases a <;> cases b <;> decide +kernel
def tyD (d : D) (st : Store) : Option Ty := match d with
  | .non => some .non
  | .bl _ => some .bool
  | .int _ => some .int
  | .str _ => some .str
  | .tup _ => some .tup
  | .lst _ => some .list
  | .loc i => (match st[i]? with
    | some (.lst _) => some .list
    | some (.dk _) => some .dict
    | _ => none)
  | _ => none
theorem tyD_rel {K : PySem.W.Frag} {ρ : Mp} {st : Store} {H : Hp} {d : D} {v : V} {t : Ty} (r : R K ρ st H) (rd : RelD K ρ st.length H d v) (h : tyD d st = some t) : TyX K H v (.type t.nm) := by
  cases d with
  | non => simp only [RelD] at rd; subst rd; cases h; exact .base .non
  | bl b => simp only [RelD] at rd; subst rd; cases h; exact .base (.bl b)
  | int b => simp only [RelD] at rd; subst rd; cases h; exact .base (.int b)
  | str b => simp only [RelD] at rd; subst rd; cases h; exact .base (.str b)
  | tup xs =>
    simp only [RelD] at rd
    obtain ⟨a, vs, rfl, s, _⟩ := rd
    cases h
    obtain ⟨u, e, nu⟩ := s.some
    unfold NewT at nu
    split at nu
    · obtain ⟨o, _, rfl⟩ := nu; exact .fTuple e
    · subst nu; exact .base (.tup e)
  | lst xs =>
    simp only [RelD] at rd
    obtain ⟨a, vs, rfl, s, _⟩ := rd
    cases h
    rcases s with ⟨s | ⟨o, s⟩, _⟩ | ⟨o, its, m, e, c, _⟩
    · exact .base (.lst s)
    · exact .base (.frz s)
    · exact .kList e c
  | loc i =>
    simp only [RelD] at rd
    obtain ⟨rfl, _⟩ := rd
    simp only [tyD] at h
    cases e : st[i]? with
    | none => rw [e] at h; cases h
    | some u =>
      rw [e] at h
      cases u with
      | lst xs => obtain ⟨vs, hv, _⟩ := r.obj i _ e; cases h; exact .base (.lst hv)
      | dk xs => obtain ⟨vs, hv, _⟩ := r.obj i _ e; cases h; exact .base (.dK hv)
      | dt xs => cases h
  | _ => cases h
def mIsi (m : SE) (T : Ty) : SE := fun τ st => (m τ st).bind fun d st1 => match tyD d st1 with
  | some t => .ok (.bl (t.sub T)) st1
  | none => .no
theorem ev_isi {c : Str} (T : Ty) (hmI : X.mg "isinstance" = none) (hmT : X.mg c = none) (hvT : bootBuiltins c = some (.type T.nm)) (ha : EvE X W a ma) (hgI : Gl X "isinstance" := by rfl) (hgT : Gl X c := by rfl) (hn : c ≠ "__name__" := by decide) (hd : (c == ("__debug__" : Str)) = false := by decide)
    (h1 : starEach [a, .Name c p2] X.env = (false, eval a X.env) :: starEach [Expr.Name c p2] X.env := by rfl) (h2 : starEach [Expr.Name c p2] X.env = (false, eval (.Name c p2) X.env) :: starEach [] X.env := by rfl) (hpl : (backTo pos (starEach [Expr.Name c p2] X.env)).any (·.1) = false := by rfl) :
    EvE X W (.Call (.Name "isinstance" p) [a, .Name c p2] [] pos) (mIsi ma T) :=
  PE.imp (pe_callB call_isi hgI hmI (by decide +kernel) (pa_cons ha (pa_cons (pe_bltn (v := .ty T.nm) hgT hmT hvT rfl hn hd) pa_nil h2) h1) (by decide) (by decide) h1 hpl) fun σ H Q ⟨ρ, τ, st, r0, en, oo⟩ =>
    tM.bind r0 en oo fun d st1 ρ1 H1 v e1 r1 en1 q o1 => by
      cases e : tyD d st1 with
      | none => rw [e] at o1; exact o1.elim
      | some t =>
        rw [e] at o1
        exact ⟨v, .ty T.nm, .type t.nm, .type T.nm, t.sub T, rfl, .ty _, tyD_rel r1 q e, kit_ty (kit_nm t T), o1.here r1 (by simp [reD, RelD])⟩
/-- isinstance(x, (T, U)) -/
def mIsi2 (m : SE) (T U : Ty) : SE := fun τ st => (m τ st).bind fun d st1 => match tyD d st1 with
  | some t => .ok (.bl (t.sub T || t.sub U)) st1
  | none => .no
theorem kitAny2 {K : PySem.W.Frag} (t T U : Ty) : PySem.W.kitAny K (.type t.nm) [.type T.nm, .type U.nm] = some (t.sub T || t.sub U) :=
  kitAny_cons (kit_ty (kit_nm t T)) (fun h => by rw [h, Bool.false_or]; exact kitAny_cons (r := t.sub U) (kit_ty (kit_nm t U)) (fun h2 => by rw [h2]; exact kitAny_nil) id) fun h => by rw [h]; rfl
theorem ev_isi2 {c d : Str} {k : Nat} {p3 pt : Pos} (T U : Ty) (hmI : X.mg "isinstance" = none) (hmT : X.mg c = none) (hmU : X.mg d = none) (hvT : bootBuiltins c = some (.type T.nm)) (hvU : bootBuiltins d = some (.type U.nm)) (ha : EvE X W a ma) (hgI : Gl X "isinstance" := by rfl) (hgT : Gl X c := by rfl) (hgU : Gl X d := by rfl)
    (hn : c ≠ "__name__" := by decide) (hd : (c == ("__debug__" : Str)) = false := by decide) (hnU : d ≠ "__name__" := by decide) (hdU : (d == ("__debug__" : Str)) = false := by decide)
    (t1 : starEach [Expr.Name c p2, .Name d p3] X.env = (false, eval (.Name c p2) X.env) :: starEach [Expr.Name d p3] X.env := by rfl) (t2 : starEach [Expr.Name d p3] X.env = (false, eval (.Name d p3) X.env) :: starEach [] X.env := by rfl)
    (h1 : starEach [a, .Tuple [.Name c p2, .Name d p3] k pt] X.env = (false, eval a X.env) :: starEach [Expr.Tuple [.Name c p2, .Name d p3] k pt] X.env := by rfl) (h2 : starEach [Expr.Tuple [.Name c p2, .Name d p3] k pt] X.env = (false, eval (.Tuple [.Name c p2, .Name d p3] k pt) X.env) :: starEach [] X.env := by rfl)
    (hpl : (backTo pos (starEach [Expr.Tuple [.Name c p2, .Name d p3] k pt] X.env)).any (·.1) = false := by rfl) :
    EvE X W (.Call (.Name "isinstance" p) [a, .Tuple [.Name c p2, .Name d p3] k pt] [] pos) (mIsi2 ma T U) :=
  PE.imp (pe_callB call_isiT hgI hmI (by decide +kernel) (pa_cons ha (pa_cons (pe_tup (pa_cons (pe_bltn (v := .ty T.nm) hgT hmT hvT rfl hn hd) (pa_cons (pe_bltn (v := .ty U.nm) hgU hmU hvU rfl hnU hdU) pa_nil t2) t1)) pa_nil h2) h1) (by decide) (by decide) h1 hpl) fun σ H Q ⟨ρ, τ, st, r0, en, oo⟩ =>
    tM.bind r0 en oo fun d st1 ρ1 H1 v e1 r1 en1 q o1 => by
      cases e : tyD d st1 with
      | none => rw [e] at o1; exact o1.elim
      | some t =>
        rw [e] at o1
        refine ⟨by show 2 ≤ sizeLine; decide, fun p hp => ?_⟩
        have r2 := r1.free (u := .tup [.ty T.nm, .ty U.nm]) hp
        have ex := r1.push_ext (u := .tup [.ty T.nm, .ty U.nm]) hp
        exact ⟨v, p, [.ty T.nm, .ty U.nm], .type t.nm, [.type T.nm, .type U.nm], t.sub T || t.sub U, rfl, upd_same, .cons (.ty _) (.cons (.ty _) .nil), tyD_rel r2 (q.mono ex r1) e, kitAny2 t T U, (Out.shift o1 r1 ex r2).here r2 (by simp [reD, RelD])⟩
end
end Fx

set_option Elab.async false
set_option linter.all false
set_option maxRecDepth 100000
set_option maxHeartbeats 4000000
namespace PySem
open Sem (wp)
open AutoSeq1 (wpAny_loadPart')
theorem fx_meets_enumerate_newT (l : Addr) (items : Array Value) (n : Nat) (dct : Option Addr) (sl : Array (Option Value)) :
    Meets (Builtin.«enumerate.__new__» ⟨[.type "enumerate", .ref l], []⟩) (fun _ R s => s.heap.get? l = some { cls := .type "tuple", dict := dct, data := .seq items n, slots := sl } ∧
      R (.ok (.ret (.ref (s.heap.push { cls := .type "tuple_iterator", data := .fields #[.ref l, .int 0 0] }).objs.size)))
        { s with heap := (s.heap.push { cls := .type "tuple_iterator", data := .fields #[.ref l, .int 0 0] }).push { cls := .type "enumerate", data := .fields #[.none, .bool false, .ref s.heap.objs.size, rawInt 0, .none, .none] } }) :=
  .of_wp fun prog w A R s h => by
    obtain ⟨hp, g, d, tk, os⟩ := s; obtain ⟨hl, h⟩ := h
    have hsub := sub_enumerate
    have hL : Heap.IsTuple (Shared.heap ⟨hp, g, d, tk, os⟩) l items := ⟨_, hl, rfl, n, rfl⟩
    wp_walk using wpAny_loadPart' hl
    refine wpAny_stack_any fun st => wpAny_pure ?_
    split
    · rename_i c _ _ _ _ _
      cases (c == Value.type "enumerate")
      · wp_walk using wpAny_loadPart' hl, wpAny_pyIter_tuple hL
        exact ⟨_, rfl, h⟩
      · wp_walk using wpAny_loadPart' hl, wpAny_pyIter_tuple hL
        exact ⟨_, rfl, h⟩
    · wp_walk using wpAny_loadPart' hl, wpAny_pyIter_tuple hL
      exact ⟨_, rfl, h⟩
section
variable {prog : Program} {w : World} {A : Around} {E : Value → Shared → Prop} {s : Shared}
theorem fx_call_enumerate_tuple {l : Addr} {items : Array Value} {Q : Value → Shared → Prop} (hL : s.heap.IsTuple l items)
    (h : ∀ h', IsEnum h' (s.heap.objs.size + 1) s.heap.objs.size 0 .none → h'.IsTupleIter s.heap.objs.size l 0 → h'.objs.size = s.heap.objs.size + 2 →
      (∀ b o, s.heap.get? b = some o → h'.get? b = some o) → Q (.ref (s.heap.objs.size + 1)) { s with heap := h' }) :
    wpAny (model prog w) A (call (.type "enumerate") [.ref l]) Q E s := by
  obtain ⟨⟨c, dct, dt, sl⟩, hl, hc, n, hd⟩ := hL
  replace hc : c = .type "tuple" := hc
  replace hd : dt = .seq items n := hd
  subst hc hd
  refine callType_new F.called_enumerate (by decide) (F.typeCall_enumerate_1 _) (F.newCall_enumerate_1 _) (fun obj => F.args_object_init_2 obj _) F.entry_enumerate_new
    (fx_meets_enumerate_newT l items n dct sl) ⟨hl, ?_⟩
  have hz : (s.heap.push { cls := .type "tuple_iterator", data := .fields #[.ref l, .int 0 0] }).objs.size = s.heap.objs.size + 1 := Heap.size_push ..
  show _ ∧ _
  rw [hz]
  have he : IsEnum ((s.heap.push { cls := .type "tuple_iterator", data := .fields #[.ref l, .int 0 0] }).push
      { cls := .type "enumerate", data := .fields #[.none, .bool false, .ref s.heap.objs.size, rawInt 0, .none, .none] }) (s.heap.objs.size + 1) s.heap.objs.size 0 .none := by
    have := Heap.get?_push_size (s.heap.push { cls := .type "tuple_iterator", data := .fields #[.ref l, .int 0 0] })
      (o := { cls := .type "enumerate", data := .fields #[.none, .bool false, .ref s.heap.objs.size, rawInt 0, .none, .none] }) rfl
    rw [hz] at this; exact this
  refine ⟨⟨_, he, rfl⟩, h _ he ⟨_, Heap.get?_push_of_some _ (Heap.get?_push_size _ rfl), rfl, rfl⟩ (by rw [Heap.size_push, hz]) fun b o x => Heap.get?_push_of_some _ (Heap.get?_push_of_some _ x)⟩
end
end PySem
namespace L2
open PySem PySem.Spec PyProof.Rows Fx
variable [Fx.Md]
variable [Fx.Mw]
/-- the tuple at a, each item in a new pair -/
def FxIteT (K : PySem.W.Frag) (a : Addr) : It :=
  ⟨fun i H => ∃ (xs : List V) (x : V), SqT K H a xs ∧ xs[i]? = some x, fun i H v H' => ∃ T x, v = .ref T ∧ H T = none ∧ (∃ u, NewT u [.int (i : Nat), x] ∧ H' = upd H T u) ∧ ∀ xs, SqT K H a xs → xs[i]? = some x, fun i H => ∃ xs : List V, SqT K H a xs ∧ xs.length ≤ i⟩
theorem fx_turn_enumT {P : Program} {w : World} {K : PySem.W.Frag} {elts : List Expr} {kk : Nat} {tpos : Pos} (a e it : Addr) :
    Turn P w K (.Tuple elts kk tpos) (FxIteT K a) [e, it] e (fun i h => (∃ old, IsEnum h e it ((i : Nat) : Int) old) ∧ h.IsTupleIter it a i ∧ e ≠ it) where
  mem := by simp
  obj := fun i h st b hb => by
    obtain ⟨⟨old, he⟩, ⟨o, ho, hc, hd⟩, _⟩ := st
    have e' : b = e ∨ b = it := by simpa using hb
    rcases e' with z | z
    · rw [z]; exact ⟨_, he, fun v q => nomatch q⟩
    · rw [z]; exact ⟨o, ho, fun v q => by rw [hd] at q; cases q⟩
  keep := fun i h h' st k => let ⟨⟨old, he⟩, hi, hne⟩ := st; ⟨⟨old, k e (by simp) _ he⟩, hi.at fun o q => k it (by simp) o q, hne⟩
  item := by
    intro X hP hw hK hc i pins s σ H E I hf st hg
    subst hP hw hK
    obtain ⟨⟨old, he⟩, hit, hne⟩ := st
    obtain ⟨xs, x, hq, hx⟩ := hg
    obtain ⟨its, rv, p, hz⟩ := I.tuple hq
    obtain ⟨u, hu, ru⟩ := rv.get hx
    have hel : e < s.heap.objs.size := Heap.lt_size he
    have hil : it < s.heap.objs.size := by obtain ⟨_, q, _⟩ := hit; exact Heap.lt_size q
    have hia : a ≠ it := by
      obtain ⟨o1, h1, c1, _⟩ := p
      obtain ⟨o2, h2, c2, _⟩ := hit
      intro z
      rw [z, h2] at h1
      cases h1
      rw [c2] at c1
      exact absurd (Value.type.inj c1) (by decide)
    have hae : a ≠ e := by
      obtain ⟨o1, h1, c1, _⟩ := p
      intro z
      rw [z, he] at h1
      cases h1
      exact absurd (Value.type.inj c1) (by decide)
    have hlt : i < its.toArray.size := by
      have := (List.getElem?_eq_some_iff.mp hu).1
      simpa using this
    have hcal : X.A.in1.handled = none := I.ok.hd hc
    refine wpAny_pyNext_enum_itemD (Draws.tuple hcal it a hia its.toArray) he ⟨hit, show s.heap.IsTuple a its.toArray from p⟩ hlt hne (by simp [hne, Ne.symm hae]) fun y h' tk hy ho hst hT hsz hk => ?_
    have hy' : y = u := by
      rw [List.getElem?_toArray] at hy
      rw [hu] at hy; cases hy; rfl
    subst hy'
    refine ⟨_, rfl, wpAny_letOwnedTupleGo_enum (s := { s with heap := h', toks := tk + 1 }) ho fun h'' he' sb => ?_⟩
    have hT2 : h''.get? s.heap.objs.size = some { cls := .type "tuple", data := .seq #[.int i tk, y] } := (sb.2 _ (Nat.ne_of_gt hel)).trans hT
    have new : ∃ u, NewT u [.int (i : Nat), x] ∧ ObjOk X.prog X.w (upd H s.heap.objs.size u) h'' s.heap.objs.size u := newT_ok hT2 rfl fun H' =>
      ⟨by show 2 ≤ sizeLine; decide, [.int i tk, y], .cons ⟨_, rfl⟩ (.cons ru .nil), ⟨_, hT2, rfl, _, rfl⟩⟩
    obtain ⟨u', nu, new⟩ := new
    have I1 : Inv X pins σ (upd H s.heap.objs.size u') { s with heap := h'', toks := tk + 1 } :=
      I.turnedNew (ch := [e, it]) (fun b ob hb q => (sb.2 b (fun z => hb (by simp [z]))).trans (hk b ob (fun z => hb (by simp [z])) (fun z => hb (by simp [z])) q)) hf (Nat.le_refl _) new
    refine ⟨.ref s.heap.objs.size, _, I1, rfl, ⟨_, x, rfl, I.hok.fresh (Nat.le_refl _), ⟨u', nu, rfl⟩, fun ys hy => by rw [I.tuple_inj hy hq]; exact hx⟩, ⟨⟨y, ?_⟩, hst.1.at fun o q => (sb.2 it (Ne.symm hne)).trans q, hne⟩, fun b hb => ?_⟩
    · have e1 : ((i + 1 : Nat) : Int) = (i : Int) + 1 := by omega
      rw [e1]; exact he'
    · have hb' : b < s.heap.objs.size := by
        have e' : b = e ∨ b = it := by simpa using hb
        rcases e' with z | z
        · rw [z]; exact hel
        · rw [z]; exact hil
      rw [upd_ne (Nat.ne_of_lt hb')]
      exact (hf b hb).1
  done := by
    intro X hP hw hK hc i pins s σ H E I hf st hg
    subst hP hw hK
    obtain ⟨⟨old, he⟩, hit, hne⟩ := st
    obtain ⟨xs, hq, hx⟩ := hg
    obtain ⟨its, rv, p, hz⟩ := I.tuple hq
    obtain ⟨f0, f1, f2, f3, f4, f5⟩ := hf it (by simp)
    have hl := rv.length
    have hia : a ≠ it := by
      obtain ⟨o1, h1, c1, _⟩ := p
      obtain ⟨o2, h2, c2, _⟩ := hit
      intro z
      rw [z, h2] at h1
      cases h1
      rw [c2] at c1
      exact absurd (Value.type.inj c1) (by decide)
    have hcal : X.A.in1.handled = none := I.ok.hd hc
    have D' : Draws X.prog X.w X.A.in1 it [it, a] i (fun _ _ => True) (fun j h => j = i ∧ h.IsTupleIter it a i ∧ h.IsTuple a its.toArray) :=
      { live := fun _ _ st => let ⟨o, ho, _⟩ := st.2.1; ⟨o, ho⟩
        frame := fun _ _ _ st hk => ⟨st.1, st.2.1.at fun o e => hk it (by simp) o e, st.2.2.at fun o e => hk a (by simp) o e⟩
        item := fun j s Q E hj st _ => absurd st.1 (Nat.ne_of_lt hj)
        done := fun s Q E st hE => wpAny_nextOf_tuple_end hcal st.2.1 st.2.2 (by simp <;> omega) hE }
    exact wpAny_pyNext_enum_endD D' he ⟨rfl, hit, show s.heap.IsTuple a its.toArray from p⟩ fun h' eb => ⟨rfl, I.turned (t' := s.toks) (fun b o hb q => eb b o hb q) f0 f1 f3 f4 f5⟩
  self := fun A i s Q E st h => let ⟨⟨_, he⟩, _⟩ := st; wpAny_pyIter_enum he h
/-- the list at a, each item in a new pair -/
def FxIteL (K : PySem.W.Frag) (a : Addr) : It :=
  ⟨fun i H => ∃ (xs : List V) (x : V), SqL K H a xs ∧ xs[i]? = some x, fun i H v H' => ∃ T x, v = .ref T ∧ H T = none ∧ (∃ u, NewT u [.int (i : Nat), x] ∧ H' = upd H T u) ∧ ∀ xs, SqL K H a xs → xs[i]? = some x, fun i H => ∃ xs : List V, SqL K H a xs ∧ xs.length ≤ i⟩
theorem fx_turn_enumL {P : Program} {w : World} {K : PySem.W.Frag} {elts : List Expr} {kk : Nat} {tpos : Pos} (a e it : Addr) :
    Turn P w K (.Tuple elts kk tpos) (FxIteL K a) [e, it] e (fun i h => (∃ old, IsEnum h e it ((i : Nat) : Int) old) ∧ h.IsListIter it a i ∧ e ≠ it) where
  mem := by simp
  obj := fun i h st b hb => by
    obtain ⟨⟨old, he⟩, ⟨o, ho, hc, hd⟩, _⟩ := st
    have e' : b = e ∨ b = it := by simpa using hb
    rcases e' with z | z
    · rw [z]; exact ⟨_, he, fun v q => nomatch q⟩
    · rw [z]; exact ⟨o, ho, fun v q => by rw [hd] at q; cases q⟩
  keep := fun i h h' st k => let ⟨⟨old, he⟩, hi, hne⟩ := st; ⟨⟨old, k e (by simp) _ he⟩, hi.at fun o q => k it (by simp) o q, hne⟩
  item := by
    intro X hP hw hK hc i pins s σ H E I hf st hg
    subst hP hw hK
    obtain ⟨⟨old, he⟩, hit, hne⟩ := st
    obtain ⟨xs, x, hq, hx⟩ := hg
    obtain ⟨its, rv, p, hz⟩ := I.list hq
    obtain ⟨u, hu, ru⟩ := rv.get hx
    have hel : e < s.heap.objs.size := Heap.lt_size he
    have hil : it < s.heap.objs.size := by obtain ⟨_, q, _⟩ := hit; exact Heap.lt_size q
    have hia : a ≠ it := by
      obtain ⟨o1, h1, c1, _⟩ := p.isList
      obtain ⟨o2, h2, c2, _⟩ := hit
      intro z
      rw [z, h2] at h1
      cases h1
      rw [c2] at c1
      exact absurd (Value.type.inj c1) (by decide)
    have hae : a ≠ e := by
      obtain ⟨o1, h1, c1, _⟩ := p.isList
      intro z
      rw [z, he] at h1
      cases h1
      exact absurd (Value.type.inj c1) (by decide)
    have hlt : i < its.toArray.size := by
      have := (List.getElem?_eq_some_iff.mp hu).1
      simpa using this
    have hcal : X.A.in1.handled = none := I.ok.hd hc
    refine wpAny_pyNext_enum_itemD (Draws.list hcal it a hia its.toArray) he ⟨hit, p.isList⟩ hlt hne (by simp [hne, Ne.symm hae]) fun y h' tk hy ho hst hT hsz hk => ?_
    have hy' : y = u := by
      rw [List.getElem?_toArray] at hy
      rw [hu] at hy; cases hy; rfl
    subst hy'
    refine ⟨_, rfl, wpAny_letOwnedTupleGo_enum (s := { s with heap := h', toks := tk + 1 }) ho fun h'' he' sb => ?_⟩
    have hT2 : h''.get? s.heap.objs.size = some { cls := .type "tuple", data := .seq #[.int i tk, y] } := (sb.2 _ (Nat.ne_of_gt hel)).trans hT
    have new : ∃ u, NewT u [.int (i : Nat), x] ∧ ObjOk X.prog X.w (upd H s.heap.objs.size u) h'' s.heap.objs.size u := newT_ok hT2 rfl fun H' =>
      ⟨by show 2 ≤ sizeLine; decide, [.int i tk, y], .cons ⟨_, rfl⟩ (.cons ru .nil), ⟨_, hT2, rfl, _, rfl⟩⟩
    obtain ⟨u', nu, new⟩ := new
    have I1 : Inv X pins σ (upd H s.heap.objs.size u') { s with heap := h'', toks := tk + 1 } :=
      I.turnedNew (ch := [e, it]) (fun b ob hb q => (sb.2 b (fun z => hb (by simp [z]))).trans (hk b ob (fun z => hb (by simp [z])) (fun z => hb (by simp [z])) q)) hf (Nat.le_refl _) new
    refine ⟨.ref s.heap.objs.size, _, I1, rfl, ⟨_, x, rfl, I.hok.fresh (Nat.le_refl _), ⟨u', nu, rfl⟩, fun ys hy => by rw [I.list_inj hy hq]; exact hx⟩, ⟨⟨y, ?_⟩, hst.1.at fun o q => (sb.2 it (Ne.symm hne)).trans q, hne⟩, fun b hb => ?_⟩
    · have e1 : ((i + 1 : Nat) : Int) = (i : Int) + 1 := by omega
      rw [e1]; exact he'
    · have hb' : b < s.heap.objs.size := by
        have e' : b = e ∨ b = it := by simpa using hb
        rcases e' with z | z
        · rw [z]; exact hel
        · rw [z]; exact hil
      rw [upd_ne (Nat.ne_of_lt hb')]
      exact (hf b hb).1
  done := by
    intro X hP hw hK hc i pins s σ H E I hf st hg
    subst hP hw hK
    obtain ⟨⟨old, he⟩, hit, hne⟩ := st
    obtain ⟨xs, hq, hx⟩ := hg
    obtain ⟨its, rv, p, hz⟩ := I.list hq
    obtain ⟨f0, f1, f2, f3, f4, f5⟩ := hf it (by simp)
    have hl := rv.length
    have hia : a ≠ it := by
      obtain ⟨o1, h1, c1, _⟩ := p.isList
      obtain ⟨o2, h2, c2, _⟩ := hit
      intro z
      rw [z, h2] at h1
      cases h1
      rw [c2] at c1
      exact absurd (Value.type.inj c1) (by decide)
    have hcal : X.A.in1.handled = none := I.ok.hd hc
    refine wpAny_pyNext_enum_end (A := X.A) hcal he hit p.isList ?_ fun h' eb => ?_
    · simp <;> omega
    · exact ⟨rfl, I.turned (t' := s.toks) (fun b o hb q => eb b o hb q) f0 f1 f3 f4 f5⟩
  self := fun A i s Q E st h => let ⟨⟨_, he⟩, _⟩ := st; wpAny_pyIter_enum he h
end L2
namespace Fx
open PySem L2
variable [Md]
variable [Mw]
/-! ### enumerate(x), x a tuple or a list that is only read -/
def enumD (ds : List D) : List D := (List.range ds.length).zipWith (fun i d => D.tup [.int (i : Nat), d]) ds
theorem enumD_get {ds : List D} {i : Nat} : (enumD ds)[i]? = (ds[i]?).map fun d => D.tup [.int (i : Nat), d] := by
  unfold enumD
  rw [List.getElem?_zipWith]
  by_cases h : i < ds.length
  · rw [List.getElem?_range h, List.getElem?_eq_getElem h]; rfl
  · rw [List.getElem?_eq_none (by omega : ds.length ≤ i)]
    cases (List.range ds.length)[i]? <;> rfl
theorem enumD_len (ds : List D) : (enumD ds).length = ds.length := by simp [enumD]
section
variable {K : PySem.W.Frag} {ρ : Mp} {st : Store} {H : Hp} {ds : List D}
theorem itR_enumL {a : Addr} {vs : List V} (h : LstAt K H ρ st.length a vs) (rv : RelDs K ρ st.length H ds vs) (r : R K ρ st H) : ItR K ρ st H (FxIteL K a) (enumD ds) := fun ρ2 st2 H2 e r2 i => by
  have h2 : SqL K H2 a vs := (e.lstAt h).sq
  refine ⟨fun d hd => ?_, fun hl => ⟨vs, h2, by rw [rv.len, ← enumD_len]; exact hl⟩⟩
  rw [enumD_get] at hd
  cases q0 : ds[i]? with
  | none => rw [q0] at hd; cases hd
  | some d0 =>
    rw [q0] at hd
    cases hd
    obtain ⟨v, hv, rd⟩ := rv.get q0
    refine ⟨⟨vs, v, h2, hv⟩, fun x H3 ⟨T, y, ex, hT, ⟨uu, nu, e3⟩, q⟩ => ?_⟩
    subst e3; subst ex
    have q' := q vs h2
    rw [hv] at q'; cases q'
    refine ⟨r2.push_ext hT, r2.free hT, ?_⟩
    simp only [RelD]
    refine ⟨T, _, rfl, nu.upd, .cons (by simp [RelD]) (.cons ?_ .nil)⟩
    exact (RelD.monoW e r _ rd).mono (r2.push_ext hT) r2
theorem itR_enumT {a : Addr} {vs : List V} (h : TupAt H a vs) (rv : RelDs K ρ st.length H ds vs) (r : R K ρ st H) : ItR K ρ st H (FxIteT K a) (enumD ds) := fun ρ2 st2 H2 e r2 i => by
  have h2 : SqT K H2 a vs := by
    obtain ⟨u, s, nu⟩ := h.some
    exact (nu.at (e.keep a _ s (r.ne s nu.mut))).sq
  refine ⟨fun d hd => ?_, fun hl => ⟨vs, h2, by rw [rv.len, ← enumD_len]; exact hl⟩⟩
  rw [enumD_get] at hd
  cases q0 : ds[i]? with
  | none => rw [q0] at hd; cases hd
  | some d0 =>
    rw [q0] at hd
    cases hd
    obtain ⟨v, hv, rd⟩ := rv.get q0
    refine ⟨⟨vs, v, h2, hv⟩, fun x H3 ⟨T, y, ex, hT, ⟨uu, nu, e3⟩, q⟩ => ?_⟩
    subst e3; subst ex
    have q' := q vs h2
    rw [hv] at q'; cases q'
    refine ⟨r2.push_ext hT, r2.free hT, ?_⟩
    simp only [RelD]
    refine ⟨T, _, rfl, nu.upd, .cons (by simp [RelD]) (.cons ?_ .nil)⟩
    exact (RelD.monoW e r _ rd).mono (r2.push_ext hT) r2
end
def mEnum (m : SE) : SA := fun τ st => (itemsOf (m τ st)).bind fun ds st1 => .ok (enumD ds) st1
theorem ei_enum {X : Cx} {W : WX} {e : Expr} {m : SE} {p pos tpos : Pos} {elts : List Expr} {kk : Nat} (hm : X.mg "enumerate" = none) (he : EvE X W e m) (hg : Gl X "enumerate" := by rfl) (hs : starEach (e :: []) X.env = (false, eval e X.env) :: starEach [] X.env := by rfl) (hs2 : starEach [e] X.env = [(false, eval e X.env)] := by rfl) :
    EvI X W (.Tuple elts kk tpos) (.Call (.Name "enumerate" p) [e] [] pos) (mEnum m) := by
  refine ⟨fun pins s σ H Rr I h => ?_⟩
  obtain ⟨ρ, τ, st, r0, en, o⟩ := h
  have ha : PA X [e] (tCons (tM X.K (reD X.K) W m) tNil) := pa_cons he pa_nil hs
  have q0 : tCons (tM X.K (reD X.K) W m) tNil σ H fun vs H1 => ∃ a, vs = [.ref a] ∧ ((∃ us, SqL X.K H1 a us ∧ ∃ ρ1 st1 ds, R X.K ρ1 st1 H1 ∧ LstAt X.K H1 ρ1 st1.length a us ∧ RelDs X.K ρ1 st1.length H1 ds us ∧ Out X.K (reI X.K) W σ ρ1 st1.length H1 Rr (.ok (enumD ds) st1)) ∨
      (∃ us, TupAt H1 a us ∧ ∃ ρ1 st1 ds, R X.K ρ1 st1 H1 ∧ RelDs X.K ρ1 st1.length H1 ds us ∧ Out X.K (reI X.K) W σ ρ1 st1.length H1 Rr (.ok (enumD ds) st1))) := by
    unfold mEnum itemsOf at o
    rw [Rs.bind_assoc] at o
    refine tM.bind r0 en o fun d st1 ρ1 H1 v e1 r1 en1 q o1 => ?_
    show ∃ a, [v] = [V.ref a] ∧ _
    cases d with
    | tup ds =>
      simp only [RelD] at q
      obtain ⟨a, us, rfl, hs, rv⟩ := q
      exact ⟨a, rfl, .inr ⟨us, hs, ρ1, st1, ds, r1, rv, o1⟩⟩
    | lst ds =>
      simp only [RelD] at q
      obtain ⟨a, us, rfl, hs, rv⟩ := q
      exact ⟨a, rfl, .inl ⟨us, hs.sq, ρ1, st1, ds, r1, hs, rv, o1⟩⟩
    | _ => exact o1.elim
  refine PyProof.Rows.Call_ (ld_blt I hg hm PyProof.Rows.boot_enumerate (PyProof.Rows.callWith_type1 (thn (ha.run pos pins s σ H _ I q0) fun us s1 ⟨vs, H1, I1, r1, q1⟩ => ?_) hs2 rfl))
  obtain ⟨a, ex, q⟩ := q1
  subst ex
  cases r1 with
  | cons r rr =>
    cases rr
    cases r
    have fin : ∀ b, b = s1.heap.objs.size + 1 ∨ b = s1.heap.objs.size → s1.heap.objs.size ≤ b := fun b e' => by
      rcases e' with z | z
      · rw [z]; exact Nat.le_add_right _ _
      · rw [z]; exact Nat.le_refl _
    rcases q with ⟨us, hq, ρ1, st1, ds, rr, hl, rv, o1⟩ | ⟨us, hq, ρ1, st1, ds, rr, rv, o1⟩
    · obtain ⟨its, rv', p', hz⟩ := I1.list hq
      refine call_enumerate_list p'.isList fun h' he hit hsz hk => wpAny_pyIter_enum he ?_
      have I2 : Inv X pins σ H1 { s1 with heap := h' } := I1.kept (t' := s1.toks) hk
      refine ⟨s1.heap.objs.size + 1, [s1.heap.objs.size + 1, s1.heap.objs.size], _, _, H1, rfl, I2, fx_turn_enumL a (s1.heap.objs.size + 1) s1.heap.objs.size, ⟨⟨.none, he⟩, hit, Nat.succ_ne_self _⟩, fun b hb => ?_, o1 ρ1 H1 _ .refl rr (itR_enumL hl rv rr)⟩
      have hle := fin b (by simpa using hb)
      exact I1.fpOk hle (I1.hok.fresh hle)
    · obtain ⟨its, rv', p', hz⟩ := I1.tuple hq.sq
      refine fx_call_enumerate_tuple (show s1.heap.IsTuple a its.toArray from p') fun h' he hit hsz hk => wpAny_pyIter_enum he ?_
      have I2 : Inv X pins σ H1 { s1 with heap := h' } := I1.kept (t' := s1.toks) hk
      refine ⟨s1.heap.objs.size + 1, [s1.heap.objs.size + 1, s1.heap.objs.size], _, _, H1, rfl, I2, fx_turn_enumT a (s1.heap.objs.size + 1) s1.heap.objs.size, ⟨⟨.none, he⟩, hit, Nat.succ_ne_self _⟩, fun b hb => ?_, o1 ρ1 H1 _ .refl rr (itR_enumT hq rv rr)⟩
      have hle := fin b (by simpa using hb)
      exact I1.fpOk hle (I1.hok.fresh hle)
end Fx

set_option Elab.async false
set_option linter.all false
set_option maxRecDepth 100000
set_option maxHeartbeats 4000000
/-! Fx: raise, try. -/
namespace Fx
open PySem L2 PyProof.Rows
variable [Md]
variable [Mw]

abbrev Suite := Addr → Value → Option Addr → TS
/-- where a suite with a name ends: the name is gone -/
def Ends.gone (D : Ends) (i : Nat) : Ends := { nx := fun σ H => D.nx (σ.set i none) H, rt := D.rt, bk := fun σ H => D.bk (σ.set i none) H, ct := fun σ H => D.ct (σ.set i none) H }
def wHs (K : PySem.W.Frag) (Wout : WX) (D : Ends) : List (Value × Option Nat × Suite) → WX
  | [] => Wout
  | (c, none, ts) :: r => fun cls d σ H => ∃ b, PySem.W.exmOne K cls c = some b ∧ (b = true → ∀ a, H a = none → ts a cls d D σ H) ∧ (b = false → wHs K Wout D r cls d σ H)
  | (c, some i, ts) :: r => fun cls d σ H => ∃ b, PySem.W.exmOne K cls c = some b ∧ (b = true → ∀ a, H a = none → ts a cls d (Ends.gone D i) (σ.set i (some (.ref a))) H) ∧ (b = false → wHs K Wout D r cls d σ H)
def SuiteOk (X : Cx) (ss : List Stmt) (ts : Suite) : Prop := ∀ (a : Addr) (oe : Obj) (cls : Value) (d : Option Addr) (pn : List (Addr × Obj)), Zc cls d oe → (∃ vs, oe.data = .fields vs) → PSs (X.suite a ((a, oe) :: pn)) ss (ts a cls d)
inductive Hs (X : Cx) : List ExceptHandler → List (Value × Option Nat × Suite) → Prop
  | nil : Hs X [] []
  | plain {x : Str} {c : Value} {ts : Suite} {b₀ : Stmt} {ss : List Stmt} {np p : Pos} {hds l} (hc : Names X x c) (hs : SuiteOk X (b₀ :: ss) ts) (r : Hs X hds l) : Hs X (.ExceptHandler (some (.Name x np)) none (b₀ :: ss) p :: hds) ((c, none, ts) :: l)
  | named {x n : Str} {i : Nat} {c : Value} {ts : Suite} {b₀ : Stmt} {ss : List Stmt} {np p : Pos} {hds l} (hc : Names X x c) (hN : X.N.Nodup) (hi : X.N[i]? = some n) (hn : X.env.kindOf n = some .local) (hs : SuiteOk X (b₀ :: ss) ts) (r : Hs X hds l) :
      Hs X (.ExceptHandler (some (.Name x np)) (some n) (b₀ :: ss) p :: hds) ((c, some i, ts) :: l)

section
variable {X : Cx} {body : List Stmt} {h₀ : ExceptHandler} {hds : List ExceptHandler} {l : List (Value × Option Nat × Suite)} {pos : Pos} {tb : WX → TS} {Wout : WX}
/-- what a suite leaves, told outside of it -/
theorem SP.out {pins pn : List (Addr × Obj)} {D : Ends} {f : Flow} {s' : Shared} {a : Addr} {q : Addr × Obj} (ok : X.Ok) (h : SP (X.suite a (q :: (X.pn ++ pins))) pn D f s') : SP X pins D f s' := by
  cases f <;> obtain ⟨x, y, z⟩ := h
  · exact ⟨x, y, z.1.unsuite ok, z.2⟩
  · exact ⟨x, y, z.1.unsuite ok, z.2⟩
  · exact ⟨x, y, z.1.unsuite ok, z.2⟩
  · obtain ⟨H6, S6, r6, q6⟩ := z; exact ⟨x, y, H6, S6.unsuite ok, r6, q6⟩
theorem SP.ofTry {pins pn : List (Addr × Obj)} {D : Ends} {f : Flow} {s' : Shared} {xe : Value → Shared → Prop} (ok : X.Ok) (h : SP (X.tr (X.pn ++ pins) xe) pn D f s') : SP X pins D f s' := by
  cases f <;> obtain ⟨x, y, z⟩ := h
  · exact ⟨x, y, z.1.ofTry ok, z.2⟩
  · exact ⟨x, y, z.1.ofTry ok, z.2⟩
  · exact ⟨x, y, z.1.ofTry ok, z.2⟩
  · obtain ⟨H6, S6, r6, q6⟩ := z; exact ⟨x, y, H6, S6.ofTry ok, r6, q6⟩
theorem ps_try_hs (hs : X.stack = X.env :: X.outer) (hf : X.env.frame = some X.env.locals) (tk : Takes X Wout)
    (hb : ∀ (W : WX) (pn : List (Addr × Obj)) (xe : Value → Shared → Prop), Takes (X.tr pn xe) W → PassesOwn (model X.prog X.w) X.A X.env xe → PSs (X.tr pn xe) body (tb W))
    (hh : Hs X (h₀ :: hds) l) : PS X (.Try body (h₀ :: hds) [] [] pos) (fun D σ H => tb (wHs X.K Wout D l) D σ H) := by
  constructor
  intro pins s σ H D I h
  have ok := I.ok
  have hfr : X.A.frames = some (X.env :: X.outer) := by rw [ok.frames, hs]
  apply wpAny_Try_except
  have caught : ∀ (u : Value) (s' : Shared), XE (X.tr (X.pn ++ pins) fun e s₁ => wpAny (model X.prog X.w) X.A (noteFrame e X.env) (fun _ s₂ => wpAny (model X.prog X.w) X.A (setFlight e none) (fun _ s₃ =>
      wpAny (model X.prog X.w) X.A (handleBy e X.env (h₀ :: hds)) (SP X pins D) X.xe s₃) X.xe s₂) X.xe s₁) (wHs X.K Wout D l) u s' →
      wpAny (model X.prog X.w) X.A (noteFrame u X.env) (fun _ s₂ => wpAny (model X.prog X.w) X.A (setFlight u none) (fun _ s₃ => wpAny (model X.prog X.w) X.A (handleBy u X.env (h₀ :: hds)) (SP X pins D) X.xe s₃) X.xe s₂) X.xe s' := by
    rintro u s' ⟨a, B, sI, pins', σ', H', cls, d, rfl, J', nb, up, sky, na, os, ag, w⟩
    have J : Inv X pins σ' H' sI := J'.ofTry ok
    rw [show (X.tr (X.pn ++ pins) fun e s₁ => wpAny (model X.prog X.w) X.A (noteFrame e X.env) (fun _ s₂ => wpAny (model X.prog X.w) X.A (setFlight e none) (fun _ s₃ =>
      wpAny (model X.prog X.w) X.A (handleBy e X.env (h₀ :: hds)) (SP X pins D) X.xe s₃) X.xe s₂) X.xe s₁).stack = X.env :: X.outer from hs] at sky
    refine Sky.land Zc.steady hfr hf sky fun h3 fl3 up3 => ?_
    have J3 : Inv X pins σ' H' { s' with heap := h3 } := J.landed nb fl3.1 (up.trans up3) os ag
    obtain ⟨oe3, vs3, he3, hz3, hd3⟩ := fl3.there
    have away : a ∉ frs (X.env :: X.outer) := fun hm => by
      obtain ⟨_, o', e', hnf⟩ := fl3.2.2.1.mem hm
      rw [he3] at e'; cases e'
      exact hnf _ hd3
    have nL : a ≠ X.env.locals := by
      rintro rfl
      exact away (List.mem_filterMap.mpr ⟨X.env, List.mem_cons_self, hf⟩)
    have nF : a ∉ X.fs := fun hm => away (by
      obtain ⟨e, he, q⟩ := List.mem_filterMap.mp hm
      exact List.mem_filterMap.mpr ⟨e, List.mem_cons_of_mem _ he, q⟩)
    have S3 := J3.suite he3 hd3 na nL nF
    have LT : PySem.W.Looks (model X.prog X.w) h3 (typeOf (.ref a)) cls := fun A Q E s k q => wpAny_typeOf_ref (k _ _ he3) (by rw [hz3.1]; exact q)
    have test : ∀ {x : Str} {c : Value} {np : Pos}, Names X x c → ∀ {Q : Value → Shared → Prop} {E : Value → Shared → Prop}, Q c { s' with heap := h3 } → wpAny (model X.prog X.w) (X.A.mark (some (.ref a))) (eval (.Name x np) X.env) Q E { s' with heap := h3 } := by
      intro x c np hc Q E q
      rcases hc with ⟨hg, hdbg, hm | ⟨hm, hv, hnn⟩⟩
      · exact ld_glob (X := X.suite a ((a, oe3) :: (X.pn ++ pins))) S3 hg hm q hdbg
      · exact ld_blt (X := X.suite a ((a, oe3) :: (X.pn ++ pins))) S3 hg hm hv q hnn hdbg
    have go : ∀ {hds' l'}, Hs X hds' l' → wHs X.K Wout D l' cls d σ' H' → wpAny (model X.prog X.w) X.A (handleBy (.ref a) X.env hds') (SP X pins D) X.xe { s' with heap := h3 } := by
      intro hds' l' hk
      induction hk with
      | nil =>
        intro w
        apply wpAny_handleBy_nil
        have fin : wpAny (model X.prog X.w) X.A (setFlight (.ref a) X.env.frame) (fun _ s4 => wpAny (model X.prog X.w) X.A (throw (.ref a) : Sem Flow) (SP X pins D) X.xe s4) X.xe { s' with heap := h3 } := by
          rw [hf]
          exact HandSPX.setFlight_upZ fl3 fun h4 hh4 up4 => wpAny_throw (tk _ _ ⟨a, B, sI, pins, σ', H', cls, d, rfl, J, nb, (up.trans up3).trans up4, .inr (.inr (by rw [hs]; exact hh4)), na, os, ag, w⟩)
        obtain ⟨_, _, _, oe, vs, T, _, _, he, _, hd, h1, _⟩ := id fl3
        unfold PySem.passOn
        refine wpAny_bind (wpAny_field he hd h1 ?_)
        rw [if_neg (by simp : ¬ ((Value.ref T == Value.none) = true))]
        first
          | exact wpAny_bind (wpAny_pure (wpAny_bind fin))
          | exact wpAny_bind fin
      | @plain x c ts b₀ ss np p hds2 l2 hc hsu r ih =>
        rintro ⟨b, hb1, hyes, hno⟩
        refine wpAny_handleBy_cons (codeAny_handlers_test (test hc ((PySem.W.exm_one (M := model X.prog X.w) J3.kIn LT hb1).here ?_))) (by intro q; cases q)
        cases b with
        | false => exact ih (hno rfl)
        | true =>
          apply codeAny_handlers_suite
          refine HandSPX.lands_againZ fl3 fun h4 fl4 up4 => ?_
          obtain ⟨oe4, vs4, he4, hz4, hd4⟩ := fl4.there
          have J4 : Inv X pins σ' H' { s' with heap := h4 } := J.landed nb fl4.1 ((up.trans up3).trans up4) os ag
          have S4 := J4.suite he4 hd4 na nL nF
          exact wpAny_mono ((hsu a oe4 cls d (X.pn ++ pins) hz4 ⟨_, hd4⟩).run [] _ _ H' _ S4 (hyes rfl a na)) (fun f s6 hsp => SP.out ok hsp) (fun _ _ z => False.elim z)
      | @named x n i c ts b₀ ss np p hds2 l2 hc hN hi hln hsu r ih =>
        rintro ⟨b, hb1, hyes, hno⟩
        refine wpAny_handleBy_cons (codeAny_handlers_test (test hc ((PySem.W.exm_one (M := model X.prog X.w) J3.kIn LT hb1).here ?_))) (by intro q; cases q)
        cases b with
        | false => exact ih (hno rfl)
        | true =>
          apply codeAny_handlers_suite_as
          refine HandSPX.lands_againZ fl3 fun h4 fl4 up4 => ?_
          obtain ⟨oe4, vs4, he4, hz4, hd4⟩ := fl4.there
          have J4 : Inv X pins σ' H' { s' with heap := h4 } := J.landed nb fl4.1 ((up.trans up3).trans up4) os ag
          have S4 := J4.suite he4 hd4 na nL nF
          refine store_ok (X := X.suite a ((a, oe4) :: (X.pn ++ pins))) (v := .ref a) S4 hN hi (.inl hln) rfl (fun s5 S5 => ?_) (.inr hln)
          refine wpAny_mono ((hsu a oe4 cls d (X.pn ++ pins) hz4 ⟨_, hd4⟩).run [] s5 _ H' _ S5 (hyes rfl a na)) (fun f s6 hsp => ?_) (fun _ _ z => False.elim z)
          have away : ∀ {σ6 : L2.St} {H6 : Hp} {Q : Shared → Prop}, Inv X pins σ6 H6 s6 → (∀ s7, Inv X pins (σ6.set i none) H6 s7 → Q s7) →
              wpAny (model X.prog X.w) X.A (do bindName X.env n .none; unbindBehindTheSuite X.env n p) (fun _ s7 => Q s7) X.xe s6 := fun S6 hq => gone_ok S6 hN hi hln hq
          have hsp' := SP.out ok hsp
          cases f <;> obtain ⟨x6, y6, z6⟩ := hsp'
          · exact away z6.1 fun s7 J7 => ⟨_, _, J7, z6.2⟩
          · exact away z6.1 fun s7 J7 => ⟨_, _, J7, z6.2⟩
          · exact away z6.1 fun s7 J7 => ⟨_, _, J7, z6.2⟩
          · obtain ⟨H6, S6, r6, q6⟩ := z6
            exact away S6 fun s7 J7 => ⟨_, _, _, J7, r6, q6⟩
    exact go hh w
  refine wpAny_mono ((hb (wHs X.K Wout D l) (X.pn ++ pins) _ caught PassesOwn.looking).run [] s σ H D (I.toTry _) h) (fun f s1 hsp => ?_) (fun e s1 he => he)
  have q := SP.ofTry ok hsp
  cases f with
  | next => exact wpAny_execs_nil q
  | brk => exact q
  | cont => exact q
  | ret u => exact q
end

/-! ### the same, on plain data -/
/-- a handler: its class, what it does -/
abbrev Hd := Addr × (Ex → SS)
/-- the handlers, in order; the classes that are known to be apart -/
def sHandle (x : Ex) : List Hd → SS
  | [], τ, st => .er x τ st
  | (c, f) :: r, τ, st => if x.cls = c then f x τ st else sHandle x r τ st
def sTry (leafs : List Addr) (b : SS) (hs : List Hd) : SS := fun τ st => match b τ st with
  | .er x τ' st' => if x.cls ∈ leafs then sHandle x hs τ' st' else .no
  | r => r
/-- the classes are apart: an exception of the one is none of the other -/
def Apart (K : PySem.W.Frag) (leafs : List Addr) : Prop := ∀ a ∈ leafs, ∀ c ∈ leafs, PySem.W.exmOne K (.ref a) (.ref c) = some (decide (a = c))
/-- a suite's reading serves what the handler does -/
def Serves (K : PySem.W.Frag) (Wout : WX) (slot : Option Nat) (ts : Suite) (f : Ex → SS) : Prop :=
  ∀ (D : Ends) (ρ : Mp) (τ : En) (st : Store) (σ : L2.St) (H : Hp) (x : Ex) (cls : Value) (d : Option Addr) (a : Addr), R K ρ st H → EnvR K ρ st.length H τ σ → ExR K ρ st.length H x cls d → H a = none → OutS K Wout ρ st.length H D (f x τ st) →
    match slot with
    | none => ts a cls d D σ H
    | some i => ts a cls d (Ends.gone D i) (σ.set i (some (.ref a))) H
inductive HsD (X : Cx) (Wout : WX) (leafs : List Addr) : List ExceptHandler → List Hd → List (Value × Option Nat × Suite) → Prop
  | nil : HsD X Wout leafs [] [] []
  | plain {x : Str} {c : Addr} {f : Ex → SS} {ts : Suite} {b₀ : Stmt} {ss : List Stmt} {np p : Pos} {hds hl l} (hm : c ∈ leafs) (hc : Names X x (.ref c)) (hs : SuiteOk X (b₀ :: ss) ts) (sv : Serves X.K Wout none ts f) (r : HsD X Wout leafs hds hl l) :
      HsD X Wout leafs (.ExceptHandler (some (.Name x np)) none (b₀ :: ss) p :: hds) ((c, f) :: hl) ((.ref c, none, ts) :: l)
  | named {x n : Str} {i : Nat} {c : Addr} {f : Ex → SS} {ts : Suite} {b₀ : Stmt} {ss : List Stmt} {np p : Pos} {hds hl l} (hm : c ∈ leafs) (hc : Names X x (.ref c)) (hN : X.N.Nodup) (hi : X.N[i]? = some n) (hn : X.env.kindOf n = some .local) (hs : SuiteOk X (b₀ :: ss) ts) (sv : Serves X.K Wout (some i) ts f) (r : HsD X Wout leafs hds hl l) :
      HsD X Wout leafs (.ExceptHandler (some (.Name x np)) (some n) (b₀ :: ss) p :: hds) ((c, f) :: hl) ((.ref c, some i, ts) :: l)
theorem HsD.go {X : Cx} {Wout : WX} {leafs : List Addr} {hds hl l} (h : HsD X Wout leafs hds hl l) (ap : Apart X.K leafs) {x : Ex} (hx : x.cls ∈ leafs) {D : Ends} {ρ' : Mp} {τ' : En} {st' : Store} {σ' : L2.St} {H' : Hp} {cls : Value} {dd : Option Addr}
    (r' : R X.K ρ' st' H') (en' : EnvR X.K ρ' st'.length H' τ' σ') (rx : ExR X.K ρ' st'.length H' x cls dd) (o' : OutS X.K Wout ρ' st'.length H' D (sHandle x hl τ' st')) : wHs X.K Wout D l cls dd σ' H' := by
  induction h with
  | nil => exact o' ρ' H' σ' cls dd .refl r' en' rx
  | @plain _ c f ts _ _ _ _ _ _ _ hm hc hs sv r ih =>
    have hcls := rx.1
    refine ⟨decide (x.cls = c), by rw [hcls]; exact ap _ hx _ hm, fun hd a ha => ?_, fun hd => ?_⟩
    · have e := of_decide_eq_true hd
      unfold sHandle at o'
      rw [if_pos e] at o'
      exact sv D ρ' τ' st' σ' H' x cls dd a r' en' rx ha o'
    · have e := of_decide_eq_false hd
      unfold sHandle at o'
      rw [if_neg e] at o'
      exact ih o'
  | @named _ _ i c f ts _ _ _ _ _ _ _ hm hc hN hi hn hs sv r ih =>
    have hcls := rx.1
    refine ⟨decide (x.cls = c), by rw [hcls]; exact ap _ hx _ hm, fun hd a ha => ?_, fun hd => ?_⟩
    · have e := of_decide_eq_true hd
      unfold sHandle at o'
      rw [if_pos e] at o'
      exact sv D ρ' τ' st' σ' H' x cls dd a r' en' rx ha o'
    · have e := of_decide_eq_false hd
      unfold sHandle at o'
      rw [if_neg e] at o'
      exact ih o'
theorem HsD.hs {X : Cx} {Wout : WX} {leafs : List Addr} {hds hl l} (h : HsD X Wout leafs hds hl l) : Hs X hds l := by
  induction h with
  | nil => exact .nil
  | plain hm hc hs sv r ih => exact .plain hc hs ih
  | named hm hc hN hi hn hs sv r ih => exact .named hc hN hi hn hs ih
theorem es_try {X : Cx} {Wout : WX} {leafs : List Addr} {body : List Stmt} {h₀ : ExceptHandler} {hds : List ExceptHandler} {hl : List Hd} {l} {b : SS} {pos : Pos} (hs : X.stack = X.env :: X.outer) (hf : X.env.frame = some X.env.locals) (tk : Takes X Wout) (ap : Apart X.K leafs)
    (hb : ∀ (W : WX) (pn : List (Addr × Obj)) (xe : Value → Shared → Prop), Takes (X.tr pn xe) W → PassesOwn (model X.prog X.w) X.A X.env xe → EvSs (X.tr pn xe) W body b)
    (hh : HsD X Wout leafs (h₀ :: hds) hl l) : EvS X Wout (.Try body (h₀ :: hds) [] [] pos) (sTry leafs b hl) := by
  refine PS.imp (ps_try_hs hs hf tk (tb := fun W => tSt X.K W b) hb hh.hs) fun D σ H ⟨ρ, τ, st, r0, en, o⟩ => ⟨ρ, τ, st, r0, en, ?_⟩
  unfold sTry at o
  cases q : b τ st with
  | no => rw [q] at o; exact o
  | nx a s => rw [q] at o; exact o
  | rt a s => rw [q] at o; exact o
  | bk a s => rw [q] at o; exact o
  | ct a s => rw [q] at o; exact o
  | er x τ' st' =>
    rw [q] at o
    simp only at o
    split at o
    · rename_i hx
      intro ρ' H' σ' cls dd ex r' en' rx
      exact hh.go ap hx r' en' rx (OutS.shift o r0 ex r')
    · exact o.elim
/-- a suite without a name -/
theorem serves_plain {K : PySem.W.Frag} {Wout : WX} {m : SS} (hno : ∀ τ st x τ' st', m τ st ≠ .er x τ' st') : Serves K Wout none (fun _ _ _ => tSt K W0 m) (fun _ => m) := fun D ρ τ st σ H x cls d a r en rx ha o => ⟨ρ, τ, st, r, en, by
  replace o : OutS K Wout ρ st.length H D (m τ st) := o
  cases q : m τ st with
  | no => rw [q] at o; exact o
  | nx a b => rw [q] at o; exact o
  | rt a b => rw [q] at o; exact o
  | bk a b => rw [q] at o; exact o
  | ct a b => rw [q] at o; exact o
  | er x a b => exact absurd q (hno _ _ _ _ _)⟩
/-- a suite that is not reached -/
def sNever : Ex → SS := fun _ _ _ => .no
theorem serves_never {K : PySem.W.Frag} {Wout : WX} {i : Option Nat} : Serves K Wout i (fun _ _ _ => tNever) sNever := fun D ρ τ st σ H x cls d a r en rx ha o => o.elim
theorem suite_never {X : Cx} {ss : List Stmt} : SuiteOk X ss (fun _ _ _ => tNever) := fun _ _ _ _ _ _ _ => pss_never
/-! ### raise X("..."), X without an __init__ of its own -/
def sRaise (c : Addr) : SS := fun τ st => .er ⟨c, none⟩ τ st
theorem es_raise {X : Cx} {W : WX} {c : Addr} {x m : Str} {j : Nat} {p p2 pos pos2 : Pos} (hc : X.calm = true) (tk : Takes X W) (q : PySem.W.excIn X.K c [.type "ValueError", .type "Exception", .type "BaseException", .type "object"] "ValueError.__new__" = true) (gC : X.mg x = some (.ref c)) (kC : PySem.W.keepIn X.K (.ref c) = true)
    (bC : PySem.W.subIn X.K (.ref c) (.type "BaseException") = some true) (tC : PySem.W.typeIn X.K (.ref c) = some (.type "type")) (hg : Gl X x := by rfl) (hdb : (x == ("__debug__" : Str)) = false := by decide) :
    EvS X W (.Raise (some (.Call (.Name x p) [.Constant (.str m) j p2] [] pos)) none pos2) (sRaise c) :=
  PS.imp (ps_raise hc tk (pmk_own PySem.F.excBase_ValueError q gC kC (raises_own bC tC) hg hdb)) fun D σ H ⟨ρ, τ, st, r0, en, o⟩ => o ρ H σ (.ref c) none .refl r0 en ⟨rfl, trivial⟩
end Fx

set_option Elab.async false
set_option linter.all false
set_option maxRecDepth 100000
set_option maxHeartbeats 4000000
namespace Fx
open PySem L2 PyProof.Rows PySem.Spec
variable [Md]
variable [Mw]
/-! ### tuple * int -/
def rRepF (K : PySem.W.Frag) : R2 := fun x y H Q => ∃ l k xs, x = .ref l ∧ y = .int k ∧ SqT K H l xs ∧ xs ≠ [] ∧ 2 ≤ k ∧ k ≤ 1000000 ∧ k.toNat * xs.length ≤ 1000000 ∧ ∀ p u, H p = none → NewT u (List.replicate k.toNat xs).flatten → Q (.ref p) (upd H p u)
section
variable {X : Cx} {W : WX}
theorem op_repF : OpR X (binaryOp .Mult) (rRepF X.K) := by
  intro pins s σ H x y v u Q I rx ry h
  obtain ⟨l, k, xs, rfl, rfl, hT, hne, h1, h2, hz, q⟩ := h
  cases rx
  obtain ⟨t, rfl⟩ := ry
  obtain ⟨its, r, ⟨⟨cls, dd, data, sl⟩, ho, hc, n, hd⟩, hs⟩ := I.tuple hT
  simp only at hc hd
  subst hc hd
  have hle : its.length = xs.length := r.length.symm
  have hn : its ≠ [] := fun e => hne (by
    rw [e] at hle
    exact List.eq_nil_of_length_eq_zero hle.symm)
  have hi : its.toArray.isEmpty = false := by
    cases its with
    | nil => exact absurd rfl hn
    | cons a b => rfl
  have hsz0 : its.toArray.size = xs.length := by rw [List.size_toArray, hle]
  have hm : ((its.toArray.size : Nat) : Int) * k ≤ 1000000 := by
    rw [hsz0]
    have ek : k = ((k.toNat : Nat) : Int) := by omega
    rw [ek, ← Int.natCast_mul, Nat.mul_comm]
    exact Int.ofNat_le.mpr hz
  have flen : (List.replicate k.toNat its).flatten.length ≤ sizeLine := by
    rw [PyProof.Rows.lm_len_rep_flat, hle, sizeLine_eq]
    omega
  have c0 : (decide (k < -(2 ^ 63)) || decide (k ≥ 2 ^ 63)) = false := by
    rw [decide_eq_false (by omega), decide_eq_false (by omega)] <;> rfl
  have c1 : (its.toArray.isEmpty || k == 1) = false := by
    rw [hi, Bool.false_or]
    exact beq_eq_false_iff_ne.mpr (by omega)
  have c2 : (decide (k ≤ 0) || its.toArray.isEmpty) = false := by
    rw [hi, Bool.or_false]
    exact decide_eq_false (by omega)
  have c4 : Builtin.Tuple.tupleTooMany (((its.toArray.size : Nat) : Int) * k) = false := by
    unfold Builtin.Tuple.tupleTooMany
    rw [sizeLine_eq]
    exact decide_eq_false (by omega)
  refine wpAny_binaryOp_repeat_ref (T := "tuple") (U := "int") (by decide) ⟨_, ho, rfl⟩ (fun s' => typeIs_int s' k t) noFill_tuple_mul F.fills_int_mul F.slot_int_rmul repeat_tuple F.slot_int_index.lookup
    (call_meets F.slot_int_rmul (typeIs_int s k t) F.entry_int_rmul (F.args_int_rmul_2 _ _) (int_rmul_tuple k t l its.toArray n dd sl)
      ⟨ho, rfl, ⟨_, ho, rfl⟩, call_meets F.slot_tuple_mul ⟨_, ho, rfl⟩ F.entry_tuple_mul (F.args_tuple_mul_2 _ _) (tuple_mulW l its.toArray n dd sl k t c0 c1 c2 (by omega) c4 (by rw [size_rep, List.size_toArray]; exact flen)) ⟨ho, ?_⟩⟩)
  rw [size_rep]
  obtain ⟨u, nu, I2⟩ := laidT (t' := s.toks) (xs := (List.replicate k.toNat xs).flatten) I (fun b ob q => Heap.get?_push_of_some _ q) (Nat.le_refl _) (Heap.get?_push_size _ rfl) rfl fun H' => ⟨by rw [PyProof.Rows.lm_len_rep_flat, sizeLine_eq]; omega, _, r.rep k.toNat, IsTup.new _ _⟩
  exact ⟨.ref s.heap.objs.size, _, I2, rfl, q _ _ (I.hok.fresh (Nat.le_refl _)) nu⟩
theorem RelDs.reps {K : PySem.W.Frag} {ρ : Mp} {n : Nat} {H : Hp} {a : List D} {us : List V} (h : RelDs K ρ n H a us) : ∀ m : Nat, RelDs K ρ n H (List.replicate m a).flatten (List.replicate m us).flatten
  | 0 => .nil
  | m + 1 => by rw [List.replicate_succ, List.replicate_succ, List.flatten_cons, List.flatten_cons]; exact h.append (RelDs.reps h m)
theorem ex_repFits : ∃ f : Nat → Int → Bool, ∀ n k, f n k = true ↔ (n ≠ 0 ∧ 2 ≤ k ∧ k ≤ 1000000 ∧ k.toNat * n ≤ 1000000) := ⟨fun n k => decide (n ≠ 0 ∧ 2 ≤ k ∧ k ≤ 1000000 ∧ k.toNat * n ≤ 1000000), fun i j => decide_eq_true_iff⟩
noncomputable def repFits : Nat → Int → Bool := ex_repFits.choose
theorem repFits_iff {n : Nat} {k : Int} : repFits n k = true ↔ (n ≠ 0 ∧ 2 ≤ k ∧ k ≤ 1000000 ∧ k.toNat * n ≤ 1000000) := ex_repFits.choose_spec n k
noncomputable def fMul : D → D → Store → Rs D := fun x y st => match x, y with
  | .int i, .int j => if mulFits i j = true then .ok (.int (i * j)) st else .no
  | .tup a, .int k => if repFits a.length k = true then .ok (.tup (List.replicate k.toNat a).flatten) st else .no
  | _, _ => .no
theorem opS_mul : OpS X (binaryOp .Mult) fMul := by
  refine ⟨_, op_mulX.or op_repF, fun W σ ρ st H x y vx vy Q r rx ry o => ?_⟩
  cases x with
  | int i =>
    cases y with
    | int j =>
      simp only [fMul] at o
      split at o
      · rename_i h
        simp only [RelD] at rx ry
        exact .inl ⟨i, j, rx, ry, h, o.here r (by simp [reD, RelD])⟩
      · exact o.elim
    | _ => exact o.elim
  | tup a =>
    cases y with
    | int k =>
      simp only [fMul] at o
      split at o
      · rename_i h
        simp only [RelD] at rx ry
        obtain ⟨p, us, rfl, hs, rs⟩ := rx
        have h' := repFits_iff.mp h
        obtain ⟨h0, h1, h2, h3⟩ := h'
        have hl := rs.len
        refine .inr ⟨p, k, us, rfl, ry, hs.sq, fun e => h0 (by rw [← hl, e]; rfl), h1, h2, by rw [hl]; exact h3, fun q u hq nu => ?_⟩
        refine o.free r hq ?_
        simp only [reD, RelD]
        refine ⟨q, _, rfl, nu.upd, ?_⟩
        have rs' : RelDs X.K ρ st.length (upd H q u) a us := RelDs.mono (r.push_ext hq) r a rs
        exact RelDs.reps rs' _
      · exact o.elim
    | _ => exact o.elim
  | _ => exact o.elim
end
section
variable {X : Cx} {W : WX} {a b : Expr} {ma mb : SE} {p p2 pos pos2 : Pos}
theorem ev_tupRg2 (hm2 : X.mg "tuple" = none) (ha : EvE X W a ma) (hb : EvE X W b mb) (hc : X.calm = true) (hm : X.mg "range" = none) (hg : Gl X "range" := by rfl) (hg2 : Gl X "tuple" := by rfl) (na : starEach [a, b] X.env = (false, eval a X.env) :: starEach [b] X.env := by rfl)
    (nb : starEach [b] X.env = (false, eval b X.env) :: starEach [] X.env := by rfl) (hp : (backTo pos2 (starEach [b] X.env)).any (·.1) = false := by rfl)
    (na2 : starEach [Expr.Call (.Name "range" p2) [a, b] [] pos2] X.env = (false, eval (.Call (.Name "range" p2) [a, b] [] pos2) X.env) :: starEach [] X.env := by rfl) :
    EvE X W (.Call (.Name "tuple" p) [.Call (.Name "range" p2) [a, b] [] pos2] [] pos) (mTupOf (mRgL2 ma mb)) := PE.imp (pe_tupRgN hc hg2 hm2 (prg_2 hg hm ha hb na nb hp) na2) fun σ H Q ⟨ρ, τ, st, r0, en, oo⟩ => by
  have oo' : Out X.K (reD X.K) W σ ρ st.length H Q ((ma τ st).bind fun d st1 => (mb τ st1).bind fun d2 st2 => (match d, d2 with
    | .int i, .int j => if rgFits i j = true then Rs.ok (rangeD i j) st2 else .no
    | _, _ => .no).bind fun ds st3 => .ok (.tup ds) st3) := by
    unfold mTupOf mRgL2 at oo
    rw [Rs.bind_assoc] at oo
    simp only [Rs.bind_assoc] at oo
    exact oo
  refine tM.bind r0 en oo' fun d st1 ρ1 H1 v e1 r1 en1 q o1 => tM.bind r1 en1 o1 fun d2 st2 ρ2 H2 v2 e2 r2 en2 q2 o2 => ?_
  cases d with
  | int i =>
    cases d2 with
    | int j =>
      simp only [RelD] at q q2
      simp only at o2
      split at o2
      · rename_i h
        refine ⟨i, j, q, q2, rgFits_ok h, fun y u hy nu => Out.free (d := D.tup (rangeD i j)) r2 o2 hy ?_⟩
        simp only [reD, RelD]
        exact ⟨y, _, rfl, nu.upd, rg_rel _ _⟩
      · exact o2.elim
    | _ => exact o2.elim
  | _ => exact o2.elim
/-! ### short names -/
abbrev fSub := onII fun i j => .int (i - j)
noncomputable abbrev fFdiv := onIIc divFits fun i j => .int (i / j)
abbrev fMod := onIIc (fun _ j => decide (0 < j)) fun i j => .int (i % j)
abbrev fLt := onII fun i j => .bl (decide (i < j))
abbrev fLe := onII fun i j => .bl (decide (i ≤ j))
abbrev fGt := onII fun i j => .bl (decide (j < i))
abbrev fGe := onII fun i j => .bl (decide (j ≤ i))
abbrev fAll : FB D := onBls fun bs => .bl (bs.all id)
abbrev fAny : FB D := onBls fun bs => .bl (bs.any id)
abbrev fSum : FB D := onInts fun ns => .int ns.sum
abbrev fSorted : FB (List D) := onInts fun ns => (sortI ns).map D.int
/-- nothing is promised -/
theorem fn_none {P : Program} {w : World} {K : PySem.W.Frag} {mg : Str → Option Value} {base : Heap} {f : Addr} {fd : FuncData} {ps : List Str} : FnD P w K mg base 0 f fd ps fun _ _ => .no :=
  ⟨fun vs H Q E ⟨_, _, _, _, _, _, o⟩ => o.elim, fun A outer s H args us vs Q E _ _ _ _ ⟨_, _, _, _, _, _, o⟩ => o.elim⟩
end
end Fx

set_option Elab.async false
set_option linter.all false
set_option maxRecDepth 100000
set_option maxHeartbeats 4000000
namespace Fx
open PySem L2
variable [Md]
variable [Mw]
/-! ### a def's function without what it leaves behind -/
open Classical in
noncomputable def gc (fs : FS) : FS := fun ds st => match fs ds st with
  | .no => .no
  | .ok d st' => if st'.take st.length = st ∨ (st.length ≤ st'.length ∧ WfS st.length (st'.take st.length)) then
      (if WfD st.length d then .ok d (st'.take st.length) else match d with
        | .loc i => (match st'[i]? with
          | some (.lst xs) => if WfDs st.length xs ∧ st.length ≤ i then .ok (.lst xs) (st'.take st.length) else .no
          | _ => .no)
        | _ => .no) else .no
  | .er x st' => if (st'.take st.length = st ∨ (st.length ≤ st'.length ∧ WfS st.length (st'.take st.length))) ∧ (∀ fs, x.fs = some fs → ∀ p ∈ fs, WfD st.length p.2) then .er x (st'.take st.length) else .no
theorem gc_side {st st' : Store} (w : WfS st.length st) (h : st'.take st.length = st ∨ (st.length ≤ st'.length ∧ WfS st.length (st'.take st.length))) : st.length ≤ st'.length ∧ (st'.take st.length).length = st.length ∧ WfS st.length (st'.take st.length) := by
  rcases h with h | ⟨h1, h2⟩
  · have hl : (st'.take st.length).length = st.length := by rw [h]
    refine ⟨?_, hl, by rw [h]; exact w⟩
    rw [List.length_take] at hl; omega
  · exact ⟨h1, by rw [List.length_take]; omega, h2⟩
theorem gc_ref {fs : FS} {ds : List D} {st : Store} (w : WfS st.length st) : Ref st.length (gc fs ds st) (fs ds st) := by
  unfold gc
  cases e : fs ds st with
  | no => exact trivial
  | ok d st' =>
    simp only
    split
    · rename_i h
      obtain ⟨h1, h2, h3⟩ := gc_side w h
      split
      · rename_i hw
        refine ⟨d, st'.drop st.length, by rw [List.take_append_drop], .refl (by rw [h2]; exact hw), by rw [h2]; exact h3, by rw [h2]; exact Nat.le_refl _⟩
      · split
        · rename_i i _
          split
          · rename_i xs hx
            split
            · rename_i hw
              refine ⟨.loc i, st'.drop st.length, by rw [List.take_append_drop], ?_, by rw [h2]; exact h3, by rw [h2]; exact Nat.le_refl _⟩
              rw [List.take_append_drop]
              exact .frz (by rw [h2]; exact hw.2) hx (Cvs.refl (by rw [h2]; exact hw.1))
            · exact trivial
          · exact trivial
        · exact trivial
    · exact trivial
  | er x st' =>
    simp only
    split
    · rename_i h
      obtain ⟨h1, h2, h3⟩ := gc_side w h.1
      exact ⟨st'.drop st.length, by rw [List.take_append_drop], by rw [h2]; exact h.2, by rw [h2]; exact h3, by rw [h2]; exact Nat.le_refl _⟩
    · exact trivial
theorem fn_gc {P : Program} {w : World} {K : PySem.W.Frag} {mg : Str → Option Value} {base : Heap} {k : Nat} {f : Addr} {fd : FuncData} {ps : List Str} {fs : FS} (F : FnD P w K mg base k f fd ps fs) : FnD P w K mg base k f fd ps (gc fs) :=
  fn_ref F fun ds st _ _ w => gc_ref w
theorem take_self {st g : Store} : (st ++ g).take st.length = st := by simp
theorem gc_ok {fs : FS} {ds : List D} {st : Store} {d : D} (g : Store) (h : fs ds st = .ok d (st ++ g)) (hd : WfD st.length d) : gc fs ds st = .ok d st := by
  unfold gc
  rw [h]
  dsimp only
  rw [if_pos (.inl take_self), if_pos hd, take_self]
theorem gc_ok' {fs : FS} {ds : List D} {st st1 : Store} {d : D} (g : Store) (h : fs ds st = .ok d (st1 ++ g)) (hl : st1.length = st.length) (w : WfS st.length st1) (hd : WfD st.length d) : gc fs ds st = .ok d st1 := by
  unfold gc
  rw [h]
  have e : (st1 ++ g).take st.length = st1 := by rw [← hl]; simp
  dsimp only
  rw [if_pos (.inr ⟨by rw [List.length_append, hl]; omega, by rw [e]; exact w⟩), if_pos hd, e]
theorem gc_lst {fs : FS} {ds : List D} {st : Store} {i : Nat} {xs : List D} (g : Store) (h : fs ds st = .ok (.loc i) (st ++ g)) (hi : st.length ≤ i) (hx : (st ++ g)[i]? = some (.lst xs)) (hd : WfDs st.length xs) : gc fs ds st = .ok (.lst xs) st := by
  unfold gc
  rw [h]
  dsimp only
  rw [if_pos (.inl take_self), if_neg (by simp only [WfD]; omega), hx]
  dsimp only
  rw [if_pos ⟨hd, hi⟩, take_self]
theorem gc_er {fs : FS} {ds : List D} {st : Store} {c : Addr} (g : Store) (h : fs ds st = .er ⟨c, none⟩ (st ++ g)) : gc fs ds st = .er ⟨c, none⟩ st := by
  unfold gc
  rw [h]
  dsimp only
  rw [if_pos ⟨.inl take_self, fun fs e => by cases e⟩, take_self]
mutual
/-- no object of the store in it -/
def lf : D → Bool
  | .tup xs => lfs xs
  | .lst xs => lfs xs
  | .loc _ => false
  | _ => true
def lfs : List D → Bool
  | [] => true
  | d :: ds => lf d && lfs ds
end
mutual
theorem wf_lf {n : Nat} : ∀ d : D, lf d = true → WfD n d
  | .tup xs, h => by simp only [lf] at h; simp only [WfD]; exact wf_lfs xs h
  | .lst xs, h => by simp only [lf] at h; simp only [WfD]; exact wf_lfs xs h
  | .loc _, h => by simp [lf] at h
  | .non, _ => by simp [WfD]
  | .bl _, _ => by simp [WfD]
  | .int _, _ => by simp [WfD]
  | .str _, _ => by simp [WfD]
  | .ty _, _ => by simp [WfD]
  | .fn _, _ => by simp [WfD]
theorem wf_lfs {n : Nat} : ∀ ds : List D, lfs ds = true → WfDs n ds
  | [], _ => by simp [WfDs]
  | d :: ds, h => by
    simp only [lfs, Bool.and_eq_true] at h
    simp only [WfDs]
    exact ⟨wf_lf d h.1, wf_lfs ds h.2⟩
end
theorem lfs_all {ds : List D} : lfs ds = ds.all lf := by
  induction ds with
  | nil => rfl
  | cons d ds ih => simp only [lfs, List.all_cons, ih]
@[simp] theorem lf_non : lf .non = true := rfl
@[simp] theorem lf_bl {b} : lf (.bl b) = true := rfl
@[simp] theorem lf_int {b} : lf (.int b) = true := rfl
@[simp] theorem lf_str {b} : lf (.str b) = true := rfl
@[simp] theorem lf_fn {b} : lf (.fn b) = true := rfl
@[simp] theorem lf_loc {b} : lf (.loc b) = false := rfl
@[simp] theorem lf_tup {b} : lf (.tup b) = b.all lf := by rw [lf, lfs_all]
@[simp] theorem lf_lst {b} : lf (.lst b) = b.all lf := by rw [lf, lfs_all]

/-! ### evaluation by simp -/
section
variable {σ τ : En} {st : Store} {m ma mb mc mo mi : SE} {ms : SA} {t u : SB} {a b : SS} {fs : FS} {i j k : Nat} {d x y : D}
@[simp] theorem x_mVar : mVar i σ st = match σ[i]? with
  | some (some d) => .ok d st
  | _ => .no := rfl
@[simp] theorem x_mC : mC d σ st = .ok d st := rfl
@[simp] theorem x_mNil : mNil σ st = .ok [] st := rfl
@[simp] theorem x_mCons : mCons m ms σ st = (m σ st).bind fun d st1 => (ms σ st1).bind fun ds st2 => .ok (d :: ds) st2 := rfl
@[simp] theorem x_mOp {f : D → D → Store → Rs D} : mOp f ma mb σ st = (ma σ st).bind fun x st1 => (mb σ st1).bind fun y st2 => f x y st2 := rfl
@[simp] theorem x_mB : mB m σ st = (m σ st).bind fun d st => match d with
  | .bl b => .ok b st
  | _ => .no := rfl
@[simp] theorem x_mAnd : mAnd t u σ st = (t σ st).bind fun c st1 => if c = true then u σ st1 else .ok false st1 := rfl
@[simp] theorem x_mOr : mOr t u σ st = (t σ st).bind fun c st1 => if c = true then .ok true st1 else u σ st1 := rfl
@[simp] theorem x_mNot : mNot t σ st = (t σ st).bind fun c st1 => .ok (!c) st1 := rfl
@[simp] theorem x_mAndV : mAndV ma mb σ st = (ma σ st).bind fun x st1 => match x with
  | .bl true => mb σ st1
  | .bl false => .ok (.bl false) st1
  | _ => .no := rfl
@[simp] theorem x_mOrV : mOrV ma mb σ st = (ma σ st).bind fun x st1 => match x with
  | .bl false => mb σ st1
  | .bl true => .ok (.bl true) st1
  | _ => .no := rfl
@[simp] theorem x_mNotV : mNotV ma σ st = (ma σ st).bind fun x st1 => match x with
  | .bl b => .ok (.bl (!b)) st1
  | _ => .no := rfl
@[simp] theorem x_mIf : mIf t ma mb σ st = (t σ st).bind fun c st1 => if c = true then ma σ st1 else mb σ st1 := rfl
@[simp] theorem x_mTup : mTup ms σ st = (ms σ st).bind fun ds st1 => .ok (.tup ds) st1 := rfl
@[simp] theorem x_mNew : mNew ms σ st = (ms σ st).bind fun ds st1 => .ok (.loc st1.length) (st1 ++ [.lst ds]) := rfl
@[simp] theorem x_mFrz : mFrz ms σ st = (ms σ st).bind fun ds st1 => .ok (.lst ds) st1 := rfl
@[simp] theorem x_sSkip : sSkip τ st = .nx τ st := rfl
@[simp] theorem x_sSeq : sSeq a b τ st = (a τ st).seq b := rfl
@[simp] theorem x_sExpr : sExpr m τ st = (m τ st).go τ fun _ st1 => .nx τ st1 := rfl
@[simp] theorem x_sRet : sRet m τ st = (m τ st).go τ fun d st1 => .rt d st1 := rfl
@[simp] theorem x_sRetN : sRetN τ st = .rt .non st := rfl
@[simp] theorem x_sIf : sIf t a b τ st = (t τ st).go τ fun c st1 => if c = true then a τ st1 else b τ st1 := rfl
@[simp] theorem x_sSet : sSet i m τ st = (m τ st).go τ fun d st1 => .nx (τ.set i (some d)) st1 := rfl
@[simp] theorem x_sBrk : sBrk τ st = .bk τ st := rfl
@[simp] theorem x_sCnt : sCnt τ st = .ct τ st := rfl
@[simp] theorem x_gN : gN i d τ = some (τ.set i (some d)) := rfl
@[simp] theorem x_gsNil : gsNil [] τ = some τ := rfl
@[simp] theorem x_gsCons {g : SG} {gs : List D → En → Option En} {ds : List D} : gsCons g gs (d :: ds) τ = (g d τ).bind (gs ds) := rfl
@[simp] theorem x_gT {gs : List D → En → Option En} {ds : List D} : gT gs (.tup ds) τ = gs ds τ := rfl
@[simp] theorem x_sAsg {g : SG} : sAsg g m τ st = (m τ st).go τ fun d st1 => match g d τ with
  | some τ' => .nx τ' st1
  | none => .no := rfl
@[simp] theorem x_sPar : sPar i j ma mb τ st = (ma τ st).go τ fun d st1 => (mb τ st1).go τ fun d2 st2 => .nx ((τ.set i (some d)).set j (some d2)) st2 := rfl
@[simp] theorem x_sPar3 : sPar3 i j k ma mb mc τ st = (ma τ st).go τ fun d st1 => (mb τ st1).go τ fun d2 st2 => (mc τ st2).go τ fun d3 st3 => .nx (((τ.set i (some d)).set j (some d2)).set k (some d3)) st3 := rfl
@[simp] theorem x_mItems : mItems m σ st = (m σ st).bind fun d st => match d with
  | .tup ds => .ok ds st
  | .lst ds => .ok ds st
  | _ => .no := rfl
@[simp] theorem x_mRng1 : mRng1 m σ st = (m σ st).bind fun d st1 => match d with
  | .int j => if w62 j = true then .ok (rangeD 0 j) st1 else .no
  | _ => .no := rfl
@[simp] theorem x_mRng2 : mRng2 ma mb σ st = (ma σ st).bind fun d st1 => (mb σ st1).bind fun d2 st2 => match d, d2 with
  | .int i, .int j => if w62 i = true ∧ w62 j = true then .ok (rangeD i j) st2 else .no
  | _, _ => .no := rfl
@[simp] theorem x_forS_nil {g : SG} : forS g a [] τ st = .nx τ st := rfl
theorem x_forS_cons {g : SG} {ds : List D} : forS g a (d :: ds) τ st = match g d τ with
  | none => .no
  | some τ1 => (a τ1 st).loop (forS g a ds) := rfl
@[simp] theorem x_sFor {g : SG} {mi : SA} : sFor mi g a τ st = (mi τ st).go τ fun ds st1 => forS g a ds τ st1 := rfl
@[simp] theorem x_mYes : mYes τ st = .ok true st := rfl
@[simp] theorem x_mComp {mi : SA} {g : SG} {vs : List Nat} : mComp mi g t m vs τ st = (mi τ st).bind fun ds st1 => compS g t m vs ds τ st1 [] := rfl
@[simp] theorem x_mCall : mCall fs ms τ st = (ms τ st).bind fs := rfl
@[simp] theorem x_onII {f : Int → Int → D} {i j : Int} : onII f (.int i) (.int j) st = .ok (f i j) st := rfl
@[simp] theorem x_onIIc {c : Int → Int → Bool} {f : Int → Int → D} {i j : Int} : onIIc c f (.int i) (.int j) st = if c i j = true then .ok (f i j) st else .no := rfl
@[simp] theorem x_addI {i j : Int} : fAdd (.int i) (.int j) st = .ok (.int (i + j)) st := rfl
@[simp] theorem x_addT {a b : List D} : fAdd (.tup a) (.tup b) st = if szFits (a.length + b.length) = true then .ok (.tup (a ++ b)) st else .no := rfl
@[simp] theorem x_mulI {i j : Int} : fMul (.int i) (.int j) st = if mulFits i j = true then .ok (.int (i * j)) st else .no := rfl
@[simp] theorem x_mulT {a : List D} {k : Int} : fMul (.tup a) (.int k) st = if repFits a.length k = true then .ok (.tup (List.replicate k.toNat a).flatten) st else .no := rfl
@[simp] theorem x_mNeg : mNeg m σ st = (m σ st).bind fun d st1 => match d with
  | .int i => .ok (.int (-i)) st1
  | _ => .no := rfl
@[simp] theorem x_mChain {f g : D → D → Store → Rs D} : mChain f g ma mb mc σ st = (ma σ st).bind fun x st1 => (mb σ st1).bind fun y st2 => (f x y st2).bind fun z st3 => match z with
  | .bl true => (mc σ st3).bind fun u st4 => g y u st4
  | .bl false => .ok (.bl false) st3
  | _ => .no := rfl
@[simp] theorem x_mFn {α : Type} {fb : FB α} : mFn fb ms σ st = (ms σ st).bind fb := rfl
@[simp] theorem x_lenT {xs : List D} : fLen [.tup xs] st = .ok (.int xs.length) st := rfl
@[simp] theorem x_lenL {xs : List D} : fLen [.lst xs] st = .ok (.int xs.length) st := rfl
theorem x_lenLoc {xs : List D} (h : st[i]? = some (.lst xs)) : fLen [.loc i] st = .ok (.int xs.length) st := by simp [fLen, seqOf, h]
@[simp] theorem x_abs {i : Int} : fAbs [.int i] st = .ok (.int (if i < 0 then -i else i)) st := rfl
@[simp] theorem x_int {i : Int} : fInt [.int i] st = .ok (.int i) st := rfl
@[simp] theorem x_tupleT {xs : List D} : fTuple [.tup xs] st = .ok (.tup xs) st := rfl
@[simp] theorem x_tupleL {xs : List D} : fTuple [.lst xs] st = .ok (.tup xs) st := rfl
theorem x_tupleLoc {xs : List D} (h : st[i]? = some (.lst xs)) : fTuple [.loc i] st = .ok (.tup xs) st := by simp [fTuple, seqOf, h]
@[simp] theorem x_listT {xs : List D} : fList [.tup xs] st = .ok xs st := rfl
@[simp] theorem x_listL {xs : List D} : fList [.lst xs] st = .ok xs st := rfl
theorem x_listLoc {xs : List D} (h : st[i]? = some (.lst xs)) : fList [.loc i] st = .ok xs st := by simp [fList, seqOf, h]
@[simp] theorem x_onBls {f : List Bool → D} {bs : List Bool} : onBls f [.lst (bs.map .bl)] st = .ok (f bs) st := by simp [onBls, listOf]
@[simp] theorem x_onBls0 {f : List Bool → D} : onBls f [.lst []] st = .ok (f []) st := by simp [onBls, listOf, blsOf]
@[simp] theorem x_onInts {α : Type} {f : List Int → α} {bs : List Int} : onInts f [.lst (bs.map .int)] st = .ok (f bs) st := by simp [onInts, listOf]
@[simp] theorem x_ixT {xs : List D} {k : Int} : fIx (.tup xs) (.int k) st = match atI xs k with
  | some d => .ok d st
  | none => .no := by simp only [fIx, seqOf] <;> (cases atI xs k <;> rfl)
@[simp] theorem x_ixL {xs : List D} {k : Int} : fIx (.lst xs) (.int k) st = match atI xs k with
  | some d => .ok d st
  | none => .no := by simp only [fIx, seqOf] <;> (cases atI xs k <;> rfl)
theorem x_ixLoc {xs : List D} {k : Int} (h : st[i]? = some (.lst xs)) : fIx (.loc i) (.int k) st = match atI xs k with
  | some d => .ok d st
  | none => .no := by simp only [fIx, seqOf, h] <;> (cases atI xs k <;> rfl)
@[simp] theorem x_mNoPart : mNoPart σ st = .ok none st := rfl
@[simp] theorem x_mPart : mPart m σ st = (m σ st).bind fun d st1 => match d with
  | .int i => .ok (some i) st1
  | _ => .no := rfl
@[simp] theorem x_slT {xs : List D} {lo hi : Option Int} : fSl (.tup xs) lo hi st = .ok (.tup (cutD xs lo hi)) st := rfl
@[simp] theorem x_slL {xs : List D} {lo hi : Option Int} : fSl (.lst xs) lo hi st = .ok (.lst (cutD xs lo hi)) st := by simp [fSl, listOf]
@[simp] theorem x_mSl {f : D → Option Int → Option Int → Store → Rs D} {ml mh : SO} : mSl f m ml mh σ st = (m σ st).bind fun d st1 => (ml σ st1).bind fun lo st2 => (mh σ st2).bind fun hi st3 => f d lo hi st3 := rfl
@[simp] theorem x_sSub {f : D → D → D → Store → Option Store} : sSub f mo mi m τ st = (m τ st).go τ fun d st1 => (mo τ st1).go τ fun ob st2 => (mi τ st2).go τ fun k st3 => match f ob k d st3 with
  | some st4 => .nx τ st4
  | none => .no := rfl
@[simp] theorem x_mDNewK : mDNewK σ st = .ok (.loc st.length) (st ++ [.dk []]) := rfl
@[simp] theorem x_mMeth {fm : FM} : mMeth fm mo ms σ st = (mo σ st).bind fun ob st1 => match listOf ob st1 with
  | some _ => (ms σ st1).bind fun ds st2 => fm ob ds st2
  | none => .no := rfl
@[simp] theorem x_mRgL1 : mRgL1 m σ st = (m σ st).bind fun d st1 => match d with
  | .int j => if rgFits 0 j = true then .ok (rangeD 0 j) st1 else .no
  | _ => .no := rfl
@[simp] theorem x_mRgL2 : mRgL2 ma mb σ st = (ma σ st).bind fun d st1 => (mb σ st1).bind fun d2 st2 => match d, d2 with
  | .int i, .int j => if rgFits i j = true then .ok (rangeD i j) st2 else .no
  | _, _ => .no := rfl
@[simp] theorem x_mTupOf : mTupOf ms σ st = (ms σ st).bind fun ds st1 => .ok (.tup ds) st1 := rfl
@[simp] theorem x_mMulD : mMulD ms mb σ st = (ms σ st).bind fun xs st1 => (mb σ st1).bind fun y st2 => match y with
  | .int k => if w63 k = true ∧ szFits (xs.length * k.toNat) = true then .ok (List.replicate k.toNat xs).flatten st2 else .no
  | _ => .no := rfl
@[simp] theorem x_mIsi {T : Ty} : mIsi m T σ st = (m σ st).bind fun d st1 => match tyD d st1 with
  | some t => .ok (.bl (t.sub T)) st1
  | none => .no := rfl
@[simp] theorem x_mIsi2 {T U : Ty} : mIsi2 m T U σ st = (m σ st).bind fun d st1 => match tyD d st1 with
  | some t => .ok (.bl (t.sub T || t.sub U)) st1
  | none => .no := rfl
@[simp] theorem x_ty_non : tyD .non st = some .non := rfl
@[simp] theorem x_ty_bl {b : Bool} : tyD (.bl b) st = some .bool := rfl
@[simp] theorem x_ty_int {b : Int} : tyD (.int b) st = some .int := rfl
@[simp] theorem x_ty_str {b : Str} : tyD (.str b) st = some .str := rfl
@[simp] theorem x_ty_tup {b : List D} : tyD (.tup b) st = some .tup := rfl
@[simp] theorem x_ty_lst {b : List D} : tyD (.lst b) st = some .list := rfl
@[simp] theorem x_sub {a b : Ty} : Ty.sub a b = (decide (a = b) || (decide (a = .bool) && decide (b = .int))) := rfl
@[simp] theorem x_mEnum : mEnum m σ st = (m σ st).bind fun d st => match d with
  | .tup ds => .ok (enumD ds) st
  | .lst ds => .ok (enumD ds) st
  | _ => .no := by
  unfold mEnum itemsOf
  rw [Rs.bind_assoc]
  congr 1
  funext d st
  cases d <;> rfl
@[simp] theorem x_sRaise {c : Addr} : sRaise c τ st = .er ⟨c, none⟩ τ st := rfl
@[simp] theorem x_sTry {leafs : List Addr} {hs : List Hd} : sTry leafs a hs τ st = match a τ st with
  | .er x τ' st' => if x.cls ∈ leafs then sHandle x hs τ' st' else .no
  | r => r := rfl
@[simp] theorem x_sHandle {x : Ex} {c : Addr} {f : Ex → SS} {r : List Hd} : sHandle x ((c, f) :: r) τ st = if x.cls = c then f x τ st else sHandle x r τ st := rfl
@[simp] theorem x_fIs_bl {a b : Bool} : fIs (.bl a) (.bl b) st = .ok (.bl (decide (a = b))) st := rfl
@[simp] theorem x_fIs_n : fIs .non .non st = .ok (.bl true) st := rfl
@[simp] theorem x_fIs_b {a : Bool} : fIs (.bl a) .non st = .ok (.bl false) st := rfl
@[simp] theorem x_fIs_i {a : Int} : fIs (.int a) .non st = .ok (.bl false) st := rfl
@[simp] theorem x_fIs_s {a : Str} : fIs (.str a) .non st = .ok (.bl false) st := rfl
@[simp] theorem x_fIs_t {a : List D} : fIs (.tup a) .non st = .ok (.bl false) st := rfl
@[simp] theorem x_fIs_l {a : List D} : fIs (.lst a) .non st = .ok (.bl false) st := rfl
@[simp] theorem x_fIs_f {a : Addr} : fIs (.fn a) .non st = .ok (.bl false) st := rfl
@[simp] theorem x_fIsNot : fIsNot x y st = (fIs x y st).bind fun d st1 => match d with
  | .bl b => .ok (.bl (!b)) st1
  | _ => .no := rfl
theorem runF_rt {N : List Str} {m : SS} {ds : List D} {st' : Store} (h : m (ds.map some ++ List.replicate (N.length - ds.length) none) st = .rt d st') : runF N m ds st = .ok d st' := by simp [runF, h]
theorem runF_nx {N : List Str} {m : SS} {ds : List D} {τ' : En} {st' : Store} (h : m (ds.map some ++ List.replicate (N.length - ds.length) none) st = .nx τ' st') : runF N m ds st = .ok .non st' := by simp [runF, h]
theorem runF_er {N : List Str} {m : SS} {ds : List D} {x : Ex} {τ' : En} {st' : Store} (h : m (ds.map some ++ List.replicate (N.length - ds.length) none) st = .er x τ' st') : runF N m ds st = .er x st' := by simp [runF, h]
theorem w62_of {j : Int} (h1 : -1000000000 ≤ j) (h2 : j ≤ 1000000000) : w62 j = true := w62_iff.mpr (by omega)
theorem w63_of {j : Int} (h1 : -1000000000 ≤ j) (h2 : j ≤ 1000000000) : w63 j = true := w63_iff.mpr (by omega)
theorem rgFits_of {i j : Int} (h1 : -1000000 ≤ i) (h2 : i ≤ 1000000) (h3 : -1000000 ≤ j) (h4 : j ≤ 1000000) : rgFits i j = true := by
  exact (ex_rgFits.choose_spec i j).mpr ⟨by omega, by omega, by omega, by omega, by omega⟩
theorem szFits_of {n : Nat} (h : n ≤ 1000) : szFits n = true := szFits_iff.mpr (Nat.le_of_lt (small1000 h))
theorem szFits_of1 {n : Nat} (h : n ≤ 1000) : szFits (n + 1) = true := szFits_lt.mpr (small1000 h)
/-! the store, seen from its first part -/
@[simp] theorem st_get {l : Store} : (st ++ l)[st.length + k]? = l[k]? := by rw [List.getElem?_append_right (by omega)]; congr 1; omega
@[simp] theorem st_get0 {l : Store} : (st ++ l)[st.length]? = l[0]? := st_get (k := 0)
@[simp] theorem st_set {l : Store} {o : O} : (st ++ l).set (st.length + k) o = st ++ l.set k o := by rw [List.set_append_right _ _ (by omega)]; congr 2; omega
@[simp] theorem st_set0 {l : Store} {o : O} : (st ++ l).set st.length o = st ++ l.set 0 o := st_set (k := 0)
theorem st_old {l : Store} {o : O} (h : st[i]? = some o) : (st ++ l)[i]? = some o := by rw [List.getElem?_append_left (List.getElem?_eq_some_iff.mp h).1]; exact h
end
end Fx

set_option Elab.async false
set_option linter.all false
set_option maxRecDepth 100000
set_option maxHeartbeats 4000000
namespace Fx
open PySem L2
variable [Md]
variable [Mw]
/-! ### the end -/
def spLaw (K : PySem.W.Frag) : Sp := fun vs H Q _ => ∃ (a : Addr) (ns : List Int), vs = [.ref a] ∧ SqL K H a (ns.map V.int) ∧ ns.length ≤ 63 ∧ ∀ H', Q (.bl true) H'
theorem relDs_ints {K : PySem.W.Frag} {ρ : Mp} {n : Nat} {H : Hp} : ∀ ns : List Int, RelDs K ρ n H (ns.map D.int) (ns.map V.int)
  | [] => .nil
  | i :: r => .cons (by simp [RelD]) (relDs_ints r)
theorem law_imp {P : Program} {w : World} {K : PySem.W.Frag} {mg : Str → Option Value} {base : Heap} {k : Nat} {f : Addr} {fd : FuncData} {x : Str} {fs : FS} (F : FnD P w K mg base k f fd [x] fs)
    (h : ∀ ns : List Int, ns.length ≤ 63 → ∃ st', fs [.lst (ns.map D.int)] [] = .ok (.bl true) st') : FnOk P w K mg base (L2.CX P w) k f fd [x] (spLaw K) := by
  refine FnOk.imp F fun vs H Q E ⟨a, ns, e, hS, hl, q⟩ => ?_
  obtain ⟨st', e2⟩ := h ns hl
  refine ⟨⟨fun _ => 0, fun _ => False⟩, [], [.lst (ns.map D.int)], rfl, ⟨fun i o h => by simp at h, fun i j h => absurd h (Nat.not_lt_zero _), fun a h => h.elim, fun i h => absurd h (Nat.not_lt_zero _)⟩, ?_, ?_⟩
  · rw [e]
    refine .cons ?_ .nil
    simp only [RelD]
    refine ⟨a, _, rfl, ?_, relDs_ints ns⟩
    rcases hS with h | h
    · exact .inl ⟨h, fun i hi => absurd hi (Nat.not_lt_zero _), fun z => z⟩
    · exact .inr h
  · rw [e2]
    intro ρ' H' v _ _ rd
    simp only [reD, RelD] at rd
    rw [rd]; exact q H'
theorem cx_never {P : Program} {w : World} {o : List PySem.Env} {H : Hp} {s : Shared} {e : Value} {s' : Shared} (h : L2.CX P w o H s (fun _ _ _ => False) e s') : False := by
  obtain ⟨_, _, _, _, _, _, _, _, _, _, _, _, z⟩ := h
  exact z
theorem walkF {l : PySem.W.OpenLaw} {k : Nat} {q : Program} {loose : List Str} {XP : (Str → Option Value) → Heap → Prop} {YP : World → Heap → Prop} {d : DefRec} {K : Params → PySem.W.Frag} (hn : l.most = some 63) (hdf : d.params.defaults = [])
    (hr : Room k callerA) (hY : ∀ (w : World) (h : Heap), YP w h → (K w.params).In h)
    (F : ∀ (w : World) (mg : Str → Option Value) (fa : Addr) (h : Heap), (K w.params).In h → h.Ns mainGlobals mg → mg d.name = some (.ref fa) →
      ∃ fd : FuncData, (∀ (s : Shared) (u : Value), BindsTo s fd ⟨[u], []⟩ [("script", u)]) ∧ ∀ base : Heap, (K w.params).In base → base.Ns mainGlobals mg → FnOk l.prog w (K w.params) mg base (L2.CX l.prog w) k fa fd ["script"] (spLaw (K w.params))) :
    PySem.W.WalkO q loose XP YP l.row.toRowW d [] (fun f vs => PySem.call f vs) :=
  L2.walk_of (n := 63) (k := k) (x := "script") (CX := fun w => L2.CX l.prog w) (sp := fun w => spLaw (K w.params)) hn (by decide) hdf hr hY F (fun _ _ a ns hl _ hS => ⟨a, ns, rfl, hS, hl, fun _ => rfl⟩) fun _ _ _ _ _ z => cx_never z
theorem exm_own {K : PySem.W.Frag} {S C : Addr} {b : Bool} (h1 : PySem.W.subIn K (.ref S) (.type "BaseException") = some true) (h2 : PySem.W.isClsIn K C = true) (h3 : PySem.W.typeIn K (.ref C) = some (.type "type")) (h5 : PySem.W.subIn K (.ref C) (.type "BaseException") = some true) (h4 : PySem.W.subIn K (.ref S) (.ref C) = some b) :
    PySem.W.exmOne K (.ref S) (.ref C) = some b := by
  have e1 : (PySem.W.subIn K (.ref C) (.type "BaseException") == some true) = true := by rw [h5] <;> rfl
  have e2 : ((PySem.W.clsIn K C).isSome && PySem.W.typeIn K (.ref C) == some (.type "type")) = true := by
    have h2' : (PySem.W.clsIn K C).isSome = true := h2
    rw [h2', h3] <;> rfl
  show (if (PySem.W.subIn K (.ref C) (.type "BaseException") == some true) = true then (if ((PySem.W.clsIn K C).isSome && PySem.W.typeIn K (.ref C) == some (.type "type")) = true then PySem.W.subIn K (.ref S) (.ref C) else none) else none) = some b
  rw [if_pos e1, if_pos e2]
  exact h4
theorem apart1 {K : PySem.W.Frag} {C : Addr} (h : PySem.W.exmOne K (.ref C) (.ref C) = some true) : Apart K [C] := fun a ha c hc => by
  rw [List.mem_singleton] at ha hc
  subst ha hc
  rw [decide_eq_true rfl]; exact h
theorem apart2 {K : PySem.W.Frag} {C E : Addr} (hne : C ≠ E) (h : PySem.W.exmOne K (.ref C) (.ref C) = some true) (h2 : PySem.W.exmOne K (.ref E) (.ref E) = some true) (h3 : PySem.W.exmOne K (.ref C) (.ref E) = some false) (h4 : PySem.W.exmOne K (.ref E) (.ref C) = some false) : Apart K [C, E] := fun a ha c hc => by
  simp only [List.mem_cons, List.not_mem_nil, or_false] at ha hc
  rcases ha with rfl | rfl <;> rcases hc with rfl | rfl
  · rw [decide_eq_true rfl]; exact h
  · rw [decide_eq_false hne]; exact h3
  · rw [decide_eq_false (Ne.symm hne)]; exact h4
  · rw [decide_eq_true rfl]; exact h2
end Fx

set_option Elab.async false
set_option linter.all false
set_option maxRecDepth 100000
set_option maxHeartbeats 4000000
namespace Fx
open PySem L2
variable [Md]
variable [Mw]
/-! ### loops -/
section
variable {g : SG} {b : SS} {t : SB} {m : SE} {vs : List Nat} {τ : En}
@[simp] theorem wipeE_nil {σ : En} : wipeE σ [] = σ := rfl
@[simp] theorem wipeE_cons {σ : En} {v : Nat} {vs : List Nat} : wipeE σ (v :: vs) = (wipeE σ vs).set v none := rfl
theorem forS_ind {P : List D → En → Store → Prop} (step : ∀ d ds τ st, P (d :: ds) τ st → ∃ τ1, g d τ = some τ1 ∧ ∃ τ2 st2, (b τ1 st = .nx τ2 st2 ∨ b τ1 st = .ct τ2 st2) ∧ P ds τ2 st2) :
    ∀ ds τ st, P ds τ st → ∃ τ' st', forS g b ds τ st = .nx τ' st' ∧ P [] τ' st'
  | [], τ, st, h => ⟨τ, st, rfl, h⟩
  | d :: ds, τ, st, h => by
    obtain ⟨τ1, e1, τ2, st2, e2, h2⟩ := step d ds τ st h
    obtain ⟨τ', st', e3, h3⟩ := forS_ind step ds τ2 st2 h2
    refine ⟨τ', st', ?_, h3⟩
    rw [x_forS_cons, e1]
    rcases e2 with e2 | e2 <;> · dsimp only; rw [e2]; exact e3
theorem forS_ret {P : List D → En → Store → Prop} {Q : D → Store → Prop} (step : ∀ d ds τ st, P (d :: ds) τ st → ∃ τ1, g d τ = some τ1 ∧ ((∃ τ2 st2, (b τ1 st = .nx τ2 st2 ∨ b τ1 st = .ct τ2 st2) ∧ P ds τ2 st2) ∨ ∃ x st2, b τ1 st = .rt x st2 ∧ Q x st2)) :
    ∀ ds τ st, P ds τ st → (∃ τ' st', forS g b ds τ st = .nx τ' st' ∧ P [] τ' st') ∨ ∃ x st', forS g b ds τ st = .rt x st' ∧ Q x st'
  | [], τ, st, h => .inl ⟨τ, st, rfl, h⟩
  | d :: ds, τ, st, h => by
    obtain ⟨τ1, e1, h1⟩ := step d ds τ st h
    rcases h1 with ⟨τ2, st2, e2, h2⟩ | ⟨x, st2, e2, h2⟩
    · have e : forS g b (d :: ds) τ st = forS g b ds τ2 st2 := by
        rw [x_forS_cons, e1]
        rcases e2 with e2 | e2 <;> · dsimp only; rw [e2]; rfl
      rw [e]
      exact forS_ret step ds τ2 st2 h2
    · exact .inr ⟨x, st2, by rw [x_forS_cons, e1]; dsimp only; rw [e2]; rfl, h2⟩
theorem compS_ind {P : List D → Store → List D → Prop} (step : ∀ d ds st acc, P (d :: ds) st acc → ∃ τ1, g d (wipeE τ vs) = some τ1 ∧ ((∃ st1 y st2, t τ1 st = .ok true st1 ∧ m τ1 st1 = .ok y st2 ∧ acc.length < sizeLine ∧ P ds st2 (acc ++ [y])) ∨ ∃ st1, t τ1 st = .ok false st1 ∧ P ds st1 acc)) :
    ∀ ds st acc, P ds st acc → ∃ st' acc', compS g t m vs ds τ st acc = .ok acc' st' ∧ P [] st' acc'
  | [], st, acc, h => ⟨st, acc, rfl, h⟩
  | d :: ds, st, acc, h => by
    obtain ⟨τ1, e1, h1⟩ := step d ds st acc h
    rcases h1 with ⟨st1, y, st2, e2, e3, hl, h2⟩ | ⟨st1, e2, h2⟩
    · obtain ⟨st', acc', e4, h3⟩ := compS_ind step ds st2 _ h2
      exact ⟨st', acc', by rw [compS, e1]; dsimp only; rw [e2]; dsimp only; rw [e3]; dsimp only; rw [if_pos hl]; exact e4, h3⟩
    · obtain ⟨st', acc', e4, h3⟩ := compS_ind step ds st1 _ h2
      exact ⟨st', acc', by rw [compS, e1]; dsimp only; rw [e2]; exact e4, h3⟩
theorem compS_map {f : D → D} {st : Store} : ∀ (ds acc : List D), (∀ d ∈ ds, ∃ τ1, g d (wipeE τ vs) = some τ1 ∧ t τ1 st = .ok true st ∧ m τ1 st = .ok (f d) st) → acc.length + ds.length ≤ sizeLine → compS g t m vs ds τ st acc = .ok (acc ++ ds.map f) st
  | [], acc, _, _ => by simp [compS]
  | d :: ds, acc, h, hl => by
    obtain ⟨τ1, e1, e2, e3⟩ := h d List.mem_cons_self
    have hl' : acc.length < sizeLine := by simp only [List.length_cons] at hl; omega
    rw [compS, e1]
    dsimp only
    rw [e2]
    dsimp only
    rw [e3]
    dsimp only
    rw [if_pos hl', compS_map ds _ (fun d hd => h d (List.mem_cons_of_mem _ hd)) (by simp only [List.length_append, List.length_cons, List.length_nil] at hl ⊢; omega)]
    simp
theorem compS_filter {f : D → D} {p : D → Bool} {st : Store} : ∀ (ds acc : List D), (∀ d ∈ ds, ∃ τ1, g d (wipeE τ vs) = some τ1 ∧ t τ1 st = .ok (p d) st ∧ (p d = true → m τ1 st = .ok (f d) st)) → acc.length + ds.length ≤ sizeLine → compS g t m vs ds τ st acc = .ok (acc ++ (ds.filter p).map f) st
  | [], acc, _, _ => by simp [compS]
  | d :: ds, acc, h, hl => by
    obtain ⟨τ1, e1, e2, e3⟩ := h d List.mem_cons_self
    have hl' : acc.length < sizeLine := by simp only [List.length_cons] at hl; omega
    have hr := fun a => compS_filter (f := f) (p := p) ds a (fun d hd => h d (List.mem_cons_of_mem _ hd))
    rw [compS, e1]
    dsimp only
    rw [e2]
    cases q : p d with
    | true =>
      dsimp only
      rw [e3 q]
      dsimp only
      rw [if_pos hl', hr _ (by simp only [List.length_append, List.length_cons, List.length_nil] at hl ⊢; omega)]
      simp [q]
    | false =>
      dsimp only
      rw [hr _ (by simp only [List.length_cons] at hl; omega)]
      simp [q]
theorem sWhile_ind {P : Nat → En → Store → Prop} {R : En → Store → Prop} (step : ∀ n τ st, P (n + 1) τ st → ∃ st1 τ2 st2, t τ st = .ok true st1 ∧ (b τ st1 = .nx τ2 st2 ∨ b τ st1 = .ct τ2 st2) ∧ P n τ2 st2)
    (stop : ∀ τ st, P 0 τ st → ∃ st1, t τ st = .ok false st1 ∧ R τ st1) : ∀ n τ st, P n τ st → ∃ τ' st', sWhile t b τ st = .nx τ' st' ∧ R τ' st'
  | 0, τ, st, h => by
    obtain ⟨st1, e, r⟩ := stop τ st h
    exact ⟨τ, st1, by rw [sWhile_eq, e]; rfl, r⟩
  | n + 1, τ, st, h => by
    obtain ⟨st1, τ2, st2, e1, e2, h2⟩ := step n τ st h
    obtain ⟨τ', st', e3, r⟩ := sWhile_ind step stop n τ2 st2 h2
    refine ⟨τ', st', ?_, r⟩
    rw [sWhile_eq, e1]
    rcases e2 with e2 | e2 <;> · simp only [Rs.go_ok, if_true]; rw [e2]; exact e3
end
/-! ### equality -/
def Fl (k : Nat) (d : D) : Prop := dOk d = true ∧ (toPy d).depth ≤ k
theorem dOks_all : ∀ {ds : List D}, dOks ds = true ↔ ∀ d ∈ ds, dOk d = true
  | [] => by simp [dOks]
  | d :: ds => by simp [dOks, dOks_all]
theorem depths_le {k : Nat} : ∀ {ds : List D}, (∀ d ∈ ds, (toPy d).depth ≤ k) → PyData.depthAll (toPys ds) ≤ k
  | [], _ => by simp [toPys, PyData.depthAll]
  | d :: ds, h => by
    simp only [toPys, PyData.depthAll]
    exact Nat.max_le.mpr ⟨h d List.mem_cons_self, depths_le fun d hd => h d (List.mem_cons_of_mem _ hd)⟩
theorem Fl.int {k : Nat} {i : Int} : Fl k (.int i) := ⟨by simp [dOk], by simp [toPy, PyData.depth]⟩
theorem Fl.non {k : Nat} : Fl k .non := ⟨by simp [dOk], by simp [toPy, PyData.depth]⟩
theorem Fl.bl {k : Nat} {i : Bool} : Fl k (.bl i) := ⟨by simp [dOk], by simp [toPy, PyData.depth]⟩
theorem Fl.str {k : Nat} {i : Str} (h : PyData.strOk i = true) : Fl k (.str i) := ⟨by simp [dOk, h], by simp [toPy, PyData.depth]⟩
theorem Fl.tup {k : Nat} {xs : List D} (h : ∀ x ∈ xs, Fl k x) : Fl (k + 1) (.tup xs) := ⟨by simp only [dOk]; exact dOks_all.mpr fun x hx => (h x hx).1, by simp only [toPy, PyData.depth]; exact Nat.succ_le_succ (depths_le fun x hx => (h x hx).2)⟩
theorem Fl.lst {k : Nat} {xs : List D} (h : ∀ x ∈ xs, Fl k x) : Fl (k + 1) (.lst xs) := ⟨by simp only [dOk]; exact dOks_all.mpr fun x hx => (h x hx).1, by simp only [toPy, PyData.depth]; exact Nat.succ_le_succ (depths_le fun x hx => (h x hx).2)⟩
theorem Fl.sh {k : Nat} {d : D} (h : Fl k d) (hk : k ≤ 64 := by decide) : shD d = true := by
  unfold shD
  rw [h.1, decide_eq_true (Nat.le_trans h.2 hk)]; rfl
theorem eqD_refl {d : D} (h : dOk d = true) : eqD d d = true := PySem.SeqAt.eqv_refl _ (canLay_of d h)
theorem fEq_self {d : D} {st : Store} {k : Nat} (h : Fl k d) (hk : k ≤ 64 := by decide) : fEq d d st = .ok (.bl true) st := by
  unfold fEq
  rw [if_pos ⟨h.sh hk, h.sh hk⟩, eqD_refl h.1]
theorem fNe_self {d : D} {st : Store} {k : Nat} (h : Fl k d) (hk : k ≤ 64 := by decide) : fNe d d st = .ok (.bl false) st := by
  unfold fNe
  rw [if_pos ⟨h.sh hk, h.sh hk⟩, eqD_refl h.1]; rfl
@[simp] theorem fEq_int {i j : Int} {st : Store} : fEq (.int i) (.int j) st = .ok (.bl (decide (i = j))) st := by
  unfold fEq
  rw [if_pos ⟨(Fl.int (k := 0)).sh, (Fl.int (k := 0)).sh⟩]
  have : eqD (.int i) (.int j) = decide (i = j) := by
    unfold eqD
    simp only [toPy, PyData.eqv]
    by_cases h : i = j
    · subst h; simp
    · simp [h]
  rw [this]
@[simp] theorem fNe_int {i j : Int} {st : Store} : fNe (.int i) (.int j) st = .ok (.bl (!decide (i = j))) st := by
  unfold fNe
  rw [if_pos ⟨(Fl.int (k := 0)).sh, (Fl.int (k := 0)).sh⟩]
  have : eqD (.int i) (.int j) = decide (i = j) := by
    unfold eqD
    simp only [toPy, PyData.eqv]
    by_cases h : i = j
    · subst h; simp
    · simp [h]
  rw [this]
/-! ### items, ranges, slices -/
theorem atI_nat' {α : Type} {xs : List α} {k : Nat} {x : α} (h : xs[k]? = some x) : atI xs (k : Int) = some x := atI_nat h
@[simp] theorem rangeD_len (lo hi : Int) : (rangeD lo hi).length = (hi - lo).toNat := by simp [rangeD]
theorem rangeD_nat (n : Nat) : rangeD 0 (n : Int) = (List.range n).map fun i : Nat => D.int (i : Int) := by simp [rangeD]
theorem rangeD_mem {lo hi : Int} {d : D} : d ∈ rangeD lo hi ↔ ∃ i : Int, lo ≤ i ∧ i < hi ∧ d = .int i := by
  unfold rangeD
  rw [List.mem_map]
  constructor
  · rintro ⟨k, hk, rfl⟩
    rw [List.mem_range] at hk
    exact ⟨_, by omega, by omega, rfl⟩
  · rintro ⟨i, h1, h2, rfl⟩
    exact ⟨(i - lo).toNat, by rw [List.mem_range]; omega, by congr 1; omega⟩
end Fx

set_option Elab.async false
set_option linter.all false
set_option maxRecDepth 100000
set_option maxHeartbeats 4000000
namespace Fx
open PySem L2
variable [Md]
variable [Mw]
/-! ### permutations, as functions with their opposite -/
structure Pm (d : Nat) where
  f : Nat → Nat
  b : Nat → Nat
  fb : ∀ x, f (b x) = x
  bf : ∀ x, b (f x) = x
  out : ∀ x, d ≤ x → f x = x
namespace Pm
variable {d : Nat}
theorem ext {p q : Pm d} (h : ∀ x, p.f x = q.f x) : p = q := by
  obtain ⟨f, b, fb, bf, o⟩ := p
  obtain ⟨f', b', fb', bf', o'⟩ := q
  have e : f = f' := funext h
  subst e
  have e2 : b = b' := funext fun x => by rw [← fb' x, bf, fb']
  subst e2
  rfl
theorem inj (p : Pm d) {x y : Nat} (h : p.f x = p.f y) : x = y := by rw [← p.bf x, h, p.bf]
theorem lt (p : Pm d) {x : Nat} (h : x < d) : p.f x < d := by
  refine Nat.lt_of_not_le fun hx => ?_
  have := p.inj (p.out _ hx)
  omega
theorem bout (p : Pm d) {x : Nat} (h : d ≤ x) : p.b x = x := by
  have := p.bf x
  rw [p.out x h] at this; exact this
theorem blt (p : Pm d) {x : Nat} (h : x < d) : p.b x < d := by
  refine Nat.lt_of_not_le fun hx => ?_
  have := p.out _ hx
  rw [p.fb] at this
  omega
instance : Mul (Pm d) := ⟨fun p q => ⟨fun x => q.f (p.f x), fun x => p.b (q.b x), fun x => by rw [p.fb, q.fb], fun x => by rw [q.bf, p.bf], fun x h => by rw [p.out x h, q.out x h]⟩⟩
def inv (p : Pm d) : Pm d := ⟨p.b, p.f, p.bf, p.fb, fun x h => p.bout h⟩
def one : Pm d := ⟨id, id, fun _ => rfl, fun _ => rfl, fun _ _ => rfl⟩
@[simp] theorem mul_f (p q : Pm d) (x : Nat) : (p * q).f x = q.f (p.f x) := rfl
@[simp] theorem inv_f (p : Pm d) : p.inv.f = p.b := rfl
@[simp] theorem inv_b (p : Pm d) : p.inv.b = p.f := rfl
@[simp] theorem one_f (x : Nat) : (one : Pm d).f x = x := rfl
theorem assoc (p q r : Pm d) : p * q * r = p * (q * r) := ext fun _ => rfl
theorem one_mul (p : Pm d) : one * p = p := ext fun _ => rfl
theorem mul_one (p : Pm d) : p * one = p := ext fun _ => rfl
theorem inv_mul (p : Pm d) : p.inv * p = one := ext fun x => p.fb x
theorem mul_inv (p : Pm d) : p * p.inv = one := ext fun x => p.bf x
theorem inv_mul_l (p q : Pm d) : p.inv * (p * q) = q := by rw [← assoc, inv_mul, one_mul]
theorem mul_inv_l (p q : Pm d) : p * (p.inv * q) = q := by rw [← assoc, mul_inv, one_mul]
theorem inv_inv (p : Pm d) : p.inv.inv = p := rfl
theorem inv_of_mul (p q : Pm d) : (p * q).inv = q.inv * p.inv := rfl
/-- by its list -/
def list (p : Pm d) : List Nat := (List.range d).map p.f
theorem len (p : Pm d) : p.list.length = d := by simp [list]
theorem list_get (p : Pm d) {x : Nat} (h : x < d) : p.list[x]? = some (p.f x) := by simp [list, h]
theorem list_inj {p q : Pm d} (h : p.list = q.list) : p = q := ext fun x => by
  by_cases hx : x < d
  · have := p.list_get hx
    rw [h, q.list_get hx] at this
    exact (Option.some.inj this).symm
  · rw [p.out x (by omega), q.out x (by omega)]
theorem mem_perm {l : List Nat} {x : Nat} (h : l.Perm (List.range d)) : x ∈ l ↔ x < d := by rw [h.mem_iff, List.mem_range]
def ofList (l : List Nat) (h : l.Perm (List.range d)) : Pm d where
  f := fun x => l.getD x x
  b := fun x => if x ∈ l then l.idxOf x else x
  fb := fun x => by
    have hl : l.length = d := by rw [h.length_eq, List.length_range]
    by_cases hx : x ∈ l
    · rw [if_pos hx, List.getD_eq_getElem?_getD, List.getElem?_eq_getElem (List.idxOf_lt_length_of_mem hx)]
      simp
    · rw [if_neg hx, List.getD_eq_getElem?_getD, List.getElem?_eq_none (by rw [hl]; exact Nat.le_of_not_lt fun z => hx ((mem_perm h).mpr z))]
      rfl
  bf := fun x => by
    have hl : l.length = d := by rw [h.length_eq, List.length_range]
    have nd : l.Nodup := h.nodup_iff.mpr List.nodup_range
    by_cases hx : x < l.length
    · rw [List.getD_eq_getElem?_getD, List.getElem?_eq_getElem hx, Option.getD_some, if_pos (List.getElem_mem hx)]
      exact List.Nodup.idxOf_getElem nd x hx
    · rw [List.getD_eq_getElem?_getD, List.getElem?_eq_none (by omega), Option.getD_none, if_neg]
      intro z
      have := (mem_perm h).mp z
      omega
  out := fun x hx => by
    have hl : l.length = d := by rw [h.length_eq, List.length_range]
    rw [List.getD_eq_getElem?_getD, List.getElem?_eq_none (by omega)]
    rfl
theorem ofList_list {l : List Nat} (h : l.Perm (List.range d)) : (ofList l h).list = l := by
  have hl : l.length = d := by rw [h.length_eq, List.length_range]
  apply List.ext_getElem
  · rw [len, hl]
  · intro n h1 h2
    simp [list, ofList, List.getElem?_eq_getElem h2]
end Pm
abbrev nD (n : Nat) : D := .int (n : Int)
def lD (l : List Nat) : D := .tup (l.map nD)
def tp {d : Nat} (p : Pm d) : D := lD p.list
def rD {d : Nat} (row : List (Pm d)) : D := .tup (row.map tp)
theorem lD_one {d : Nat} : tp (Pm.one : Pm d) = .tup (rangeD 0 (d : Int)) := by
  rw [rangeD_nat]; simp [tp, lD, Pm.list, Pm.one]
theorem fl_lD {l : List Nat} : Fl 1 (lD l) := Fl.tup fun x hx => by
  obtain ⟨n, _, rfl⟩ := List.mem_map.mp hx; exact .int
theorem fl_tp {d : Nat} (p : Pm d) : Fl 1 (tp p) := fl_lD
theorem fl_rD {d : Nat} (r : List (Pm d)) : Fl 2 (rD r) := Fl.tup fun x hx => by
  obtain ⟨n, _, rfl⟩ := List.mem_map.mp hx; exact fl_tp n
@[simp] theorem lf_lD {l : List Nat} : lf (lD l) = true := by simp [lD, List.all_map]
@[simp] theorem lf_tp {d : Nat} (p : Pm d) : lf (tp p) = true := lf_lD
@[simp] theorem lf_rD {d : Nat} (r : List (Pm d)) : lf (rD r) = true := by simp [rD, List.all_map]
theorem atI_map {α β : Type} {f : α → β} {l : List α} {k : Nat} {x : α} (h : l[k]? = some x) : atI (l.map f) (k : Int) = some (f x) := atI_nat (by rw [List.getElem?_map, h]; rfl)
@[simp] theorem cut_lo {xs : List D} {a : Nat} (h : a ≤ xs.length) : cutD xs (some (a : Int)) none = xs.drop a := by
  unfold cutD
  rw [HT.sIx_nat, HT.sIx_none, Nat.min_eq_left h, List.take_of_length_le (by rw [List.length_drop]; omega)]
@[simp] theorem cut_hi {xs : List D} {a : Nat} (h : a ≤ xs.length) : cutD xs none (some (a : Int)) = xs.take a := by
  unfold cutD
  rw [HT.sIx_nat, HT.sIx_none, Nat.min_eq_left h, List.drop_zero, Nat.sub_zero]
theorem cut_both {xs : List D} {a b : Nat} (h : a ≤ b) (h2 : b ≤ xs.length) : cutD xs (some (a : Int)) (some (b : Int)) = (xs.drop a).take (b - a) := by
  unfold cutD
  rw [HT.sIx_nat, HT.sIx_nat, Nat.min_eq_left h2, Nat.min_eq_left (by omega)]
theorem x_setLoc {st : Store} {n : Nat} {xs : List D} {k : Nat} {d : D} (h : st[n]? = some (.lst xs)) (hk : k < xs.length) : fSetL (.loc n) (.int (k : Int)) d st = some (st.set n (.lst (xs.set k d))) := by
  simp only [fSetL, h]
  have : ixN xs.length (k : Int) = some k := by unfold ixN; rw [if_pos (by omega), if_pos (by omega)]; simp
  rw [this]
theorem x_app {st : Store} {n : Nat} {xs : List D} {d : D} (h : st[n]? = some (.lst xs)) (hl : xs.length < sizeLine) : fApp (.loc n) [d] st = .ok .non (st.set n (.lst (xs ++ [d]))) := by
  simp only [fApp, onLoc, h]
  rw [if_pos (szFits_lt.mpr hl)]
theorem x_popAt {st : Store} {n : Nat} {xs : List D} {k : Nat} {d : D} (h : st[n]? = some (.lst xs)) (hk : xs[k]? = some d) (hs : k < 1000000) : fPopAt (.loc n) [.int (k : Int)] st = .ok d (st.set n (.lst (xs.eraseIdx k))) := by
  have hl : k < xs.length := (List.getElem?_eq_some_iff.mp hk).1
  have : ixN xs.length (k : Int) = some k := by unfold ixN; rw [if_pos (by omega), if_pos (by omega)]; simp
  simp only [fPopAt, onLoc, h]
  rw [if_pos (w63_of (by omega) (by omega)), this]
  simp only [hk, Option.map_some]
theorem small {n : Nat} (h : n ≤ 1000) : n ≤ sizeLine := Nat.le_of_lt (small1000 h)
/-! ### a dict of ints, each with True -/
def kvI (seen : List Int) : List (Key × D) := seen.map fun y => (.inl y, .bl true)
theorem valD_kvI {seen : List Int} {y : Int} : (valD (kvI seen) (.inl y)).isSome = decide (y ∈ seen) := by
  unfold valD kvI
  induction seen with
  | nil => simp
  | cons a r ih =>
    by_cases h : a = y
    · subst h; simp
    · have h' : ¬ y = a := fun z => h z.symm
      simp [h, h'] at ih ⊢
      exact ih
theorem any_kvI {seen : List Int} {y : Int} (h : y ∉ seen) : ((kvI seen).any fun kv => decide (kv.1 = Sum.inl y)) = false := by
  unfold kvI
  rw [List.any_map, List.any_eq_false]
  intro a ha
  simp only [Function.comp, decide_eq_true_eq, Sum.inl.injEq]
  intro z; subst z; exact h ha
theorem putD_kvI {seen : List Int} {y : Int} (h : y ∉ seen) : putD (kvI seen) (.inl y) (.bl true) = kvI (seen ++ [y]) := by
  unfold putD
  rw [if_neg (by rw [any_kvI h]; simp)]
  simp [kvI]
theorem fDIn_dk {st : Store} {n : Nat} {seen : List Int} {y : Int} (h : st[n]? = some (.dk (kvI seen))) : fDIn true (.int y) (.loc n) st = .ok (.bl (decide (y ∈ seen))) st := by
  have e := valD_kvI (seen := seen) (y := y)
  unfold fDIn dGet
  simp only [h, Fx.keyOf]
  cases q : valD (kvI seen) (Sum.inl y) with
  | none => rw [q] at e; simp at e; simp [e]
  | some v => rw [q] at e; simp at e; simp [e]
theorem fSetD_dk {st : Store} {n : Nat} {seen : List Int} {y : Int} (h : st[n]? = some (.dk (kvI seen))) (hy : y ∉ seen) (hl : seen.length < sizeLine) : fSetD (.loc n) (.int y) (.bl true) st = some (st.set n (.dk (kvI (seen ++ [y])))) := by
  unfold fSetD
  simp only [h, Fx.keyOf]
  rw [if_pos (szFits_lt.mpr (by simpa [kvI] using hl)), putD_kvI hy]
/-! ### which values are permutations -/
/-- no def, no type, no object of the store -/
def pl : D → Bool
  | .fn _ => false
  | .ty _ => false
  | .loc _ => false
  | _ => true
def isI : D → Bool
  | .int _ => true
  | _ => false
def permL (n : Nat) : List Int → List D → Bool
  | _, [] => true
  | seen, .int y :: r => if y < 0 ∨ (n : Int) ≤ y ∨ y ∈ seen then false else permL n (seen ++ [y]) r
  | _, _ :: _ => false
def isP : D → Bool
  | .tup xs => permL xs.length [] xs
  | _ => false
theorem permL_range {d : Nat} (p : Pm d) : ∀ (k j : Nat), j + k = d → permL d ((List.range j).map fun i => ((p.f i : Nat) : Int)) ((List.range' j k).map fun i => nD (p.f i)) = true
  | 0, j, _ => by simp [permL]
  | k + 1, j, h => by
    rw [List.range'_succ, List.map_cons, permL, if_neg]
    · have := permL_range p k (j + 1) (by omega)
      rw [List.range_succ, List.map_append, List.map_cons, List.map_nil] at this
      exact this
    · have hj : p.f j < d := p.lt (by omega)
      intro z
      rcases z with z | z | z
      · omega
      · omega
      · obtain ⟨i, hi, e⟩ := List.mem_map.mp z
        rw [List.mem_range] at hi
        have : p.f i = p.f j := by omega
        have := p.inj this
        omega
theorem isP_tp {d : Nat} (p : Pm d) : isP (tp p) = true := by
  have h := permL_range p d 0 (by omega)
  simp only [isP, tp, lD]
  rw [List.length_map, p.len]
  have e : (List.range' 0 d) = List.range d := List.range_eq_range'.symm
  rw [e] at h
  simp only [Pm.list, List.map_map]; exact h
end Fx

set_option Elab.async false
set_option linter.all false
set_option maxRecDepth 100000
set_option maxHeartbeats 4000000
namespace HT
open PySem PySem.Spec PyProof.Rows
section
variable {prog : Program} {w : World} {A : Around} {E : Value → Shared → Prop} {s : Shared}
theorem fx_adjust_rev (n : Nat) : Builtin.Slice.sliceAdjust none none (-1) (n : Int) = ((n : Int) - 1, -1) := by
  unfold Builtin.Slice.sliceAdjust
  have h1 : ((-1 : Int) < 0) := by omega
  simp only [h1, if_true]
theorem fx_places_rev (n : Nat) : Builtin.Slice.slicePlaces ((n : Int) - 1) (-1) (-1) = n := by
  unfold Builtin.Slice.slicePlaces
  have h1 : ¬ ((-1 : Int) > 0) := by omega
  simp only [h1, if_false]
  rw [show (-(-1 : Int)) = 1 by omega, Int.ediv_one]
  split <;> omega
theorem fx_applied_rev {sl : Addr} {vl vu vs : Value} {n : Nat} {Q : Int × Int × Nat → Shared → Prop} (hs : s.heap.IsSliceOf sl vl vu vs) (pl : IsPart vl none) (pu : IsPart vu none) (ps : IsPart vs (some (-1)))
    (h : Q ((n : Int) - 1, -1, n) s) : wpAny (model prog w) A (Builtin.Slice.sliceApplied (.ref sl) (pure (n : Int))) Q E s := by
  obtain ⟨os, hos, hcs, hds⟩ := id hs
  unfold Builtin.Slice.sliceApplied Builtin.Slice.sliceFields
  refine wpAny_bind (wpAny_bind (wpAny_field hos hds (x := vl) rfl (wpAny_bind (wpAny_field hos hds (x := vu) rfl (wpAny_bind (wpAny_field hos hds (x := vs) rfl (wpAny_pure ?_)))))))
  refine wpAny_bind (slicePart_ ps ?_)
  show wpAny _ _ (if ((-1 : Int) == 0) = true then _ else _) _ _ s
  rw [if_neg (by decide)]
  refine wpAny_bind (slicePart_ pl (wpAny_bind (slicePart_ pu (wpAny_bind (wpAny_pure ?_)))))
  show wpAny _ _ (match Builtin.Slice.sliceAdjust none none (-1) (n : Int) with | (lo, hi) => pure (lo, (-1 : Int), Builtin.Slice.slicePlaces lo hi (-1))) _ _ s
  rw [fx_adjust_rev n]
  show wpAny _ _ (pure ((n : Int) - 1, (-1 : Int), Builtin.Slice.slicePlaces ((n : Int) - 1) (-1) (-1))) _ _ s
  rw [fx_places_rev]
  exact wpAny_pure h
theorem fx_fm {α β : Type} {f g : α → Option β} : ∀ {l : List α}, (∀ a ∈ l, f a = g a) → l.filterMap f = l.filterMap g
  | [], _ => rfl
  | a :: l, h => by rw [List.filterMap_cons, List.filterMap_cons, h a List.mem_cons_self, fx_fm fun b hb => h b (List.mem_cons_of_mem _ hb)]
theorem fx_pick_rev (xs : Array Value) : ((List.range xs.size).filterMap fun (m : Nat) => xs[(((xs.size : Int) - 1) + (m : Int) * (-1)).toNat]?).toArray = xs.toList.reverse.toArray := by
  congr 1
  have e : ∀ (l : List Value), ((List.range l.length).filterMap fun (m : Nat) => l[(((l.length : Int) - 1) + (m : Int) * (-1)).toNat]?) = l.reverse := by
    intro l
    have e1 : ((List.range l.length).filterMap fun (m : Nat) => l[(((l.length : Int) - 1) + (m : Int) * (-1)).toNat]?) = (List.range l.length).filterMap fun (m : Nat) => l.reverse[m]? := by
      apply fx_fm
      intro m hm
      rw [List.mem_range] at hm
      rw [List.getElem?_reverse hm]
      congr 1
      omega
    rw [e1]
    have e2 : ∀ r : List Value, ((List.range r.length).filterMap fun (m : Nat) => r[m]?) = r := by
      intro r
      induction r with
      | nil => rfl
      | cons a r ih =>
        rw [List.length_cons, List.range_succ_eq_map, List.filterMap_cons]
        simp only [List.getElem?_cons_zero, List.filterMap_map]
        congr 1
    have := e2 l.reverse
    rw [List.length_reverse] at this
    exact this
  have := e xs.toList
  rw [Array.length_toList] at this
  rw [← this]
  apply fx_fm
  intro m _
  rw [Array.getElem?_toList]
theorem fx_getItem_tuple_rev {t sl : Addr} {items : Array Value} {vl vu vs : Value} {Q : Value → Shared → Prop} (ht : IsTup s.heap t items) (hs : s.heap.IsSliceOf sl vl vu vs) (pl : IsPart vl none) (pu : IsPart vu none) (ps : IsPart vs (some (-1)))
    (h : Q (.ref s.heap.objs.size) { s with heap := s.heap.push { cls := .type "tuple", data := .seq items.toList.reverse.toArray } })
    (hsz : items.size ≤ sizeLine) : wpAny (model prog w) A (getItem (.ref t) (.ref sl)) Q E s := by
  have htake : sizeOk (.seq items.toList.reverse.toArray) := by
    show items.toList.reverse.toArray.size ≤ sizeLine
    rw [List.size_toArray, List.length_reverse, Array.length_toList]
    exact hsz
  obtain ⟨os, hos, hcs, hds⟩ := id hs
  have hTs : s.TypeIs (.ref sl) "slice" := ⟨os, hos, hcs⟩
  unfold getItem
  try with_reducible refine wpAny_holding ?_
  first | refine wpAny_bind (wpAny_pure ?_) | skip
  refine wpAny_bind (wpAny_sequenceKey ht.typeIs (by decide) ?_)
  refine wpAny_bind (wpAny_callSpecial?_slot (name := Str.ofString "__getitem__") ht.typeIs PyProof.Rows.slot_tuple_getitem
    (wpAny_call_entry PyProof.Rows.slot_tuple_getitem ht.typeIs entry_tuple_getitem ?_ (args_tuple_getitem _ _)))
  show wpAny _ _ (Builtin.Tuple.tupleItemsOf (.ref t) >>= _) _ _ s
  refine wpAny_bind (tupleItemsOf_ ht ?_)
  refine wpAny_bind (wpAny_typeOf hTs ?_)
  rw [if_pos (by decide)]
  refine wpAny_bind (fx_applied_rev hs pl pu ps ?_)
  have hno : ¬ ((((items.size : Int) - 1) == 0 && (-1 : Int) == 1 && items.size == items.size) = true) := by
    intro q
    rw [Bool.and_eq_true, Bool.and_eq_true] at q
    exact absurd q.1.2 (by decide)
  show wpAny _ _ (if (((items.size : Int) - 1) == 0 && (-1 : Int) == 1 && items.size == items.size) = true then _ else _) _ _ s
  rw [if_neg hno, fx_pick_rev]
  first
    | exact wpAny_bind (m := Builtin.Tuple.tupleExact _) (wpAny_newObj_type (wpAny_pure ⟨_, rfl, wpAny_pure h⟩) htake)
    | exact wpAny_bind (m := Builtin.Tuple.tupleExact _) (wpAny_newObj_type (wpAny_bind (wpAny_pure (wpAny_pure ⟨_, rfl, wpAny_pure h⟩))) htake)
    | exact wpAny_bind (wpAny_bind (m := Builtin.Tuple.tupleExact _) (wpAny_newObj_type (wpAny_pure (wpAny_pure ⟨_, rfl, wpAny_pure h⟩)) htake))
    | exact wpAny_bind (wpAny_bind (m := Builtin.Tuple.tupleExact _) (wpAny_newObj_type (wpAny_pure ⟨_, rfl, wpAny_pure h⟩) htake))
end
end HT
namespace Fx
open PySem L2 PySem.Spec PyProof.Rows
variable [Md]
variable [Mw]
/-- t[::-1] of a tuple -/
def tFxRevT (K : PySem.W.Frag) (te : TE) : TE := fun σ H Q => te σ H fun x H1 => ∃ a xs, x = .ref a ∧ SqT K H1 a xs ∧ ∀ p u, H1 p = none → NewT u xs.reverse → Q (.ref p) (upd H1 p u)
theorem pe_fxRevT {X : Cx} {e : Expr} {te : TE} {k : Nat} {p1 p2 p3 pos : Pos} (he : PE X e te) : PE X (.Subscript e (.Slice none none (some (.UnaryOp .USub (.Constant (.int 1) k p1) p2)) p3) pos) (tFxRevT X.K te) := by
  refine ⟨fun pins s σ H Q I h => ?_⟩
  refine Subscript_ (thn (he.run pins s σ H _ I h) fun v s1 ⟨x, H1, I1, r1, q1⟩ => ?_)
  obtain ⟨a, xs, ex, hx, q⟩ := q1
  subst ex
  cases r1
  have hst : PO X (some (.UnaryOp .USub (.Constant (.int 1) k p1) p2)) (tPart (tUn (rU fun i => .int (-i)) (tC (.int 1)))) := po_some (pe_un un_neg pe_int)
  refine wpAny_Slice (thn (po_none.run pins s1 σ H1 (fun o H2 => o = none ∧ H2 = H1) I1 ⟨rfl, rfl⟩) fun vl s2 ⟨l, H2, I2, pl, el, e2⟩ => ?_)
  subst el e2
  refine thn (po_none.run pins s2 σ H2 (fun o H3 => o = none ∧ H3 = H2) I2 ⟨rfl, rfl⟩) fun vu s3 ⟨u, H3, I3, pu, eu, e3⟩ => ?_
  subst eu e3
  refine thn (hst.run pins s3 σ H3 (fun o H4 => o = some (-1) ∧ H4 = H3) I3 ⟨1, rfl, -1, rfl, rfl, rfl⟩) fun vs s4 ⟨o, H4, I4, ps, eo, e4⟩ => ?_
  subst eo e4
  have I5 : Inv X pins σ H4 { s4 with heap := s4.heap.push { cls := .type "slice", data := .fields #[vl, vu, vs] } } := I4.kept (t' := s4.toks) fun b ob q => Heap.get?_push_of_some _ q
  obtain ⟨its, r, ht, hz⟩ := I5.tuple hx
  have hlen := r.length
  show wpAny (model X.prog X.w) X.A (subscriptTail e (.Slice none none (some (.UnaryOp .USub (.Constant (.int 1) k p1) p2)) p3) (.ref a) (.ref s4.heap.objs.size)) (EP X pins σ Q) X.xe { s4 with heap := s4.heap.push { cls := .type "slice", data := .fields #[vl, vu, vs] } }
  refine tail_any (ops := [.ref a, .ref s4.heap.objs.size]) ht.typeIs (PyProof.Rows.slot_tuple_getitem.lookup) ?_ (by with_unfolding_all rfl)
  refine HT.fx_getItem_tuple_rev ht (Heap.IsSliceOf.new _ vl vu vs) pl pu ps ?_ (by rw [List.size_toArray]; omega)
  obtain ⟨u, nu, I6⟩ := laidT (t' := s4.toks) (xs := xs.reverse) I5 (fun b ob q => Heap.get?_push_of_some _ q) (Nat.le_refl _) (Heap.get?_push_size _ rfl) rfl fun H' => ⟨by rw [List.length_reverse]; exact hz, _, r.reverse, IsTup.new _ _⟩
  exact ⟨.ref _, _, I6, rfl, q _ _ (I5.hok.fresh (Nat.le_refl _)) nu⟩
end Fx
namespace Fx
open PySem L2 PyProof.Rows
variable [Md]
variable [Mw]
section
variable {X : Cx} {W : WX} {a b : Expr} {ma mb : SE} {pos : Pos}
def mRevT (m : SE) : SE := fun τ st => (m τ st).bind fun d st1 => match d with
  | .tup xs => .ok (.tup xs.reverse) st1
  | _ => .no
theorem ev_revT {k : Nat} {p1 p2 p3 : Pos} (ha : EvE X W a ma) : EvE X W (.Subscript a (.Slice none none (some (.UnaryOp .USub (.Constant (.int 1) k p1) p2)) p3) pos) (mRevT ma) :=
  PE.imp (pe_fxRevT ha) fun σ H Q ⟨ρ, τ, st, r0, en, o⟩ => tM.bind r0 en o fun d st1 ρ1 H1 v e1 r1 en1 q o1 => by
    cases d with
    | tup xs =>
      simp only [RelD] at q
      obtain ⟨p, us, rfl, hs, ru⟩ := q
      refine ⟨p, us, rfl, hs.sq, fun y u hy nu => o1.free r1 hy ?_⟩
      simp only [reD, RelD]
      exact ⟨y, _, rfl, nu.upd, (RelDs.mono (r1.push_ext hy) r1 _ ru).reverse⟩
    | _ => exact o1.elim
@[simp] theorem x_mRevT {m : SE} {σ : En} {st : Store} : mRevT m σ st = (m σ st).bind fun d st1 => match d with
  | .tup xs => .ok (.tup xs.reverse) st1
  | _ => .no := rfl
end
end Fx

set_option Elab.async false
set_option linter.all false
set_option maxRecDepth 100000
set_option maxHeartbeats 4000000
namespace Fx
open PySem L2 PyProof.Rows
variable [Md]
variable [Mw]
section
variable {X : Cx} {W : WX} {a b : Expr} {ma mb : SE} {na nb : SA} {p pos : Pos}
/-! ### a slice of a list, as a list that this expression makes -/
def slL (d : D) (lo hi : Option Int) (st : Store) : Rs (List D) := match listOf d st with
  | some xs => .ok (cutD xs lo hi) st
  | none => .no
def mSlL (m : SE) (ml mh : SO) : SA := fun τ st => (m τ st).bind fun d st1 => (ml τ st1).bind fun lo st2 => (mh τ st2).bind fun hi st3 => slL d lo hi st3
theorem ef_sl {lo hi : Option Expr} {ml mh : SO} (ha : EvE X W a ma) (hl : EvO X W lo ml) (hh : EvO X W hi mh) : EvF X W (.Subscript a (.Slice lo hi none p) pos) (mSlL ma ml mh) :=
  PE.imp (pe_slice sl_list ha hl hh) fun σ H Q ⟨ρ, τ, st, r0, en, o⟩ => tM.bind r0 en o fun d st1 ρ1 H1 v e1 r1 en1 q o1 => tM.bind r1 en1 o1 fun l st2 ρ2 H2 l' e2 r2 en2 q2 o2 => tM.bind r2 en2 o2 fun h st3 ρ3 H3 h' e3 r3 en3 q3 o3 => by
    cases (show l = l' from q2)
    cases (show h = h' from q3)
    have q' := (q.mono e2 r1).mono e3 r2
    unfold slL at o3
    cases hx : Fx.listOf d st3 with
    | none => rw [hx] at o3; exact o3.elim
    | some xs =>
      rw [hx] at o3
      obtain ⟨p, us, rfl, hs, ru⟩ := listOf_rel r3 q' hx
      exact ⟨p, us, rfl, hs, fun y hy => o3.fresh r3 hy (ru.cut l h)⟩
/-! ### list + list -/
def strictL (d : D) (st : Store) : Option (List D) := match d with
  | .loc n => (match st[n]? with
    | some (.lst xs) => some xs
    | _ => none)
  | _ => none
theorem strictL_rel {K : PySem.W.Frag} {ρ : Mp} {st : Store} {H : Hp} {d : D} {v : V} {xs : List D} (r : R K ρ st H) (h : RelD K ρ st.length H d v) (e : strictL d st = some xs) : ∃ l us, v = .ref l ∧ H l = some (.lst us) ∧ RelDs K ρ st.length H xs us := by
  cases d with
  | loc n =>
    simp only [strictL] at e
    cases q : st[n]? with
    | none => rw [q] at e; cases e
    | some o =>
      rw [q] at e
      cases o with
      | lst ys =>
        cases e
        obtain ⟨_, hv, us, h1, h2⟩ := loc_rel r h q
        exact ⟨_, us, hv, h1, h2⟩
      | _ => cases e
  | _ => cases e
noncomputable def catR (xs : Option (List D)) (ds : Option (List D)) (st : Store) : Rs (List D) := match xs, ds with
  | some xs, some ds => if szFits (xs.length + ds.length) = true then .ok (xs ++ ds) st else .no
  | _, _ => .no
noncomputable def mCatLF (ma : SE) (nb : SA) : SA := fun τ st => (ma τ st).bind fun d st1 => (nb τ st1).bind fun ds st2 => catR (strictL d st2) (some ds) st2
noncomputable def mCatLL (ma mb : SE) : SA := fun τ st => (ma τ st).bind fun d st1 => (mb τ st1).bind fun d2 st2 => catR (strictL d st2) (strictL d2 st2) st2
noncomputable def mCatFF (na nb : SA) : SA := fun τ st => (na τ st).bind fun ds st1 => match nb τ st1 with
  | .ok ds2 st2 => catR (some ds) (some ds2) st2
  | _ => .no
noncomputable def mCatFL (na : SA) (mb : SE) : SA := fun τ st => (na τ st).bind fun ds st1 => match mb τ st1 with
  | .ok d2 st2 => catR (some ds) (strictL d2 st2) st2
  | _ => .no
theorem ef_catLF (ha : EvE X W a ma) (hb : EvF X W b nb) : EvF X W (.BinOp a .Add b pos) (mCatLF ma nb) :=
  PE.imp (pe_op op_cat ha hb) fun σ H Q ⟨ρ, τ, st, r0, en, o⟩ => tM.bind r0 en o fun d st1 ρ1 H1 vx e1 r1 en1 q o1 => tM.bind r1 en1 o1 fun ds st2 ρ2 H2 vy e2 r2 en2 q2 o2 => by
    obtain ⟨b', vs, rfl, h0, hb', rh, rv⟩ := q2
    cases hs : strictL d st2 with
    | none => simp only [hs, catR] at o2; exact o2.elim
    | some xs =>
      simp only [hs, catR] at o2
      split at o2
      · rename_i hz
        obtain ⟨l, us, e, hl, ru⟩ := strictL_rel r2 (q.mono e2 r1) hs
        exact ⟨l, b', us, vs, e, rfl, hl, hb', by rw [ru.len, rv.len]; exact szFits_iff.mp hz, fun p hp => o2.fresh r2 hp (ru.append (RelDs.show' _ rv))⟩
      · exact o2.elim
theorem ef_catLL (ha : EvE X W a ma) (hb : EvE X W b mb) : EvF X W (.BinOp a .Add b pos) (mCatLL ma mb) :=
  PE.imp (pe_op op_cat ha hb) fun σ H Q ⟨ρ, τ, st, r0, en, o⟩ => tM.bind r0 en o fun d st1 ρ1 H1 vx e1 r1 en1 q o1 => tM.bind r1 en1 o1 fun d2 st2 ρ2 H2 vy e2 r2 en2 q2 o2 => by
    cases hs : strictL d st2 with
    | none => simp only [hs, catR] at o2; exact o2.elim
    | some xs =>
      cases hs2 : strictL d2 st2 with
      | none => simp only [hs, hs2, catR] at o2; exact o2.elim
      | some ys =>
        simp only [hs, hs2, catR] at o2
        split at o2
        · rename_i hz
          obtain ⟨l, us, e, hl, ru⟩ := strictL_rel r2 (q.mono e2 r1) hs
          obtain ⟨l2, ws, ee, hl2, rw2⟩ := strictL_rel r2 q2 hs2
          exact ⟨l, l2, us, ws, e, ee, hl, hl2, by rw [ru.len, rw2.len]; exact szFits_iff.mp hz, fun p hp => o2.fresh r2 hp (ru.append rw2)⟩
        · exact o2.elim
/-- a list is held back while more is evaluated -/
theorem held {K : PySem.W.Frag} {ρ ρ1 : Mp} {st st1 : Store} {H H1 : Hp} {τ : En} {σ : L2.St} {a' : Addr} (r0 : R K ρ st H) (en : EnvR K ρ st.length H τ σ) (e1 : Ext ρ st.length H ρ1 st1.length H1) (h0 : H a' = none) : EnvR K (ρ1.hide a') st1.length H1 τ σ :=
  ⟨en.1, fun i d q => let ⟨v, h1, h2⟩ := en.2 i d q; ⟨v, h1, RelD.monoW (e1.hideW h0) r0 d h2⟩⟩
theorem ef_catFF (ha : EvF X W a na) (hb : EvF X W0 b nb) : EvF X W (.BinOp a .Add b pos) (mCatFF na nb) :=
  PE.imp (pe_op op_cat ha hb) fun σ H Q ⟨ρ, τ, st, r0, en, o⟩ => tM.bind r0 en o fun ds st1 ρ1 H1 vx e1 r1 en1 q o1 => by
    obtain ⟨a', us, rfl, h0, ha', rh, ru⟩ := q
    refine ⟨ρ1.hide a', τ, st1, rh, held r0 en e1 h0, ?_⟩
    cases q2 : nb τ st1 with
    | no => rw [q2] at o1; exact o1.elim
    | er x s => rw [q2] at o1; exact o1.elim
    | ok ds2 st2 =>
      rw [q2] at o1
      simp only [catR] at o1
      split at o1
      · rename_i hz
        rintro ρ' H' vy e' r' ⟨b', vs, rfl, h0', hb', rh', rv'⟩
        have u := unhide (ρ := ρ1) (p := a') e'.hid
        have hp' : H' a' = some (.lst us) := e'.keep a' _ ha' fun i hi z => rh.sep i hi (.inr z)
        have ru' := RelDs.mono e' rh ds ru
        refine ⟨a', b', us, vs, rfl, rfl, hp', hb', by rw [ru.len, rv'.len]; exact szFits_iff.mp hz, fun p hp => ?_⟩
        have ex : Ext ρ1 st1.length H1 ⟨ρ'.at', ρ1.hid⟩ st2.length H' := ⟨e'.le, e'.old, e'.new, e'.keep, rfl⟩
        have r'' : R X.K ⟨ρ'.at', ρ1.hid⟩ st2 H' := by rw [u] at r'; exact r'.show'
        have ru'' : RelDs X.K ⟨ρ'.at', ρ1.hid⟩ st2.length H' ds us := by rw [u] at ru'; exact RelDs.show' _ ru'
        have rv'' : RelDs X.K ⟨ρ'.at', ρ1.hid⟩ st2.length H' ds2 vs := by
          have z := RelDs.show' _ rv'
          rw [u] at z; exact RelDs.show' _ z
        exact (Out.shift o1 r1 ex r'').fresh r'' hp (ru''.append rv'')
      · exact o1.elim
theorem ef_catFL (ha : EvF X W a na) (hb : EvE X W0 b mb) : EvF X W (.BinOp a .Add b pos) (mCatFL na mb) :=
  PE.imp (pe_op op_cat ha hb) fun σ H Q ⟨ρ, τ, st, r0, en, o⟩ => tM.bind r0 en o fun ds st1 ρ1 H1 vx e1 r1 en1 q o1 => by
    obtain ⟨a', us, rfl, h0, ha', rh, ru⟩ := q
    refine ⟨ρ1.hide a', τ, st1, rh, held r0 en e1 h0, ?_⟩
    cases q2 : mb τ st1 with
    | no => rw [q2] at o1; exact o1.elim
    | er x s => rw [q2] at o1; exact o1.elim
    | ok d2 st2 =>
      rw [q2] at o1
      cases hs2 : strictL d2 st2 with
      | none => simp only [hs2, catR] at o1; exact o1.elim
      | some ys =>
        simp only [hs2, catR] at o1
        split at o1
        · rename_i hz
          rintro ρ' H' vy e' r' rd
          have u := unhide (ρ := ρ1) (p := a') e'.hid
          have hp' : H' a' = some (.lst us) := e'.keep a' _ ha' fun i hi z => rh.sep i hi (.inr z)
          have ru' := RelDs.mono e' rh ds ru
          have ex : Ext ρ1 st1.length H1 ⟨ρ'.at', ρ1.hid⟩ st2.length H' := ⟨e'.le, e'.old, e'.new, e'.keep, rfl⟩
          have r'' : R X.K ⟨ρ'.at', ρ1.hid⟩ st2 H' := by rw [u] at r'; exact r'.show'
          have ru'' : RelDs X.K ⟨ρ'.at', ρ1.hid⟩ st2.length H' ds us := by rw [u] at ru'; exact RelDs.show' _ ru'
          have rd'' : RelD X.K ⟨ρ'.at', ρ1.hid⟩ st2.length H' d2 vy := by
            have z : RelD X.K ρ' st2.length H' d2 vy := rd
            rw [u] at z; exact RelD.show' _ z
          obtain ⟨l, ws, e, hl, rw2⟩ := strictL_rel r'' rd'' hs2
          refine ⟨a', l, us, ws, rfl, e, hp', hl, by rw [ru.len, rw2.len]; exact szFits_iff.mp hz, fun p hp => ?_⟩
          exact (Out.shift o1 r1 ex r'').fresh r'' hp (ru''.append rw2)
        · exact o1.elim
@[simp] theorem x_mSlL {m : SE} {ml mh : SO} {σ : En} {st : Store} : mSlL m ml mh σ st = (m σ st).bind fun d st1 => (ml σ st1).bind fun lo st2 => (mh σ st2).bind fun hi st3 => slL d lo hi st3 := rfl
@[simp] theorem x_slFL {xs : List D} {lo hi : Option Int} {st : Store} : slL (.lst xs) lo hi st = .ok (cutD xs lo hi) st := rfl
theorem x_slLoc {n : Nat} {xs : List D} {lo hi : Option Int} {st : Store} (h : st[n]? = some (.lst xs)) : slL (.loc n) lo hi st = .ok (cutD xs lo hi) st := by simp only [slL, Fx.listOf, h]
theorem x_strict {n : Nat} {xs : List D} {st : Store} (h : st[n]? = some (.lst xs)) : strictL (.loc n) st = some xs := by simp only [strictL, h]
@[simp] theorem x_catR {xs ds : List D} {st : Store} : catR (some xs) (some ds) st = if szFits (xs.length + ds.length) = true then .ok (xs ++ ds) st else .no := rfl
@[simp] theorem x_mCatLF {σ : En} {st : Store} : mCatLF ma nb σ st = (ma σ st).bind fun d st1 => (nb σ st1).bind fun ds st2 => catR (strictL d st2) (some ds) st2 := rfl
@[simp] theorem x_mCatLL {σ : En} {st : Store} : mCatLL ma mb σ st = (ma σ st).bind fun d st1 => (mb σ st1).bind fun d2 st2 => catR (strictL d st2) (strictL d2 st2) st2 := rfl
@[simp] theorem x_mCatFF {σ : En} {st : Store} : mCatFF na nb σ st = (na σ st).bind fun ds st1 => match nb σ st1 with
  | .ok ds2 st2 => catR (some ds) (some ds2) st2
  | _ => .no := rfl
@[simp] theorem x_mCatFL {σ : En} {st : Store} : mCatFL na mb σ st = (na σ st).bind fun ds st1 => match mb σ st1 with
  | .ok d2 st2 => catR (some ds) (strictL d2 st2) st2
  | _ => .no := rfl
end
end Fx

set_option Elab.async false
set_option linter.all false
set_option maxRecDepth 100000
set_option maxHeartbeats 4000000
namespace Fx
open PySem L2 PyProof.Rows
variable [Md]
variable [Mw]
/-! ### augmented assignment to a name -/
def IOpS (X : Cx) (op : Operator) (f : D → D → Store → Rs D) : Prop :=
  ∃ t, PIp X op t ∧ ∀ (W : WX) (σ : L2.St) (ρ : Mp) (st : Store) (H : Hp) (x y : D) (vx vy : V) (Q : VK), R X.K ρ st H → RelD X.K ρ st.length H x vx → RelD X.K ρ st.length H y vy → Out X.K (reD X.K) W σ ρ st.length H Q (f x y st) → t vx vy H Q
def sAug (i : Nat) (f : D → D → Store → Rs D) (m : SE) : SS := fun τ st => match τ[i]? with
  | some (some x) => (m τ st).go τ fun y st1 => (f x y st1).go τ fun z st2 => .nx (τ.set i (some z)) st2
  | _ => .no
section
variable {X : Cx} {W : WX} {e : Expr} {m : SE} {pos : Pos}
theorem es_aug (i : Nat) {x : Str} {pos' : Pos} {op : Operator} {f : D → D → Store → Rs D} (hN : X.N.Nodup) (ho : IOpS X op f) (he : EvE X W e m) (hi : X.N[i]? = some x := by rfl) (hx : Loc X.env.scope x := by first | exact Or.inl rfl | exact Or.inr rfl)
    (hf : X.fn x = true ∨ X.env.scope.names.lookup x = some .local := by first | exact .inl rfl | exact .inr rfl | assumption) : EvS X W (.AugAssign (.Name x pos') op e pos) (sAug i f m) := by
  obtain ⟨t, h1, h2⟩ := ho
  refine PS.imp (ps_aug hN hi hx he h1 hf) fun D σ H ⟨ρ, τ, st, r0, en, o⟩ => ?_
  unfold sAug at o
  cases q : τ[i]? with
  | none => rw [q] at o; exact o.elim
  | some y =>
    rw [q] at o
    cases y with
    | none => exact o.elim
    | some d =>
      obtain ⟨v, hv, rv⟩ := en.2 i d q
      refine ⟨v, hv, tM.goS r0 en o fun y st1 ρ1 H1 vy e1 r1 en1 qy o1 => ?_⟩
      refine h2 W σ ρ1 st1 H1 d y v vy _ r1 (rv.mono e1 r0) qy (OutS.go (Ra := reD X.K) r1 en1 o1 fun z st2 ρ2 H2 vz e2 r2 en2 qz o2 => ?_)
      exact o2.next r2 (en2.set qz i)
theorem ios_add : IOpS X .Add (onII fun i j => .int (i + j)) := by
  refine ⟨_, ip_add, fun W σ ρ st H x y vx vy Q r rx ry o => ?_⟩
  cases x with
  | int i =>
    cases y with
    | int j => simp only [RelD] at rx ry; exact ⟨i, j, rx, ry, o.here r (by simp [reD, RelD])⟩
    | _ => exact o.elim
  | _ => exact o.elim
theorem ios_sub : IOpS X .Sub (onII fun i j => .int (i - j)) := by
  refine ⟨_, ip_sub, fun W σ ρ st H x y vx vy Q r rx ry o => ?_⟩
  cases x with
  | int i =>
    cases y with
    | int j => simp only [RelD] at rx ry; exact ⟨i, j, rx, ry, o.here r (by simp [reD, RelD])⟩
    | _ => exact o.elim
  | _ => exact o.elim
end
theorem x_sAug {i : Nat} {f : D → D → Store → Rs D} {m : SE} {τ : En} {st : Store} {x : D} (h : τ[i]? = some (some x)) : sAug i f m τ st = (m τ st).go τ fun y st1 => (f x y st1).go τ fun z st2 => .nx (τ.set i (some z)) st2 := by simp only [sAug, h]
end Fx

set_option Elab.async false
set_option linter.all false
set_option maxRecDepth 100000
set_option maxHeartbeats 4000000
namespace Fx
open PySem L2
variable [Md]
variable [Mw]
variable {d : Nat}
abbrev stt (s t : Int) : O := .lst [.int s, .int t]
theorem ix0 {s t : Int} {r : Store} : fIx (.loc 0) (.int 0) (stt s t :: r) = .ok (.int s) (stt s t :: r) := by rw [x_ixLoc (xs := [.int s, .int t]) rfl]; rfl
theorem ix1 {s t : Int} {r : Store} : fIx (.loc 0) (.int 1) (stt s t :: r) = .ok (.int t) (stt s t :: r) := by rw [x_ixLoc (xs := [.int s, .int t]) rfl]; rfl
theorem set0 {s t v : Int} {r : Store} : fSetL (.loc 0) (.int 0) (.int v) (stt s t :: r) = some (stt v t :: r) := x_setLoc (st := stt s t :: r) (n := 0) (k := 0) rfl (by simp)
theorem set1 {s t v : Int} {r : Store} : fSetL (.loc 0) (.int 1) (.int v) (stt s t :: r) = some (stt s v :: r) := x_setLoc (st := stt s t :: r) (n := 0) (k := 1) rfl (by simp)
theorem mulFits_r {i j : Int} (h1 : -1000000000 < j) (h2 : j < 1000000000) : mulFits i j = true := mulFits_iff.mpr (.inr (.inl ⟨by omega, by omega⟩))
theorem divFits_of {i j : Int} (h1 : 0 < j) (h2 : j < 1000000000) : divFits i j = true := by
  refine divFits_iff.mpr ⟨h1, ?_⟩
  have : j.natAbs.log2 < 30 := (Nat.log2_lt (by omega)).mpr (by omega)
  omega
theorem comp_pq {p q : Pm d} {m : SE} {vs : List Nat} {τ : En} {st : Store} {g : SG} (hd : d ≤ 1000) (h : ∀ i, i < d → ∃ τ1, g (nD (p.f i)) (wipeE τ vs) = some τ1 ∧ m τ1 st = .ok (nD (q.f (p.f i))) st) : compS g mYes m vs (p.list.map nD) τ st [] = .ok ((p * q).list.map nD) st := by
  rw [compS_map (f := fun x => match x with | .int y => nD (q.f y.toNat) | _ => .non)]
  · simp [Pm.list, Function.comp_def]
  · intro x hx
    obtain ⟨n, hn, rfl⟩ := List.mem_map.mp hx
    obtain ⟨i, hi, rfl⟩ := List.mem_map.mp hn
    rw [List.mem_range] at hi
    obtain ⟨τ1, e1, e2⟩ := h i hi
    exact ⟨τ1, e1, rfl, by simpa using e2⟩
  · simpa [Pm.len] using small hd
theorem atI_tp (q : Pm d) {n : Nat} (h : n < d) : atI (q.list.map nD) (n : Int) = some (nD (q.f n)) := atI_map (q.list_get h)
def invF (p : Pm d) (j : Nat) : List D := (List.range d).map fun y => nD (if p.b y < j then p.b y else 0)
theorem invF_len (p : Pm d) (j : Nat) : (invF p j).length = d := by simp [invF]
theorem invF_zero (p : Pm d) : invF p 0 = List.replicate d (.int 0) := by
  refine List.ext_getElem (by simp [invF]) fun n h1 h2 => ?_
  simp [invF]
theorem invF_all (p : Pm d) : invF p d = p.inv.list.map nD := by
  refine List.ext_getElem (by simp [invF, Pm.len]) fun n h1 h2 => ?_
  have hn : n < d := by simpa [invF] using h1
  simp [invF, Pm.list, p.blt hn]
theorem invF_set (p : Pm d) {j : Nat} (hj : j < d) : (invF p j).set (p.f j) (nD j) = invF p (j + 1) := by
  refine List.ext_getElem (by simp [invF]) fun n h1 h2 => ?_
  have hn : n < d := by simpa [invF] using h2
  rw [List.getElem_set]
  by_cases e : p.f j = n
  · subst e
    simp [invF, p.bf]
  · rw [if_neg e]
    have hne : p.b n ≠ j := fun z => e (by rw [← z, p.fb])
    simp only [invF, List.getElem_map, List.getElem_range]
    by_cases c : p.b n < j
    · rw [if_pos c, if_pos (by omega)]
    · rw [if_neg c, if_neg (by omega)]
theorem inv_loop {g : SG} {b : SS} {F : Nat → D} {P : En → Prop} (p : Pm d) (st : Store) (step : ∀ i, i < d → ∀ τ, P τ → ∃ τ1, g (F i) τ = some τ1 ∧ ∃ τ2, P τ2 ∧ b τ1 (st ++ [.lst (invF p i)]) = .nx τ2 (st ++ [.lst ((invF p i).set (p.f i) (nD i))])) :
    ∀ (k j : Nat), j + k = d → ∀ τ, P τ → ∃ τ', P τ' ∧ forS g b ((List.range' j k).map F) τ (st ++ [.lst (invF p j)]) = .nx τ' (st ++ [.lst (invF p d)])
  | 0, j, h, τ, hP => ⟨τ, hP, by rw [show j = d by omega]; rfl⟩
  | k + 1, j, h, τ, hP => by
    obtain ⟨τ1, e1, τ2, hP2, e2⟩ := step j (by omega) τ hP
    obtain ⟨τ', hP', e3⟩ := inv_loop p st step k (j + 1) (by omega) τ2 hP2
    refine ⟨τ', hP', ?_⟩
    rw [List.range'_succ, List.map_cons, x_forS_cons, e1]
    dsimp only
    rw [e2, Rt.loop_nx, invF_set p (by omega)]
    exact e3
theorem set_last {st : Store} {xs : List D} {k : Nat} {v : D} (h : k < xs.length) : fSetL (.loc st.length) (.int (k : Int)) v (st ++ [.lst xs]) = some (st ++ [.lst (xs.set k v)]) := by
  rw [x_setLoc (xs := xs) (by simp) h]; simp
theorem enum_tp (p : Pm d) : enumD (p.list.map nD) = (List.range d).map fun i => D.tup [nD i, nD (p.f i)] := by
  refine List.ext_getElem? fun i => ?_
  rw [enumD_get]
  by_cases h : i < d
  · simp [p.list_get h, h]
  · rw [List.getElem?_eq_none (by simp [Pm.len]; omega), List.getElem?_eq_none (by simp; omega)]; rfl
theorem range_nD (n : Nat) : rangeD 0 (n : Int) = (List.range n).map nD := rangeD_nat n
theorem erase_perm {α : Type} : ∀ {l : List α} {k : Nat} {x : α}, l[k]? = some x → (x :: l.eraseIdx k).Perm l
  | [], k, x, h => by simp at h
  | a :: l, 0, x, h => by simp at h; subst h; simp
  | a :: l, k + 1, x, h => by
    simp only [List.getElem?_cons_succ] at h
    rw [List.eraseIdx_cons_succ]
    exact (List.Perm.swap a x _).trans ((erase_perm h).cons a)
theorem erase_map {α β : Type} {f : α → β} : ∀ {l : List α} {k : Nat}, (l.map f).eraseIdx k = (l.eraseIdx k).map f
  | [], k => by simp
  | a :: l, 0 => by simp
  | a :: l, k + 1 => by simp [erase_map]
def Pm.swap (a b : Nat) (ha : a < d) (hb : b < d) : Pm d where
  f := fun x => if x = a then b else if x = b then a else x
  b := fun x => if x = a then b else if x = b then a else x
  fb := fun x => by
    by_cases h1 : x = a
    · subst h1; by_cases h2 : b = x <;> simp [h2]
    · by_cases h2 : x = b
      · subst h2; simp [h1]
      · simp [h1, h2]
  bf := fun x => by
    by_cases h1 : x = a
    · subst h1; by_cases h2 : b = x <;> simp [h2]
    · by_cases h2 : x = b
      · subst h2; simp [h1]
      · simp [h1, h2]
  out := fun x h => by rw [if_neg (by omega), if_neg (by omega)]
@[simp] theorem x_onBlsC {α : Type} {f : List Bool → D} {g : α → Bool} {xs : List α} {st : Store} : onBls f [.lst (xs.map (D.bl ∘ g))] st = .ok (f (xs.map g)) st := by
  rw [← List.map_map]; exact x_onBls
@[simp] theorem x_onBlsF {α : Type} {f : List Bool → D} {g : α → Bool} {xs : List α} {st : Store} : onBls f [.lst (xs.map fun x => D.bl (g x))] st = .ok (f (xs.map g)) st := x_onBlsC
def lenD : D → Nat
  | .tup ys => ys.length
  | _ => 0
def okV (x : D) : Prop := pl x = true ∧ ∀ ys, x = .tup ys → (∀ y ∈ ys, pl y = true) ∧ ys.length ≤ 1000
theorem isP_tup {x : D} (h : isP x = true) : ∃ ys, x = .tup ys := by
  cases x <;> simp [isP] at h
  exact ⟨_, rfl⟩
theorem fLen_P {x : D} (h : isP x = true) {st : Store} : fLen [x] st = .ok (.int (lenD x : Int)) st := by
  obtain ⟨ys, rfl⟩ := isP_tup h; rfl
theorem okV_tp {p : Pm d} (hd : d ≤ 1000) : okV (tp p) := by
  refine ⟨rfl, fun ys e => ?_⟩
  have e2 : ys = p.list.map nD := by injection e with e; exact e.symm
  subst e2
  refine ⟨fun y hy => ?_, by rw [List.length_map, p.len]; omega⟩
  obtain ⟨n, _, rfl⟩ := List.mem_map.mp hy; rfl
def wD (is : List Int) : D := .tup (is.map D.int)
@[simp] theorem lf_wD {is : List Int} : lf (wD is) = true := by simp [wD, List.all_map]
def RM : D := .tup [.str "raised", .str "malformed"]
theorem fl_RM : Fl 1 RM := Fl.tup fun x hx => by
  simp only [List.mem_cons, List.not_mem_nil, or_false] at hx
  rcases hx with rfl | rfl
  · exact Fl.str (by decide +kernel)
  · exact Fl.str (by decide +kernel)
theorem ne_RM {st : Store} : fNe RM RM st = .ok (.bl false) st := fNe_self fl_RM
theorem compS_mapL {α : Type} {g : SG} {t : SB} {m : SE} {vs : List Nat} {τ : En} {h f : α → D} {st : Store} : ∀ (l : List α) (acc : List D), (∀ a ∈ l, ∃ τ1, g (h a) (wipeE τ vs) = some τ1 ∧ t τ1 st = .ok true st ∧ m τ1 st = .ok (f a) st) → acc.length + l.length ≤ sizeLine → compS g t m vs (l.map h) τ st acc = .ok (acc ++ l.map f) st
  | [], acc, _, _ => by simp [compS]
  | a :: l, acc, hh, hl => by
    obtain ⟨τ1, e1, e2, e3⟩ := hh a List.mem_cons_self
    have hl' : acc.length < sizeLine := by simp only [List.length_cons] at hl; omega
    rw [List.map_cons, compS, e1]
    dsimp only
    rw [e2]
    dsimp only
    rw [e3]
    dsimp only
    rw [if_pos hl', compS_mapL l _ (fun d hd => hh d (List.mem_cons_of_mem _ hd)) (by simp only [List.length_append, List.length_cons, List.length_nil] at hl ⊢; omega)]
    simp
def RT (r : Rt) : Prop := ∃ st', r = .rt (.bl true) st'
theorem RT_post {a b : SS} {τ : En} {st : Store} (Φ : En → Store → Prop) (h : ∃ τ1 st1, a τ st = .nx τ1 st1 ∧ Φ τ1 st1) (k : ∀ τ1 st1, Φ τ1 st1 → RT (b τ1 st1)) : RT (sSeq a b τ st) := by
  obtain ⟨τ1, st1, e, hΦ⟩ := h
  rw [x_sSeq, e, Rt.seq_nx]
  exact k _ _ hΦ
theorem okV_of {x : D} (h : pl x = true) (h2 : ∀ ys, x ≠ .tup ys) : okV x := ⟨h, fun ys e => absurd e (h2 ys)⟩
theorem okV_range {n : Nat} (h : n ≤ 1000) : okV (.tup (rangeD 0 (n : Int))) := by
  refine ⟨rfl, fun ys e => ?_⟩
  have e2 : ys = rangeD 0 (n : Int) := by injection e with e; exact e.symm
  subst e2
  refine ⟨fun y hy => ?_, by simpa using h⟩
  obtain ⟨i, _, _, rfl⟩ := rangeD_mem.mp hy; rfl
theorem isP_range (n : Nat) : isP (.tup (rangeD 0 (n : Int))) = true := by rw [← lD_one]; exact isP_tp _
theorem lenD_range (n : Nat) : lenD (.tup (rangeD 0 (n : Int))) = n := by simp [lenD]
theorem lenD_tp (p : Pm d) : lenD (tp p) = d := by simp [tp, lD, lenD, p.len]
theorem okV_row {row : List (Pm d)} (hd : d ≤ 1000) : ∀ x ∈ row.map tp, okV x := fun x hx => by
  obtain ⟨p, _, rfl⟩ := List.mem_map.mp hx; exact okV_tp hd
theorem rD_len {row : List (Pm d)} : rD row = .tup (row.map tp) := rfl
theorem ne_row {row : List (Pm d)} {st : Store} : fNe (rD row) (rD row) st = .ok (.bl false) st := fNe_self (fl_rD _)
def prod (row : List (Pm d)) : Pm d := row.foldl (· * ·) Pm.one
theorem foldl_mul (row : List (Pm d)) (c : Pm d) : row.foldl (· * ·) c = c * prod row := by
  unfold prod
  induction row generalizing c with
  | nil => rfl
  | cons p row ih => rw [List.foldl_cons, List.foldl_cons, ih, ih (Pm.one * p), Pm.one_mul, Pm.assoc]
theorem prod_cons (p : Pm d) (row : List (Pm d)) : prod (p :: row) = p * prod row := by
  rw [prod, List.foldl_cons, foldl_mul, Pm.one_mul]
theorem prod_snoc (p : Pm d) (row : List (Pm d)) : prod (row ++ [p]) = prod row * p := by
  rw [prod, List.foldl_append]; rfl
end Fx

set_option Elab.async false
set_option linter.all false
set_option maxRecDepth 100000
set_option maxHeartbeats 4000000
namespace Fx
open PySem L2 PyProof.Rows
variable [Md]
variable [Mw]
/-! ### len(set(t)), t a tuple of ints -/
def dd : List Int → List Int
  | [] => []
  | x :: xs => if x ∈ xs then dd xs else x :: dd xs
theorem mem_dd {y : Int} : ∀ {xs : List Int}, y ∈ dd xs ↔ y ∈ xs
  | [] => Iff.rfl
  | x :: xs => by
    rw [dd]
    split
    · rename_i h
      rw [mem_dd, List.mem_cons]
      exact ⟨.inr, fun z => z.elim (fun e => e ▸ h) id⟩
    · rw [List.mem_cons, List.mem_cons, mem_dd]
theorem dd_nodup : ∀ (xs : List Int), (dd xs).Nodup
  | [] => .nil
  | x :: xs => by
    rw [dd]
    split
    · exact dd_nodup xs
    · rename_i h
      exact List.nodup_cons.mpr ⟨fun z => h (mem_dd.mp z), dd_nodup xs⟩
theorem dd_len : ∀ (xs : List Int), (dd xs).length ≤ xs.length
  | [] => Nat.le_refl _
  | x :: xs => by
    have := dd_len xs
    rw [dd]
    split
    · simp only [List.length_cons]; omega
    · simp only [List.length_cons]; omega
theorem dd_own : ∀ {xs : List Int}, xs.Nodup → dd xs = xs
  | [], _ => rfl
  | x :: xs, h => by
    obtain ⟨h1, h2⟩ := List.nodup_cons.mp h
    rw [dd, if_neg h1, dd_own h2]
theorem dd_full : ∀ {xs : List Int}, (dd xs).length = xs.length → xs.Nodup
  | [], _ => .nil
  | x :: xs, h => by
    rw [dd] at h
    split at h
    · have := dd_len xs
      simp only [List.length_cons] at h; omega
    · rename_i hx
      simp only [List.length_cons] at h
      exact List.nodup_cons.mpr ⟨hx, dd_full (by omega)⟩
section
variable {X : Cx} {W : WX} {e a : Expr} {m : SE} {p p2 q pos : Pos}
def tLenSetT (K : PySem.W.Frag) (ta : TE) : TE := fun σ H Q => ta σ H fun x H1 => ∃ (l : Addr) (ns : List Int), x = V.ref l ∧ SqT K H1 l (ns.map V.int) ∧ ns.length ≤ 4000 ∧ Q (.int ((dd ns).length : Nat)) H1
theorem pe_lenSetT {ta : TE} (hg : Gl X "len") (hm : X.mg "len" = none) (hg2 : Gl X "set") (hm2 : X.mg "set" = none) (ha : PE X a ta) (hc : X.calm = true)
    (na : starEach [a] X.env = (false, eval a X.env) :: starEach [] X.env) : PE X (.Call (.Name "len" p) [.Call (.Name "set" p2) [a] [] q] [] pos) (tLenSetT X.K ta) := by
  refine ⟨fun pins s σ H Q I h => ?_⟩
  refine Call_ (ld_blt I hg hm PySem.boot_len ?_)
  refine PyProof.Rows.callWith_builtin1 (PyProof.Rows.args_cons ?_ rfl) rfl rfl
  refine Call_ (ld_blt I hg2 hm2 PyProof.Rows.boot_set ?_)
  refine PyProof.Rows.callWith_type1 (PyProof.Rows.args_cons (thn (ha.run pins s σ H _ I h) fun v s1 ⟨x, H1, I1, r1, q1⟩ => PyProof.Rows.args_nil ?_) na) na rfl
  obtain ⟨l, ns, rfl, hq, h1, q1⟩ := q1
  cases r1
  obtain ⟨its, r, pl, hz⟩ := I1.tuple hq
  refine call_set_tupI ns (I1.ok.hd hc) (show s1.heap.IsTuple l its.toArray from pl) (by simpa using r.ints) (by unfold scanBound; omega) fun h' tk c hS hcl hk => ?_
  refine PyProof.Rows.args_nil ?_
  obtain ⟨o, es, ep, t, ho, hex, hd, hgood, hnd, hmem, _, hf, hn, _⟩ := hS
  have I2 : Inv X pins σ H1 { s1 with heap := h', toks := tk } := I1.kept fun b o e => hk b o e
  have hlen : es.size = (dd ns).length := by
    have hp : (es.toList.map L2.keyOf).Perm (dd ns) := (List.perm_ext_iff_of_nodup hnd (dd_nodup ns)).2 fun k => by
      rw [← hmem k, mem_dd, decide_eq_true_iff]
    have := hp.length_eq
    simpa using this
  refine call_len_set ho hex hd hf (by have := dd_len ns; rw [hlen] <;> omega) ⟨.int (dd ns).length, H1, I2.tok _, ⟨_, by rw [hlen]⟩, q1⟩
def mLenSet (m : SE) : SE := fun τ st => (m τ st).bind fun d st1 => match d with
  | .tup xs => (match intsOf xs with
    | some ns => if ns.length ≤ 4000 then .ok (.int ((dd ns).length : Nat)) st1 else .no
    | none => .no)
  | _ => .no
theorem ev_lenSet (hm : X.mg "len" = none) (hm2 : X.mg "set" = none) (ha : EvE X W a m) (hg : Gl X "len" := by rfl) (hg2 : Gl X "set" := by rfl) (hc : X.calm = true := by rfl)
    (na : starEach [a] X.env = (false, eval a X.env) :: starEach [] X.env := by rfl) : EvE X W (.Call (.Name "len" p) [.Call (.Name "set" p2) [a] [] q] [] pos) (mLenSet m) :=
  PE.imp (pe_lenSetT hg hm hg2 hm2 ha hc na) fun σ H Q ⟨ρ, τ, st, r0, en, o⟩ => tM.bind r0 en o fun d st1 ρ1 H1 v e1 r1 en1 q o1 => by
    cases d with
    | tup xs =>
      simp only [RelD] at q
      obtain ⟨l, vs, rfl, hs, rv⟩ := q
      cases hx : intsOf xs with
      | none => simp only [hx] at o1; exact o1.elim
      | some ns =>
        simp only [hx] at o1
        split at o1
        · rename_i hl
          have ex := intsOf_eq hx
          subst ex
          rw [rv.ints] at hs
          exact ⟨l, ns, rfl, hs.sq, hl, o1.here r1 (by simp [reD, RelD])⟩
        · exact o1.elim
    | _ => exact o1.elim
@[simp] theorem x_mLenSet {σ : En} {st : Store} : mLenSet m σ st = (m σ st).bind fun d st1 => match d with
  | .tup xs => (match intsOf xs with
    | some ns => if ns.length ≤ 4000 then .ok (.int ((dd ns).length : Nat)) st1 else .no
    | none => .no)
  | _ => .no := rfl
end
/-! ### str(i) -/
def strI (i : Int) : Str := toString i
theorem ex_txFits : ∃ f : Int → Bool, ∀ i : Int, f i = true ↔ i.natAbs.log2 < 1920 := ⟨fun i => decide (i.natAbs.log2 < 1920), fun i => decide_eq_true_iff⟩
noncomputable def txFits : Int → Bool := ex_txFits.choose
theorem txFits_iff {i : Int} : txFits i = true ↔ i.natAbs.log2 < 1920 := ex_txFits.choose_spec i
theorem ex_strI : ∃ f : Int → Str, ∀ i : Int, f i = toString i := ⟨fun i => toString i, fun _ => rfl⟩
noncomputable def txI : Int → Str := ex_strI.choose
theorem txI_eq (i : Int) : txI i = toString i := ex_strI.choose_spec i
noncomputable def fStr : FB D := fun ds st => match ds with
  | [.int i] => if txFits i = true then .ok (.str (txI i)) st else .no
  | _ => .no
theorem cs_str {X : Cx} : CallS X (reD X.K) (.type "str") fStr := by
  refine ⟨_, call_str_int, fun W σ ρ st H ds vs Q r rv o => ?_⟩
  match ds, rv, o with
  | [.int i], rv, o =>
    obtain ⟨v, rfl, rd⟩ := rv.one
    simp only [RelD] at rd; subst rd
    simp only [fStr] at o
    split at o
    · rename_i hz
      exact ⟨i, rfl, txFits_iff.mp hz, o.here r (by simp [reD, RelD, txI_eq])⟩
    · exact o.elim
  | [], _, o => exact o.elim
  | [.non], _, o | [.str _], _, o | [.bl _], _, o | [.ty _], _, o | [.fn _], _, o | [.tup _], _, o | [.lst _], _, o | [.loc _], _, o => exact o.elim
  | _ :: _ :: _, _, o => simp [fStr] at o; exact o.elim
@[simp] theorem x_str {i : Int} {st : Store} : fStr [.int i] st = if txFits i = true then .ok (.str (txI i)) st else .no := rfl
theorem txFits_of {i : Int} (h1 : -1000000000 ≤ i) (h2 : i ≤ 1000000000) : txFits i = true := by
  refine txFits_iff.mpr ?_
  by_cases c : i.natAbs = 0
  · rw [c]; decide
  · have : i.natAbs.log2 < 30 := (Nat.log2_lt c).mpr (by omega)
    omega
/-! ### loops over a list that can be written -/
def ItL (K : PySem.W.Frag) (ρ : Mp) (st : Store) (H : Hp) (J : It) (n : Nat) (ds : List D) : Prop :=
  ∀ (ρ2 : Mp) (st2 : Store) (H2 : Hp), ExtW ρ st.length H ρ2 st2.length H2 → R K ρ2 st2 H2 → st2[n]? = some (.lst ds) → ∀ i : Nat,
    (∀ d, ds[i]? = some d → J.go i H2 ∧ ∀ x H3, J.yld i H2 x H3 → Ext ρ2 st2.length H2 ρ2 st2.length H3 ∧ R K ρ2 st2 H3 ∧ RelD K ρ2 st2.length H3 d x) ∧
    (ds.length ≤ i → J.stop i H2)
def reIL (K : PySem.W.Frag) : Rl (Nat × List D) It := fun _ ρ st H nd J => st[nd.1]? = some (.lst nd.2) ∧ ItL K ρ st H J nd.1 nd.2
instance {K : PySem.W.Frag} : RlOk K (reIL K) := ⟨fun _ _ h => h⟩
abbrev EvIL (X : Cx) (W : WX) (tg iter : Expr) (m : En → Store → Rs (Nat × List D)) : Prop := PI X tg iter (tM X.K (reIL X.K) W m)
def mItL (m : SE) : En → Store → Rs (Nat × List D) := fun σ st => (m σ st).bind fun d st1 => match d with
  | .loc n => (match st1[n]? with
    | some (.lst xs) => .ok (n, xs) st1
    | _ => .no)
  | _ => .no
section
variable {X : Cx} {W : WX} {e a b c tg iter : Expr} {es ifs : List Expr} {s : Stmt} {ss bs : List Stmt} {m ma mb mc : SE} {ms mi : SA} {ml : En → Store → Rs (Nat × List D)} {t : SB} {u v w : SS} {pos : Pos}
theorem itL_list {K : PySem.W.Frag} {ρ : Mp} {st : Store} {H : Hp} {n : Nat} {ds : List D} (r : R K ρ st H) (h : st[n]? = some (.lst ds)) : ItL K ρ st H (Itl K (ρ.at' n)) n ds := fun ρ2 st2 H2 e r2 h2 i => by
  have hl : n < st.length := (List.getElem?_eq_some_iff.mp h).1
  obtain ⟨vs, hv, rv⟩ : ∃ vs, H2 (ρ2.at' n) = some (.lst vs) ∧ RelDs K ρ2 st2.length H2 ds vs := r2.obj n _ h2
  rw [e.old n hl] at hv
  have hq : SqL K H2 (ρ.at' n) vs := .inl (.inl hv)
  refine ⟨fun d hd => ?_, fun hl => ⟨vs, hq, by rw [rv.len]; exact hl⟩⟩
  obtain ⟨v, hv2, rd⟩ := rv.get hd
  refine ⟨⟨vs, v, hq, hv2⟩, fun x H3 ⟨e3, q⟩ => ?_⟩
  subst e3
  have q' := q vs hq
  rw [hv2] at q'; cases q'
  exact ⟨.refl, r2, rd⟩
theorem eil_seq (h : EvE X W e m) : EvIL X W tg e (mItL m) := by
  refine ⟨fun pins s σ H Rr I q => ?_⟩
  obtain ⟨ρ, τ, st, r0, en, o⟩ := q
  refine thn (h.run pins s σ H (fun x H1 => ∃ a, x = .ref a ∧ ∃ vs, SqL X.K H1 a vs ∧ ∃ ρ1 st1 n ds, R X.K ρ1 st1 H1 ∧ a = ρ1.at' n ∧ st1[n]? = some (.lst ds) ∧ Out X.K (reIL X.K) W σ ρ1 st1.length H1 Rr (.ok (n, ds) st1)) I ?_) fun v s1 ⟨x, H1, I1, r1, q1⟩ => ?_
  · refine tM.bind (Ra := reD X.K) (Rg := reIL X.K) r0 en o fun d st1 ρ1 H1 v e1 r1 en1 q o1 => ?_
    cases d with
    | loc n =>
      simp only at o1
      split at o1
      · rename_i xs hx
        simp only [RelD] at q
        obtain ⟨vs, hv, rv⟩ : ∃ vs, H1 (ρ1.at' n) = some (.lst vs) ∧ RelDs X.K ρ1 st1.length H1 xs vs := r1.obj n _ hx
        exact ⟨ρ1.at' n, q.1, vs, .inl (.inl hv), ρ1, st1, n, xs, r1, rfl, hx, o1⟩
      · exact o1.elim
    | _ => exact o1.elim
  · obtain ⟨a, e, vs, hq, ρ1, st1, n, ds, rr, ea, hx, o1⟩ := q1
    subst e
    cases r1
    obtain ⟨its, rw', p, hz⟩ := I1.list hq
    refine wpAny_pyIter_list p.isList ?_
    refine ⟨s1.heap.objs.size, [s1.heap.objs.size], _, Itl X.K a, H1, rfl, I1.kept (t' := s1.toks) fun b o e => Heap.get?_push_of_some _ e, turn_list a _, ⟨_, Heap.get?_push_size _ rfl, rfl, rfl⟩, fun b hb => ?_, o1 ρ1 H1 _ .refl rr ⟨hx, by rw [ea]; exact itL_list rr hx⟩⟩
    have e : b = s1.heap.objs.size := by simpa using hb
    subst e
    exact I1.fpOk (Nat.le_refl _) (I1.hok.fresh (Nat.le_refl _))
open Classical in
/-- the body, which must leave the list as it was -/
noncomputable def chkS (n : Nat) (xs : List D) (b : SS) : SS := fun τ st => match b τ st with
  | .nx τ' st' => if st'[n]? = some (.lst xs) then .nx τ' st' else .no
  | .ct τ' st' => if st'[n]? = some (.lst xs) then .ct τ' st' else .no
  | r => r
theorem chkS_nx {n : Nat} {xs : List D} {b : SS} {τ τ' : En} {st st' : Store} (h : b τ st = .nx τ' st') (h2 : st'[n]? = some (.lst xs)) : chkS n xs b τ st = .nx τ' st' := by
  simp only [chkS, h, h2, if_true]
theorem chkS_rt {n : Nat} {xs : List D} {b : SS} {τ : En} {st st' : Store} {d : D} (h : b τ st = .rt d st') : chkS n xs b τ st = .rt d st' := by
  simp only [chkS, h]
theorem chkS_er {n : Nat} {xs : List D} {b : SS} {τ τ' : En} {st st' : Store} {d : Ex} (h : b τ st = .er d τ' st') : chkS n xs b τ st = .er d τ' st' := by
  simp only [chkS, h]
noncomputable def sForL (ml : En → Store → Rs (Nat × List D)) (g : SG) (b : SS) : SS := fun τ st => (ml τ st).go τ fun nd st1 => forS g (chkS nd.1 nd.2 b) nd.2 τ st1
theorem es_forL {vs : List Nat} {g : SG} (hp : PassesOwn (model X.prog X.w) X.A X.env X.xe) (hc : X.calm = true) (hi : EvIL X W tg iter ml) (hg : EvG X vs tg g) (hb : EvSs X W ss u)
    (hs : ∀ x, foldedSetIterable iter X.env x = pure x := by intro _; rfl) : EvS X W (.For tg iter ss [] pos) (sForL ml g u) := PS.imp (ps_for hp hc hi hg hb hs) fun D σ H ⟨ρ, τ, st, r0, en, o⟩ =>
  tM.goS r0 en o fun nd st1 ρ1 H1 J e1 r1 en1 q o1 => by
    obtain ⟨n, ds⟩ := nd
    obtain ⟨hx, q⟩ := q
    simp only at hx q o1
    refine ⟨fun i m σ H => m = ds.length - i ∧ i ≤ ds.length ∧ ∃ ρ τ st, Ext ρ1 st1.length H1 ρ st.length H ∧ R X.K ρ st H ∧ EnvR X.K ρ st.length H τ σ ∧ st[n]? = some (.lst ds) ∧ OutS X.K W ρ st.length H D (forS g (chkS n ds u) (ds.drop i) τ st),
      ⟨_, rfl, Nat.zero_le _, ρ1, τ, st1, .refl, r1, en1, hx, by rw [List.drop_zero]; exact o1⟩, fun i m σ H ⟨hm, hi, ρ, τ, st, ex, r, en, hst, o⟩ => ?_⟩
    obtain ⟨go, stop⟩ := q ρ st H ex.w r hst i
    by_cases hl : i < ds.length
    · have hd : ds[i]? = some ds[i] := List.getElem?_eq_getElem hl
      obtain ⟨g1, g2⟩ := go _ hd
      refine .inr ⟨g1, fun σ H => (ds.length - (i + 1)) = ds.length - (i + 1) ∧ i + 1 ≤ ds.length ∧ ∃ ρ τ st, Ext ρ1 st1.length H1 ρ st.length H ∧ R X.K ρ st H ∧ EnvR X.K ρ st.length H τ σ ∧ st[n]? = some (.lst ds) ∧ OutS X.K W ρ st.length H D (forS g (chkS n ds u) (ds.drop (i + 1)) τ st),
        fun σ' H' h => ⟨ds.length - (i + 1), by omega, h⟩, fun x H3 hy => ?_⟩
      obtain ⟨e3, r3, rd⟩ := g2 x H3 hy
      rw [List.drop_eq_getElem_cons hl] at o
      simp only [forS] at o
      refine ⟨ρ, τ, st, _, r3, en.mono e3 r, rd, ?_⟩
      cases e2 : g ds[i] τ with
      | none => rw [e2] at o; exact o
      | some τ1 =>
        rw [e2] at o
        simp only at o
        intro σ1 en1' _
        refine ⟨ρ, τ1, st, r3, en1', ?_⟩
        have o' := OutS.shift o r e3 r3
        have ex3 := ex.trans r1 r e3
        cases e4 : u τ1 st with
        | nx a s =>
          by_cases hc2 : s[n]? = some (.lst ds)
          · rw [chkS_nx e4 hc2] at o'; exact fun ρ' H' σ' e' r' en' => ⟨rfl, hl, ρ', a, s, ex3.trans r1 r3 e', r', en', hc2, OutS.shift o' r3 e' r'⟩
          · have : chkS n ds u τ1 st = .no := by simp only [chkS, e4, if_neg hc2]
            rw [this] at o'; exact o'.elim
        | ct a s =>
          by_cases hc2 : s[n]? = some (.lst ds)
          · have : chkS n ds u τ1 st = .ct a s := by simp only [chkS, e4, if_pos hc2]
            rw [this] at o'; exact fun ρ' H' σ' e' r' en' => ⟨rfl, hl, ρ', a, s, ex3.trans r1 r3 e', r', en', hc2, OutS.shift o' r3 e' r'⟩
          · have : chkS n ds u τ1 st = .no := by simp only [chkS, e4, if_neg hc2]
            rw [this] at o'; exact o'.elim
        | no => simp only [chkS, e4] at o'; exact o'
        | bk a s => simp only [chkS, e4] at o'; exact o'
        | rt a s => simp only [chkS, e4] at o'; exact o'
        | er x a s => simp only [chkS, e4] at o'; exact o'
    · refine .inl ⟨stop (by omega), ?_⟩
      rw [List.drop_eq_nil_of_le (by omega)] at o
      exact o.next r en
end
end Fx

set_option Elab.async false
set_option linter.all false
set_option maxRecDepth 100000
set_option maxHeartbeats 4000000
namespace Fx
open PySem L2
variable [Md]
variable [Mw]
open Classical in
noncomputable def chkE (n : Nat) (xs : List D) (m : SE) : SE := fun τ st => match m τ st with
  | .ok y st' => if st'[n]? = some (.lst xs) then .ok y st' else .no
  | r => r
open Classical in
noncomputable def chkB (n : Nat) (xs : List D) (m : SB) : SB := fun τ st => match m τ st with
  | .ok y st' => if st'[n]? = some (.lst xs) then .ok y st' else .no
  | r => r
theorem chkE_ok {n : Nat} {xs : List D} {m : SE} {τ : En} {st st' : Store} {y : D} (h : m τ st = .ok y st') (h2 : st'[n]? = some (.lst xs)) : chkE n xs m τ st = .ok y st' := by
  simp only [chkE, h, h2, if_true]
theorem chkB_ok {n : Nat} {xs : List D} {m : SB} {τ : En} {st st' : Store} {y : Bool} (h : m τ st = .ok y st') (h2 : st'[n]? = some (.lst xs)) : chkB n xs m τ st = .ok y st' := by
  simp only [chkB, h, h2, if_true]
theorem chkE_inv {n : Nat} {xs : List D} {m : SE} {τ : En} {st st' : Store} {y : D} (h : chkE n xs m τ st = .ok y st') : m τ st = .ok y st' ∧ st'[n]? = some (.lst xs) := by
  simp only [chkE] at h
  split at h
  · rename_i y2 s2 e
    split at h
    · rename_i hc; cases h; exact ⟨e, hc⟩
    · cases h
  · rename_i hne; exact absurd h (hne _ _)
theorem chkB_inv {n : Nat} {xs : List D} {m : SB} {τ : En} {st st' : Store} {y : Bool} (h : chkB n xs m τ st = .ok y st') : m τ st = .ok y st' ∧ st'[n]? = some (.lst xs) := by
  simp only [chkB] at h
  split at h
  · rename_i y2 s2 e
    split at h
    · rename_i hc; cases h; exact ⟨e, hc⟩
    · cases h
  · rename_i hne; exact absurd h (hne _ _)
noncomputable def mCompL (ml : En → Store → Rs (Nat × List D)) (g : SG) (t : SB) (m : SE) (vs : List Nat) : SA := fun τ st => (ml τ st).bind fun nd st1 => compS g (chkB nd.1 nd.2 t) (chkE nd.1 nd.2 m) vs nd.2 τ st1 []
section
variable {X : Cx} {W : WX} {e a b c tg iter : Expr} {es ifs : List Expr} {m : SE} {ml : En → Store → Rs (Nat × List D)} {t : SB} {pos : Pos}
theorem tM.lcL {g : SG} {vs : List Nat} {σ : St} {H : Hp} {Q : VK} (h : tM X.K (reN X.K) W (mCompL ml g t m vs) σ H Q) : tLc (tM X.K (reIL X.K) W ml) (tG X.K vs g) (tM X.K reB W0 t) (tM X.K (reD X.K) W0 m) vs σ H Q := by
  obtain ⟨ρ, τ, st, r0, en, o⟩ := h
  refine tM.bind (Ra := reIL X.K) r0 en (show Out X.K (reN X.K) W σ ρ st.length H (fun v H' => Q v H') _ from o) fun nd st1 ρ1 H1 J e1 r1 en1 q o1 => ?_
  obtain ⟨n, ds⟩ := nd
  obtain ⟨hx, q⟩ := q
  simp only at hx q o1
  intro p hp
  have hpH : ∀ {x : Addr}, H1 x = none → H x = none := fun z => e1.none_of r1 z
  refine ⟨fun i k H' => k = ds.length - i ∧ i ≤ ds.length ∧ ∃ ρ' st' acc us, ρ'.hid = ρ1.hid ∧ Ext ρ1 st1.length H1 ρ' st'.length H' ∧ R X.K (ρ'.hide p) st' H' ∧ EnvR X.K (ρ'.hide p) st'.length H' τ σ ∧ H' p = some (.lst us) ∧
      RelDs X.K (ρ'.hide p) st'.length H' acc us ∧ st'[n]? = some (.lst ds) ∧ Out X.K (reN X.K) W σ ρ1 st1.length H1 Q (compS g (chkB n ds t) (chkE n ds m) vs (ds.drop i) τ st' acc), ⟨_, rfl, Nat.zero_le _, ρ1, st1, [], [], rfl, r1.push_ext hp, r1.hide hp rfl, en1.hideN hp, upd_same, .nil, hx, by rw [List.drop_zero]; exact o1⟩, fun i k H' ⟨hk, hi, ρ', st', acc, us, hh, ex, rr, en', hpu, ra, hst, oo⟩ => ?_⟩
  have rs := R.show' rr
  obtain ⟨go, stop⟩ := q (ρ'.hide p) st' H' (ex.hideW hp) rr hst i
  by_cases hl : i < ds.length
  · have hd : ds[i]? = some ds[i] := List.getElem?_eq_getElem hl
    obtain ⟨g1, g2⟩ := go _ hd
    rw [List.drop_eq_getElem_cons hl] at oo
    simp only [compS] at oo
    refine .inr ⟨g1, fun H' => ∃ ρ' st' acc us, ρ'.hid = ρ1.hid ∧ Ext ρ1 st1.length H1 ρ' st'.length H' ∧ R X.K (ρ'.hide p) st' H' ∧ EnvR X.K (ρ'.hide p) st'.length H' τ σ ∧ H' p = some (.lst us) ∧
      RelDs X.K (ρ'.hide p) st'.length H' acc us ∧ st'[n]? = some (.lst ds) ∧ Out X.K (reN X.K) W σ ρ1 st1.length H1 Q (compS g (chkB n ds t) (chkE n ds m) vs (ds.drop (i + 1)) τ st' acc), fun H2 h => ⟨ds.length - (i + 1), by omega, rfl, hl, h⟩, fun x H3 hy => ?_⟩
    obtain ⟨e3, r3, rd⟩ := g2 x H3 hy
    have en3 := (en'.mono e3 rr).wipe vs
    refine ⟨ρ'.hide p, wipeE τ vs, st', _, r3, en3, rd, ?_⟩
    cases q1 : g ds[i] (wipeE τ vs) with
    | none => rw [q1] at oo; exact oo
    | some τ1 =>
      rw [q1] at oo
      simp only at oo
      refine fun σ1 en4 w1 => ⟨w1.trans wipe_wipe, ρ'.hide p, τ1, st', r3, en4, ?_⟩
      have ra3 := RelDs.mono e3 rr acc ra
      have nxt : ∀ {ρ4 : Mp} {st4 : Store} {H4 : Hp}, Ext (ρ'.hide p) st'.length H' ρ4 st4.length H4 → R X.K ρ4 st4 H4 → ∃ ρ5 : Mp, ρ5.hid = ρ1.hid ∧ ρ4 = ρ5.hide p ∧ Ext ρ1 st1.length H1 ρ5 st4.length H4 ∧ H4 p = some (.lst us) := fun {ρ4 st4 H4} e4 r4 => by
        have u := unhide (ρ := ρ') (p := p) e4.hid
        refine ⟨⟨ρ4.at', ρ'.hid⟩, hh, u, ex.trans r1 rs (st' := st') ?_, e4.keep p _ hpu fun i hi z => rr.sep i hi (.inr z)⟩
        exact ⟨e4.le, e4.old, e4.new, e4.keep, rfl⟩
      cases q2 : chkB n ds t τ1 st' with
      | no =>
        rw [q2] at oo; exact oo.elim
      | er x s => rw [q2] at oo; exact oo.elim
      | ok b st2 =>
        rw [q2] at oo
        obtain ⟨q2', hst2⟩ := chkB_inv q2
        rw [q2']
        intro ρ4 H4 b' e4 r4 hb
        cases (show b = b' from hb)
        have e34 := e3.trans rr r3 e4
        obtain ⟨ρ5, h5, u5, ex5, hp5⟩ := nxt e34 r4
        have en5 : EnvR X.K ρ4 st2.length H4 τ σ := (en'.mono e34 rr)
        have ra5 := RelDs.mono e34 rr acc ra
        cases b with
        | false =>
          subst u5
          exact ⟨ρ5, st2, acc, us, h5, ex5, r4, en5, hp5, ra5, hst2, oo⟩
        | true =>
          simp only at oo
          refine ⟨ρ4, τ1, st2, r4, en4.mono e4 r3, ?_⟩
          cases q3 : chkE n ds m τ1 st2 with
          | no => rw [q3] at oo; exact oo.elim
          | er x s => rw [q3] at oo; exact oo.elim
          | ok y st6 =>
            rw [q3] at oo
            obtain ⟨q3', hst6⟩ := chkE_inv q3
            rw [q3']
            simp only at oo
            split at oo
            · rename_i hz
              intro ρ6 H6 vy e6 r6 ry
              have e36 := e34.trans rr r4 e6
              obtain ⟨ρ7, h7, u7, ex7, hp7⟩ := nxt e36 r6
              have ra7 := RelDs.mono e36 rr acc ra
              refine ⟨us, hp7, by rw [← ra7.len] at hz; exact hz, ?_⟩
              subst u7
              have ry' : RelD X.K (ρ7.hide p) st6.length H6 y vy := ry
              exact ⟨ρ7, st6, acc ++ [y], us ++ [vy], h7, ex7.upd_new hp, r6.hw hp7 rfl, (en'.mono e36 rr).hw hp7, upd_same, RelDs.hw hp7 _ (ra7.append (.cons ry' .nil)), hst6, oo⟩
            · exact oo.elim
  · refine .inl ⟨stop (by omega), ?_⟩
    rw [List.drop_eq_nil_of_le (by omega)] at oo
    exact oo ρ' H' (.ref p) ex rs ⟨p, us, rfl, hp, hpu, rr, ra⟩
theorem ef_compL {scope : Scope} {own : List (Str × Nat)} {g : SG} {ifs : List Expr} (hc : X.calm = true) (hN : X.N.Nodup) (hi : EvIL X W tg iter ml) (ok : BlkOk X.N X.env.scope scope own)
    (hg : ∀ (s : Shared) (H : Hp) (C : Addr) (cl : List (Str × Addr)) (fp : List Addr), EvG (X.blk s H scope (compEnvC scope cl C X.env) fp) (own.map (·.2)) tg g)
    (ht : ∀ (s : Shared) (H : Hp) (C : Addr) (cl : List (Str × Addr)) (fp : List Addr), EvT (X.blk s H scope (compEnvC scope cl C X.env) fp) W0 ifs t)
    (he : ∀ (s : Shared) (H : Hp) (C : Addr) (cl : List (Str × Addr)) (fp : List Addr), EvE (X.blk s H scope (compEnvC scope cl C X.env) fp) W0 e m)
    (hs : ∀ x, foldedSetIterable iter X.env x = pure x := by intro _; rfl) :
    EvF X W (.ListComp e [⟨tg, iter, ifs, 0⟩] scope pos) (mCompL ml g t m (own.map (·.2))) :=
  PE.imp (pe_lc (g := tG X.K (own.map (·.2)) g) (tt := tM X.K reB W0 t) (te := tM X.K (reD X.K) W0 m) hc hN hi ok hg ht he hs) fun σ H Q h => tM.lcL h
theorem ps_setCL {i : Nat} {y : Str} {py spos : Pos} {scope : Scope} {own : List (Str × Nat)} {g : SG} {ifs : List Expr} {sm : SA → SE} (hsm : ∀ σ H Q, tM X.K (reD X.K) W (sm (mCompL ml g t m (own.map (·.2)))) σ H Q → tM X.K (reN X.K) W (mCompL ml g t m (own.map (·.2))) σ H Q)
    (hc : X.calm = true) (hN : X.N.Nodup) (hi : EvIL X W tg iter ml) (ok : BlkOk X.N X.env.scope scope own)
    (hg : ∀ (s : Shared) (H : Hp) (C : Addr) (cl : List (Str × Addr)) (fp : List Addr), EvG (X.blk s H scope (compEnvC scope cl C X.env) fp) (own.map (·.2)) tg g)
    (ht : ∀ (s : Shared) (H : Hp) (C : Addr) (cl : List (Str × Addr)) (fp : List Addr), EvT (X.blk s H scope (compEnvC scope cl C X.env) fp) W0 ifs t)
    (he : ∀ (s : Shared) (H : Hp) (C : Addr) (cl : List (Str × Addr)) (fp : List Addr), EvE (X.blk s H scope (compEnvC scope cl C X.env) fp) W0 e m)
    (hy : X.N[i]? = some y := by rfl) (hyl : X.env.scope.names.lookup y = some .local := by rfl)
    (hsw : swapsWith (.ListComp e [⟨tg, iter, ifs, 0⟩] scope pos) (some (.Name y py)) spos.line X.env = pure true := by exact sw_true rfl rfl rfl (by decide +kernel))
    (hs : ∀ x, foldedSetIterable iter X.env x = pure x := by intro _; rfl) :
    EvS X W (.Assign [.Name y py] (.ListComp e [⟨tg, iter, ifs, 0⟩] scope pos) spos) (sSet i (sm (mCompL ml g t m (own.map (·.2))))) :=
  PS.imp (ps_setLc (own := own) (g := tG X.K (own.map (fun p : Str × Nat => p.2)) g) (tt := tM X.K reB W0 t) (te := tM X.K (reD X.K) W0 m) hc hN hy hyl hsw hi ok hg ht he hs) fun D σ H ⟨ρ, τ, st, r0, en, o⟩ =>
    tM.lcL (hsm σ H _ (tM.goS r0 en o fun d st1 ρ1 H1 v e1 r1 en1 q o1 => o1.next r1 (en1.set q i)))
end
@[simp] theorem x_mItL {m : SE} {σ : En} {st : Store} : mItL m σ st = (m σ st).bind fun d st1 => match d with
  | .loc n => (match st1[n]? with
    | some (.lst xs) => .ok (n, xs) st1
    | _ => .no)
  | _ => .no := rfl
@[simp] theorem x_sForL {ml : En → Store → Rs (Nat × List D)} {g : SG} {b : SS} {τ : En} {st : Store} : sForL ml g b τ st = (ml τ st).go τ fun nd st1 => forS g (chkS nd.1 nd.2 b) nd.2 τ st1 := rfl
@[simp] theorem x_mCompL {ml : En → Store → Rs (Nat × List D)} {g : SG} {t : SB} {m : SE} {vs : List Nat} {τ : En} {st : Store} : mCompL ml g t m vs τ st = (ml τ st).bind fun nd st1 => compS g (chkB nd.1 nd.2 t) (chkE nd.1 nd.2 m) vs nd.2 τ st1 [] := rfl
theorem chkB_yes {n : Nat} {xs : List D} {τ : En} {st : Store} (h : st[n]? = some (.lst xs)) : chkB n xs mYes τ st = .ok true st := chkB_ok rfl h
end Fx

set_option Elab.async false
set_option linter.all false
set_option maxRecDepth 100000
set_option maxHeartbeats 4000000
namespace Fx
open PySem L2 PyProof.Rows PySem.Spec
variable [Md]
variable [Mw]
theorem tuple_mulS (l : Addr) (items : Array Value) (n : Nat) (dd : Option Addr) (sl : Array (Option Value)) (x : Int) (u : Tok) (c0 : (decide (x < -(2 ^ 63)) || decide (x ≥ 2 ^ 63)) = false) (c1 : (items.isEmpty || x == 1) = true) :
    Meets (Builtin.«tuple.__mul__» ⟨[.ref l, .int x u], []⟩) (fun _ R s => s.heap.get? l = some { cls := .type "tuple", dict := dd, data := .seq items n, slots := sl } ∧ R (.ok (.ret (Value.ref l))) s) :=
  .of_wp fun prog w A R s h => by
    obtain ⟨hp, g, d, tk, os⟩ := s
    obtain ⟨hl, h⟩ := h
    have f1 := AutoSeq1.idx_int
    wp_walk using wpAny_loadPart' hl
    repeat (first
      | (refine wpAny_ite_false (decide_eq_false (by rw [c0]; exact Bool.false_ne_true)) ?_; wp_walk using wpAny_loadPart' hl)
      | (refine wpAny_ite_true (decide_eq_true c1) ?_; wp_walk using wpAny_loadPart' hl))
    exact ⟨_, rfl, h⟩
theorem tuple_mul0 (l : Addr) (items : Array Value) (n : Nat) (dd : Option Addr) (sl : Array (Option Value)) (x : Int) (u : Tok) (c0 : (decide (x < -(2 ^ 63)) || decide (x ≥ 2 ^ 63)) = false) (c1 : (items.isEmpty || x == 1) = false) (c2 : (decide (x ≤ 0) || items.isEmpty) = true) :
    Meets (Builtin.«tuple.__mul__» ⟨[.ref l, .int x u], []⟩) (fun _ R s => s.heap.get? l = some { cls := .type "tuple", dict := dd, data := .seq items n, slots := sl } ∧
      R (.ok (.ret (Value.ref s.heap.objs.size))) { s with heap := s.heap.push { cls := Value.type "tuple", data := Data.seq #[] }, toks := s.toks }) :=
  .of_wp fun prog w A R s h => by
    obtain ⟨hp, g, d, tk, os⟩ := s
    obtain ⟨hl, h⟩ := h
    have f1 := AutoSeq1.idx_int
    wp_walk using wpAny_loadPart' hl
    repeat (first
      | (refine wpAny_ite_false (decide_eq_false (by rw [c0]; exact Bool.false_ne_true)) ?_; wp_walk using wpAny_loadPart' hl)
      | (refine wpAny_ite_false (decide_eq_false (by rw [c1]; exact Bool.false_ne_true)) ?_; wp_walk using wpAny_loadPart' hl)
      | (refine wpAny_ite_true (decide_eq_true c2) ?_; wp_walk using wpAny_loadPart' hl))
    exact ⟨_, rfl, h⟩
def rRepG (K : PySem.W.Frag) : R2 := fun x y H Q => ∃ l k xs, x = .ref l ∧ y = .int k ∧ SqT K H l xs ∧ -1000000 ≤ k ∧ k ≤ 1000000 ∧ k.toNat * xs.length ≤ 1000000 ∧ (∀ p u, H p = none → NewT u (List.replicate k.toNat xs).flatten → Q (.ref p) (upd H p u)) ∧ ((List.replicate k.toNat xs).flatten = xs → Q (.ref l) H)
section
variable {X : Cx} {W : WX}
theorem op_repG : OpR X (binaryOp .Mult) (rRepG X.K) := by
  intro pins s σ H x y v u Q I rx ry h
  obtain ⟨l, k, xs, rfl, rfl, hT, h1, h2, hz, q, q'⟩ := h
  cases rx
  obtain ⟨t, rfl⟩ := ry
  obtain ⟨its, r, ⟨⟨cls, dd, data, sl⟩, ho, hc, n, hd⟩, hs⟩ := I.tuple hT
  simp only at hc hd
  subst hc hd
  have hle : its.length = xs.length := r.length.symm
  have hsz0 : its.toArray.size = xs.length := by rw [List.size_toArray, hle]
  have c0 : (decide (k < -(2 ^ 63)) || decide (k ≥ 2 ^ 63)) = false := by
    rw [decide_eq_false (by omega), decide_eq_false (by omega)] <;> rfl
  by_cases c1 : (its.toArray.isEmpty || k == 1) = true
  · have hsame : (List.replicate k.toNat xs).flatten = xs := by
      cases xs with
      | nil => simp
      | cons a b =>
        cases its with
        | nil => simp at hle
        | cons a' b' =>
          have : k = 1 := by simpa using c1
          subst this; simp
    exact wpAny_binaryOp_repeat_ref (T := "tuple") (U := "int") (by decide) ⟨_, ho, rfl⟩ (fun s' => typeIs_int s' k t) noFill_tuple_mul F.fills_int_mul F.slot_int_rmul repeat_tuple F.slot_int_index.lookup
      (call_meets F.slot_int_rmul (typeIs_int s k t) F.entry_int_rmul (F.args_int_rmul_2 _ _) (int_rmul_tuple k t l its.toArray n dd sl)
        ⟨ho, rfl, ⟨_, ho, rfl⟩, call_meets F.slot_tuple_mul ⟨_, ho, rfl⟩ F.entry_tuple_mul (F.args_tuple_mul_2 _ _) (tuple_mulS l its.toArray n dd sl k t c0 c1) ⟨ho, ⟨.ref l, H, I, rfl, q' hsame⟩⟩⟩)
  have c1' : (its.toArray.isEmpty || k == 1) = false := by simpa using c1
  by_cases c2 : (decide (k ≤ 0) || its.toArray.isEmpty) = true
  · have hk : k ≤ 0 := by
      cases its with
      | nil => exact absurd c1' (by simp)
      | cons a b => simpa using c2
    have he : (List.replicate k.toNat xs).flatten = [] := by
      have : k.toNat = 0 := by omega
      rw [this]; rfl
    refine wpAny_binaryOp_repeat_ref (T := "tuple") (U := "int") (by decide) ⟨_, ho, rfl⟩ (fun s' => typeIs_int s' k t) noFill_tuple_mul F.fills_int_mul F.slot_int_rmul repeat_tuple F.slot_int_index.lookup
      (call_meets F.slot_int_rmul (typeIs_int s k t) F.entry_int_rmul (F.args_int_rmul_2 _ _) (int_rmul_tuple k t l its.toArray n dd sl)
        ⟨ho, rfl, ⟨_, ho, rfl⟩, call_meets F.slot_tuple_mul ⟨_, ho, rfl⟩ F.entry_tuple_mul (F.args_tuple_mul_2 _ _) (tuple_mul0 l its.toArray n dd sl k t c0 c1' c2) ⟨ho, ?_⟩⟩)
    rw [he] at q
    obtain ⟨u, nu, I2⟩ := laidT (t' := s.toks) (xs := []) I (fun b ob q => Heap.get?_push_of_some _ q) (Nat.le_refl _) (Heap.get?_push_size _ rfl) rfl fun H' => ⟨by simp, _, .nil, IsTup.new _ _⟩
    exact ⟨.ref s.heap.objs.size, _, I2, rfl, q _ _ (I.hok.fresh (Nat.le_refl _)) nu⟩
  have c2' : (decide (k ≤ 0) || its.toArray.isEmpty) = false := by simpa using c2
  have hk : 0 < k := by
    by_cases z : k ≤ 0
    · rw [decide_eq_true z] at c2'; cases c2'
    · omega
  have hm : ((its.toArray.size : Nat) : Int) * k ≤ 1000000 := by
    rw [hsz0]
    have ek : k = ((k.toNat : Nat) : Int) := by omega
    rw [ek, ← Int.natCast_mul, Nat.mul_comm]
    exact Int.ofNat_le.mpr hz
  have flen : (List.replicate k.toNat its).flatten.length ≤ sizeLine := by
    rw [PyProof.Rows.lm_len_rep_flat, hle, sizeLine_eq]
    omega
  have c4 : Builtin.Tuple.tupleTooMany (((its.toArray.size : Nat) : Int) * k) = false := by
    unfold Builtin.Tuple.tupleTooMany
    rw [sizeLine_eq]
    exact decide_eq_false (by omega)
  refine wpAny_binaryOp_repeat_ref (T := "tuple") (U := "int") (by decide) ⟨_, ho, rfl⟩ (fun s' => typeIs_int s' k t) noFill_tuple_mul F.fills_int_mul F.slot_int_rmul repeat_tuple F.slot_int_index.lookup
    (call_meets F.slot_int_rmul (typeIs_int s k t) F.entry_int_rmul (F.args_int_rmul_2 _ _) (int_rmul_tuple k t l its.toArray n dd sl)
      ⟨ho, rfl, ⟨_, ho, rfl⟩, call_meets F.slot_tuple_mul ⟨_, ho, rfl⟩ F.entry_tuple_mul (F.args_tuple_mul_2 _ _) (tuple_mulW l its.toArray n dd sl k t c0 c1' c2' (by omega) c4 (by rw [size_rep, List.size_toArray]; exact flen)) ⟨ho, ?_⟩⟩)
  rw [size_rep]
  obtain ⟨u, nu, I2⟩ := laidT (t' := s.toks) (xs := (List.replicate k.toNat xs).flatten) I (fun b ob q => Heap.get?_push_of_some _ q) (Nat.le_refl _) (Heap.get?_push_size _ rfl) rfl fun H' => ⟨by rw [PyProof.Rows.lm_len_rep_flat, sizeLine_eq]; omega, _, r.rep k.toNat, IsTup.new _ _⟩
  exact ⟨.ref s.heap.objs.size, _, I2, rfl, q _ _ (I.hok.fresh (Nat.le_refl _)) nu⟩
theorem ex_repG : ∃ f : Nat → Int → Bool, ∀ n k, f n k = true ↔ (-1000000 ≤ k ∧ k ≤ 1000000 ∧ k.toNat * n ≤ 1000000) := ⟨fun n k => decide (-1000000 ≤ k ∧ k ≤ 1000000 ∧ k.toNat * n ≤ 1000000), fun i j => decide_eq_true_iff⟩
noncomputable def repG : Nat → Int → Bool := ex_repG.choose
theorem repG_iff {n : Nat} {k : Int} : repG n k = true ↔ (-1000000 ≤ k ∧ k ≤ 1000000 ∧ k.toNat * n ≤ 1000000) := ex_repG.choose_spec n k
noncomputable def fMulG : D → D → Store → Rs D := fun x y st => match x, y with
  | .int i, .int j => if mulFits i j = true then .ok (.int (i * j)) st else .no
  | .tup a, .int k => if repG a.length k = true then .ok (.tup (List.replicate k.toNat a).flatten) st else .no
  | _, _ => .no
theorem opS_mulG : OpS X (binaryOp .Mult) fMulG := by
  refine ⟨_, op_mulX.or op_repG, fun W σ ρ st H x y vx vy Q r rx ry o => ?_⟩
  cases x with
  | int i =>
    cases y with
    | int j =>
      simp only [fMulG] at o
      split at o
      · rename_i h
        simp only [RelD] at rx ry
        exact .inl ⟨i, j, rx, ry, h, o.here r (by simp [reD, RelD])⟩
      · exact o.elim
    | _ => exact o.elim
  | tup a =>
    cases y with
    | int k =>
      simp only [fMulG] at o
      split at o
      · rename_i h
        have rx0 := rx
        simp only [RelD] at rx ry
        obtain ⟨p, us, rfl, hs, rs⟩ := rx
        obtain ⟨h1, h2, h3⟩ := repG_iff.mp h
        have hl := rs.len
        refine .inr ⟨p, k, us, rfl, ry, hs.sq, h1, h2, by rw [hl]; exact h3, fun q u hq nu => ?_, fun hsm => ?_⟩
        · refine o.free r hq ?_
          simp only [reD, RelD]
          refine ⟨q, _, rfl, nu.upd, ?_⟩
          have rs' : RelDs X.K ρ st.length (upd H q u) a us := RelDs.mono (r.push_ext hq) r a rs
          exact RelDs.reps rs' _
        · refine o.here r ?_
          simp only [reD, RelD]
          have q2 := RelDs.reps rs k.toNat
          rw [hsm] at q2
          exact ⟨p, us, rfl, hs, q2⟩
      · exact o.elim
    | _ => exact o.elim
  | _ => exact o.elim
@[simp] theorem x_mulGI {i j : Int} {st : Store} : fMulG (.int i) (.int j) st = if mulFits i j = true then .ok (.int (i * j)) st else .no := rfl
theorem x_mulGT {a : List D} {k : Int} {st : Store} (h1 : -1000000 ≤ k) (h2 : k ≤ 1000000) (h3 : k.toNat * a.length ≤ 1000000) : fMulG (.tup a) (.int k) st = .ok (.tup (List.replicate k.toNat a).flatten) st := by
  show (if repG a.length k = true then _ else _) = _
  rw [if_pos (repG_iff.mpr ⟨h1, h2, h3⟩)]
end
end Fx

set_option Elab.async false
set_option linter.all false
set_option maxRecDepth 100000
set_option maxHeartbeats 4000000
namespace Fx
open PySem L2
variable [Md]
variable [Mw]
variable {d : Nat}
/-! ### systems -/
def sysD (ps : List (Pm d)) : D := .tup [.int (d : Int), rD ps]
structure Sys (ps : List (Pm d)) : Prop where
  few : d ≤ 24
  rank : ps.length ≤ 12
theorem fIx0 {ps : List (Pm d)} {st : Store} : fIx (sysD ps) (.int 0) st = .ok (.int (d : Int)) st := by
  rw [sysD, x_ixT]; rfl
theorem fIx1 {ps : List (Pm d)} {st : Store} : fIx (sysD ps) (.int 1) st = .ok (rD ps) st := by
  rw [sysD, x_ixT, show atI [D.int (d : Int), rD ps] 1 = some (rD ps) from atI_nat (j := 1) rfl]
theorem fLen_rD {ps : List (Pm d)} {st : Store} : fLen [rD ps] st = .ok (.int (ps.length : Int)) st := by simp [rD]
@[simp] theorem lf_sysD {ps : List (Pm d)} : lf (sysD ps) = true := by simp [sysD]
theorem fl_sysD {ps : List (Pm d)} : Fl 3 (sysD ps) := Fl.tup fun x hx => by
  simp only [List.mem_cons, List.not_mem_nil, or_false] at hx
  rcases hx with rfl | rfl
  · exact Fl.int
  · exact fl_rD _
theorem ne_tp {p : Pm d} {st : Store} : fNe (tp p) (tp p) st = .ok (.bl false) st := fNe_self (fl_tp p)
theorem ne_sysD {ps : List (Pm d)} {st : Store} : fNe (sysD ps) (sysD ps) st = .ok (.bl false) st := fNe_self fl_sysD
/-! ### steps with a post condition -/
theorem RTs_post {a b : SS} {τ : En} {st S : Store} {v : D} (Φ : En → Store → Prop) (h : ∃ τ1 st1, a τ st = .nx τ1 st1 ∧ Φ τ1 st1) (k : ∀ τ1 st1, Φ τ1 st1 → b τ1 st1 = .rt v S) : sSeq a b τ st = .rt v S := by
  obtain ⟨τ1, st1, e, hΦ⟩ := h
  rw [x_sSeq, e, Rt.seq_nx]
  exact k _ _ hΦ
theorem NX_post {a b : SS} {τ : En} {st : Store} {Φ : En → Store → Prop} (Ψ : En → Store → Prop) (h : ∃ τ1 st1, a τ st = .nx τ1 st1 ∧ Ψ τ1 st1) (k : ∀ τ1 st1, Ψ τ1 st1 → ∃ τ2 st2, b τ1 st1 = .nx τ2 st2 ∧ Φ τ2 st2) : ∃ τ2 st2, sSeq a b τ st = .nx τ2 st2 ∧ Φ τ2 st2 := by
  obtain ⟨τ1, st1, e, hΨ⟩ := h
  rw [x_sSeq, e, Rt.seq_nx]
  exact k _ _ hΨ
theorem NX_if {t : SB} {a b : SS} {τ : En} {st st1 : Store} {Φ : En → Store → Prop} (h : t τ st = .ok true st1) (k : ∃ τ2 st2, a τ st1 = .nx τ2 st2 ∧ Φ τ2 st2) : ∃ τ2 st2, sIf t a b τ st = .nx τ2 st2 ∧ Φ τ2 st2 := by
  obtain ⟨τ2, st2, e, hΦ⟩ := k
  exact ⟨τ2, st2, by rw [x_sIf, h]; exact e, hΦ⟩
/-- the turn x -> x + 1 mod d -/
def shift (d : Nat) (hd : 0 < d) : Pm d where
  f := fun x => if x < d then (x + 1) % d else x
  b := fun x => if x < d then (x + (d - 1)) % d else x
  fb := fun x => by
    by_cases h : x < d
    · have h2 : (x + (d - 1)) % d < d := Nat.mod_lt _ hd
      simp only [h, h2, if_true]
      rw [Nat.mod_add_mod, show x + (d - 1) + 1 = x + d by omega, Nat.add_mod_right, Nat.mod_eq_of_lt h]
    · simp only [h, if_false]
  bf := fun x => by
    by_cases h : x < d
    · have h2 : (x + 1) % d < d := Nat.mod_lt _ hd
      simp only [h, h2, if_true]
      rw [Nat.mod_add_mod, show x + 1 + (d - 1) = x + d by omega, Nat.add_mod_right, Nat.mod_eq_of_lt h]
    · simp only [h, if_false]
  out := fun x h => by
    have : ¬ x < d := by omega
    simp only [this, if_false]
theorem comp_f {p : Pm d} {m : SE} {g : SG} {vs : List Nat} {τ : En} {st : Store} (hd : d ≤ 1000) (h : ∀ x, x < d → ∃ τ1, g (nD x) (wipeE τ vs) = some τ1 ∧ m τ1 st = .ok (nD (p.f x)) st) : compS g mYes m vs ((List.range d).map nD) τ st [] = .ok (p.list.map nD) st := by
  rw [compS_mapL (h := nD) (f := fun x => nD (p.f x))]
  · simp [Pm.list, Function.comp_def]
  · intro x hx
    rw [List.mem_range] at hx
    obtain ⟨τ1, e1, e2⟩ := h x hx
    exact ⟨τ1, e1, rfl, e2⟩
  · simpa using small hd
/-! ### judging permutations and systems -/
theorem permL_ints : ∀ {n : Nat} {seen : List Int} {xs : List D}, permL n seen xs = true → ∃ ns : List Int, xs = ns.map D.int ∧ (∀ i ∈ ns, 0 ≤ i ∧ i < n ∧ i ∉ seen) ∧ ns.Nodup
  | n, seen, [], _ => ⟨[], rfl, fun _ h => (by cases h), .nil⟩
  | n, seen, x :: xs, h => by
    cases x with
    | int i =>
      rw [permL] at h
      split at h
      · cases h
      · rename_i hc
        obtain ⟨ns, rfl, h1, h2⟩ := permL_ints h
        refine ⟨i :: ns, rfl, fun j hj => ?_, List.nodup_cons.mpr ⟨fun z => (h1 i z).2.2 (by simp), h2⟩⟩
        rcases List.mem_cons.mp hj with rfl | hj
        · refine ⟨by omega, by omega, fun z => hc (.inr (.inr z))⟩
        · obtain ⟨a, b, c⟩ := h1 j hj
          exact ⟨a, b, fun z => c (List.mem_append_left _ z)⟩
    | _ => simp [permL] at h
theorem permL_of : ∀ {n : Nat} {seen ns : List Int}, (∀ i ∈ ns, 0 ≤ i ∧ i < n ∧ i ∉ seen) → ns.Nodup → permL n seen (ns.map D.int) = true
  | n, seen, [], _, _ => rfl
  | n, seen, i :: ns, h, hn => by
    obtain ⟨h1, h2⟩ := List.nodup_cons.mp hn
    obtain ⟨a, b, c⟩ := h i List.mem_cons_self
    rw [List.map_cons, permL, if_neg (by rintro (z | z | z) <;> first | omega | exact c z)]
    refine permL_of (fun j hj => ?_) h2
    obtain ⟨a', b', c'⟩ := h j (List.mem_cons_of_mem _ hj)
    refine ⟨a', b', fun z => ?_⟩
    rcases List.mem_append.mp z with z | z
    · exact c' z
    · rw [List.mem_singleton] at z; subst z; exact h1 hj
theorem nodup_len : ∀ {l D : List Nat}, l.Nodup → (∀ x ∈ l, x ∈ D) → l.length ≤ D.length
  | [], _, _, _ => Nat.zero_le _
  | x :: l, D, h, hs => by
    obtain ⟨h1, h2⟩ := List.nodup_cons.mp h
    have hx := hs x List.mem_cons_self
    have := nodup_len (D := D.erase x) h2 fun y hy => (List.mem_erase_of_ne (fun e => h1 (by rw [← e]; exact hy))).mpr (hs y (List.mem_cons_of_mem _ hy))
    rw [List.length_erase_of_mem hx] at this
    have hp : 0 < D.length := List.length_pos_of_mem hx
    simp only [List.length_cons]; omega
theorem nodup_all {l D : List Nat} (h : l.Nodup) (hs : ∀ x ∈ l, x ∈ D) (hl : D.length ≤ l.length) : ∀ x ∈ D, x ∈ l := by
  intro x hx
  by_cases c : x ∈ l
  · exact c
  · have := nodup_len (D := D.erase x) h fun y hy => (List.mem_erase_of_ne (fun e => c (by rw [← e]; exact hy))).mpr (hs y hy)
    rw [List.length_erase_of_mem hx] at this
    have hp : 0 < D.length := List.length_pos_of_mem hx
    omega
theorem nodup_perm {l D : List Nat} (h : l.Nodup) (hD : D.Nodup) (hs : ∀ x ∈ l, x ∈ D) (hl : D.length ≤ l.length) : l.Perm D :=
  (List.perm_ext_iff_of_nodup h hD).2 fun x => ⟨hs x, nodup_all h hs hl x⟩
theorem isP_inv {x : D} (h : isP x = true) : ∃ (d : Nat) (p : Pm d), x = tp p ∧ lenD x = d := by
  obtain ⟨ys, rfl⟩ := isP_tup h
  have h' : permL ys.length [] ys = true := h
  obtain ⟨ns, rfl, h1, h2⟩ := permL_ints h'
  rw [List.length_map] at h1
  have hl : ∃ l : List Nat, ns = l.map fun (k : Nat) => (k : Int) := ⟨ns.map Int.toNat, by
    rw [List.map_map]
    refine (List.map_id ns).symm.trans (List.map_congr_left fun i hi => ?_)
    have := (h1 i hi).1
    simp only [id_eq, Function.comp_apply]; omega⟩
  obtain ⟨l, rfl⟩ := hl
  rw [List.length_map] at h1
  have hnd : l.Nodup := List.Pairwise.of_map (fun (k : Nat) => (k : Int)) (fun a b hne e => hne (by rw [e])) h2
  have hp : l.Perm (List.range l.length) := by
    refine nodup_perm hnd List.nodup_range (fun x hx => ?_) (by simp)
    have := (h1 (x : Int) (List.mem_map.mpr ⟨x, hx, rfl⟩)).2.1
    rw [List.mem_range]; omega
  refine ⟨l.length, Pm.ofList l hp, ?_, by simp [lenD]⟩
  rw [tp, Pm.ofList_list, lD, List.map_map]; rfl
def sysB (x : D) : Bool := match x with
  | .tup [.int n, .tup ps] => decide (0 ≤ n ∧ n ≤ 24) && (decide (ps.length ≤ 12) && ps.all fun p => isP p && decide ((lenD p : Int) = n))
  | _ => false
theorem sysB_inv {x : D} (h : sysB x = true) : ∃ (d : Nat) (ps : List (Pm d)), x = sysD ps ∧ Sys ps := by
  unfold sysB at h
  split at h
  · rename_i n ps
    simp only [Bool.and_eq_true, decide_eq_true_eq, List.all_eq_true] at h
    obtain ⟨⟨h0, h1⟩, h2, h3⟩ := h
    obtain ⟨d, rfl⟩ : ∃ d : Nat, n = (d : Int) := ⟨n.toNat, by omega⟩
    have key : ∀ l : List D, (∀ p ∈ l, isP p = true ∧ (lenD p : Int) = (d : Int)) → ∃ qs : List (Pm d), l = qs.map tp := by
      intro l
      induction l with
      | nil => exact fun _ => ⟨[], rfl⟩
      | cons p l ih =>
        intro hl
        obtain ⟨qs, rfl⟩ := ih fun q hq => hl q (List.mem_cons_of_mem _ hq)
        obtain ⟨a, b⟩ := hl p List.mem_cons_self
        obtain ⟨e, q, rfl, hq⟩ := isP_inv a
        rw [hq] at b
        have : e = d := by omega
        subst this
        exact ⟨q :: qs, rfl⟩
    obtain ⟨qs, rfl⟩ := key ps h3
    exact ⟨d, qs, rfl, by omega, by simpa using h2⟩
  · cases h
theorem sysB_sysD {ps : List (Pm d)} (h : Sys ps) : sysB (sysD ps) = true := by
  have h1 := h.few
  have h2 := h.rank
  simp only [sysD, rD, sysB, Bool.and_eq_true, decide_eq_true_eq, List.all_eq_true, List.length_map]
  refine ⟨by omega, h2, fun x hx => ?_⟩
  obtain ⟨p, _, rfl⟩ := List.mem_map.mp hx
  exact ⟨isP_tp p, by rw [lenD_tp]⟩
end Fx

set_option Elab.async false
set_option linter.all false
set_option maxRecDepth 100000
set_option maxHeartbeats 4000000
namespace Fx
open PySem L2
variable [Md]
variable [Mw]
variable {d : Nat}
/-! ### two places of a store -/
def two (st : Store) (L m : Nat) (X Y : O) : Store := (st.set L X).set m Y
section
variable {st : Store} {L m : Nat} {X Y X' Y' : O}
theorem two_L (h : L ≠ m) (hl : L < st.length) : (two st L m X Y)[L]? = some X := by
  rw [two, List.getElem?_set_ne (Ne.symm h), List.getElem?_set_self hl]
theorem two_m (hm : m < st.length) : (two st L m X Y)[m]? = some Y := by
  rw [two, List.getElem?_set_self (by simpa using hm)]
theorem two_setL (h : L ≠ m) : (two st L m X Y).set L X' = two st L m X' Y := by
  rw [two, List.set_comm _ _ (Ne.symm h), List.set_set]; rfl
theorem two_setm : (two st L m X Y).set m Y' = two st L m X Y' := by rw [two, List.set_set]; rfl
end
/-! ### the walk over the sheets, in plain Lean -/
def vis (x : Nat) (σ : List Nat × List Nat) (p : Pm d) : List Nat × List Nat := if p.f x ∈ σ.1 then σ else (σ.1 ++ [p.f x], σ.2 ++ [p.f x])
def bfs (ps : List (Pm d)) : Nat → Nat → List Nat × List Nat → List Nat × List Nat
  | 0, _, σ => σ
  | n + 1, k, σ => match σ.2[k]? with
    | none => σ
    | some x => bfs ps n (k + 1) (ps.foldl (vis x) σ)
def out1 (ps : List (Pm d)) (t : List Nat × List (List Nat)) (x : Nat) : List Nat × List (List Nat) :=
  if x ∈ t.1 then t else ((bfs ps d 0 (t.1 ++ [x], [x])).1, t.2 ++ [(bfs ps d 0 (t.1 ++ [x], [x])).2])
def parts (ps : List (Pm d)) : List (List Nat) := ((List.range d).foldl (out1 ps) ([], [])).2
structure Inv2 (d : Nat) (σ : List Nat × List Nat) : Prop where
  nd : σ.1.Nodup
  lt : ∀ x ∈ σ.1, x < d
  nd2 : σ.2.Nodup
  sub : ∀ x ∈ σ.2, x ∈ σ.1
theorem Inv2.len {σ : List Nat × List Nat} (h : Inv2 d σ) : σ.1.length ≤ d := by
  have := nodup_len (D := List.range d) h.nd fun x hx => List.mem_range.mpr (h.lt x hx)
  simpa using this
theorem Inv2.len2 {σ : List Nat × List Nat} (h : Inv2 d σ) : σ.2.length ≤ d := by
  have := nodup_len (D := List.range d) h.nd2 fun x hx => List.mem_range.mpr (h.lt x (h.sub x hx))
  simpa using this
theorem nodup_snoc {l : List Nat} {y : Nat} (h : l.Nodup) (hy : y ∉ l) : (l ++ [y]).Nodup :=
  List.nodup_append.mpr ⟨h, by simp, fun a ha b hb => by rw [List.mem_singleton] at hb; subst hb; exact fun e => hy (e ▸ ha)⟩
theorem Inv2.vis {σ : List Nat × List Nat} (h : Inv2 d σ) {x : Nat} (hx : x < d) (p : Pm d) : Inv2 d (vis x σ p) := by
  unfold Fx.vis
  split
  · exact h
  · rename_i hy
    refine ⟨nodup_snoc h.nd hy, fun z hz => ?_, nodup_snoc h.nd2 fun z => hy (h.sub _ z), fun z hz => ?_⟩
    · rcases List.mem_append.mp hz with hz | hz
      · exact h.lt z hz
      · rw [List.mem_singleton] at hz; subst hz; exact p.lt hx
    · rcases List.mem_append.mp hz with hz | hz
      · exact List.mem_append_left _ (h.sub z hz)
      · exact List.mem_append_right _ hz
theorem Inv2.fold {x : Nat} (hx : x < d) : ∀ (qs : List (Pm d)) {σ : List Nat × List Nat}, Inv2 d σ → Inv2 d (qs.foldl (Fx.vis x) σ)
  | [], _, h => h
  | p :: qs, _, h => Inv2.fold hx qs (h.vis hx p)
theorem vis_get {x k y : Nat} {p : Pm d} {σ : List Nat × List Nat} (h : σ.2[k]? = some y) : (vis x σ p).2[k]? = some y := by
  unfold vis
  split
  · exact h
  · rw [List.getElem?_append_left (List.getElem?_eq_some_iff.mp h).1]; exact h
theorem fold_get {x k y : Nat} : ∀ (qs : List (Pm d)) {σ : List Nat × List Nat}, σ.2[k]? = some y → (qs.foldl (vis x) σ).2[k]? = some y
  | [], _, h => h
  | p :: qs, _, h => fold_get qs (vis_get h)
theorem Inv2.bfs {ps : List (Pm d)} : ∀ (n k : Nat) {σ : List Nat × List Nat}, Inv2 d σ → Inv2 d (bfs ps n k σ)
  | 0, _, _, h => h
  | n + 1, k, σ, h => by
    rw [Fx.bfs]
    split
    · exact h
    · rename_i x hx
      exact Inv2.bfs n (k + 1) (h.fold (h.lt x (h.sub x (List.mem_of_getElem? hx))) ps)
/-- a part as it is told -/
def partD (l : List Nat) : D := .tup ((sortI (l.map fun (k : Nat) => (k : Int))).map D.int)
@[simp] theorem lf_partD {l : List Nat} : lf (partD l) = true := by simp [partD, List.all_map]
theorem x_sortedLoc {st : Store} {m : Nat} {l : List Nat} (h : st[m]? = some (.lst (l.map nD))) : fSorted [.loc m] st = .ok ((sortI (l.map fun (k : Nat) => (k : Int))).map D.int) st := by
  have e : l.map nD = (l.map fun (k : Nat) => (k : Int)).map D.int := by rw [List.map_map]; rfl
  rw [e] at h
  unfold fSorted onInts
  simp only [Fx.listOf, h, intsOf_map]
def seenO (d : Nat) (seen : List Nat) : O := .lst ((List.range d).map fun z => D.bl (decide (z ∈ seen)))
def seenK (seen : List Nat) : O := .dk (kvI (seen.map fun (k : Nat) => (k : Int)))
theorem seenO_get {st : Store} {L y : Nat} {seen : List Nat} (h : st[L]? = some (seenO d seen)) (hy : y < d) : fIx (.loc L) (nD y) st = .ok (.bl (decide (y ∈ seen))) st := by
  rw [nD, x_ixLoc h, atI_nat (by rw [List.getElem?_map, List.getElem?_range hy]; rfl)]
theorem seenO_set {st : Store} {L y : Nat} {seen : List Nat} (h : st[L]? = some (seenO d seen)) (hy : y < d) : fSetL (.loc L) (nD y) (.bl true) st = some (st.set L (seenO d (seen ++ [y]))) := by
  rw [nD, x_setLoc h (by simpa using hy)]
  congr 2
  unfold seenO
  congr 1
  refine List.ext_getElem (by simp) fun n h1 h2 => ?_
  have hn : n < d := by simpa using h2
  rw [List.getElem_set]
  by_cases e : y = n
  · subst e; simp
  · rw [if_neg e]
    have : ¬ n = y := fun z => e z.symm
    simp [this]
theorem mem_cast {y : Nat} {l : List Nat} : ((y : Int) ∈ l.map fun (k : Nat) => (k : Int)) = (y ∈ l) := by
  refine propext ⟨fun h => ?_, fun h => List.mem_map.mpr ⟨y, h, rfl⟩⟩
  obtain ⟨a, ha, e⟩ := List.mem_map.mp h
  have : a = y := by omega
  rw [← this]; exact ha
theorem seenK_in {st : Store} {L y : Nat} {seen : List Nat} (h : st[L]? = some (seenK seen)) : fDIn true (nD y) (.loc L) st = .ok (.bl (decide (y ∈ seen))) st := by
  rw [nD, fDIn_dk h]
  congr 3
  rw [mem_cast]
theorem fDIn_not {x y : D} {st st' : Store} {b : Bool} (h : fDIn true x y st = .ok (.bl b) st') : fDIn false x y st = .ok (.bl (!b)) st' := by
  unfold fDIn at h ⊢
  revert h
  rcases dGet y x st with _ | (_ | _)
  · intro h; cases h
  · intro h; cases h; rfl
  · intro h; cases h; rfl
theorem seenK_set {st : Store} {L y : Nat} {seen : List Nat} (h : st[L]? = some (seenK seen)) (hy : y ∉ seen) (hl : seen.length ≤ 900) : fSetD (.loc L) (nD y) (.bl true) st = some (st.set L (seenK (seen ++ [y]))) := by
  rw [nD, fSetD_dk h (by rw [mem_cast]; exact hy) (small1000 (by simp; omega))]
  simp [seenK]
end Fx

set_option Elab.async false
set_option linter.all false
set_option maxRecDepth 100000
set_option maxHeartbeats 4000000
namespace Fx
open PySem L2
variable [Md]
variable [Mw]
section
variable {X : Cx} {W : WX} {a e1 : Expr} {m : SE} {p p1 kp pos : Pos} {j : Nat}
noncomputable def fSortR : FB (List D) := onInts fun ns => ((sortI ns).reverse).map D.int
theorem ef_sortedRev (hm : X.mg "sorted" = none) (ha : EvE X W a m) (hg : Gl X "sorted" := by rfl)
    (na : starEach [a] X.env = (false, eval a X.env) :: starEach [] X.env := by rfl)
    (he : backTo pos (starEach [a] X.env) = (false, eval a X.env) :: backTo pos (starEach [] X.env) := by rfl) (hpl : (backTo pos (starEach [a] X.env)).any (·.1) = false := by rfl)
    (hall : (backToKw pos (keywordEach [⟨some "reverse", .Constant (.bool true) j p1, kp⟩] X.env)).all (·.1.isSome) = true := by rfl) (hnone : (backToKw pos (keywordEach [⟨some "reverse", .Constant (.bool true) j p1, kp⟩] X.env)).any (·.1.isNone) = false := by rfl) (hks : (backToKw pos (keywordEach [⟨some "reverse", .Constant (.bool true) j p1, kp⟩] X.env)).filterMap (·.1) = [Str.ofString "reverse"] := by rfl) :
    EvF X W (.Call (.Name "sorted" p) [a] [⟨some "reverse", .Constant (.bool true) j p1, kp⟩] pos) (mFn fSortR (mCons m mNil)) :=
  PE.imp (pe_callBK (cr_sortedRev (b := true)) hg hm PyProof.Rows.boot_sorted (ea_cons ha ea_nil na) (pk_cons pe_bl pk_nil) (by decide) (by decide) he hpl hall hnone hks) fun σ H Q ⟨ρ, τ, st, r0, en, o⟩ => by
    refine tM.bind (Ra := reL X.K) r0 en (show Out X.K (reN X.K) W σ ρ st.length H Q ((mCons m mNil τ st).bind fSortR) from o) fun ds st1 ρ1 H1 vs e1 r1 en1 rv o1 => ?_
    obtain ⟨d, bs, rfl, hx, e⟩ := onInts_ok (fun z => by rw [fSortR, z] at o1; exact o1)
    rw [fSortR, e] at o1
    obtain ⟨v, rfl, rd⟩ := rv.one
    obtain ⟨a, us, rfl, h, ru⟩ := listOf_rel r1 rd hx
    rw [ru.ints] at h
    refine ⟨a, bs, rfl, rfl, h, fun ns' q h1 h2 hp => ?_⟩
    have h2' : ns'.Pairwise (· ≥ ·) := h2
    have e' : ns' = (sortI bs).reverse := by
      have : ns'.reverse = sortI bs := sorted_uniq (((List.reverse_perm _).trans h1).trans (sortI_perm bs).symm) (by rw [List.pairwise_reverse]; exact h2') (sortI_sorted bs)
      rw [← this, List.reverse_reverse]
    subst e'
    exact Out.fresh r1 o1 hp RelDs.ints'
theorem x_sortR {ns : List Int} {st : Store} : fSortR [.lst (ns.map D.int)] st = .ok (((sortI ns).reverse).map D.int) st := by
  unfold fSortR onInts
  simp only [Fx.listOf, intsOf_map]
end
end Fx

set_option Elab.async false
set_option linter.all false
set_option maxRecDepth 100000
set_option maxHeartbeats 4000000
namespace Fx
open PySem L2
variable [Md]
variable [Mw]
variable {d : Nat}
/-! ### the cycles of a permutation, in plain Lean -/
def ring (p : Pm d) : Nat → List Nat → Nat → List Nat
  | 0, _, _ => []
  | n + 1, seen, y => if y ∈ seen then [] else y :: ring p n (seen ++ [y]) (p.f y)
def cyc1 (p : Pm d) (t : List Nat × List (List Nat)) (x : Nat) : List Nat × List (List Nat) :=
  if x ∈ t.1 then t else (t.1 ++ ring p d t.1 x, t.2 ++ [ring p d t.1 x])
def cycs (p : Pm d) : List (List Nat) := ((List.range d).foldl (cyc1 p) ([], [])).2
/-- a list that p runs along -/
def Along (p : Pm d) : List Nat → Prop
  | a :: b :: r => p.f a = b ∧ Along p (b :: r)
  | _ => True
theorem ring_nil {p : Pm d} {n : Nat} {seen : List Nat} {y : Nat} (h : y ∈ seen) : ring p n seen y = [] := by
  cases n with
  | zero => rfl
  | succ n => rw [ring, if_pos h]
theorem ring_cons {p : Pm d} {n : Nat} {seen : List Nat} {y : Nat} (h : y ∉ seen) : ring p (n + 1) seen y = y :: ring p n (seen ++ [y]) (p.f y) := by rw [ring, if_neg h]
theorem ring_lt {p : Pm d} : ∀ {n : Nat} {seen : List Nat} {y : Nat}, y < d → ∀ z ∈ ring p n seen y, z < d
  | 0, _, _, _, z, h => by cases h
  | n + 1, seen, y, hy, z, h => by
    rw [ring] at h
    split at h
    · cases h
    · rcases List.mem_cons.mp h with rfl | h
      · exact hy
      · exact ring_lt (p.lt hy) z h
theorem ring_new {p : Pm d} : ∀ {n : Nat} {seen : List Nat} {y : Nat}, ∀ z ∈ ring p n seen y, z ∉ seen
  | 0, _, _, z, h => by cases h
  | n + 1, seen, y, z, h => by
    rw [ring] at h
    split at h
    · cases h
    · rename_i hy
      rcases List.mem_cons.mp h with rfl | h
      · exact hy
      · exact fun hz => ring_new z h (List.mem_append_left _ hz)
theorem ring_nodup {p : Pm d} : ∀ {n : Nat} {seen : List Nat} {y : Nat}, (ring p n seen y).Nodup
  | 0, _, _ => .nil
  | n + 1, seen, y => by
    rw [ring]
    split
    · exact .nil
    · refine List.nodup_cons.mpr ⟨fun h => ring_new y h (by simp), ring_nodup⟩
theorem ring_along {p : Pm d} : ∀ {n : Nat} {seen : List Nat} {y : Nat}, Along p (ring p n seen y)
  | 0, _, _ => trivial
  | n + 1, seen, y => by
    rw [ring]
    split
    · trivial
    · have ih := ring_along (p := p) (n := n) (seen := seen ++ [y]) (y := p.f y)
      cases n with
      | zero => trivial
      | succ n =>
        by_cases c : p.f y ∈ seen ++ [y]
        · rw [ring_nil c]; trivial
        · rw [ring_cons c] at ih ⊢
          exact ⟨rfl, ih⟩
/-- where a ring ends -/
theorem ring_last {p : Pm d} : ∀ {n : Nat} {seen : List Nat} {y : Nat}, y < d → seen.Nodup → (∀ x ∈ seen, x < d) → d ≤ seen.length + n → y ∉ seen → ∃ z, (ring p n seen y).getLast? = some z ∧ p.f z ∈ seen ++ ring p n seen y
  | 0, seen, y, hy, hn, hl, hd, hs => by
    exact absurd (nodup_all (D := List.range d) hn (fun x hx => List.mem_range.mpr (hl x hx)) (by simp; omega) y (List.mem_range.mpr hy)) hs
  | n + 1, seen, y, hy, hn, hl, hd, hs => by
    rw [ring_cons hs]
    by_cases c : p.f y ∈ seen ++ [y]
    · rw [ring_nil c]
      exact ⟨y, rfl, c⟩
    · obtain ⟨z, h1, h2⟩ := ring_last (p := p) (n := n) (seen := seen ++ [y]) (y := p.f y) (p.lt hy) (nodup_snoc hn hs) (fun x hx => by
        rcases List.mem_append.mp hx with hx | hx
        · exact hl x hx
        · rw [List.mem_singleton] at hx; omega) (by simp; omega) c
      refine ⟨z, ?_, by simpa using h2⟩
      rw [List.getLast?_cons, h1]; rfl
/-- a set of sheets that p leads into itself -/
def Shut (p : Pm d) (seen : List Nat) : Prop := ∀ x ∈ seen, p.f x ∈ seen
theorem map_nodup {p : Pm d} {l : List Nat} (h : l.Nodup) : (l.map p.f).Nodup := List.Pairwise.map p.f (fun a b hne e => hne (p.inj e)) h
theorem Shut.back {p : Pm d} {seen : List Nat} (h : Shut p seen) (hn : seen.Nodup) {x : Nat} (hx : p.f x ∈ seen) : x ∈ seen := by
  have := nodup_all (map_nodup (p := p) hn) (fun y hy => by
    obtain ⟨z, hz, rfl⟩ := List.mem_map.mp hy; exact h z hz) (by simp) _ hx
  obtain ⟨z, hz, e⟩ := List.mem_map.mp this
  rw [← p.inj e]; exact hz
theorem along_prev {p : Pm d} : ∀ {a : Nat} {r : List Nat}, Along p (a :: r) → ∀ w ∈ r, ∃ v ∈ (a :: r).dropLast, p.f v = w
  | a, [], _, w, hw => by cases hw
  | a, b :: r, h, w, hw => by
    rw [List.dropLast_cons₂]
    rcases List.mem_cons.mp hw with rfl | hw
    · exact ⟨a, List.mem_cons_self, h.1⟩
    · obtain ⟨v, hv, e⟩ := along_prev h.2 w hw
      exact ⟨v, List.mem_cons_of_mem _ hv, e⟩
theorem along_next {p : Pm d} : ∀ {a : Nat} {r : List Nat}, Along p (a :: r) → ∀ v ∈ (a :: r).dropLast, p.f v ∈ r
  | a, [], _, v, hv => by cases hv
  | a, b :: r, h, v, hv => by
    rw [List.dropLast_cons₂] at hv
    rcases List.mem_cons.mp hv with rfl | hv
    · rw [h.1]; exact List.mem_cons_self
    · exact List.mem_cons_of_mem _ (along_next h.2 v hv)
/-- a cycle: p runs along it and from its end to its beginning -/
structure Cyc (p : Pm d) (c : List Nat) : Prop where
  al : Along p c
  ends : ∃ a r z, c = a :: r ∧ c.getLast? = some z ∧ p.f z = a
structure CInv (p : Pm d) (t : List Nat × List (List Nat)) : Prop where
  fl : t.2.flatten = t.1
  nd : t.1.Nodup
  lt : ∀ x ∈ t.1, x < d
  sh : Shut p t.1
  cy : ∀ c ∈ t.2, Cyc p c
theorem last_split {l : List Nat} {z : Nat} (h : l.getLast? = some z) : l = l.dropLast ++ [z] := by
  cases l with
  | nil => simp at h
  | cons a r =>
    have h1 : (a :: r).getLast (by simp) = z := by
      rw [List.getLast?_eq_some_getLast (by simp)] at h
      exact Option.some.inj h
    rw [← h1]
    exact (List.dropLast_concat_getLast (by simp)).symm
theorem CInv.step {p : Pm d} {t : List Nat × List (List Nat)} (h : CInv p t) {x : Nat} (hx : x < d) : CInv p (cyc1 p t x) := by
  rw [cyc1]
  split
  · exact h
  · rename_i hs
    have hd : d ≤ t.1.length + d := by omega
    obtain ⟨z, hz, hzm⟩ := ring_last (p := p) (n := d) hx h.nd h.lt hd hs
    obtain ⟨n, hdn⟩ : ∃ n, d = n + 1 := ⟨d - 1, by omega⟩
    obtain ⟨r, hr⟩ : ∃ r, ring p d t.1 x = x :: r := ⟨ring p n (t.1 ++ [x]) (p.f x), by
      have := ring_cons (p := p) (n := n) hs
      rw [← this]; congr 1⟩
    have hal := ring_along (p := p) (n := d) (seen := t.1) (y := x)
    have hnd := ring_nodup (p := p) (n := d) (seen := t.1) (y := x)
    have hnew := ring_new (p := p) (n := d) (seen := t.1) (y := x)
    have hlt := ring_lt (p := p) (n := d) (seen := t.1) hx
    rw [hr] at hz hzm hal hnd hnew hlt ⊢
    have hspl := last_split hz
    have hzr : z ∈ x :: r := by rw [hspl]; simp
    have hcl : p.f z = x := by
      rcases List.mem_append.mp hzm with hm | hm
      · exact absurd (h.sh.back h.nd hm) (hnew z hzr)
      · rcases List.mem_cons.mp hm with hm | hm
        · exact hm
        · obtain ⟨v, hv, e⟩ := along_prev hal _ hm
          have := p.inj e
          subst this
          rw [hspl] at hnd
          exact absurd rfl ((List.nodup_append.mp hnd).2.2 v hv v (by simp))
    refine ⟨by simp [h.fl], ?_, fun y hy => ?_, fun y hy => ?_, fun c hc => ?_⟩
    · exact List.nodup_append.mpr ⟨h.nd, hnd, fun a ha b hb e => hnew b hb (e ▸ ha)⟩
    · rcases List.mem_append.mp hy with hy | hy
      · exact h.lt y hy
      · exact hlt y hy
    · rcases List.mem_append.mp hy with hy | hy
      · exact List.mem_append_left _ (h.sh y hy)
      · refine List.mem_append_right _ ?_
        rw [hspl] at hy
        rcases List.mem_append.mp hy with hy | hy
        · exact List.mem_cons_of_mem _ (along_next hal y hy)
        · rw [List.mem_singleton] at hy
          rw [hy, hcl]; exact List.mem_cons_self
    · rcases List.mem_append.mp hc with hc | hc
      · exact h.cy c hc
      · rw [List.mem_singleton] at hc
        subst hc
        exact ⟨hal, x, r, z, rfl, hz, hcl⟩
theorem CInv.fold {p : Pm d} : ∀ (l : List Nat) {t : List Nat × List (List Nat)}, CInv p t → (∀ x ∈ l, x < d) → CInv p (l.foldl (cyc1 p) t) ∧ (∀ x ∈ l, x ∈ (l.foldl (cyc1 p) t).1) ∧ ∀ x ∈ t.1, x ∈ (l.foldl (cyc1 p) t).1
  | [], t, h, _ => ⟨h, by simp, fun _ hx => hx⟩
  | y :: l, t, h, hl => by
    have hy := hl y List.mem_cons_self
    obtain ⟨h1, h2, h3⟩ := CInv.fold l (h.step hy) fun x hx => hl x (List.mem_cons_of_mem _ hx)
    have hin : y ∈ (cyc1 p t y).1 := by
      rw [cyc1]
      split
      · assumption
      · rename_i hs
        obtain ⟨n, hdn⟩ : ∃ n, d = n + 1 := ⟨d - 1, by omega⟩
        refine List.mem_append_right _ ?_
        have e : ring p d t.1 y = ring p (n + 1) t.1 y := by congr 1
        rw [e, ring_cons hs]
        exact List.mem_cons_self
    have hmono : ∀ x ∈ t.1, x ∈ (cyc1 p t y).1 := fun x hx => by
      rw [cyc1]
      split
      · exact hx
      · exact List.mem_append_left _ hx
    refine ⟨h1, fun x hx => ?_, fun x hx => h3 x (hmono x hx)⟩
    rcases List.mem_cons.mp hx with rfl | hx
    · exact h3 _ hin
    · exact h2 x hx
theorem cycs_inv (p : Pm d) : CInv p ((List.range d).foldl (cyc1 p) ([], [])) := (CInv.fold (p := p) (t := ([], [])) (List.range d) ⟨rfl, .nil, by simp, fun x hx => by simp at hx, by simp⟩ fun x hx => List.mem_range.mp hx).1
theorem cycs_cy {p : Pm d} {c : List Nat} (h : c ∈ cycs p) : Cyc p c := (cycs_inv p).cy c h
theorem cycs_nd (p : Pm d) : (cycs p).flatten.Nodup := by
  have := (cycs_inv p).nd
  rw [← (cycs_inv p).fl] at this; exact this
theorem cycs_lt {p : Pm d} {x : Nat} (h : x ∈ (cycs p).flatten) : x < d := by
  have e := (cycs_inv p).fl
  rw [cycs, e] at h
  exact (cycs_inv p).lt x h
theorem cycs_all {p : Pm d} {x : Nat} (h : x < d) : x ∈ (cycs p).flatten := by
  have e := (cycs_inv p).fl
  rw [cycs, e]
  exact (CInv.fold (p := p) (t := ([], [])) (List.range d) ⟨rfl, .nil, by simp, fun x hx => by simp at hx, by simp⟩ fun x hx => List.mem_range.mp hx).2.1 x (List.mem_range.mpr h)
theorem cycs_len (p : Pm d) : (cycs p).flatten.length = d := by
  have h1 := nodup_len (D := List.range d) (cycs_nd p) fun x hx => List.mem_range.mpr (cycs_lt hx)
  have h2 := nodup_len (D := (cycs p).flatten) List.nodup_range fun x hx => cycs_all (p := p) (List.mem_range.mp hx)
  simp at h1 h2; simp; omega
/-! ### swaps -/
def swp (d a b : Nat) : Pm d := if h : a < d ∧ b < d then Pm.swap a b h.1 h.2 else Pm.one
theorem swp_f {a b : Nat} (ha : a < d) (hb : b < d) (x : Nat) : (swp d a b).f x = if x = a then b else if x = b then a else x := by
  rw [swp, dif_pos ⟨ha, hb⟩]; rfl
def toldS (d : Nat) : List Nat → List (Pm d)
  | [] => []
  | a :: r => r.map fun b => swp d a b
theorem prod_app (a b : List (Pm d)) : prod (a ++ b) = prod a * prod b := by
  rw [prod, List.foldl_append, foldl_mul]; rfl
theorem along_app {p : Pm d} {b : Nat} : ∀ {a : Nat} {r : List Nat}, Along p (a :: (r ++ [b])) → Along p (a :: r) ∧ ∃ z, (a :: r).getLast? = some z ∧ p.f z = b
  | a, [], h => ⟨trivial, a, rfl, h.1⟩
  | a, c :: r, h => by
    obtain ⟨h1, z, h2, h3⟩ := along_app (p := p) (b := b) (a := c) (r := r) h.2
    exact ⟨⟨h.1, h1⟩, z, by rw [List.getLast?_cons, h2]; rfl, h3⟩
theorem told_run {p : Pm d} {a : Nat} : ∀ (n : Nat) (r : List Nat), r.length = n → Along p (a :: r) → (a :: r).Nodup → (∀ x ∈ a :: r, x < d) → ∀ z, (a :: r).getLast? = some z →
    (∀ v ∈ (a :: r).dropLast, (prod (toldS d (a :: r))).f v = p.f v) ∧ (prod (toldS d (a :: r))).f z = a ∧ ∀ x, x ∉ a :: r → (prod (toldS d (a :: r))).f x = x
  | 0, r, hn, _, _, _, z, hz => by
    have : r = [] := List.length_eq_zero_iff.mp hn
    subst this
    simp at hz
    subst hz
    exact ⟨by simp, rfl, fun _ _ => rfl⟩
  | n + 1, r, hn, hal, hnd, hlt, z, hz => by
    obtain ⟨r', b, rfl⟩ : ∃ r' b, r = r' ++ [b] := ⟨r.dropLast, r.getLast (by intro e; subst e; simp at hn), (List.dropLast_concat_getLast _).symm⟩
    have hc : a :: (r' ++ [b]) = (a :: r') ++ [b] := rfl
    have hz' : z = b := by
      rw [hc, List.getLast?_append] at hz
      simpa using hz.symm
    subst hz'
    obtain ⟨hal', y, hy, hyb⟩ := along_app hal
    rw [hc] at hnd
    obtain ⟨hnd', _, hdis⟩ := List.nodup_append.mp hnd
    have hzn : z ∉ a :: r' := fun h => hdis z h z (by simp) rfl
    obtain ⟨i1, i2, i3⟩ := told_run (p := p) (a := a) n r' (by simpa using hn) hal' hnd' (fun x hx => hlt x (by rw [hc]; exact List.mem_append_left _ hx)) y hy
    have ha : a < d := hlt a List.mem_cons_self
    have hzd : z < d := hlt z (by rw [hc]; simp)
    have he : prod (toldS d (a :: (r' ++ [z]))) = prod (toldS d (a :: r')) * swp d a z := by
      simp only [toldS, List.map_append, prod_app]
      rfl
    have hspl := last_split hy
    rw [he]
    refine ⟨fun v hv => ?_, ?_, fun x hx => ?_⟩
    · rw [hc, List.dropLast_concat, hspl] at hv
      rw [Pm.mul_f, swp_f ha hzd]
      rcases List.mem_append.mp hv with hv | hv
      · rw [i1 v hv]
        have h1 : p.f v ∈ r' := along_next hal' v hv
        have h2 : p.f v ≠ a := fun e => (List.nodup_cons.mp hnd').1 (e ▸ h1)
        have h3 : p.f v ≠ z := fun e => hzn (e ▸ List.mem_cons_of_mem _ h1)
        rw [if_neg h2, if_neg h3]
      · rw [List.mem_singleton] at hv
        subst hv
        rw [i2, if_pos rfl, hyb]
    · rw [Pm.mul_f, i3 z hzn, swp_f ha hzd, if_neg (show ¬ z = a from fun e => hzn (e ▸ List.mem_cons_self)), if_pos rfl]
    · have h1 : x ∉ a :: r' := fun h => hx (by rw [hc]; exact List.mem_append_left _ h)
      rw [Pm.mul_f, i3 x h1, swp_f ha hzd, if_neg (show ¬ x = a from fun e => h1 (e ▸ List.mem_cons_self)), if_neg (show ¬ x = z from fun e => hx (by rw [hc]; simp [e]))]
theorem told_cyc {p : Pm d} {c : List Nat} (h : Cyc p c) (hn : c.Nodup) (hl : ∀ x ∈ c, x < d) (x : Nat) : (prod (toldS d c)).f x = if x ∈ c then p.f x else x := by
  obtain ⟨hal, a, r, z, rfl, hz, hza⟩ := h
  obtain ⟨i1, i2, i3⟩ := told_run (p := p) r.length r rfl hal hn hl z hz
  split
  · rename_i hx
    rw [last_split hz] at hx
    rcases List.mem_append.mp hx with hx | hx
    · exact i1 x hx
    · rw [List.mem_singleton] at hx
      subst hx
      rw [i2, hza]
  · rename_i hx
    exact i3 x hx
theorem told_all {p : Pm d} : ∀ (cs : List (List Nat)), (∀ c ∈ cs, Cyc p c) → cs.flatten.Nodup → (∀ x ∈ cs.flatten, x < d) → ∀ x, (prod (cs.flatMap (toldS d))).f x = if x ∈ cs.flatten then p.f x else x
  | [], _, _, _, x => by simp [prod]
  | c :: cs, hc, hn, hl, x => by
    rw [List.flatten_cons] at hn hl ⊢
    obtain ⟨n1, n2, n3⟩ := List.nodup_append.mp hn
    have hcy := hc c List.mem_cons_self
    have h1 := told_cyc hcy n1 (fun y hy => hl y (List.mem_append_left _ hy)) x
    have h2 := told_all cs (fun c' hc' => hc c' (List.mem_cons_of_mem _ hc')) n2 (fun y hy => hl y (List.mem_append_right _ hy))
    rw [List.flatMap_cons, prod_app, Pm.mul_f, h1]
    by_cases hx : x ∈ c
    · rw [if_pos hx, if_pos (List.mem_append_left _ hx), h2, if_neg]
      intro hm
      obtain ⟨hal, a, r, z, rfl, hz, hza⟩ := hcy
      have : p.f x ∈ a :: r := by
        have hx' := hx
        rw [last_split hz] at hx'
        rcases List.mem_append.mp hx' with hx' | hx'
        · exact List.mem_cons_of_mem _ (along_next hal x hx')
        · rw [List.mem_singleton] at hx'
          rw [hx', hza]; exact List.mem_cons_self
      exact n3 _ this _ hm rfl
    · rw [if_neg hx, h2]
      by_cases hy : x ∈ cs.flatten
      · rw [if_pos hy, if_pos (List.mem_append_right _ hy)]
      · rw [if_neg hy, if_neg (by rw [List.mem_append]; exact fun z => z.elim hx hy)]
theorem told_prod (p : Pm d) : prod ((cycs p).flatMap (toldS d)) = p := Pm.ext fun x => by
  rw [told_all (cycs p) (fun c hc => cycs_cy hc) (cycs_nd p) (fun x hx => cycs_lt hx) x]
  split
  · rfl
  · rename_i h
    exact (p.out x (by
      by_cases c : x < d
      · exact absurd (cycs_all c) h
      · omega)).symm
theorem told_len {cs : List (List Nat)} (h : ∀ c ∈ cs, c ≠ []) : (cs.flatMap (toldS d)).length + cs.length = cs.flatten.length := by
  induction cs with
  | nil => rfl
  | cons c cs ih =>
    have := ih fun c hc => h c (List.mem_cons_of_mem _ hc)
    have hc := h c List.mem_cons_self
    cases c with
    | nil => exact absurd rfl hc
    | cons a r =>
      simp only [List.flatMap_cons, List.flatten_cons, List.length_append, List.length_cons, toldS, List.length_map] at this ⊢
      omega
theorem told_count (p : Pm d) : ((cycs p).flatMap (toldS d)).length + (cycs p).length = d := by
  rw [told_len fun c hc => ?_, cycs_len]
  obtain ⟨_, a, r, z, rfl, _⟩ := cycs_cy hc
  simp
/-! ### the sign -/
def xr (h : Nat → Nat → Bool) (x : Nat) : List Nat → Bool
  | [] => false
  | y :: l => (h x y).xor (xr h x l)
def tt (h : Nat → Nat → Bool) : List Nat → Bool
  | [] => false
  | x :: l => (xr h x l).xor (tt h l)
theorem xr_perm {h : Nat → Nat → Bool} {x : Nat} {l l' : List Nat} (p : l.Perm l') : xr h x l = xr h x l' := by
  induction p with
  | nil => rfl
  | cons a _ ih => rw [xr, xr, ih]
  | swap a b l => simp only [xr]; rw [← Bool.xor_assoc, ← Bool.xor_assoc, Bool.xor_comm (h x b)]
  | trans _ _ i1 i2 => rw [i1, i2]
theorem tt_perm {h : Nat → Nat → Bool} (hs : ∀ a b, h a b = h b a) {l l' : List Nat} (p : l.Perm l') : tt h l = tt h l' := by
  induction p with
  | nil => rfl
  | cons a q ih => rw [tt, tt, ih, xr_perm q]
  | swap a b l =>
    simp only [tt, xr]
    rw [hs b a]
    cases h a b <;> cases xr h b l <;> cases xr h a l <;> cases tt h l <;> rfl
  | trans _ _ i1 i2 => rw [i1, i2]
theorem xr_xor {h1 h2 : Nat → Nat → Bool} {x : Nat} : ∀ (l : List Nat), xr (fun a b => (h1 a b).xor (h2 a b)) x l = (xr h1 x l).xor (xr h2 x l)
  | [] => rfl
  | y :: l => by
    simp only [xr, xr_xor l]
    cases h1 x y <;> cases h2 x y <;> cases xr h1 x l <;> cases xr h2 x l <;> rfl
theorem tt_xor {h1 h2 : Nat → Nat → Bool} : ∀ (l : List Nat), tt (fun a b => (h1 a b).xor (h2 a b)) l = (tt h1 l).xor (tt h2 l)
  | [] => rfl
  | y :: l => by
    simp only [tt, tt_xor l, xr_xor l]
    cases xr h1 y l <;> cases xr h2 y l <;> cases tt h1 l <;> cases tt h2 l <;> rfl
theorem xr_map {h : Nat → Nat → Bool} {f : Nat → Nat} {x : Nat} : ∀ (l : List Nat), xr h (f x) (l.map f) = xr (fun a b => h (f a) (f b)) x l
  | [] => rfl
  | y :: l => by rw [List.map_cons, xr, xr, xr_map l]
theorem tt_map {h : Nat → Nat → Bool} {f : Nat → Nat} : ∀ (l : List Nat), tt h (l.map f) = tt (fun a b => h (f a) (f b)) l
  | [] => rfl
  | y :: l => by rw [List.map_cons, tt, tt, tt_map l, xr_map]
def inv2 (f : Nat → Nat) (a b : Nat) : Bool := (decide (a < b)).xor (decide (f a < f b))
theorem inv2_sym {f : Nat → Nat} (hf : ∀ x y, f x = f y → x = y) (a b : Nat) : inv2 f a b = inv2 f b a := by
  unfold inv2
  by_cases e : a = b
  · subst e; rfl
  · have e' : f a ≠ f b := fun z => e (hf _ _ z)
    by_cases h1 : a < b <;> by_cases h2 : f a < f b
    · simp [h1, h2, show ¬ b < a by omega, show ¬ f b < f a by omega]
    · simp [h1, h2, show ¬ b < a by omega, show f b < f a by omega]
    · simp [h1, h2, show b < a by omega, show ¬ f b < f a by omega]
    · simp [h1, h2, show b < a by omega, show f b < f a by omega]
def odd (p : Pm d) : Bool := tt (inv2 p.f) (List.range d)
theorem range_perm (p : Pm d) : ((List.range d).map p.f).Perm (List.range d) := nodup_perm (map_nodup List.nodup_range) List.nodup_range (fun x hx => by
  obtain ⟨y, hy, rfl⟩ := List.mem_map.mp hx
  exact List.mem_range.mpr (p.lt (List.mem_range.mp hy))) (by simp)
theorem odd_mul (p q : Pm d) : odd (p * q) = (odd p).xor (odd q) := by
  have e : inv2 (p * q).f = fun a b => (inv2 p.f a b).xor (inv2 q.f (p.f a) (p.f b)) := by
    funext a b
    simp only [inv2, Pm.mul_f]
    cases decide (a < b) <;> cases decide (p.f a < p.f b) <;> cases decide (q.f (p.f a) < q.f (p.f b)) <;> rfl
  have hm : tt (fun a b => inv2 q.f (p.f a) (p.f b)) (List.range d) = odd q := by
    rw [← tt_map (h := inv2 q.f) (f := p.f), tt_perm (inv2_sym fun x y => q.inj) (range_perm p)]; rfl
  rw [odd, e, tt_xor, hm]
  rfl
theorem xr_false {h : Nat → Nat → Bool} {x : Nat} : ∀ {l : List Nat}, (∀ y ∈ l, h x y = false) → xr h x l = false
  | [], _ => rfl
  | y :: l, hh => by rw [xr, hh y List.mem_cons_self, xr_false fun z hz => hh z (List.mem_cons_of_mem _ hz)]; rfl
theorem tt_false {h : Nat → Nat → Bool} : ∀ {l : List Nat}, (∀ x ∈ l, ∀ y ∈ l, h x y = false) → tt h l = false
  | [], _ => rfl
  | x :: l, hh => by
    rw [tt, xr_false fun y hy => hh x List.mem_cons_self y (List.mem_cons_of_mem _ hy), tt_false fun a ha b hb => hh a (List.mem_cons_of_mem _ ha) b (List.mem_cons_of_mem _ hb)]; rfl
theorem xr_congr {h : Nat → Nat → Bool} {a b : Nat} : ∀ {l : List Nat}, (∀ y ∈ l, h a y = h b y) → xr h a l = xr h b l
  | [], _ => rfl
  | y :: l, hh => by rw [xr, xr, hh y List.mem_cons_self, xr_congr fun z hz => hh z (List.mem_cons_of_mem _ hz)]
theorem odd_swp {a b : Nat} (ha : a < d) (hb : b < d) (hab : a ≠ b) : odd (swp d a b) = true := by
  have f := swp_f (d := d) ha hb
  have hinj : ∀ x y, (swp d a b).f x = (swp d a b).f y → x = y := fun x y => (swp d a b).inj
  obtain ⟨r, hr⟩ : ∃ r, r = ((List.range d).erase a).erase b := ⟨_, rfl⟩
  have hp : (List.range d).Perm (a :: b :: r) := by
    have h1 : (List.range d).Perm (a :: (List.range d).erase a) := List.perm_cons_erase (List.mem_range.mpr ha)
    have h2 : ((List.range d).erase a).Perm (b :: r) := by
      rw [hr]
      exact List.perm_cons_erase ((List.mem_erase_of_ne (Ne.symm hab)).mpr (List.mem_range.mpr hb))
    exact h1.trans (h2.cons a)
  have hnd : (a :: b :: r).Nodup := hp.nodup_iff.mp List.nodup_range
  have hne : ∀ z ∈ r, z ≠ a ∧ z ≠ b := fun z hz => by
    obtain ⟨n1, n2⟩ := List.nodup_cons.mp hnd
    exact ⟨fun e => n1 (List.mem_cons_of_mem _ (e ▸ hz)), fun e => (List.nodup_cons.mp n2).1 (e ▸ hz)⟩
  have fa : (swp d a b).f a = b := by rw [f, if_pos rfl]
  have fb : (swp d a b).f b = a := by rw [f, if_neg (Ne.symm hab), if_pos rfl]
  have fz : ∀ z ∈ r, (swp d a b).f z = z := fun z hz => by rw [f, if_neg (hne z hz).1, if_neg (hne z hz).2]
  rw [odd, tt_perm (inv2_sym hinj) hp, tt, tt, xr]
  have c1 : inv2 (swp d a b).f a b = true := by
    unfold inv2
    rw [fa, fb]
    by_cases h : a < b
    · simp [h, show ¬ b < a by omega]
    · simp [h, show b < a by omega]
  have c2 : xr (inv2 (swp d a b).f) a r = xr (inv2 (swp d a b).f) b r := xr_congr fun z hz => by
    unfold inv2
    rw [fa, fb, fz z hz, Bool.xor_comm]
  have c3 : tt (inv2 (swp d a b).f) r = false := tt_false fun x hx y hy => by
    unfold inv2
    rw [fz x hx, fz y hy]; simp
  rw [c1, c2, c3]
  cases xr (inv2 (swp d a b).f) b r <;> rfl
theorem odd_one : odd (Pm.one : Pm d) = false := tt_false fun x _ y _ => by show (decide (x < y)).xor (decide (x < y)) = false; simp
theorem odd_row : ∀ (l : List (Pm d)), (∀ s ∈ l, odd s = true) → odd (prod l) = decide (l.length % 2 = 1)
  | [], _ => odd_one
  | s :: l, h => by
    rw [prod_cons, odd_mul, h s List.mem_cons_self, odd_row l fun q hq => h q (List.mem_cons_of_mem _ hq), List.length_cons]
    by_cases c : l.length % 2 = 1
    · rw [decide_eq_true c, decide_eq_false (by omega)]; rfl
    · rw [decide_eq_false c, decide_eq_true (by omega)]; rfl
theorem nodup_elem {cs : List (List Nat)} (h : cs.flatten.Nodup) {c : List Nat} (hc : c ∈ cs) : c.Nodup := by
  induction cs with
  | nil => cases hc
  | cons e cs ih =>
    rw [List.flatten_cons] at h
    obtain ⟨h1, h2, _⟩ := List.nodup_append.mp h
    rcases List.mem_cons.mp hc with rfl | hc
    · exact h1
    · exact ih h2 hc
theorem odd_cycs (p : Pm d) : odd p = decide ((d - (cycs p).length) % 2 = 1) := by
  have h := odd_row ((cycs p).flatMap (toldS d)) fun s hs => by
    obtain ⟨c, hc, hs⟩ := List.mem_flatMap.mp hs
    obtain ⟨_, a, r, z, rfl, _⟩ := cycs_cy hc
    obtain ⟨b, hb, rfl⟩ := List.mem_map.mp hs
    have hm : ∀ x ∈ a :: r, x ∈ (cycs p).flatten := fun x hx => List.mem_flatten.mpr ⟨_, hc, hx⟩
    have hnd : (a :: r).Nodup := by
      have := cycs_nd p
      exact (nodup_elem this hc)
    exact odd_swp (cycs_lt (hm a List.mem_cons_self)) (cycs_lt (hm b (List.mem_cons_of_mem _ hb))) fun e => (List.nodup_cons.mp hnd).1 (e ▸ hb)
  rw [told_prod] at h
  rw [h]
  have := told_count p
  have e : ((cycs p).flatMap (toldS d)).length = d - (cycs p).length := by omega
  rw [e]
end Fx

set_option Elab.async false
set_option linter.all false
set_option maxRecDepth 100000
set_option maxHeartbeats 4000000
namespace Fx
open PySem L2
variable [Md]
variable [Mw]
variable {d : Nat}
theorem sWhile_lt {t : SB} {b : SS} {P : Nat → En → Store → Prop} {R : En → Store → Prop} (step : ∀ n τ st, P n τ st → (∃ st1, t τ st = .ok false st1 ∧ R τ st1) ∨ ∃ st1 τ2 st2 m, t τ st = .ok true st1 ∧ (b τ st1 = .nx τ2 st2 ∨ b τ st1 = .ct τ2 st2) ∧ m < n ∧ P m τ2 st2) (n : Nat) :
    ∀ τ st, P n τ st → ∃ τ' st', sWhile t b τ st = .nx τ' st' ∧ R τ' st' := by
  induction n using Nat.strongRecOn with
  | _ n ih =>
    intro τ st h
    rcases step n τ st h with ⟨st1, e, r⟩ | ⟨st1, τ2, st2, m, e1, e2, hm, h2⟩
    · exact ⟨τ, st1, by rw [sWhile_eq, e]; rfl, r⟩
    · obtain ⟨τ', st', e3, r⟩ := ih m hm τ2 st2 h2
      refine ⟨τ', st', ?_, r⟩
      rw [sWhile_eq, e1]
      rcases e2 with e2 | e2 <;> · simp only [Rs.go_ok, if_true]; rw [e2]; exact e3
theorem fEq_fl {x y : D} {k l : Nat} {st : Store} (hx : Fl k x) (hy : Fl l y) (h1 : k ≤ 64 := by decide) (h2 : l ≤ 64 := by decide) : fEq x y st = .ok (.bl (eqD x y)) st := by
  unfold fEq
  rw [if_pos ⟨hx.sh h1, hy.sh h2⟩]
/-- a comprehension with a filter -/
theorem compS_filt {α : Type} {g : SG} {t : SB} {m : SE} {vs : List Nat} {τ : En} {h f : α → D} {c : α → Bool} {st : Store} : ∀ (l : List α) (acc : List D), (∀ a ∈ l, ∃ τ1, g (h a) (wipeE τ vs) = some τ1 ∧ t τ1 st = .ok (c a) st ∧ (c a = true → m τ1 st = .ok (f a) st)) → acc.length + l.length ≤ sizeLine → compS g t m vs (l.map h) τ st acc = .ok (acc ++ (l.filter c).map f) st
  | [], acc, _, _ => by simp [compS]
  | a :: l, acc, hh, hl => by
    obtain ⟨τ1, e1, e2, e3⟩ := hh a List.mem_cons_self
    have hl' : acc.length < sizeLine := by simp only [List.length_cons] at hl; omega
    rw [List.map_cons, compS, e1]
    dsimp only
    rw [e2]
    cases hc : c a with
    | false =>
      dsimp only
      rw [compS_filt l acc (fun d hd => hh d (List.mem_cons_of_mem _ hd)) (by simp only [List.length_cons] at hl; omega), List.filter_cons, hc]
      rfl
    | true =>
      dsimp only
      rw [e3 hc]
      dsimp only
      rw [if_pos hl', compS_filt l _ (fun d hd => hh d (List.mem_cons_of_mem _ hd)) (by simp only [List.length_append, List.length_cons, List.length_nil] at hl ⊢; omega), List.filter_cons, hc]
      simp
@[simp] theorem x_mRevL {m : SE} {σ : En} {st : Store} : mRevL m σ st = (m σ st).bind fun d st1 => match listOf d st1 with
  | some xs => .ok xs.reverse st1
  | none => .no := rfl
/-! ### lengths, orders -/
def lens (p : Pm d) : List Nat := (cycs p).map List.length
/-- the lengths, the greatest first -/
def lensS (p : Pm d) : List Nat := ((sortI ((lens p).map fun (k : Nat) => (k : Int))).reverse).map Int.toNat
theorem lensS_cast (p : Pm d) : (lensS p).map (fun (k : Nat) => (k : Int)) = (sortI ((lens p).map fun (k : Nat) => (k : Int))).reverse := by
  rw [lensS, List.map_map]
  refine Eq.trans (List.map_congr_left (g := id) fun i hi => ?_) (List.map_id _)
  rw [List.mem_reverse, (sortI_perm _).mem_iff] at hi
  obtain ⟨k, _, rfl⟩ := List.mem_map.mp hi
  simp
theorem lensS_perm (p : Pm d) : (lensS p).Perm (lens p) := by
  have h : ((sortI ((lens p).map fun (k : Nat) => (k : Int))).reverse).Perm ((lens p).map fun (k : Nat) => (k : Int)) := (List.reverse_perm _).trans (sortI_perm _)
  have h2 := h.map Int.toNat
  rw [List.map_map] at h2
  have e : (List.map (Int.toNat ∘ fun (k : Nat) => (k : Int)) (lens p)) = lens p := by
    refine Eq.trans (List.map_congr_left (g := id) fun i hi => ?_) (List.map_id _)
    simp
  rw [e] at h2
  exact h2
def typeD (p : Pm d) : D := .tup ((lensS p).map nD)
theorem typeD_eq (p : Pm d) : typeD p = .tup (((sortI ((lens p).map fun (k : Nat) => (k : Int))).reverse).map D.int) := by
  rw [typeD, ← lensS_cast, List.map_map]; rfl
@[simp] theorem lf_typeD {p : Pm d} : lf (typeD p) = true := by simp [typeD, List.all_map]
theorem lens_pos {p : Pm d} {k : Nat} (h : k ∈ lens p) : 0 < k ∧ k ≤ d := by
  obtain ⟨c, hc, rfl⟩ := List.mem_map.mp h
  obtain ⟨_, a, r, z, rfl, _⟩ := cycs_cy hc
  have hn := nodup_elem (cycs_nd p) hc
  have := nodup_len (D := List.range d) hn fun x hx => List.mem_range.mpr (cycs_lt (List.mem_flatten.mpr ⟨_, hc, hx⟩))
  simp at this ⊢; omega
def ord (l : List Nat) : Nat := l.foldl Nat.lcm 1
theorem ord_perm {l l' : List Nat} (h : l.Perm l') : ord l = ord l' := by
  unfold ord
  exact h.foldl_eq' (fun x _ y _ z => by rw [Nat.lcm_assoc, Nat.lcm_comm x y, ← Nat.lcm_assoc]) 1
/-! ### signs -/
def sgI (p : Pm d) : Int := if odd p = true then -1 else 1
theorem sgI_mul (p q : Pm d) : sgI (p * q) = sgI p * sgI q := by
  unfold sgI
  rw [odd_mul]
  cases odd p <;> cases odd q <;> rfl
theorem cycs_le (p : Pm d) : (cycs p).length ≤ d := by have := told_count p; omega
/-- the number of the turned pairs -/
def turns (p : Pm d) : Nat → Nat
  | 0 => 0
  | n + 1 => turns p n + ((List.range n).filter fun y => decide (p.f n < p.f y)).length
theorem xr_len {h : Nat → Nat → Bool} {x : Nat} : ∀ (l : List Nat), xr h x l = decide ((l.filter (h x)).length % 2 = 1)
  | [] => rfl
  | y :: l => by
    rw [xr, xr_len l, List.filter_cons]
    cases h x y with
    | false => rw [if_neg (by decide), Bool.false_xor]
    | true =>
      rw [if_pos rfl, List.length_cons]
      by_cases c : (l.filter (h x)).length % 2 = 1
      · rw [decide_eq_true c, decide_eq_false (by omega)]; rfl
      · rw [decide_eq_false c, decide_eq_true (by omega)]; rfl
theorem turns_tt (p : Pm d) : ∀ n, tt (inv2 p.f) (List.range n) = decide (turns p n % 2 = 1)
  | 0 => rfl
  | n + 1 => by
    have hp : (List.range (n + 1)).Perm (n :: List.range n) := by
      rw [List.range_succ]
      exact List.perm_append_comm
    rw [tt_perm (inv2_sym fun x y => p.inj) hp, tt, turns_tt p n, xr_len, turns]
    have e : (List.range n).filter (inv2 p.f n) = (List.range n).filter fun y => decide (p.f n < p.f y) := List.filter_congr fun y hy => by
      rw [List.mem_range] at hy
      unfold inv2
      rw [decide_eq_false (show ¬ n < y by omega)]
      simp
    rw [e]
    obtain ⟨a, ha⟩ : ∃ a, a = ((List.range n).filter fun y => decide (p.f n < p.f y)).length := ⟨_, rfl⟩
    rw [← ha]
    by_cases c1 : a % 2 = 1 <;> by_cases c2 : turns p n % 2 = 1
    · rw [decide_eq_true c1, decide_eq_true c2, decide_eq_false (by omega)]; rfl
    · rw [decide_eq_true c1, decide_eq_false c2, decide_eq_true (by omega)]; rfl
    · rw [decide_eq_false c1, decide_eq_true c2, decide_eq_true (by omega)]; rfl
    · rw [decide_eq_false c1, decide_eq_false c2, decide_eq_false (by omega)]; rfl
theorem sgI_turns (p : Pm d) : sgI p = 1 - 2 * ((turns p d : Int) % 2) := by
  unfold sgI
  rw [odd, turns_tt]
  by_cases c : turns p d % 2 = 1
  · rw [if_pos (decide_eq_true c)]; omega
  · rw [if_neg (by simpa using c)]; omega
theorem sgI_cycs (p : Pm d) : sgI p = if ((d : Int) - ((cycs p).length : Int)) % 2 = 0 then 1 else -1 := by
  have := cycs_le p
  unfold sgI
  rw [odd_cycs]
  by_cases c : (d - (cycs p).length) % 2 = 1
  · rw [if_pos (decide_eq_true c), if_neg (by omega)]
  · rw [if_neg (by simpa using c), if_pos (by omega)]
end Fx

set_option Elab.async false
set_option linter.all false
set_option maxRecDepth 100000
set_option maxHeartbeats 4000000
namespace Fx
open PySem L2 PyProof.Rows SrtO
variable [Md]
variable [Mw]
section
variable {prog : Program} {w : World} {A : Around} {E : Value → Shared → Prop} {s : Shared}
theorem collect_tup {l : Addr} {o : Obj} {vs : List Value} {n : Nat} {Q : List Value → Shared → Prop} (ho : s.heap.get? l = some o) (hc : o.cls = .type "tuple") (hd : o.data = .seq vs.toArray n)
    (h : Q vs { s with heap := (s.heap.push (seqObj "list" #[] 0)).update s.heap.objs.size (Obj.mapSeq (· ++ vs.toArray)) }) (hsz : vs.length ≤ sizeLine) :
    wpAny (model prog w) A (collect (.ref l)) Q E s := by
  unfold collect
  refine wpAny_bind (wpAny_runValue (codeAny_builtin entry_proto_collect' ?_))
  show wpAny _ _ (do again (.builtin "list.__iadd__" ⟨[← newList [], .ref l], []⟩)) _ _ s
  refine wpAny_bind (wpAny_newList (wpAny_pure ⟨Code.quiet_builtin _ (by decide +kernel), codeAny_builtin entry_list_iadd' ?_⟩))
  show wpAny _ _ (Builtin.List.listExtendWith (.ref s.heap.objs.size) (.ref l) (.ref s.heap.objs.size)) _ _ { s with heap := s.heap.push (seqObj "list" #[] 0) }
  unfold Builtin.List.listExtendWith
  have ho' : (s.heap.push (seqObj "list" #[] 0)).get? l = some o := Heap.get?_push_of_some _ ho
  refine wpAny_bind (wpAny_typeOf (T := "tuple") ⟨o, ho', hc⟩ ?_)
  have ht : (Value.type "tuple" == Value.type "tuple") = true := by rfl
  rw [if_pos (by rw [ht]; simp)]
  refine wpAny_bind (listItems_at ho' hd ?_)
  refine wpAny_bind (listItems_at (xs := #[]) (n := 0) (Heap.get?_push_size _ rfl) rfl ?_)
  rw [if_neg (by simp)]
  refine wpAny_bind (listUpdate_at (xs := #[]) (n := 0) (Heap.get?_push_size _ rfl) rfl ?_ (Nat.zero_le _) (by show (#[] ++ vs.toArray).size ≤ sizeLine + 1; simp only [Array.size_append, List.size_toArray, List.length_nil]; omega))
  refine wpAny_pure ?_
  show wpAny (model prog w) A (do
      let o ← load s.heap.objs.size
      match o.data with
      | .seq xs _ => pure xs.toList
      | _ => unsupported "internal:collect") Q E { s with heap := (s.heap.push (seqObj "list" #[] 0)).update s.heap.objs.size (Obj.mapSeq (· ++ vs.toArray)) }
  refine wpAny_bind (wpAny_load (get?_update_seq (Heap.get?_push_size _ rfl) _) ?_)
  show wpAny _ _ (pure ((#[] : Array Value) ++ vs.toArray).toList) Q E _
  rw [show ((#[] : Array Value) ++ vs.toArray).toList = vs by simp]
  exact wpAny_pure h
theorem sorted_ordT {l : Addr} {o : Obj} {vs : List Value} {n : Nat} {ltv : Value → Value → Bool} {Q : Value → Shared → Prop} (O : Swo ltv) (ho : s.heap.get? l = some o) (hc : o.cls = .type "tuple") (hd : o.data = .seq vs.toArray n) (hz : vs.length ≤ sizeLine)
    (hS : 2 ≤ vs.length → ∀ (h₁ : Heap) (a : Addr), h₁.get? a = some (seqObj "list" vs.toArray 0) → (∀ b o, s.heap.get? b = some o → b ≠ a ∧ h₁.get? b = some o) → SortableO prog w A.in1.in1 { s with heap := h₁ } a vs ltv)
    (h : ∀ out : List Value, Srtd ltv out → Stb ltv out vs → Q (.ref (s.heap.objs.size + 1)) { s with heap := sortedAll s.heap vs out.toArray }) :
    wpAny (model prog w) A (call (.builtin "sorted") [.ref l]) Q E s := by
  refine Calls.call_function_entry kind_sorted plain_sorted entry_sorted (args_sorted1 _) ?_
  unfold Builtin.«sorted»
  refine wpAny_bind (m := checkCount "sorted" 1 1 _) (wpAny_pure ?_)
  refine wpAny_bind (collect_tup ho hc hd ?_ hz)
  refine wpAny_bind (wpAny_newList ?_ hz)
  have hsz : ((s.heap.push (seqObj "list" #[] 0)).update s.heap.objs.size (Obj.mapSeq (· ++ vs.toArray))).objs.size = s.heap.objs.size + 1 := by
    rw [Heap.size_update, size_push']
  have hoL : (((s.heap.push (seqObj "list" #[] 0)).update s.heap.objs.size (Obj.mapSeq (· ++ vs.toArray))).push (seqObj "list" vs.toArray 0)).get? (s.heap.objs.size + 1) = some (seqObj "list" vs.toArray 0) := by
    rw [← hsz]; exact Heap.get?_push_size _ rfl
  have keep : ∀ b o, s.heap.get? b = some o → b ≠ s.heap.objs.size + 1 ∧ (((s.heap.push (seqObj "list" #[] 0)).update s.heap.objs.size (Obj.mapSeq (· ++ vs.toArray))).push (seqObj "list" vs.toArray 0)).get? b = some o := fun b o q => by
    have hlt : b < s.heap.objs.size := Heap.lt_size q
    refine ⟨Nat.ne_of_lt (Nat.lt_succ_of_lt hlt), Heap.get?_push_of_some _ ?_⟩
    rw [Heap.get?_update_ne _ _ _ _ (Nat.ne_of_lt hlt)]
    exact Heap.get?_push_of_some _ q
  show wpAny _ _ _ _ _ { s with heap := ((s.heap.push (seqObj "list" #[] 0)).update s.heap.objs.size (Obj.mapSeq (· ++ vs.toArray))).push (seqObj "list" vs.toArray 0) }
  rw [hsz]
  refine wpAny_bind (wpAny_holding (wpAny_call_entry slot_list_sort ⟨_, hoL, rfl⟩ entry_list_sort (list_sort_ord O hoL hz (fun h2 => hS h2 _ _ hoL keep) fun out hs hb => ⟨_, rfl, ?_⟩) (args_list_sort _)))
  exact wpAny_pure ⟨_, rfl, h out hs hb⟩
end
def rSortedTI (K : PySem.W.Frag) : List V → Hp → VK → Prop := fun vs H Q => ∃ (a : Addr) (ns : List Int), vs = [V.ref a] ∧ SqT K H a (ns.map V.int) ∧
  ∀ (ns' : List Int) (p : Addr), ns'.Perm ns → ns'.Pairwise (· ≤ ·) → H p = none → Q (.ref p) (upd H p (.lst (ns'.map V.int)))
section
variable {X : Cx} {W : WX}
theorem cr_sortedTI : CallR X (.builtin "sorted") (rSortedTI X.K) := by
  intro pins s σ H vs us Q I r h
  obtain ⟨a, ns, rfl, hs, q⟩ := h
  obtain ⟨its, rv, ⟨o, ho, hc, n, hd⟩, hz⟩ := I.tuple hs
  rw [Vals.ref1 r]
  have hi := rv.ints
  refine sorted_ordT swo_int ho hc hd (by rw [← rv.length]; exact hz) (fun h2 h₁ a' _ _ => ints_sortable hi h2) fun out h1 h2 => ?_
  obtain ⟨k1, k2, k3⟩ := ints_out hi h1 h2
  obtain ⟨ep, he'⟩ := PyProof.Rows.sortedAll_at s.heap its out.toArray
  have hlen : ((out.map SrtO.iv).map V.int).length ≤ sizeLine := by
    rw [List.length_map, k2.length_eq]
    rw [List.length_map] at hz
    exact hz
  exact ⟨.ref _, upd H (s.heap.objs.size + 1) (.lst ((out.map SrtO.iv).map V.int)), I.laid (t' := s.toks) (fun _ _ => PyProof.Rows.sortedAll_old) (Nat.le_succ _) ⟨hlen, out, ep, vals_of_ints k1, he'⟩, rfl, q _ _ k2 k3 (I.hok.fresh (Nat.le_succ _))⟩
/-- sorted(xs), xs a tuple or a list of ints -/
noncomputable def fSortA : FB (List D) := fun ds st => match ds with
  | [.tup xs] => (match intsOf xs with
    | some ns => .ok ((sortI ns).map D.int) st
    | none => .no)
  | ds => fSorted ds st
theorem cs_sortedA : CallS X (reN X.K) (.builtin "sorted") fSortA := by
  refine ⟨_, cr_sortedTI.or cr_sortedI, fun W σ ρ st H ds vs Q r rv o => ?_⟩
  unfold fSortA at o
  split at o
  · rename_i xs
    split at o
    · rename_i ns hx
      obtain ⟨v, rfl, rd⟩ := rv.one
      simp only [RelD] at rd
      obtain ⟨l, us, rfl, hs, ru⟩ := rd
      have ex := intsOf_eq hx
      subst ex
      rw [ru.ints] at hs
      refine .inl ⟨l, ns, rfl, hs.sq, fun ns' p h1 h2 hp => ?_⟩
      have e' : ns' = sortI ns := sorted_uniq (h1.trans (sortI_perm ns).symm) h2 (sortI_sorted ns)
      subst e'
      exact Out.fresh r o hp RelDs.ints'
    · exact o.elim
  · obtain ⟨d, bs, rfl, hx, e⟩ := onInts_ok (f := fun ns => (sortI ns).map D.int) (ds := ds) (st := st) (fun z => by rw [show fSorted ds st = .no from z] at o; exact o)
    rw [show fSorted [d] st = _ from e] at o
    obtain ⟨v, rfl, rd⟩ := rv.one
    obtain ⟨a, us, rfl, h, ru⟩ := listOf_rel r rd hx
    rw [ru.ints] at h
    refine .inr ⟨a, bs, rfl, h, fun ns' p h1 h2 hp => ?_⟩
    have e' : ns' = sortI bs := sorted_uniq (h1.trans (sortI_perm bs).symm) h2 (sortI_sorted bs)
    subst e'
    exact Out.fresh r o hp RelDs.ints'
theorem x_sortA {ns : List Int} {st : Store} : fSortA [.tup (ns.map D.int)] st = .ok ((sortI ns).map D.int) st := by
  unfold fSortA
  simp only [intsOf_map]
end
end Fx

set_option Elab.async false
set_option linter.all false
set_option maxRecDepth 100000
set_option maxHeartbeats 4000000
namespace Fx
open PySem L2
variable [Md]
variable [Mw]
/-! ### loops over a tuple, a list that is only read, or a list that can be written -/
def cOf (o : Option Nat) (ds : List D) : Store → Prop := match o with
  | none => fun _ => True
  | some n => fun st => st[n]? = some (.lst ds)
def ItC (K : PySem.W.Frag) (ρ : Mp) (st : Store) (H : Hp) (J : It) (C : Store → Prop) (ds : List D) : Prop :=
  ∀ (ρ2 : Mp) (st2 : Store) (H2 : Hp), ExtW ρ st.length H ρ2 st2.length H2 → R K ρ2 st2 H2 → C st2 → ∀ i : Nat,
    (∀ d, ds[i]? = some d → J.go i H2 ∧ ∀ x H3, J.yld i H2 x H3 → Ext ρ2 st2.length H2 ρ2 st2.length H3 ∧ R K ρ2 st2 H3 ∧ RelD K ρ2 st2.length H3 d x) ∧
    (ds.length ≤ i → J.stop i H2)
def reIA (K : PySem.W.Frag) : Rl (Option Nat × List D) It := fun _ ρ st H nd J => cOf nd.1 nd.2 st ∧ ItC K ρ st H J (cOf nd.1 nd.2) nd.2
instance {K : PySem.W.Frag} : RlOk K (reIA K) := ⟨fun _ _ h => h⟩
abbrev EvIA (X : Cx) (W : WX) (tg iter : Expr) (m : En → Store → Rs (Option Nat × List D)) : Prop := PI X tg iter (tM X.K (reIA X.K) W m)
def mItA (m : SE) : En → Store → Rs (Option Nat × List D) := fun σ st => (m σ st).bind fun d st1 => match d with
  | .tup ds => .ok (none, ds) st1
  | .lst ds => .ok (none, ds) st1
  | .loc n => (match st1[n]? with
    | some (.lst xs) => .ok (some n, xs) st1
    | _ => .no)
  | _ => .no
section
variable {X : Cx} {W : WX} {e a b c tg iter : Expr} {es ifs : List Expr} {s : Stmt} {ss bs : List Stmt} {m ma mb mc : SE} {ms mi : SA} {ml : En → Store → Rs (Option Nat × List D)} {t : SB} {u v w : SS} {pos : Pos}
theorem eia_seq (h : EvE X W e m) : EvIA X W tg e (mItA m) := by
  refine ⟨fun pins s σ H Rr I q => ?_⟩
  obtain ⟨ρ, τ, st, r0, en, o⟩ := q
  refine thn (h.run pins s σ H (fun x H1 => ∃ a, x = .ref a ∧ ∃ vs ρ1 st1 nd, R X.K ρ1 st1 H1 ∧ ((SqL X.K H1 a vs ∧ cOf nd.1 nd.2 st1 ∧ ItC X.K ρ1 st1 H1 (Itl X.K a) (cOf nd.1 nd.2) nd.2) ∨ (SqT X.K H1 a vs ∧ cOf nd.1 nd.2 st1 ∧ ItC X.K ρ1 st1 H1 (Itt X.K a) (cOf nd.1 nd.2) nd.2)) ∧ Out X.K (reIA X.K) W σ ρ1 st1.length H1 Rr (.ok nd st1)) I ?_) fun v s1 ⟨x, H1, I1, r1, q1⟩ => ?_
  · refine tM.bind (Ra := reD X.K) (Rg := reIA X.K) r0 en o fun d st1 ρ1 H1 v e1 r1 en1 q o1 => ?_
    cases d with
    | tup ds =>
      simp only [RelD] at q
      obtain ⟨a, vs, rfl, hs, rv⟩ := q
      exact ⟨a, rfl, vs, ρ1, st1, (none, ds), r1, .inr ⟨hs.sq, trivial, fun ρ2 st2 H2 e r2 _ => itR_tup hs.sq rv r1 ρ2 st2 H2 e r2⟩, o1⟩
    | lst ds =>
      simp only [RelD] at q
      obtain ⟨a, vs, rfl, hs, rv⟩ := q
      exact ⟨a, rfl, vs, ρ1, st1, (none, ds), r1, .inl ⟨hs.sq, trivial, fun ρ2 st2 H2 e r2 _ => itR_list hs rv r1 ρ2 st2 H2 e r2⟩, o1⟩
    | loc n =>
      simp only at o1
      split at o1
      · rename_i xs hx
        simp only [RelD] at q
        obtain ⟨vs, hv, rv⟩ : ∃ vs, H1 (ρ1.at' n) = some (.lst vs) ∧ RelDs X.K ρ1 st1.length H1 xs vs := r1.obj n _ hx
        exact ⟨ρ1.at' n, q.1, vs, ρ1, st1, (some n, xs), r1, .inl ⟨.inl (.inl hv), hx, itL_list r1 hx⟩, o1⟩
      · exact o1.elim
    | _ => exact o1.elim
  · obtain ⟨a, e, vs, ρ1, st1, nd, rr, hq, o1⟩ := q1
    subst e
    cases r1
    rcases hq with ⟨hq, hx, hI⟩ | ⟨hq, hx, hI⟩
    · obtain ⟨its, rw', p, hz⟩ := I1.list hq
      refine wpAny_pyIter_list p.isList ?_
      refine ⟨s1.heap.objs.size, [s1.heap.objs.size], _, Itl X.K a, H1, rfl, I1.kept (t' := s1.toks) fun b o e => Heap.get?_push_of_some _ e, turn_list a _, ⟨_, Heap.get?_push_size _ rfl, rfl, rfl⟩, fun b hb => ?_, o1 ρ1 H1 _ .refl rr ⟨hx, hI⟩⟩
      have e : b = s1.heap.objs.size := by simpa using hb
      subst e
      exact I1.fpOk (Nat.le_refl _) (I1.hok.fresh (Nat.le_refl _))
    · obtain ⟨its, rw', p, hz⟩ := I1.tuple hq
      refine wpAny_pyIter_tuple (show s1.heap.IsTuple a its.toArray from p) ?_
      refine ⟨s1.heap.objs.size, [s1.heap.objs.size], _, Itt X.K a, H1, rfl, I1.kept (t' := s1.toks) fun b o e => Heap.get?_push_of_some _ e, turn_tuple a _, ⟨_, Heap.get?_push_size _ rfl, rfl, rfl⟩, fun b hb => ?_, o1 ρ1 H1 _ .refl rr ⟨hx, hI⟩⟩
      have e : b = s1.heap.objs.size := by simpa using hb
      subst e
      exact I1.fpOk (Nat.le_refl _) (I1.hok.fresh (Nat.le_refl _))
open Classical in
noncomputable def chkC (C : Store → Prop) (b : SS) : SS := fun τ st => match b τ st with
  | .nx τ' st' => if C st' then .nx τ' st' else .no
  | .ct τ' st' => if C st' then .ct τ' st' else .no
  | r => r
theorem chkC_nx {C : Store → Prop} {b : SS} {τ τ' : En} {st st' : Store} (h : b τ st = .nx τ' st') (h2 : C st') : chkC C b τ st = .nx τ' st' := by
  simp only [chkC, h, h2, if_true]
theorem chkC_rt {C : Store → Prop} {b : SS} {τ : En} {st st' : Store} {d : D} (h : b τ st = .rt d st') : chkC C b τ st = .rt d st' := by
  simp only [chkC, h]
@[simp] theorem chkC_none {ds : List D} {b : SS} : chkC (cOf none ds) b = b := by
  funext τ st
  simp only [chkC, cOf, if_true]
  cases b τ st <;> simp
noncomputable def sForA (ml : En → Store → Rs (Option Nat × List D)) (g : SG) (b : SS) : SS := fun τ st => (ml τ st).go τ fun nd st1 => forS g (chkC (cOf nd.1 nd.2) b) nd.2 τ st1
theorem es_forA {vs : List Nat} {g : SG} (hp : PassesOwn (model X.prog X.w) X.A X.env X.xe) (hc : X.calm = true) (hi : EvIA X W tg iter ml) (hg : EvG X vs tg g) (hb : EvSs X W ss u)
    (hs : ∀ x, foldedSetIterable iter X.env x = pure x := by intro _; rfl) : EvS X W (.For tg iter ss [] pos) (sForA ml g u) := PS.imp (ps_for hp hc hi hg hb hs) fun D σ H ⟨ρ, τ, st, r0, en, o⟩ =>
  tM.goS r0 en o fun nd st1 ρ1 H1 J e1 r1 en1 q o1 => by
    obtain ⟨n, ds⟩ := nd
    obtain ⟨hx, q⟩ := q
    simp only at hx q o1
    obtain ⟨C, hC⟩ : ∃ C, C = cOf n ds := ⟨_, rfl⟩
    rw [← hC] at hx q o1
    refine ⟨fun i m σ H => m = ds.length - i ∧ i ≤ ds.length ∧ ∃ ρ τ st, Ext ρ1 st1.length H1 ρ st.length H ∧ R X.K ρ st H ∧ EnvR X.K ρ st.length H τ σ ∧ C st ∧ OutS X.K W ρ st.length H D (forS g (chkC C u) (ds.drop i) τ st),
      ⟨_, rfl, Nat.zero_le _, ρ1, τ, st1, .refl, r1, en1, hx, by rw [List.drop_zero]; exact o1⟩, fun i m σ H ⟨hm, hi, ρ, τ, st, ex, r, en, hst, o⟩ => ?_⟩
    obtain ⟨go, stop⟩ := q ρ st H ex.w r hst i
    by_cases hl : i < ds.length
    · have hd : ds[i]? = some ds[i] := List.getElem?_eq_getElem hl
      obtain ⟨g1, g2⟩ := go _ hd
      refine .inr ⟨g1, fun σ H => (ds.length - (i + 1)) = ds.length - (i + 1) ∧ i + 1 ≤ ds.length ∧ ∃ ρ τ st, Ext ρ1 st1.length H1 ρ st.length H ∧ R X.K ρ st H ∧ EnvR X.K ρ st.length H τ σ ∧ C st ∧ OutS X.K W ρ st.length H D (forS g (chkC C u) (ds.drop (i + 1)) τ st),
        fun σ' H' h => ⟨ds.length - (i + 1), by omega, h⟩, fun x H3 hy => ?_⟩
      obtain ⟨e3, r3, rd⟩ := g2 x H3 hy
      rw [List.drop_eq_getElem_cons hl] at o
      simp only [forS] at o
      refine ⟨ρ, τ, st, _, r3, en.mono e3 r, rd, ?_⟩
      cases e2 : g ds[i] τ with
      | none => rw [e2] at o; exact o
      | some τ1 =>
        rw [e2] at o
        simp only at o
        intro σ1 en1' _
        refine ⟨ρ, τ1, st, r3, en1', ?_⟩
        have o' := OutS.shift o r e3 r3
        have ex3 := ex.trans r1 r e3
        cases e4 : u τ1 st with
        | nx a s =>
          by_cases hc2 : C s
          · rw [chkC_nx e4 hc2] at o'; exact fun ρ' H' σ' e' r' en' => ⟨rfl, hl, ρ', a, s, ex3.trans r1 r3 e', r', en', hc2, OutS.shift o' r3 e' r'⟩
          · have : chkC C u τ1 st = .no := by simp only [chkC, e4, if_neg hc2]
            rw [this] at o'; exact o'.elim
        | ct a s =>
          by_cases hc2 : C s
          · have : chkC C u τ1 st = .ct a s := by simp only [chkC, e4, if_pos hc2]
            rw [this] at o'; exact fun ρ' H' σ' e' r' en' => ⟨rfl, hl, ρ', a, s, ex3.trans r1 r3 e', r', en', hc2, OutS.shift o' r3 e' r'⟩
          · have : chkC C u τ1 st = .no := by simp only [chkC, e4, if_neg hc2]
            rw [this] at o'; exact o'.elim
        | no => simp only [chkC, e4] at o'; exact o'
        | bk a s => simp only [chkC, e4] at o'; exact o'
        | rt a s => simp only [chkC, e4] at o'; exact o'
        | er x a s => simp only [chkC, e4] at o'; exact o'
    · refine .inl ⟨stop (by omega), ?_⟩
      rw [List.drop_eq_nil_of_le (by omega)] at o
      exact o.next r en
open Classical in
noncomputable def chkCE (C : Store → Prop) (m : SE) : SE := fun τ st => match m τ st with
  | .ok y st' => if C st' then .ok y st' else .no
  | r => r
open Classical in
noncomputable def chkCB (C : Store → Prop) (m : SB) : SB := fun τ st => match m τ st with
  | .ok y st' => if C st' then .ok y st' else .no
  | r => r
theorem chkCE_ok {C : Store → Prop} {m : SE} {τ : En} {st st' : Store} {y : D} (h : m τ st = .ok y st') (h2 : C st') : chkCE C m τ st = .ok y st' := by
  simp only [chkCE, h, h2, if_true]
theorem chkCB_ok {C : Store → Prop} {m : SB} {τ : En} {st st' : Store} {y : Bool} (h : m τ st = .ok y st') (h2 : C st') : chkCB C m τ st = .ok y st' := by
  simp only [chkCB, h, h2, if_true]
@[simp] theorem chkCE_none {ds : List D} {m : SE} : chkCE (cOf none ds) m = m := by
  funext τ st
  simp only [chkCE, cOf, if_true]
  cases m τ st <;> simp
@[simp] theorem chkCB_none {ds : List D} {m : SB} : chkCB (cOf none ds) m = m := by
  funext τ st
  simp only [chkCB, cOf, if_true]
  cases m τ st <;> simp
theorem chkCE_inv {C : Store → Prop} {m : SE} {τ : En} {st st' : Store} {y : D} (h : chkCE C m τ st = .ok y st') : m τ st = .ok y st' ∧ C st' := by
  simp only [chkCE] at h
  split at h
  · rename_i y2 s2 e
    split at h
    · rename_i hc; cases h; exact ⟨e, hc⟩
    · cases h
  · rename_i hne; exact absurd h (hne _ _)
theorem chkCB_inv {C : Store → Prop} {m : SB} {τ : En} {st st' : Store} {y : Bool} (h : chkCB C m τ st = .ok y st') : m τ st = .ok y st' ∧ C st' := by
  simp only [chkCB] at h
  split at h
  · rename_i y2 s2 e
    split at h
    · rename_i hc; cases h; exact ⟨e, hc⟩
    · cases h
  · rename_i hne; exact absurd h (hne _ _)
noncomputable def mCompA (ml : En → Store → Rs (Option Nat × List D)) (g : SG) (t : SB) (m : SE) (vs : List Nat) : SA := fun τ st => (ml τ st).bind fun nd st1 => compS g (chkCB (cOf nd.1 nd.2) t) (chkCE (cOf nd.1 nd.2) m) vs nd.2 τ st1 []
theorem tM.lcA {g : SG} {vs : List Nat} {σ : St} {H : Hp} {Q : VK} (h : tM X.K (reN X.K) W (mCompA ml g t m vs) σ H Q) : tLc (tM X.K (reIA X.K) W ml) (tG X.K vs g) (tM X.K reB W0 t) (tM X.K (reD X.K) W0 m) vs σ H Q := by
  obtain ⟨ρ, τ, st, r0, en, o⟩ := h
  refine tM.bind (Ra := reIA X.K) r0 en (show Out X.K (reN X.K) W σ ρ st.length H (fun v H' => Q v H') _ from o) fun nd st1 ρ1 H1 J e1 r1 en1 q o1 => ?_
  obtain ⟨n, ds⟩ := nd
  obtain ⟨hx, q⟩ := q
  simp only at hx q o1
  obtain ⟨C, hC⟩ : ∃ C, C = cOf n ds := ⟨_, rfl⟩
  rw [← hC] at hx q o1
  intro p hp
  have hpH : ∀ {x : Addr}, H1 x = none → H x = none := fun z => e1.none_of r1 z
  refine ⟨fun i k H' => k = ds.length - i ∧ i ≤ ds.length ∧ ∃ ρ' st' acc us, ρ'.hid = ρ1.hid ∧ Ext ρ1 st1.length H1 ρ' st'.length H' ∧ R X.K (ρ'.hide p) st' H' ∧ EnvR X.K (ρ'.hide p) st'.length H' τ σ ∧ H' p = some (.lst us) ∧
      RelDs X.K (ρ'.hide p) st'.length H' acc us ∧ C st' ∧ Out X.K (reN X.K) W σ ρ1 st1.length H1 Q (compS g (chkCB C t) (chkCE C m) vs (ds.drop i) τ st' acc), ⟨_, rfl, Nat.zero_le _, ρ1, st1, [], [], rfl, r1.push_ext hp, r1.hide hp rfl, en1.hideN hp, upd_same, .nil, hx, by rw [List.drop_zero]; exact o1⟩, fun i k H' ⟨hk, hi, ρ', st', acc, us, hh, ex, rr, en', hpu, ra, hst, oo⟩ => ?_⟩
  have rs := R.show' rr
  obtain ⟨go, stop⟩ := q (ρ'.hide p) st' H' (ex.hideW hp) rr hst i
  by_cases hl : i < ds.length
  · have hd : ds[i]? = some ds[i] := List.getElem?_eq_getElem hl
    obtain ⟨g1, g2⟩ := go _ hd
    rw [List.drop_eq_getElem_cons hl] at oo
    simp only [compS] at oo
    refine .inr ⟨g1, fun H' => ∃ ρ' st' acc us, ρ'.hid = ρ1.hid ∧ Ext ρ1 st1.length H1 ρ' st'.length H' ∧ R X.K (ρ'.hide p) st' H' ∧ EnvR X.K (ρ'.hide p) st'.length H' τ σ ∧ H' p = some (.lst us) ∧
      RelDs X.K (ρ'.hide p) st'.length H' acc us ∧ C st' ∧ Out X.K (reN X.K) W σ ρ1 st1.length H1 Q (compS g (chkCB C t) (chkCE C m) vs (ds.drop (i + 1)) τ st' acc), fun H2 h => ⟨ds.length - (i + 1), by omega, rfl, hl, h⟩, fun x H3 hy => ?_⟩
    obtain ⟨e3, r3, rd⟩ := g2 x H3 hy
    have en3 := (en'.mono e3 rr).wipe vs
    refine ⟨ρ'.hide p, wipeE τ vs, st', _, r3, en3, rd, ?_⟩
    cases q1 : g ds[i] (wipeE τ vs) with
    | none => rw [q1] at oo; exact oo
    | some τ1 =>
      rw [q1] at oo
      simp only at oo
      refine fun σ1 en4 w1 => ⟨w1.trans wipe_wipe, ρ'.hide p, τ1, st', r3, en4, ?_⟩
      have ra3 := RelDs.mono e3 rr acc ra
      have nxt : ∀ {ρ4 : Mp} {st4 : Store} {H4 : Hp}, Ext (ρ'.hide p) st'.length H' ρ4 st4.length H4 → R X.K ρ4 st4 H4 → ∃ ρ5 : Mp, ρ5.hid = ρ1.hid ∧ ρ4 = ρ5.hide p ∧ Ext ρ1 st1.length H1 ρ5 st4.length H4 ∧ H4 p = some (.lst us) := fun {ρ4 st4 H4} e4 r4 => by
        have u := unhide (ρ := ρ') (p := p) e4.hid
        refine ⟨⟨ρ4.at', ρ'.hid⟩, hh, u, ex.trans r1 rs (st' := st') ?_, e4.keep p _ hpu fun i hi z => rr.sep i hi (.inr z)⟩
        exact ⟨e4.le, e4.old, e4.new, e4.keep, rfl⟩
      cases q2 : chkCB C t τ1 st' with
      | no =>
        rw [q2] at oo; exact oo.elim
      | er x s => rw [q2] at oo; exact oo.elim
      | ok b st2 =>
        rw [q2] at oo
        obtain ⟨q2', hst2⟩ := chkCB_inv q2
        rw [q2']
        intro ρ4 H4 b' e4 r4 hb
        cases (show b = b' from hb)
        have e34 := e3.trans rr r3 e4
        obtain ⟨ρ5, h5, u5, ex5, hp5⟩ := nxt e34 r4
        have en5 : EnvR X.K ρ4 st2.length H4 τ σ := (en'.mono e34 rr)
        have ra5 := RelDs.mono e34 rr acc ra
        cases b with
        | false =>
          subst u5
          exact ⟨ρ5, st2, acc, us, h5, ex5, r4, en5, hp5, ra5, hst2, oo⟩
        | true =>
          simp only at oo
          refine ⟨ρ4, τ1, st2, r4, en4.mono e4 r3, ?_⟩
          cases q3 : chkCE C m τ1 st2 with
          | no => rw [q3] at oo; exact oo.elim
          | er x s => rw [q3] at oo; exact oo.elim
          | ok y st6 =>
            rw [q3] at oo
            obtain ⟨q3', hst6⟩ := chkCE_inv q3
            rw [q3']
            simp only at oo
            split at oo
            · rename_i hz
              intro ρ6 H6 vy e6 r6 ry
              have e36 := e34.trans rr r4 e6
              obtain ⟨ρ7, h7, u7, ex7, hp7⟩ := nxt e36 r6
              have ra7 := RelDs.mono e36 rr acc ra
              refine ⟨us, hp7, by rw [← ra7.len] at hz; exact hz, ?_⟩
              subst u7
              have ry' : RelD X.K (ρ7.hide p) st6.length H6 y vy := ry
              exact ⟨ρ7, st6, acc ++ [y], us ++ [vy], h7, ex7.upd_new hp, r6.hw hp7 rfl, (en'.mono e36 rr).hw hp7, upd_same, RelDs.hw hp7 _ (ra7.append (.cons ry' .nil)), hst6, oo⟩
            · exact oo.elim
  · refine .inl ⟨stop (by omega), ?_⟩
    rw [List.drop_eq_nil_of_le (by omega)] at oo
    exact oo ρ' H' (.ref p) ex rs ⟨p, us, rfl, hp, hpu, rr, ra⟩
theorem ef_compA {scope : Scope} {own : List (Str × Nat)} {g : SG} {ifs : List Expr} (hc : X.calm = true) (hN : X.N.Nodup) (hi : EvIA X W tg iter ml) (ok : BlkOk X.N X.env.scope scope own)
    (hg : ∀ (s : Shared) (H : Hp) (C : Addr) (cl : List (Str × Addr)) (fp : List Addr), EvG (X.blk s H scope (compEnvC scope cl C X.env) fp) (own.map (·.2)) tg g)
    (ht : ∀ (s : Shared) (H : Hp) (C : Addr) (cl : List (Str × Addr)) (fp : List Addr), EvT (X.blk s H scope (compEnvC scope cl C X.env) fp) W0 ifs t)
    (he : ∀ (s : Shared) (H : Hp) (C : Addr) (cl : List (Str × Addr)) (fp : List Addr), EvE (X.blk s H scope (compEnvC scope cl C X.env) fp) W0 e m)
    (hs : ∀ x, foldedSetIterable iter X.env x = pure x := by intro _; rfl) :
    EvF X W (.ListComp e [⟨tg, iter, ifs, 0⟩] scope pos) (mCompA ml g t m (own.map (·.2))) :=
  PE.imp (pe_lc (g := tG X.K (own.map (·.2)) g) (tt := tM X.K reB W0 t) (te := tM X.K (reD X.K) W0 m) hc hN hi ok hg ht he hs) fun σ H Q h => tM.lcA h
end
@[simp] theorem x_mItA {m : SE} {σ : En} {st : Store} : mItA m σ st = (m σ st).bind fun d st1 => match d with
  | .tup ds => .ok (none, ds) st1
  | .lst ds => .ok (none, ds) st1
  | .loc n => (match st1[n]? with
    | some (.lst xs) => .ok (some n, xs) st1
    | _ => .no)
  | _ => .no := rfl
@[simp] theorem x_sForA {ml : En → Store → Rs (Option Nat × List D)} {g : SG} {b : SS} {τ : En} {st : Store} : sForA ml g b τ st = (ml τ st).go τ fun nd st1 => forS g (chkC (cOf nd.1 nd.2) b) nd.2 τ st1 := rfl
@[simp] theorem x_mCompA {ml : En → Store → Rs (Option Nat × List D)} {g : SG} {t : SB} {m : SE} {vs : List Nat} {τ : En} {st : Store} : mCompA ml g t m vs τ st = (ml τ st).bind fun nd st1 => compS g (chkCB (cOf nd.1 nd.2) t) (chkCE (cOf nd.1 nd.2) m) vs nd.2 τ st1 [] := rfl
/-! ### powers -/
def rPow : Int → Int → Prop := CPow
theorem ex_powFits : ∃ f : Int → Int → Bool, ∀ i j : Int, f i j = true ↔ CPow i j := ⟨fun i j => decide (0 ≤ j ∧ j ≤ 1000000 ∧ i.natAbs < 2 ^ 64), fun i j => decide_eq_true_iff⟩
noncomputable def powFits : Int → Int → Bool := ex_powFits.choose
theorem powFits_iff {i j : Int} : powFits i j = true ↔ CPow i j := ex_powFits.choose_spec i j
theorem ex_pw : ∃ f : Int → Int → Int, ∀ i j : Int, f i j = i ^ j.toNat := ⟨fun i j => i ^ j.toNat, fun _ _ => rfl⟩
noncomputable def pw : Int → Int → Int := ex_pw.choose
theorem pw_eq (i j : Int) : pw i j = i ^ j.toNat := ex_pw.choose_spec i j
noncomputable def fPow : D → D → Store → Rs D := onIIc powFits fun i j => .int (pw i j)
theorem opS_pow {X : Cx} : OpS X (binaryOp .Pow) fPow := by
  refine ⟨_, op_pow, fun W σ ρ st H x y vx vy Q r rx ry o => ?_⟩
  cases x with
  | int i =>
    cases y with
    | int j =>
      simp only [fPow, onIIc] at o
      split at o
      · rename_i h
        simp only [RelD] at rx ry
        exact ⟨i, j, rx, ry, powFits_iff.mp h, o.here r (by simp [reD, RelD, pw_eq])⟩
      · exact o.elim
    | _ => exact o.elim
  | _ => exact o.elim
end Fx

set_option Elab.async false
set_option linter.all false
set_option maxRecDepth 100000
set_option maxHeartbeats 4000000
namespace Fx
open PySem L2
variable [Md]
variable [Mw]
variable {d : Nat}
theorem eqv_intsL : ∀ {a b : List Int}, PyData.eqvAll (toPys (a.map D.int)) (toPys (b.map D.int)) = decide (a = b)
  | [], [] => by simp [toPys, PyData.eqvAll]
  | [], _ :: _ => by simp [toPys, PyData.eqvAll]
  | _ :: _, [] => by simp [toPys, PyData.eqvAll]
  | x :: a, y :: b => by
    simp only [List.map_cons, toPys, toPy, PyData.eqvAll, PyData.eqv, eqv_intsL (a := a) (b := b)]
    by_cases h : x = y
    · subst h; simp
    · simp [h]
theorem fEq_lst {a b : List Int} {st : Store} : fEq (.lst (a.map D.int)) (.lst (b.map D.int)) st = .ok (.bl (decide (a = b))) st := by
  have h : ∀ a : List Int, Fl 1 (.lst (a.map D.int)) := fun a => Fl.lst fun x hx => by
    obtain ⟨n, _, rfl⟩ := List.mem_map.mp hx; exact .int
  rw [fEq_fl (h a) (h b)]
  unfold eqD
  simp only [toPy, PyData.eqv]
  rw [eqv_intsL]
def rngI (n : Nat) : List Int := (List.range n).map fun (k : Nat) => (k : Int)
theorem rangeD_rngI (n : Nat) : rangeD 0 (n : Int) = (rngI n).map D.int := by rw [rangeD_nat, rngI, List.map_map]; rfl
theorem rngI_sorted (n : Nat) : (rngI n).Pairwise (· ≤ ·) := by
  rw [rngI, List.pairwise_map]
  exact List.pairwise_lt_range.imp fun h => by omega
/-- sorted, a permutation is 0, 1, .. -/
theorem isP_sorted {ns : List Int} : isP (.tup (ns.map D.int)) = decide (sortI ns = rngI ns.length) := by
  cases q : isP (.tup (ns.map D.int)) with
  | true =>
    symm
    refine decide_eq_true ?_
    obtain ⟨e, p, hx, hl⟩ := isP_inv q
    have hl' : ns.length = e := by simpa [lenD] using hl
    have hn : ns = (p.list).map fun (k : Nat) => (k : Int) := by
      have h2 : ns.map D.int = p.list.map nD := by
        have : D.tup (ns.map D.int) = .tup (p.list.map nD) := hx
        injection this
      have := congrArg (List.map fun x => match x with | D.int i => i | _ => 0) h2
      simpa [Function.comp_def, nD] using this
    refine sorted_uniq ((sortI_perm ns).trans ?_) (sortI_sorted ns) (rngI_sorted _)
    rw [hl', hn, rngI, Pm.list]
    exact (range_perm p).map _
  | false =>
    symm
    refine decide_eq_false fun h => ?_
    have hp : ns.Perm (rngI ns.length) := by rw [← h]; exact (sortI_perm ns).symm
    have hnd : ns.Nodup := by
      refine hp.nodup_iff.mpr ?_
      rw [rngI]
      exact List.Pairwise.map _ (fun a b hne e => hne (by omega)) List.nodup_range
    have : isP (.tup (ns.map D.int)) = true := by
      show permL (ns.map D.int).length [] (ns.map D.int) = true
      rw [List.length_map]
      refine permL_of (fun i hi => ?_) hnd
      have hm := hp.mem_iff.mp hi
      rw [rngI] at hm
      obtain ⟨k, hk, rfl⟩ := List.mem_map.mp hm
      rw [List.mem_range] at hk
      exact ⟨by omega, by omega, by simp⟩
    rw [this] at q; cases q
theorem enum_list (c : List Nat) : enumD (c.map nD) = (List.range c.length).map fun i => D.tup [nD i, nD (c.getD i 0)] := by
  refine List.ext_getElem? fun i => ?_
  rw [enumD_get]
  by_cases h : i < c.length
  · simp [h, List.getD_eq_getElem?_getD]
  · rw [List.getElem?_eq_none (by simp; omega), List.getElem?_eq_none (by simp; omega)]; rfl
/-- the places along a cycle, moved on by k -/
def stepP (k : Int) (F : List D) (c : List Nat) : List D := (List.range c.length).foldl (fun F n => F.set (c.getD n 0) (nD (c.getD (((n : Int) + k) % (c.length : Int)).toNat 0))) F
def powF (p : Pm d) (k : Int) : List D := (cycs p).foldl (stepP k) (List.replicate d (.int 0))
theorem fold_ints {c : List Nat} {k : Int} : ∀ (l : List Nat) (F : List D), (∀ x ∈ F, ∃ i, x = .int i) → ((l.foldl (fun F n => F.set (c.getD n 0) (nD (c.getD (((n : Int) + k) % (c.length : Int)).toNat 0))) F).length = F.length) ∧ ∀ x ∈ l.foldl (fun F n => F.set (c.getD n 0) (nD (c.getD (((n : Int) + k) % (c.length : Int)).toNat 0))) F, ∃ i, x = .int i
  | [], F, h => ⟨rfl, h⟩
  | n :: l, F, h => by
    obtain ⟨h1, h2⟩ := fold_ints (c := c) (k := k) l (F.set (c.getD n 0) (nD (c.getD (((n : Int) + k) % (c.length : Int)).toNat 0))) fun x hx => by
      rcases List.mem_or_eq_of_mem_set hx with hx | rfl
      · exact h x hx
      · exact ⟨_, rfl⟩
    exact ⟨by rw [List.foldl_cons, h1, List.length_set], h2⟩
theorem powF_ints (p : Pm d) (k : Int) : (powF p k).length = d ∧ ∀ x ∈ powF p k, ∃ i, x = .int i := by
  have key : ∀ (cs : List (List Nat)) (F : List D), (∀ x ∈ F, ∃ i, x = .int i) → (cs.foldl (stepP k) F).length = F.length ∧ ∀ x ∈ cs.foldl (stepP k) F, ∃ i, x = .int i := by
    intro cs
    induction cs with
    | nil => exact fun F h => ⟨rfl, h⟩
    | cons c cs ih =>
      intro F h
      obtain ⟨h1, h2⟩ := fold_ints (c := c) (k := k) (List.range c.length) F h
      obtain ⟨h3, h4⟩ := ih (stepP k F c) h2
      exact ⟨by rw [List.foldl_cons, h3]; exact h1, h4⟩
  obtain ⟨h1, h2⟩ := key (cycs p) (List.replicate d (.int 0)) fun x hx => ⟨0, List.eq_of_mem_replicate hx⟩
  exact ⟨by rw [powF, h1, List.length_replicate], h2⟩
theorem cyc_lt {p : Pm d} {c : List Nat} (h : c ∈ cycs p) : 0 < c.length ∧ ∀ n, n < c.length → c.getD n 0 < d := by
  refine ⟨(lens_pos (List.mem_map.mpr ⟨c, h, rfl⟩)).1, fun n hn => ?_⟩
  rw [List.getD_eq_getElem?_getD, List.getElem?_eq_getElem hn]
  exact cycs_lt (List.mem_flatten.mpr ⟨c, h, List.getElem_mem hn⟩)
end Fx

set_option Elab.async false
set_option linter.all false
set_option maxRecDepth 100000
set_option maxHeartbeats 4000000
namespace Fx
open PySem L2 PyProof.Rows
variable [Md]
variable [Mw]
section
variable {X : Cx} {W : WX} {a b c o i e k value : Expr} {ma mb mo mk mv : SE} {na : SA} {p p2 pos apos cpos : Pos}
/-! ### x in xs, items of any depth -/
def rInA (K : PySem.W.Frag) (neg : Bool) : R2 := fun x y H Q => ∃ d ds, Dp K H x d ∧ (Dp K H y (.tuple ds) ∨ Dp K H y (.list ds)) ∧ SeqAt.shaped d = true ∧ PyData.canLayAll0 ds = true ∧ Q (.bl (if neg = true then !ds.any fun z => PyData.eqv z d else ds.any fun z => PyData.eqv z d)) H
theorem roomA {A : Around} {ds : List PyData} {d : PyData} (hu : A.units + 65 < cLine) (hd : SeqAt.shaped d = true) : A.units + 1 + min (PyData.depthAll ds) d.depth < cLine := by
  have := Nat.min_le_right (PyData.depthAll ds) d.depth
  unfold SeqAt.shaped at hd
  simp only [Bool.and_eq_true, decide_eq_true_eq] at hd
  have := hd.2
  omega
theorem op_inA (hu : X.A.units + 65 < cLine) : OpR X (compareOp .In) (rInA X.K false) := by
  intro pins s σ H x y v u Q I rx ry h
  obtain ⟨d, ds, hd, he, sd, se, q⟩ := h
  obtain ⟨as, r1⟩ := Dp.reads I d x v hd rx
  rcases he with he | he
  · obtain ⟨bs, r2⟩ := Dp.reads I (.tuple ds) y u he ry
    exact SeqAt.in_tuple_reads r2 r1 se (SeqAt.canLay_of_shaped sd) (roomA hu sd) ⟨.bl _, H, I, rfl, q⟩
  · obtain ⟨bs, r2⟩ := Dp.reads I (.list ds) y u he ry
    exact SeqAt.in_list_reads r2 r1 se (SeqAt.canLay_of_shaped sd) (roomA hu sd) ⟨.bl _, H, I, rfl, q⟩
theorem op_notInA (hu : X.A.units + 65 < cLine) : OpR X (compareOp .NotIn) (rInA X.K true) := by
  intro pins s σ H x y v u Q I rx ry h
  obtain ⟨d, ds, hd, he, sd, se, q⟩ := h
  obtain ⟨as, r1⟩ := Dp.reads I d x v hd rx
  rcases he with he | he
  · obtain ⟨bs, r2⟩ := Dp.reads I (.tuple ds) y u he ry
    exact SeqAt.notIn_tuple_reads r2 r1 se (SeqAt.canLay_of_shaped sd) (roomA hu sd) ⟨.bl _, H, I, rfl, q⟩
  · obtain ⟨bs, r2⟩ := Dp.reads I (.list ds) y u he ry
    exact SeqAt.notIn_list_reads r2 r1 se (SeqAt.canLay_of_shaped sd) (roomA hu sd) ⟨.bl _, H, I, rfl, q⟩
theorem any_toPys {x : D} : ∀ xs : List D, ((toPys xs).any fun z => PyData.eqv z (toPy x)) = xs.any fun z => eqD z x
  | [] => rfl
  | d :: ds => by simp only [toPys, List.any_cons, any_toPys ds]; rfl
/-- x in xs (neg: not in) -/
def fSIn (neg : Bool) : D → D → Store → Rs D := fun x y st => match seqOf y st with
  | some xs => if shD x = true ∧ dOks xs = true then .ok (.bl (if neg = true then !xs.any fun z => eqD z x else xs.any fun z => eqD z x)) st else .no
  | none => .no
theorem sIn_ok {neg : Bool} {σ : L2.St} {ρ : Mp} {st : Store} {H : Hp} {x y : D} {vx vy : V} {Q : VK} (r : R X.K ρ st H) (rx : RelD X.K ρ st.length H x vx) (ry : RelD X.K ρ st.length H y vy) (o : Out X.K (reD X.K) W σ ρ st.length H Q (fSIn neg x y st)) : rInA X.K neg vx vy H Q := by
  unfold fSIn at o
  cases q : seqOf y st with
  | none => rw [q] at o; exact o.elim
  | some xs =>
    rw [q] at o
    simp only at o
    split at o
    · rename_i h
      obtain ⟨p, us, rfl, hs, ru⟩ := seqOf_rel r ry q
      have hd : DpAll X.K H us (toPys xs) := dps_of xs h.2 ru
      refine ⟨toPy x, toPys xs, dp_of x (shD_ok h.1) rx, ?_, shaped_of h.1, canLays_of xs h.2, o.here r (by simp only [any_toPys]; simp [reD, RelD])⟩
      rcases hs with hs | hs
      · exact .inr (.lst hs hd)
      · exact .inl (.tup (hs.sq) hd)
    · exact o.elim
theorem opS_sin (hu : X.A.units + 65 < cLine) : OpS X (compareOp .In) (fSIn false) := ⟨_, op_inA hu, fun W σ ρ st H x y vx vy Q r rx ry o => sIn_ok r rx ry o⟩
theorem opS_snotin (hu : X.A.units + 65 < cLine) : OpS X (compareOp .NotIn) (fSIn true) := ⟨_, op_notInA hu, fun W σ ρ st H x y vx vy Q r rx ry o => sIn_ok r rx ry o⟩
theorem hu5_of {A : Around} {k : Nat} (hr : Room k A) : A.units + 65 < cLine := by have := hr.un; omega

/-! ### l.extend(e), e a list that this expression makes -/
noncomputable def mExtF (mo : SE) (na : SA) : SE := fun τ st => (mo τ st).bind fun ob st1 => match listOf ob st1 with
  | some _ => (na τ st1).bind fun ds st2 => onLoc ob st2 fun xs => if szFits (xs.length + ds.length) = true then some (.non, xs ++ ds) else none
  | none => .no
theorem ev_extF (ho : EvE X W o mo) (ha : EvF X W e na)
    (hbase : attributeBase o "extend" X.env (eval o X.env) = eval o X.env := by rfl)
    (hfew : ((backTo cpos (starEach (e :: []) X.env)).all (fun x => !x.1) && (backToKw cpos (keywordEach [] X.env)).all (fun x => x.1.isSome)
      && decide ((e :: []).length + ([] : List Keyword).length + (if ([] : List Keyword).isEmpty then 0 else 1) < 30)) = true := by rfl)
    (hline : (apos.endLine == cpos.line) = true := by rfl) (hs : starEach (e :: []) X.env = (false, eval e X.env) :: starEach [] X.env := by rfl) (hplain : (backTo cpos (starEach [] X.env)).any (·.1) = false := by rfl) :
    EvE X W (.Call (.Attribute o "extend" apos) [e] [] cpos) (mExtF mo na) := by
  refine PE.imp (pe_bm PySem.F.plainAttrs_list PySem.F.slot_list_extend rfl mt_extend ho (pa_cons ha pa_nil hs) hbase hfew hline hs hplain) fun σ H Q ⟨ρ, τ, st, r0, en, oo⟩ => tM.bind r0 en oo fun ob st1 ρ1 H1 v e1 r1 en1 q o1 => ?_
  cases hl : listOf ob st1 with
  | none => rw [hl] at o1; exact o1.elim
  | some xs =>
    rw [hl] at o1
    obtain ⟨p, us, rfl, hs, _⟩ := listOf_rel r1 q hl
    refine ⟨.inl ⟨rfl, us, hs⟩, tM.bind r1 en1 o1 fun ds st2 ρ2 H2 vy e2 r2 en2 q2 o2 => ?_⟩
    obtain ⟨b', vs, rfl, h0, hb', rh, rv⟩ := q2
    obtain ⟨n, xs, d', ys, rfl, e1', e2', e3'⟩ := onLoc_ok (fun z => by rw [z] at o2; exact o2)
    rw [e3'] at o2
    split at e2'
    · rename_i hz
      cases e2'
      obtain ⟨hln, e, us', hv, ru⟩ := loc_rel r2 (q.mono e2 r1) e1'
      refine ⟨_, b', us', vs, e, rfl, hv, hb', by rw [ru.len, rv.len]; exact szFits_iff.mp hz, ?_⟩
      exact o2.write r2 hln (ru.append (RelDs.show' _ rv)) (by simp [RelD])
    · cases e2'

/-! ### {k: v} -/
def mDisp1 (mk mv : SE) : SE := fun τ st => (mk τ (st ++ [.dk []])).bind fun x st1 => (mv τ st1).bind fun y st2 => match keyOf x, st2[st.length]? with
  | some q, some (.dk []) => .ok (.loc st.length) (st2.set st.length (.dk [(q, y)]))
  | _, _ => .no
theorem ev_disp1 (hk : EvE X W k mk) (hv : EvE X W value mv) : EvE X W (.Dict [some k] [value] pos) (mDisp1 mk mv) := by
  refine PE.imp (pe_disp (pps_cons hk hv pps_nil) rfl rfl (by simp) (by simp)) fun σ H Q ⟨ρ, τ, st, r0, en, o⟩ => fun p hp => ?_
  have r1 : R X.K (put ρ st.length p) (st ++ [.dk []]) (upd H p (.dK [])) := r0.alloc hp ⟨[], upd_same, .nil⟩
  have ex : Ext ρ st.length H (put ρ st.length p) (st ++ [O.dk []]).length (upd H p (.dK [])) := by
    rw [List.length_append, List.length_singleton]; exact put_ext hp
  have en1 := en.mono ex r0
  refine tM.bind r1 en1 (Out.shift o r0 ex r1) fun x st1 ρ1 H1 vx e1 r1' en1' q1 o1 => ?_
  refine tM.bind r1' en1' o1 fun y st2 ρ2 H2 vy e2 r2 en2 q2 o2 => ?_
  have hl : st.length < (st ++ [O.dk []]).length := by simp
  have hl1 : st.length < st1.length := Nat.lt_of_lt_of_le hl e1.le
  have ea : ρ2.at' st.length = p := by rw [e2.old _ hl1, e1.old _ hl, put_at]
  show H2 p = some (.dK []) ∧ ∃ kvs : List (Key × V), [(vx, vy)] = kvs.map (fun kv => (kV kv.1, kv.2)) ∧ kvs.length ≤ 15 ∧ Q (.ref p) (upd H2 p (.dK (mergeK [] kvs)))
  cases ek : keyOf x with
  | none => rw [ek] at o2; exact o2.elim
  | some q =>
    cases es : st2[st.length]? with
    | none => rw [ek, es] at o2; exact o2.elim
    | some ob =>
      rw [ek, es] at o2
      cases ob with
      | lst _ => exact o2.elim
      | dt _ => exact o2.elim
      | dk kvs =>
        cases kvs with
        | cons _ _ => exact o2.elim
        | nil =>
          simp only at o2
          obtain ⟨ws, hw, hpd⟩ := r2.obj _ _ es
          cases hpd
          rw [ea] at hw
          refine ⟨hw, [(q, vy)], by rw [keyOf_rel q1 ek]; rfl, by simp, ?_⟩
          have hl2 : st.length < st2.length := (List.getElem?_eq_some_iff.mp es).1
          have ex2 := r2.set_ext (u := .dK [(q, vy)]) hl2
          show Q (.ref p) (upd H2 p (.dK [(q, vy)]))
          rw [← ea]
          refine o2 ρ2 _ _ ?_ (r2.set hl2 ⟨[(q, vy)], upd_same, .cons ⟨rfl, RelD.mono q2 ex2 r2⟩ .nil⟩) ?_
          · rw [List.length_set]; exact ex2
          · simp only [reD, RelD]; rw [List.length_set]; exact ⟨trivial, hl2⟩
@[simp] theorem x_mDisp1 {σ : En} {st : Store} : mDisp1 mk mv σ st = (mk σ (st ++ [.dk []])).bind fun x st1 => (mv σ st1).bind fun y st2 => match keyOf x, st2[st.length]? with
  | some q, some (.dk []) => .ok (.loc st.length) (st2.set st.length (.dk [(q, y)]))
  | _, _ => .no := rfl
@[simp] theorem x_mExtF {σ : En} {st : Store} : mExtF mo na σ st = (mo σ st).bind fun ob st1 => match listOf ob st1 with
  | some _ => (na σ st1).bind fun ds st2 => onLoc ob st2 fun xs => if szFits (xs.length + ds.length) = true then some (.non, xs ++ ds) else none
  | none => .no := rfl
end
end Fx

set_option Elab.async false
set_option linter.all false
set_option maxRecDepth 100000
set_option maxHeartbeats 4000000
namespace Fx
open PySem L2
variable [Md]
variable [Mw]
/-! ### leading words, in plain Lean -/
abbrev Ent := Nat × List Int
section
variable (s : Int → Nat → Nat) (Ls : List Int)
def vw (x : Nat) (w : List Int) (F : List Ent) (i : Int) : List Ent := if s i x ∈ F.map (·.1) then F else F ++ [(s i x, w ++ [i])]
def expE (F : List Ent) (e : Ent) : List Ent := Ls.foldl (vw s e.1 e.2) F
def lbf : Nat → Nat → List Ent → List Ent
  | 0, _, F => F
  | n + 1, k, F => match F[k]? with
    | none => F
    | some e => lbf n (k + 1) (expE s Ls F e)
def lead (d x : Nat) : List Ent := lbf s Ls d 0 [(x, [])]
def nd (x : Nat) (w : List Int) : Nat := w.foldl (fun y i => s i y) x
def addW (x : Nat) (F : List Ent) (w : List Int) : List Ent := if nd s x w ∈ F.map (·.1) then F else F ++ [(nd s x w, w)]
def news (x : Nat) : List Ent → List (List Int) → List Ent
  | _, [] => []
  | F, w :: V => if nd s x w ∈ F.map (·.1) then news x F V else (nd s x w, w) :: news x (F ++ [(nd s x w, w)]) V
def blk (w : List Int) : List (List Int) := Ls.map fun i => w ++ [i]
end
variable {s : Int → Nat → Nat} {Ls : List Int} {x0 d : Nat}
theorem nd_snoc {x : Nat} {w : List Int} {i : Int} : nd s x (w ++ [i]) = s i (nd s x w) := by simp [nd]
theorem add_news : ∀ (V : List (List Int)) (F : List Ent), V.foldl (addW s x0) F = F ++ news s x0 F V
  | [], F => by simp [news]
  | w :: V, F => by
    rw [List.foldl_cons, add_news V, addW, news]
    split <;> simp
theorem vw_app {x : Nat} {w : List Int} : ∀ (l : List Int) (F : List Ent), ∃ R, l.foldl (vw s x w) F = F ++ R
  | [], F => ⟨[], by simp⟩
  | i :: l, F => by
    rw [List.foldl_cons]
    obtain ⟨R, h⟩ := vw_app (x := x) (w := w) l (vw s x w F i)
    rw [h, vw]
    split
    · exact ⟨R, rfl⟩
    · exact ⟨(s i x, w ++ [i]) :: R, by simp⟩
theorem exp_app (F : List Ent) (e : Ent) : ∃ R, expE s Ls F e = F ++ R := vw_app _ _
theorem mem_app {F R : List Ent} {y : Nat} (h : y ∈ F.map (·.1)) : y ∈ (F ++ R).map (·.1) := by rw [List.map_append]; exact List.mem_append_left _ h
theorem vw_keep {x y : Nat} {w : List Int} {l : List Int} {F : List Ent} (h : y ∈ F.map (·.1)) : y ∈ (l.foldl (vw s x w) F).map (·.1) := by
  obtain ⟨R, e⟩ := vw_app (s := s) (x := x) (w := w) l F
  rw [e]; exact mem_app h
theorem vw_has {x : Nat} {w : List Int} : ∀ {l : List Int} {F : List Ent} {i : Int}, i ∈ l → s i x ∈ (l.foldl (vw s x w) F).map (·.1)
  | j :: l, F, i, h => by
    rw [List.foldl_cons]
    rcases List.mem_cons.mp h with rfl | h
    · refine vw_keep ?_
      unfold vw
      split
      · assumption
      · simp
    · exact vw_has h
theorem vw_skip {x : Nat} {w : List Int} : ∀ {l : List Int} {F : List Ent}, (∀ i ∈ l, s i x ∈ F.map (·.1)) → l.foldl (vw s x w) F = F
  | [], F, _ => rfl
  | i :: l, F, h => by
    rw [List.foldl_cons, show vw s x w F i = F from if_pos (h i List.mem_cons_self)]
    exact vw_skip fun j hj => h j (List.mem_cons_of_mem _ hj)
theorem blk_fold {w : List Int} : ∀ (l : List Int) (H : List Ent), (l.map fun i => w ++ [i]).foldl (addW s x0) H = l.foldl (vw s (nd s x0 w) w) H
  | [], H => rfl
  | i :: l, H => by
    rw [List.map_cons, List.foldl_cons, List.foldl_cons, blk_fold l]
    congr 1
    rw [addW, vw, nd_snoc]
theorem exp_level : ∀ (V : List (List Int)) (F H : List Ent), (∀ y ∈ F.map (·.1), ∀ i ∈ Ls, s i y ∈ H.map (·.1)) →
    (V.flatMap (blk Ls)).foldl (addW s x0) H = (news s x0 F V).foldl (expE s Ls) H
  | [], F, H, _ => rfl
  | w :: V, F, H, h => by
    rw [List.flatMap_cons, List.foldl_append, blk, blk_fold, news]
    split
    · rename_i c
      rw [vw_skip (h _ c)]
      exact exp_level V F H h
    · rw [List.foldl_cons]
      refine exp_level V _ _ fun y hy i hi => ?_
      rw [List.map_append, List.mem_append] at hy
      rcases hy with hy | hy
      · exact vw_keep (h y hy i hi)
      · simp only [List.map_cons, List.map_nil, List.mem_singleton] at hy
        subst hy
        exact vw_has hi
theorem exps_keep {y : Nat} : ∀ {E F : List Ent}, y ∈ F.map (·.1) → y ∈ (E.foldl (expE s Ls) F).map (·.1)
  | [], F, h => h
  | e :: E, F, h => by rw [List.foldl_cons]; exact exps_keep (vw_keep h)
theorem exps_has : ∀ {E F : List Ent} {e : Ent} {i : Int}, e ∈ E → i ∈ Ls → s i e.1 ∈ (E.foldl (expE s Ls) F).map (·.1)
  | a :: E, F, e, i, he, hi => by
    rw [List.foldl_cons]
    rcases List.mem_cons.mp he with rfl | he
    · exact exps_keep (vw_has hi)
    · exact exps_has he hi
theorem lbf_level : ∀ (E P R : List Ent) (n : Nat), lbf s Ls (E.length + n) P.length (P ++ (E ++ R)) = lbf s Ls n (P.length + E.length) (E.foldl (expE s Ls) (P ++ (E ++ R)))
  | [], P, R, n => by simp
  | e :: E, P, R, n => by
    have e1 : (P ++ (e :: E ++ R))[P.length]? = some e := by simp
    rw [List.length_cons, show E.length + 1 + n = (E.length + n) + 1 by omega, lbf, e1]
    simp only
    obtain ⟨R', h⟩ := exp_app (s := s) (Ls := Ls) (P ++ (e :: E ++ R)) e
    rw [List.foldl_cons, h]
    have h2 := lbf_level E (P ++ [e]) (R ++ R') n
    simp only [List.length_append, List.length_cons, List.length_nil, List.append_assoc, List.cons_append, List.nil_append] at h2 ⊢
    rw [h2]
    congr 1
    omega
/-! what holds of the entries -/
structure Wok (s : Int → Nat → Nat) (Ls : List Int) (x0 d : Nat) (F : List Ent) : Prop where
  nod : (F.map (·.1)).Nodup
  lt : ∀ e ∈ F, e.1 < d
  at' : ∀ e ∈ F, nd s x0 e.2 = e.1
  let' : ∀ e ∈ F, ∀ i ∈ e.2, i ∈ Ls
  len : ∀ e ∈ F, e.2.length < F.length
  pre : ∀ e ∈ F, e.2 ≠ [] → ∃ a ∈ F, a.2 = e.2.dropLast
theorem Wok.card {F : List Ent} (h : Wok s Ls x0 d F) : F.length ≤ d := by
  have := nodup_len (D := List.range d) h.nod fun x hx => by
    obtain ⟨e, he, rfl⟩ := List.mem_map.mp hx
    exact List.mem_range.mpr (h.lt e he)
  simpa using this
theorem Wok.one (h : x0 < d) : Wok s Ls x0 d [(x0, [])] where
  nod := by simp
  lt := fun e he => by rw [List.mem_singleton] at he; subst he; exact h
  at' := fun e he => by rw [List.mem_singleton] at he; subst he; rfl
  let' := fun e he => by rw [List.mem_singleton] at he; subst he; simp
  len := fun e he => by rw [List.mem_singleton] at he; subst he; simp
  pre := fun e he => by rw [List.mem_singleton] at he; subst he; simp
theorem Wok.vw {F : List Ent} (h : Wok s Ls x0 d F) (hs : ∀ i ∈ Ls, ∀ x, x < d → s i x < d) {e : Ent} (he : e ∈ F) {i : Int} (hi : i ∈ Ls) : Wok s Ls x0 d (vw s e.1 e.2 F i) := by
  unfold Fx.vw
  split
  · exact h
  · rename_i c
    have new : ∀ a ∈ F ++ [(s i e.1, e.2 ++ [i])], a ∈ F ∨ a = (s i e.1, e.2 ++ [i]) := fun a ha => by simpa using ha
    refine ⟨?_, fun a ha => ?_, fun a ha => ?_, fun a ha => ?_, fun a ha => ?_, fun a ha hn => ?_⟩
    · rw [List.map_append]; exact nodup_snoc h.nod c
    · rcases new a ha with ha | rfl
      · exact h.lt a ha
      · exact hs i hi _ (h.lt e he)
    · rcases new a ha with ha | rfl
      · exact h.at' a ha
      · rw [nd_snoc, h.at' e he]
    · rcases new a ha with ha | rfl
      · exact h.let' a ha
      · intro j hj
        rcases List.mem_append.mp hj with hj | hj
        · exact h.let' e he j hj
        · rw [List.mem_singleton] at hj; subst hj; exact hi
    · rcases new a ha with ha | rfl
      · have := h.len a ha; simp; omega
      · have := h.len e he; simp; omega
    · rcases new a ha with ha | rfl
      · obtain ⟨b, hb, e2⟩ := h.pre a ha hn
        exact ⟨b, List.mem_append_left _ hb, e2⟩
      · exact ⟨e, List.mem_append_left _ he, by simp⟩
theorem vw_mem {x : Nat} {w : List Int} {F : List Ent} {i : Int} {a : Ent} (h : a ∈ F) : a ∈ vw s x w F i := by
  unfold vw
  split
  · exact h
  · exact List.mem_append_left _ h
theorem Wok.fold {e : Ent} (hs : ∀ i ∈ Ls, ∀ x, x < d → s i x < d) : ∀ (l : List Int) {F : List Ent}, Wok s Ls x0 d F → e ∈ F → (∀ i ∈ l, i ∈ Ls) → Wok s Ls x0 d (l.foldl (Fx.vw s e.1 e.2) F)
  | [], _, h, _, _ => h
  | i :: l, _, h, he, hl => Wok.fold hs l (h.vw hs he (hl i List.mem_cons_self)) (vw_mem he) fun j hj => hl j (List.mem_cons_of_mem _ hj)
theorem Wok.exp {F : List Ent} (h : Wok s Ls x0 d F) (hs : ∀ i ∈ Ls, ∀ x, x < d → s i x < d) {e : Ent} (he : e ∈ F) : Wok s Ls x0 d (expE s Ls F e) := h.fold hs Ls he fun _ h => h
/-- all places ahead of k are done -/
def Done (s : Int → Nat → Nat) (Ls : List Int) (k : Nat) (F : List Ent) : Prop := ∀ j, j < k → ∀ e, F[j]? = some e → ∀ i ∈ Ls, s i e.1 ∈ F.map (·.1)
theorem Wok.lbf (hs : ∀ i ∈ Ls, ∀ x, x < d → s i x < d) : ∀ (n k : Nat) {F : List Ent}, Wok s Ls x0 d F → Done s Ls k F → d ≤ n + k → Wok s Ls x0 d (lbf s Ls n k F) ∧ (∀ e ∈ lbf s Ls n k F, ∀ i ∈ Ls, s i e.1 ∈ (lbf s Ls n k F).map (·.1))
  | 0, k, F, h, hd, hk => by
    refine ⟨h, fun e (he : e ∈ F) => ?_⟩
    obtain ⟨j, hj, rfl⟩ := List.getElem_of_mem he
    have := h.card
    exact hd j (by omega) _ (List.getElem?_eq_getElem hj)
  | n + 1, k, F, h, hd, hk => by
    rw [Fx.lbf]
    cases e1 : F[k]? with
    | none =>
      refine ⟨h, fun e (he : e ∈ F) => ?_⟩
      obtain ⟨j, hj, rfl⟩ := List.getElem_of_mem he
      have := List.getElem?_eq_none_iff.mp e1
      exact hd j (by omega) _ (List.getElem?_eq_getElem hj)
    | some e =>
      simp only
      refine Wok.lbf hs n (k + 1) (h.exp hs (List.mem_of_getElem? e1)) (fun j hj a ha i hi => ?_) (by omega)
      obtain ⟨R, hR⟩ := exp_app (s := s) (Ls := Ls) F e
      have hl := (List.getElem?_eq_some_iff.mp e1).1
      rw [hR, List.getElem?_append_left (by omega)] at ha
      by_cases c : j = k
      · subst c
        rw [e1] at ha
        cases ha
        exact vw_has hi
      · rw [hR]; exact mem_app (hd j (by omega) a ha i hi)
theorem lead_ok (hs : ∀ i ∈ Ls, ∀ x, x < d → s i x < d) (h : x0 < d) : Wok s Ls x0 d (lead s Ls d x0) ∧ (∀ e ∈ lead s Ls d x0, ∀ i ∈ Ls, s i e.1 ∈ (lead s Ls d x0).map (·.1)) :=
  Wok.lbf hs d 0 (Wok.one h) (fun j hj => absurd hj (Nat.not_lt_zero j)) (by omega)
theorem lbf_get {y : Nat} : ∀ (n k : Nat) {F : List Ent}, y ∈ F.map (·.1) → y ∈ (lbf s Ls n k F).map (·.1)
  | 0, _, _, h => h
  | n + 1, k, F, h => by
    rw [lbf]
    split
    · exact h
    · exact lbf_get n (k + 1) (vw_keep h)
theorem lead_x0 : x0 ∈ (lead s Ls d x0).map (·.1) := lbf_get d 0 (by simp)
/-- the state of the law's search by all words -/
structure Lvl (s : Int → Nat → Nat) (Ls : List Int) (x0 d : Nat) (F : List Ent) (W : List (List Int)) : Prop where
  ok : Wok s Ls x0 d (F ++ news s x0 F W)
  exp : ∀ y ∈ F.map (·.1), ∀ i ∈ Ls, s i y ∈ (F ++ news s x0 F W).map (·.1)
  eq : lead s Ls d x0 = lbf s Ls (d - F.length) F.length (F ++ news s x0 F W)
theorem Lvl.zero (h : x0 < d) : Lvl s Ls x0 d [] [[]] := by
  have e : news s x0 [] [[]] = [(x0, [])] := by simp [news, nd]
  refine ⟨by rw [e]; exact Wok.one h, fun y hy => by simp at hy, by rw [e]; rfl⟩
theorem Wok.exps (hs : ∀ i ∈ Ls, ∀ x, x < d → s i x < d) : ∀ (E : List Ent) {F : List Ent}, Wok s Ls x0 d F → (∀ e ∈ E, e ∈ F) → Wok s Ls x0 d (E.foldl (expE s Ls) F)
  | [], _, h, _ => h
  | e :: E, F, h, he => by
    refine Wok.exps hs E (h.exp hs (he e List.mem_cons_self)) fun a ha => ?_
    obtain ⟨R, hR⟩ := exp_app (s := s) (Ls := Ls) F e
    rw [hR]; exact List.mem_append_left _ (he a (List.mem_cons_of_mem _ ha))
theorem Lvl.next (hs : ∀ i ∈ Ls, ∀ x, x < d → s i x < d) {F : List Ent} {W : List (List Int)} (h : Lvl s Ls x0 d F W) : Lvl s Ls x0 d (F ++ news s x0 F W) (W.flatMap (blk Ls)) := by
  obtain ⟨E, hE⟩ : ∃ E, E = news s x0 F W := ⟨_, rfl⟩
  have h1 := exp_level (s := s) (Ls := Ls) (x0 := x0) W F (F ++ news s x0 F W) h.exp
  rw [add_news] at h1
  have hc := h.ok.card
  have hq := h.eq
  have hok := h.ok
  have hex := h.exp
  rw [← hE] at h1 hc hq hok hex ⊢
  have hk : F.length + E.length ≤ d := by simpa using hc
  have h2 := lbf_level (s := s) (Ls := Ls) E F [] (d - F.length - E.length)
  rw [show E.length + (d - F.length - E.length) = d - F.length by omega, List.append_nil] at h2
  refine ⟨?_, fun y hy i hi => ?_, ?_⟩
  · rw [h1]; exact hok.exps hs E fun e he => List.mem_append_right _ he
  · rw [h1]
    rw [List.map_append, List.mem_append] at hy
    rcases hy with hy | hy
    · exact exps_keep (hex y hy i hi)
    · obtain ⟨e, he, rfl⟩ := List.mem_map.mp hy
      exact exps_has he hi
  · rw [hq, h2, h1, List.length_append]
    congr 1
    omega
theorem news_nil : ∀ (W : List (List Int)) {F : List Ent}, (∀ w ∈ W, nd s x0 w ∈ F.map (·.1)) → news s x0 F W = []
  | [], _, _ => rfl
  | w :: W, F, h => by
    rw [news, if_pos (h w List.mem_cons_self)]
    exact news_nil W fun v hv => h v (List.mem_cons_of_mem _ hv)
theorem Wok.left {F R : List Ent} (h : Wok s Ls x0 d (F ++ R)) : (F.map (·.1)).Nodup ∧ ∀ e ∈ F, e.1 < d := by
  have := h.nod
  rw [List.map_append] at this
  exact ⟨(List.nodup_append.mp this).1, fun e he => h.lt e (List.mem_append_left _ he)⟩
theorem Lvl.stop (hs : ∀ i ∈ Ls, ∀ x, x < d → s i x < d) {F : List Ent} {W : List (List Int)} (h : Lvl s Ls x0 d F W) (hl : d ≤ F.length) : F = lead s Ls d x0 := by
  have hc := h.ok.card
  have e : news s x0 F W = [] := by
    rw [List.length_append] at hc
    exact List.length_eq_zero_iff.mp (by omega)
  rw [h.eq, e, show d - F.length = 0 by omega, List.append_nil]; rfl
theorem Lvl.grow {F : List Ent} {W : List (List Int)} (h : Lvl s Ls x0 d F W) (hl : F.length < (lead s Ls d x0).length) : F.length < (F ++ news s x0 F W).length := by
  rw [List.length_append]
  by_cases c : (news s x0 F W).length = 0
  · have e := h.eq
    rw [List.length_eq_zero_iff.mp c, List.append_nil] at e
    have : lbf s Ls (d - F.length) F.length F = F := by
      cases d - F.length with
      | zero => rfl
      | succ n => rw [lbf, List.getElem?_eq_none (Nat.le_refl _)]
    rw [this] at e
    rw [e] at hl
    omega
  · omega
/-- the word of a sheet -/
def wordOf (F : List Ent) (y : Nat) : List Int := ((F.find? fun e => decide (e.1 = y)).map (·.2)).getD []
theorem find_mem {F : List Ent} {y : Nat} (h : y ∈ F.map (·.1)) : ∃ e ∈ F, (F.find? fun e => decide (e.1 = y)) = some e ∧ e.1 = y := by
  cases q : F.find? fun e => decide (e.1 = y) with
  | none =>
    obtain ⟨e, he, rfl⟩ := List.mem_map.mp h
    have := List.find?_eq_none.mp q e he
    simp at this
  | some e => exact ⟨e, List.mem_of_find?_eq_some q, rfl, by simpa using List.find?_some q⟩
theorem wordOf_mem {F : List Ent} {y : Nat} (h : y ∈ F.map (·.1)) : (y, wordOf F y) ∈ F := by
  obtain ⟨e, he, e1, e2⟩ := find_mem h
  rw [wordOf, e1]
  subst e2
  exact he
theorem wordOf_of {F : List Ent} (hn : (F.map (·.1)).Nodup) {e : Ent} (he : e ∈ F) : wordOf F e.1 = e.2 := by
  have hm := wordOf_mem (List.mem_map.mpr ⟨e, he, rfl⟩ : e.1 ∈ F.map (·.1))
  obtain ⟨a, ha⟩ : ∃ a : Ent, a = (e.1, wordOf F e.1) := ⟨_, rfl⟩
  have hk : a.1 = e.1 := by rw [ha]
  rw [← ha] at hm
  have key : ∀ (F : List Ent), (F.map (·.1)).Nodup → ∀ a ∈ F, ∀ b ∈ F, a.1 = b.1 → a = b := by
    intro F
    induction F with
    | nil => intro _ a ha; cases ha
    | cons c F ih =>
      intro hn a ha b hb e
      rw [List.map_cons, List.nodup_cons] at hn
      rcases List.mem_cons.mp ha with ha | ha
      · rcases List.mem_cons.mp hb with hb | hb
        · rw [ha, hb]
        · exact absurd (List.mem_map.mpr ⟨b, hb, by rw [← e, ha]⟩) hn.1
      · rcases List.mem_cons.mp hb with hb | hb
        · exact absurd (List.mem_map.mpr ⟨a, ha, by rw [e, hb]⟩) hn.1
        · exact ih hn.2 a ha b hb e
  have := key F hn a hm e he hk
  rw [← this, ha]
end Fx

set_option Elab.async false
set_option linter.all false
set_option maxRecDepth 100000
set_option maxHeartbeats 4000000
namespace Fx
open PySem L2
variable [Md]
variable [Mw]
variable {d : Nat}
/-! ### connected systems, in plain Lean -/
section
variable {ps : List (Pm d)}
theorem vis_keep {x y : Nat} {σ : List Nat × List Nat} {p : Pm d} (h : y ∈ σ.1) : y ∈ (vis x σ p).1 := by
  unfold vis
  split
  · exact h
  · exact List.mem_append_left _ h
theorem vis_has {x : Nat} {σ : List Nat × List Nat} {p : Pm d} : p.f x ∈ (vis x σ p).1 := by
  unfold vis
  split
  · assumption
  · simp
theorem visf_keep {x y : Nat} : ∀ (qs : List (Pm d)) {σ : List Nat × List Nat}, y ∈ σ.1 → y ∈ (qs.foldl (vis x) σ).1
  | [], _, h => h
  | p :: qs, _, h => visf_keep qs (vis_keep h)
theorem visf_has {x : Nat} {p : Pm d} : ∀ (qs : List (Pm d)) {σ : List Nat × List Nat}, p ∈ qs → p.f x ∈ (qs.foldl (vis x) σ).1
  | q :: qs, σ, h => by
    rw [List.foldl_cons]
    rcases List.mem_cons.mp h with rfl | h
    · exact visf_keep qs vis_has
    · exact visf_has qs h
theorem bfs_keep {y : Nat} : ∀ (n k : Nat) {σ : List Nat × List Nat}, y ∈ σ.1 → y ∈ (bfs ps n k σ).1
  | 0, _, _, h => h
  | n + 1, k, σ, h => by
    rw [bfs]
    split
    · exact h
    · exact bfs_keep n (k + 1) (visf_keep ps h)
theorem bfs_done : ∀ (n k : Nat) {σ : List Nat × List Nat}, Inv2 d σ → (∀ j, j < k → ∀ y, σ.2[j]? = some y → ∀ p ∈ ps, p.f y ∈ σ.1) → d ≤ n + k → ∀ y ∈ (bfs ps n k σ).2, ∀ p ∈ ps, p.f y ∈ (bfs ps n k σ).1
  | 0, k, σ, h, hd, hk => by
    intro y (hy : y ∈ σ.2)
    obtain ⟨j, hj, rfl⟩ := List.getElem_of_mem hy
    have := h.len2
    exact hd j (by omega) _ (List.getElem?_eq_getElem hj)
  | n + 1, k, σ, h, hd, hk => by
    rw [bfs]
    cases e1 : σ.2[k]? with
    | none =>
      intro y (hy : y ∈ σ.2)
      obtain ⟨j, hj, rfl⟩ := List.getElem_of_mem hy
      have := List.getElem?_eq_none_iff.mp e1
      exact hd j (by omega) _ (List.getElem?_eq_getElem hj)
    | some x =>
      simp only
      refine bfs_done n (k + 1) (h.fold (h.lt x (h.sub x (List.mem_of_getElem? e1))) ps) (fun j hj y hy p hp => ?_) (by omega)
      by_cases c : j = k
      · subst c
        rw [fold_get ps e1] at hy
        cases hy
        exact visf_has ps hp
      · have hl := (List.getElem?_eq_some_iff.mp e1).1
        rw [fold_get ps (List.getElem?_eq_getElem (show j < σ.2.length by omega))] at hy
        exact visf_keep ps (hd j (by omega) y (by rw [List.getElem?_eq_getElem (show j < σ.2.length by omega)]; exact hy) p hp)
theorem visf_pred {P : Nat → Prop} {x : Nat} (hx : P x) : ∀ (qs : List (Pm d)) {σ : List Nat × List Nat}, (∀ p ∈ qs, ∀ y, P y → P (p.f y)) → (∀ y ∈ σ.2, P y) → ∀ y ∈ (qs.foldl (vis x) σ).2, P y
  | [], _, _, h => h
  | p :: qs, σ, hP, h => by
    rw [List.foldl_cons]
    refine visf_pred hx qs (fun q hq => hP q (List.mem_cons_of_mem _ hq)) fun y hy => ?_
    unfold vis at hy
    split at hy
    · exact h y hy
    · rcases List.mem_append.mp hy with hy | hy
      · exact h y hy
      · rw [List.mem_singleton] at hy; subst hy; exact hP p List.mem_cons_self x hx
theorem bfs_pred {P : Nat → Prop} (hP : ∀ p ∈ ps, ∀ y, P y → P (p.f y)) : ∀ (n k : Nat) {σ : List Nat × List Nat}, (∀ y ∈ σ.2, P y) → ∀ y ∈ (bfs ps n k σ).2, P y
  | 0, _, _, h => h
  | n + 1, k, σ, h => by
    rw [bfs]
    split
    · exact h
    · rename_i x hx
      exact bfs_pred hP n (k + 1) (visf_pred (h x (List.mem_of_getElem? hx)) ps hP h)
theorem visf_same {x : Nat} : ∀ (qs : List (Pm d)) {σ : List Nat × List Nat}, σ.1 = σ.2 → (qs.foldl (vis x) σ).1 = (qs.foldl (vis x) σ).2
  | [], _, h => h
  | p :: qs, σ, h => by
    rw [List.foldl_cons]
    refine visf_same qs ?_
    unfold vis
    split
    · exact h
    · simp only [h]
theorem bfs_same : ∀ (n k : Nat) {σ : List Nat × List Nat}, σ.1 = σ.2 → (bfs ps n k σ).1 = (bfs ps n k σ).2
  | 0, _, _, h => h
  | n + 1, k, σ, h => by
    rw [bfs]
    split
    · exact h
    · exact bfs_same n (k + 1) (visf_same ps h)
/-- the sheets led to from 0 -/
def reach0 (ps : List (Pm d)) : List Nat := (bfs ps d 0 ([0], [0])).2
theorem reach0_mem (hd : 0 < d) : 0 ∈ reach0 ps := by
  unfold reach0
  rw [← bfs_same d 0 rfl]
  exact bfs_keep d 0 (by simp)
theorem inv0 (hd : 0 < d) : Inv2 d (([0], [0]) : List Nat × List Nat) := ⟨by simp, by simp [hd], by simp, by simp⟩
theorem reach0_step (hd : 0 < d) {x : Nat} (hx : x ∈ reach0 ps) {p : Pm d} (hp : p ∈ ps) : p.f x ∈ reach0 ps := by
  have := bfs_done (ps := ps) d 0 (inv0 hd) (fun j hj => absurd hj (Nat.not_lt_zero j)) (by omega) x hx p hp
  rw [bfs_same d 0 rfl] at this
  exact this
theorem reach0_pred {P : Nat → Prop} (h0 : P 0) (hP : ∀ p ∈ ps, ∀ y, P y → P (p.f y)) : ∀ y ∈ reach0 ps, P y := bfs_pred hP d 0 fun y hy => by
  have : y = 0 := by simpa using hy
  subst this; exact h0
theorem out1_mono (t : List Nat × List (List Nat)) (x : Nat) : t.2.length ≤ (out1 ps t x).2.length ∧ ((out1 ps t x).2.length = t.2.length ↔ x ∈ t.1) ∧ (x ∈ t.1 → out1 ps t x = t) := by
  unfold out1
  split
  · rename_i h; exact ⟨Nat.le_refl _, ⟨fun _ => h, fun _ => rfl⟩, fun _ => rfl⟩
  · rename_i h; simp [h]
theorem out1_fold : ∀ (l : List Nat) (t : List Nat × List (List Nat)), t.2.length ≤ (l.foldl (out1 ps) t).2.length ∧ ((l.foldl (out1 ps) t).2.length = t.2.length ↔ ∀ x ∈ l, x ∈ t.1)
  | [], t => by simp
  | x :: l, t => by
    obtain ⟨h1, h2, h3⟩ := out1_mono (ps := ps) t x
    obtain ⟨i1, i2⟩ := out1_fold l (out1 ps t x)
    rw [List.foldl_cons]
    refine ⟨Nat.le_trans h1 i1, fun e => ?_, fun h => ?_⟩
    · have e1 : (out1 ps t x).2.length = t.2.length := by omega
      have hx := h2.mp e1
      rw [h3 hx] at i2 e
      intro y hy
      rcases List.mem_cons.mp hy with rfl | hy
      · exact hx
      · exact i2.mp e y hy
    · have hx := h x List.mem_cons_self
      rw [h3 hx] at i2 ⊢
      exact i2.mpr fun y hy => h y (List.mem_cons_of_mem _ hy)
theorem parts_iff (hd : 0 < d) : (parts ps).length = 1 ↔ ∀ x, x < d → x ∈ reach0 ps := by
  obtain ⟨n, rfl⟩ : ∃ n, d = n + 1 := ⟨d - 1, by omega⟩
  have e : List.range (n + 1) = 0 :: List.range' 1 n := by rw [List.range_eq_range', List.range'_succ]
  have e0 : out1 ps ([], []) 0 = ((bfs ps (n + 1) 0 ([0], [0])).1, [reach0 ps]) := by
    rw [out1, if_neg (by simp)]; rfl
  unfold parts
  rw [e, List.foldl_cons, e0]
  have h := (out1_fold (ps := ps) (List.range' 1 n) ((bfs ps (n + 1) 0 ([0], [0])).1, [reach0 ps])).2
  simp only [List.length_cons, List.length_nil, Nat.zero_add] at h
  rw [h, bfs_same (n + 1) 0 rfl]
  refine ⟨fun k x hx => ?_, fun k x hx => k x ?_⟩
  · by_cases c : x = 0
    · subst c; exact reach0_mem hd
    · exact k x (by rw [List.mem_range'_1]; omega)
  · rw [List.mem_range'_1] at hx; omega
theorem parts_zero {ps : List (Pm 0)} : parts ps = [] := rfl
/-- a sheet set that is closed both ways holds all sheets of a connected system, or none -/
theorem all_of_conn (hd : 0 < d) (hc : (parts ps).length = 1) {S : Nat → Prop} (hS : ∀ p ∈ ps, ∀ y, y < d → (S (p.f y) ↔ S y)) {x : Nat} (hx : x < d) (hx1 : S x) : ∀ y, y < d → S y := by
  have h := (parts_iff hd).mp hc
  have k := reach0_pred (ps := ps) (P := fun y => y < d ∧ (S y ↔ S 0)) ⟨hd, Iff.rfl⟩ fun p hp y ⟨h1, h2⟩ => ⟨p.lt h1, (hS p hp y h1).trans h2⟩
  have h0 : S 0 := (k x (h x hx)).2.mp hx1
  exact fun y hy => (k y (h y hy)).2.mpr h0
/-- not connected: a set that p leads into itself, with 0 and without another one -/
theorem not_conn {S : Nat → Prop} (hd : 0 < d) (h0 : S 0) (hS : ∀ p ∈ ps, ∀ y, S y → S (p.f y)) {x : Nat} (hx : x < d) (hx1 : ¬ S x) : (parts ps).length ≠ 1 := fun h =>
  hx1 (reach0_pred h0 hS x ((parts_iff hd).mp h x hx))
/-- a permutation with one ring -/
theorem conn_of {p : Pm d} (hd : 0 < d) (hp : p ∈ ps) {g : Nat → Nat} (hg : ∀ x, x < d → ∃ z, z < d ∧ g z = x) (h : ∀ z, z + 1 < d → p.f (g z) = g (z + 1)) (hl : p.f (g (d - 1)) = g 0) : (parts ps).length = 1 := by
  refine (parts_iff hd).mpr fun x hx => ?_
  have up : ∀ (n a : Nat), a + n < d → g a ∈ reach0 ps → g (a + n) ∈ reach0 ps := by
    intro n
    induction n with
    | zero => intro a _ h; exact h
    | succ n ih =>
      intro a ha h1
      have := reach0_step hd (ih a (by omega) h1) hp
      rw [h _ (by omega)] at this
      exact this
  obtain ⟨z0, hz0, e0⟩ := hg 0 hd
  have h1 := up (d - 1 - z0) z0 (by omega) (by rw [e0]; exact reach0_mem hd)
  rw [show z0 + (d - 1 - z0) = d - 1 by omega] at h1
  have h2 := reach0_step hd h1 hp
  rw [hl] at h2
  obtain ⟨z, hz, e⟩ := hg x hx
  have h3 := up z 0 (by omega) h2
  rw [Nat.zero_add, e] at h3
  exact h3
theorem conn_shift (hd : 0 < d) (hp : shift d hd ∈ ps) : (parts ps).length = 1 := by
  refine conn_of hd hp (g := id) (fun x hx => ⟨x, hx, rfl⟩) (fun z hz => ?_) ?_
  · show (if z < d then (z + 1) % d else z) = z + 1
    rw [if_pos (by omega), Nat.mod_eq_of_lt hz]
  · show (if d - 1 < d then (d - 1 + 1) % d else d - 1) = 0
    rw [if_pos (by omega), Nat.sub_add_cancel hd, Nat.mod_self]
/-- the shift renumbered -/
theorem conn_turned (hd : 0 < d) {f : Pm d} (hp : f.inv * (shift d hd * f) ∈ ps) : (parts ps).length = 1 := by
  refine conn_of hd hp (g := f.f) (fun x hx => ⟨f.b x, f.blt hx, f.fb x⟩) (fun z hz => ?_) ?_
  · show f.f (if f.b (f.f z) < d then (f.b (f.f z) + 1) % d else f.b (f.f z)) = f.f (z + 1)
    rw [f.bf, if_pos (by omega), Nat.mod_eq_of_lt hz]
  · show f.f (if f.b (f.f (d - 1)) < d then (f.b (f.f (d - 1)) + 1) % d else f.b (f.f (d - 1))) = f.f 0
    rw [f.bf, if_pos (by omega), Nat.sub_add_cancel hd, Nat.mod_self]
/-- one sheet more, left by all -/
def Pm.up (p : Pm d) : Pm (d + 1) := ⟨p.f, p.b, p.fb, p.bf, fun x h => p.out x (by omega)⟩
theorem Pm.up_list (p : Pm d) : p.up.list = p.list ++ [d] := by
  rw [Pm.list, List.range_succ, List.map_append]
  show List.map p.f (List.range d) ++ [p.f d] = _
  rw [p.out d (Nat.le_refl _)]; rfl
theorem not_conn_up (hd : 0 < d) : (parts (ps.map Pm.up)).length ≠ 1 := by
  refine not_conn (S := fun y => y < d) (by omega) hd (fun p hp y hy => ?_) (x := d) (by omega) (by omega)
  obtain ⟨q, hq, rfl⟩ := List.mem_map.mp hp
  exact q.lt hy
end
/-! ### letters -/
def ltrs (k : Nat) : List Int := (List.range k).flatMap fun (i : Nat) => [(i : Int) + 1, -((i : Int) + 1)]
theorem ltrs_succ (k : Nat) : ltrs (k + 1) = ltrs k ++ [(k : Int) + 1, -((k : Int) + 1)] := by simp [ltrs, List.range_succ]
theorem ltrs_len (k : Nat) : (ltrs k).length = 2 * k := by
  induction k with
  | zero => rfl
  | succ k ih => rw [ltrs_succ, List.length_append, ih]; simp; omega
theorem ltrs_mem {k : Nat} {i : Int} : i ∈ ltrs k ↔ 1 ≤ i.natAbs ∧ i.natAbs ≤ k := by
  induction k with
  | zero => simp [ltrs]; omega
  | succ k ih =>
    rw [ltrs_succ, List.mem_append, ih]
    simp only [List.mem_cons, List.not_mem_nil, or_false]
    omega
def act (ps : List (Pm d)) (i : Int) : Pm d := if 0 < i then ps.getD (i.natAbs - 1) Pm.one else (ps.getD (i.natAbs - 1) Pm.one).inv
theorem act_neg {ps : List (Pm d)} {i : Int} (h : i ≠ 0) : act ps (-i) = (act ps i).inv := by
  unfold act
  rw [Int.natAbs_neg]
  by_cases c : 0 < i
  · rw [if_neg (by omega), if_pos c]
  · rw [if_pos (by omega), if_neg c]; rfl
abbrev stp (ps : List (Pm d)) : Int → Nat → Nat := fun i x => (act ps i).f x
theorem stp_lt {ps : List (Pm d)} : ∀ i ∈ ltrs ps.length, ∀ x, x < d → stp ps i x < d := fun i _ x hx => (act ps i).lt hx
theorem act_mem {ps : List (Pm d)} {p : Pm d} (h : p ∈ ps) : ∃ i ∈ ltrs ps.length, act ps i = p := by
  obtain ⟨j, hj, rfl⟩ := List.getElem_of_mem h
  refine ⟨(j : Int) + 1, ltrs_mem.mpr (by omega), ?_⟩
  rw [act, if_pos (by omega), show ((j : Int) + 1).natAbs - 1 = j by omega, List.getD_eq_getElem?_getD, List.getElem?_eq_getElem hj]; rfl
/-- leading words of a connected system: each sheet has one -/
theorem lead_all {ps : List (Pm d)} (hc : (parts ps).length = 1) {x : Nat} (hx : x < d) : ∀ y, y < d → y ∈ (lead (stp ps) (ltrs ps.length) d x).map (·.1) := by
  obtain ⟨ok, cl⟩ := lead_ok (s := stp ps) (Ls := ltrs ps.length) stp_lt hx
  have cl2 : ∀ i ∈ ltrs ps.length, ∀ y, y ∈ (lead (stp ps) (ltrs ps.length) d x).map (·.1) → (act ps i).f y ∈ (lead (stp ps) (ltrs ps.length) d x).map (·.1) := fun i hi y hy => by
    obtain ⟨e, he, rfl⟩ := List.mem_map.mp hy
    exact cl e he i hi
  refine all_of_conn (by omega) hc (fun p hp y _ => ?_) hx lead_x0
  obtain ⟨i, hi, e⟩ := act_mem hp
  have hi' := ltrs_mem.mp hi
  refine ⟨fun h => ?_, fun h => by rw [← e]; exact cl2 i hi y h⟩
  have := cl2 (-i) (ltrs_mem.mpr (by omega)) _ h
  rw [act_neg (by omega), e] at this
  show y ∈ _
  rw [Pm.inv_f, p.bf] at this
  exact this
theorem lead_len {ps : List (Pm d)} (hc : (parts ps).length = 1) {x : Nat} (hx : x < d) : (lead (stp ps) (ltrs ps.length) d x).length = d := by
  obtain ⟨ok, _⟩ := lead_ok (s := stp ps) (Ls := ltrs ps.length) stp_lt hx
  have h1 := ok.card
  have h2 := nodup_len (l := List.range d) (D := (lead (stp ps) (ltrs ps.length) d x).map (·.1)) List.nodup_range fun y hy => lead_all hc hx y (List.mem_range.mp hy)
  simp at h2; omega
def wact (ps : List (Pm d)) (is : List Int) : Pm d := is.foldl (fun c i => c * act ps i) Pm.one
theorem wact_from (ps : List (Pm d)) (is : List Int) (c : Pm d) : is.foldl (fun c i => c * act ps i) c = c * wact ps is := by
  unfold wact
  induction is generalizing c with
  | nil => rfl
  | cons i is ih => rw [List.foldl_cons, List.foldl_cons, ih, ih (Pm.one * act ps i), Pm.one_mul, Pm.assoc]
theorem wact_cons (ps : List (Pm d)) (i : Int) (is : List Int) : wact ps (i :: is) = act ps i * wact ps is := by
  rw [wact, List.foldl_cons, wact_from, Pm.one_mul]
theorem nd_wact {ps : List (Pm d)} : ∀ (w : List Int) (x : Nat), nd (stp ps) x w = (wact ps w).f x
  | [], x => rfl
  | i :: w, x => by rw [wact_cons, Pm.mul_f, ← nd_wact w, nd, nd, List.foldl_cons]
end Fx

set_option Elab.async false
set_option linter.all false
set_option maxRecDepth 100000
set_option maxHeartbeats 4000000
namespace Fx
open PySem L2
variable [Md]
variable [Mw]
variable {d : Nat}
/-! ### tables of letters, words -/
def tabL : List (Pm d) → Nat → List (Key × D)
  | [], _ => []
  | p :: r, j => (.inl ((j : Int) + 1), tp p) :: (.inl (-((j : Int) + 1)), tp p.inv) :: tabL r (j + 1)
theorem tabL_snoc (p : Pm d) : ∀ (ps : List (Pm d)) (j : Nat), tabL (ps ++ [p]) j = tabL ps j ++ [(.inl (((j + ps.length : Nat) : Int) + 1), tp p), (.inl (-(((j + ps.length : Nat) : Int) + 1)), tp p.inv)]
  | [], j => by simp [tabL]
  | q :: ps, j => by
    have e : j + 1 + ps.length = j + (ps.length + 1) := by omega
    simp only [List.cons_append, tabL, tabL_snoc p ps (j + 1), List.length_cons, e]
theorem tabL_any {i : Int} : ∀ (ps : List (Pm d)) (j : Nat), (i.natAbs ≤ j ∨ j + ps.length < i.natAbs) → ((tabL ps j).any fun kv => decide (kv.1 = Sum.inl i)) = false
  | [], _, _ => rfl
  | p :: ps, j, h => by
    simp only [List.length_cons] at h
    have e := tabL_any (i := i) ps (j + 1) (by omega)
    have n1 : ¬ ((j : Int) + 1 = i) := by omega
    have n2 : ¬ (-((j : Int) + 1) = i) := by omega
    simp only [tabL, List.any_cons, Sum.inl.injEq, n1, n2, decide_false, Bool.false_or]
    exact e
theorem tabL_val {i : Int} : ∀ (ps : List (Pm d)) (j : Nat), j < i.natAbs → i.natAbs ≤ j + ps.length → valD (tabL ps j) (.inl i) = some (tp (if 0 < i then ps.getD (i.natAbs - 1 - j) Pm.one else (ps.getD (i.natAbs - 1 - j) Pm.one).inv))
  | [], j, h1, h2 => by simp at h2; omega
  | p :: ps, j, h1, h2 => by
    simp only [List.length_cons] at h2
    by_cases e : i.natAbs = j + 1
    · have e0 : i.natAbs - 1 - j = 0 := by omega
      rw [e0]
      by_cases c : 0 < i
      · have n1 : (j : Int) + 1 = i := by omega
        simp [valD, tabL, n1, c]
      · have n1 : ¬ ((j : Int) + 1 = i) := by omega
        have n2 : -((j : Int) + 1) = i := by omega
        simp only [valD, tabL, List.find?_cons, Sum.inl.injEq, n1, n2, decide_false, decide_true, if_neg c]
        simp
    · have n1 : ¬ ((j : Int) + 1 = i) := by omega
      have n2 : ¬ (-((j : Int) + 1) = i) := by omega
      have q := tabL_val (i := i) ps (j + 1) (by omega) (by omega)
      have e1 : i.natAbs - 1 - j = (i.natAbs - 1 - (j + 1)) + 1 := by omega
      rw [e1]
      simp only [List.getD_cons_succ]
      rw [← q]
      simp only [valD, tabL, List.find?_cons, Sum.inl.injEq, n1, n2, decide_false]
theorem putD_new {kvs : List (Key × D)} {k : Key} {v : D} (h : (kvs.any fun kv => decide (kv.1 = k)) = false) : putD kvs k v = kvs ++ [(k, v)] := by
  unfold putD
  rw [if_neg (by rw [h]; simp)]
theorem tabL_len : ∀ (ps : List (Pm d)) (j : Nat), (tabL ps j).length = 2 * ps.length
  | [], _ => rfl
  | p :: ps, j => by simp [tabL, tabL_len ps (j + 1)]; omega
theorem setD_at {st : Store} {kvs : List (Key × D)} {i : Int} {v : D} (h : (kvs.any fun kv => decide (kv.1 = Sum.inl i)) = false) (hl : kvs.length ≤ 500) : fSetD (.loc st.length) (.int i) v (st ++ [.dk kvs]) = some (st ++ [.dk (kvs ++ [(.inl i, v)])]) := by
  unfold fSetD
  simp only [st_get0, List.getElem?_cons_zero, Fx.keyOf]
  rw [if_pos (szFits_of1 (by omega)), putD_new h]
  simp
theorem enum_map {α : Type} {f : α → D} (l : List α) : enumD (l.map f) = (List.range l.length).zipWith (fun i a => D.tup [nD i, f a]) l := by
  unfold enumD
  rw [List.length_map, List.zipWith_map_right]
def letB (x : D) (k : Nat) : Bool := match x with
  | .int i => decide (1 ≤ i.natAbs ∧ i.natAbs ≤ k)
  | _ => false
def wordB (x : D) (k : Nat) : Bool := match x with
  | .tup xs => decide (xs.length ≤ 2000) && xs.all fun x => letB x k
  | _ => false
def okW (x : D) : Prop := pl x = true ∧ ∀ xs, x = .tup xs → ∀ y ∈ xs, pl y = true
theorem okW_wD {is : List Int} : okW (wD is) := ⟨rfl, fun xs e y hy => by
  have e2 : xs = is.map D.int := by injection e with e; exact e.symm
  subst e2
  obtain ⟨n, _, rfl⟩ := List.mem_map.mp hy; rfl⟩
structure Wd (k : Nat) (is : List Int) : Prop where
  len : is.length ≤ 2000
  let_ : ∀ i ∈ is, 1 ≤ i.natAbs ∧ i.natAbs ≤ k
theorem wordB_wD {k : Nat} {is : List Int} (h : Wd k is) : wordB (wD is) k = true := by
  simp only [wordB, wD, List.length_map, decide_eq_true h.len, Bool.true_and, List.all_map, List.all_eq_true]
  intro i hi
  exact decide_eq_true (h.let_ i hi)
theorem eqv_ints : ∀ {a b : List Int}, PyData.eqvAll (toPys (a.map D.int)) (toPys (b.map D.int)) = decide (a = b)
  | [], [] => by simp [toPys, PyData.eqvAll]
  | [], _ :: _ => by simp [toPys, PyData.eqvAll]
  | _ :: _, [] => by simp [toPys, PyData.eqvAll]
  | x :: a, y :: b => by
    simp only [List.map_cons, toPys, toPy, PyData.eqvAll, PyData.eqv, eqv_ints (a := a) (b := b)]
    by_cases h : x = y
    · subst h; simp
    · simp [h]
theorem eqD_wD {a b : List Int} : eqD (wD a) (wD b) = decide (a = b) := by
  unfold eqD wD
  simp only [toPy, PyData.eqv]
  exact eqv_ints
theorem fl_wD {a : List Int} : Fl 1 (wD a) := Fl.tup fun x hx => by
  obtain ⟨n, _, rfl⟩ := List.mem_map.mp hx; exact .int
theorem fNe_wD {a b : List Int} {st : Store} : fNe (wD a) (wD b) st = .ok (.bl (!decide (a = b))) st := by
  unfold fNe
  rw [if_pos ⟨fl_wD.sh, fl_wD.sh⟩, eqD_wD]
theorem fEq_wD {a b : List Int} {st : Store} : fEq (wD a) (wD b) st = .ok (.bl (decide (a = b))) st := by
  unfold fEq
  rw [if_pos ⟨fl_wD.sh, fl_wD.sh⟩, eqD_wD]
def sheetB (x : D) (d : Nat) : Bool := match x with
  | .int i => decide (0 ≤ i ∧ i < (d : Int))
  | _ => false
end Fx

set_option Elab.async false
set_option linter.all false
set_option maxRecDepth 100000
set_option maxHeartbeats 4000000
namespace Fx
open PySem L2
variable [Md]
variable [Mw]
variable {d : Nat}
/-! ### the dict of the words found -/
def kvE (F : List Ent) : List (Key × D) := F.map fun e => (.inl (e.1 : Int), wD e.2)
def ordL (F : List Ent) : List D := F.map fun e => nD e.1
theorem kvE_len (F : List Ent) : (kvE F).length = F.length := by simp [kvE]
theorem valD_kvE {y : Nat} : ∀ F : List Ent, valD (kvE F) (.inl (y : Int)) = if y ∈ F.map (·.1) then some (wD (wordOf F y)) else none
  | [] => rfl
  | a :: F => by
    have ih := valD_kvE (y := y) F
    by_cases h : a.1 = y
    · have e : wordOf (a :: F) y = a.2 := by simp [wordOf, h]
      rw [if_pos (by simp [h]), e]
      have h' : (a.1 : Int) = (y : Int) := by omega
      simp only [valD, kvE, List.map_cons, List.find?_cons, h', decide_true, Option.map_some]
    · have h' : ¬ (a.1 : Int) = (y : Int) := by omega
      have e : wordOf (a :: F) y = wordOf F y := by simp [wordOf, h]
      have hm : (y ∈ (a :: F).map (·.1)) = (y ∈ F.map (·.1)) := by
        rw [List.map_cons, List.mem_cons]
        exact propext ⟨fun z => z.elim (fun z => absurd z.symm h) id, .inr⟩
      rw [e]
      simp only [hm]
      rw [← ih]
      simp only [valD, kvE, List.map_cons, List.find?_cons, Sum.inl.injEq, h', decide_false]
theorem any_kvE {F : List Ent} {y : Nat} (h : y ∉ F.map (·.1)) : ((kvE F).any fun kv => decide (kv.1 = Sum.inl (y : Int))) = false := by
  rw [kvE, List.any_map, List.any_eq_false]
  intro e he
  simp only [Function.comp, decide_eq_true_eq, Sum.inl.injEq]
  intro z
  exact h (List.mem_map.mpr ⟨e, he, by omega⟩)
section
variable {st : Store} {L y : Nat} {F : List Ent}
theorem kvE_in (h : st[L]? = some (.dk (kvE F))) : fDIn true (nD y) (.loc L) st = .ok (.bl (decide (y ∈ F.map (·.1)))) st := by
  unfold fDIn dGet
  simp only [h, nD, Fx.keyOf, valD_kvE]
  by_cases c : y ∈ F.map (·.1)
  · rw [if_pos c, decide_eq_true c]
  · rw [if_neg c, decide_eq_false c]; rfl
theorem kvE_notin (h : st[L]? = some (.dk (kvE F))) : fDIn false (nD y) (.loc L) st = .ok (.bl (!decide (y ∈ F.map (·.1)))) st := fDIn_not (kvE_in h)
theorem kvE_get (h : st[L]? = some (.dk (kvE F))) (hy : y ∈ F.map (·.1)) : fDGet (.loc L) (nD y) st = .ok (wD (wordOf F y)) st := by
  unfold fDGet dGet
  simp only [h, nD, Fx.keyOf, valD_kvE]
  rw [if_pos hy]
theorem kvE_set {w : List Int} (h : st[L]? = some (.dk (kvE F))) (hy : y ∉ F.map (·.1)) (hl : F.length ≤ 900) : fSetD (.loc L) (nD y) (wD w) st = some (st.set L (.dk (kvE (F ++ [(y, w)])))) := by
  unfold fSetD
  simp only [h, nD, Fx.keyOf]
  rw [if_pos (szFits_of1 (by rw [kvE_len]; omega)), putD_new (any_kvE hy)]
  simp [kvE, nD]
theorem ord_get {k : Nat} {e : Ent} (h : st[L]? = some (.lst (ordL F))) (hk : F[k]? = some e) : fIx (.loc L) (.int (k : Int)) st = .ok (nD e.1) st := by
  have q := x_ixLoc (k := (k : Int)) h
  rw [ordL, atI_map hk] at q
  exact q
theorem ord_app {w : List Int} (h : st[L]? = some (.lst (ordL F))) (hl : F.length ≤ 900) : fApp (.loc L) [nD y] st = .ok .non (st.set L (.lst (ordL (F ++ [(y, w)])))) := by
  rw [x_app h (small1000 (by simp [ordL]; omega))]
  simp [ordL]
theorem kvE_len' (h : st[L]? = some (.dk (kvE F))) : fLen [.loc L] st = .ok (.int (F.length : Int)) st := by
  simp [fLen, seqOf, h, kvE_len]
end
/-- the words as they are told -/
def leadD (F : List Ent) (d : Nat) : D := .tup ((List.range d).map fun y => wD (wordOf F y))
theorem add_w1 {w : List Int} {i : Int} {st : Store} (h : w.length ≤ 900) : fAdd (wD w) (.tup [.int i]) st = .ok (wD (w ++ [i])) st := by
  simp [wD, fAdd]
  exact szFits_of1 (by omega)
end Fx

set_option Elab.async false
set_option linter.all false
set_option maxRecDepth 100000
set_option maxHeartbeats 4000000
namespace Fx
open PySem L2 PyProof.Rows PySem.SeqAt PySem.W
variable [Md]
variable [Mw]
/-! ### min of a list of data of any depth -/
def rMinA (K : PySem.W.Frag) : List V → Hp → VK → Prop := fun xs H Q => ∃ a us x ds, xs = [.ref a] ∧ SqL K H a us ∧ DpAll K H us (x :: ds) ∧ AlikeAll (x :: ds) ∧ PyData.depthAll (x :: ds) ≤ 64 ∧
  ∀ (i : Nat) u, us[i]? = some u → (x :: ds)[i]? = some (minD x ds) → Q u H
theorem call_minA {X : Cx} (hc : X.calm = true) (hu : X.A.units + 65 < cLine) : CallR X (.builtin "min") (rMinA X.K) := by
  intro pins s σ H xs us Q I r h
  obtain ⟨a, vs, x, ds, rfl, hs, hd, ha, hz, q⟩ := h
  obtain ⟨u, rfl, ru⟩ := vals1 r
  cases ru
  obtain ⟨its, rv, hl, _⟩ := I.list hs
  obtain ⟨as, hr⟩ := Dp.readsAll I (x :: ds) vs its hd rv
  refine min_list_data (I.ok.hd hc) hl.isList (by simpa using hr) ha (by omega) fun i v h' tk bs hi hv hk => ?_
  have hi' : its[i]? = some v := by simpa using hi
  obtain ⟨bs2, r2, hlt, hm, _⟩ := readsAll_at hr i v hi'
  have e0 : (x :: ds).getD i .none = minD x ds := by
    have hmem : minD x ds ∈ x :: ds := by
      unfold minD
      have : ∀ (ys : List PyData) (y : PyData), ys.foldl (fun a y => if dataLt y a then y else a) y ∈ y :: ys := by
        intro ys
        induction ys with
        | nil => intro y; simp
        | cons z ys ih =>
          intro y
          rw [List.foldl_cons]
          rcases List.mem_cons.mp (ih (if dataLt z y then z else y)) with e | e
          · rw [e]; split <;> simp
          · exact List.mem_cons_of_mem _ (List.mem_cons_of_mem _ e)
      exact this ds x
    exact alike_unique _ _ v _ _ (ha.1 _ hm _ hmem) (reads_keeps hk r2) hv
  have hlen : i < vs.length := by rw [rv.length]; exact (List.getElem?_eq_some_iff.mp hi').1
  obtain ⟨w, hw, rw'⟩ : ∃ w, vs[i]? = some w ∧ RelV w v := by
    have : ∀ {vs : List V} {its : List Value} {i : Nat} {v : Value}, Vals vs its → its[i]? = some v → ∃ w, vs[i]? = some w ∧ RelV w v := by
      intro vs its i v h
      induction h generalizing i with
      | nil => intro e; simp at e
      | cons h t ih =>
        intro e
        cases i with
        | zero => simp at e; subst e; exact ⟨_, rfl, h⟩
        | succ i => simp at e ⊢; exact ih e
    exact this rv hi'
  refine ⟨w, H, I.kept hk, rw', q i w hw ?_⟩
  rw [← e0, List.getD_eq_getElem?_getD, List.getElem?_eq_getElem hlt]; rfl
mutual
theorem toPy_inj : ∀ {a b : D}, dOk a = true → dOk b = true → toPy a = toPy b → a = b
  | .non, b, _, hb, e => by cases b <;> simp_all [toPy, dOk]
  | .bl x, b, _, hb, e => by cases b <;> simp_all [toPy, dOk]
  | .int x, b, _, hb, e => by cases b <;> simp_all [toPy, dOk]
  | .str x, b, _, hb, e => by cases b <;> simp_all [toPy, dOk]
  | .ty x, _, h, _, _ => by simp [dOk] at h
  | .fn x, _, h, _, _ => by simp [dOk] at h
  | .loc x, _, h, _, _ => by simp [dOk] at h
  | .tup xs, b, ha, hb, e => by
    cases b with
    | tup ys =>
      simp only [toPy, PyData.tuple.injEq] at e
      simp only [dOk] at ha hb
      rw [toPys_inj ha hb e]
    | _ => simp [toPy] at e
  | .lst xs, b, ha, hb, e => by
    cases b with
    | lst ys =>
      simp only [toPy, PyData.list.injEq] at e
      simp only [dOk] at ha hb
      rw [toPys_inj ha hb e]
    | _ => simp [toPy] at e
theorem toPys_inj : ∀ {a b : List D}, dOks a = true → dOks b = true → toPys a = toPys b → a = b
  | [], [], _, _, _ => rfl
  | [], _ :: _, _, _, e => by simp [toPys] at e
  | _ :: _, [], _, _, e => by simp [toPys] at e
  | x :: xs, y :: ys, ha, hb, e => by
    simp only [toPys, List.cons.injEq] at e
    simp only [dOks, Bool.and_eq_true] at ha hb
    rw [toPy_inj ha.1 hb.1 e.1, toPys_inj ha.2 hb.2 e.2]
end
def minF (x : D) (xs : List D) : D := xs.foldl (fun a y => if dataLt (toPy y) (toPy a) = true then y else a) x
theorem minF_toPy : ∀ (xs : List D) (x : D), toPy (minF x xs) = minD (toPy x) (toPys xs)
  | [], x => rfl
  | y :: ys, x => by
    have ih := minF_toPy ys (if dataLt (toPy y) (toPy x) = true then y else x)
    simp only [minF, minD, toPys, List.foldl_cons] at ih ⊢
    rw [ih]
    congr 1
    split <;> rfl
theorem minF_mem : ∀ (xs : List D) (x : D), minF x xs ∈ x :: xs
  | [], x => by simp [minF]
  | y :: ys, x => by
    have ih := minF_mem ys (if dataLt (toPy y) (toPy x) = true then y else x)
    rw [minF] at ih ⊢
    rw [List.foldl_cons]
    rcases List.mem_cons.mp ih with e | e
    · rw [e]; split <;> simp
    · exact List.mem_cons_of_mem _ (List.mem_cons_of_mem _ e)
/-- a row that min is told of -/
def MinOk (xs : List D) : Prop := dOks xs = true ∧ AlikeAll (toPys xs) ∧ PyData.depthAll (toPys xs) ≤ 64
open Classical in
noncomputable def fMinA : FB D := fun ds st => match ds with
  | [d] => (match listOf d st with
    | some (x :: xs) => if MinOk (x :: xs) then .ok (minF x xs) st else .no
    | _ => .no)
  | _ => .no
theorem toPys_get : ∀ {xs : List D} {i : Nat} {x : PyData}, (toPys xs)[i]? = some x → ∃ d, xs[i]? = some d ∧ toPy d = x
  | [], i, x, h => by simp [toPys] at h
  | d :: ds, 0, x, h => by simp [toPys] at h; exact ⟨d, rfl, h⟩
  | d :: ds, i + 1, x, h => by simp [toPys] at h ⊢; exact toPys_get h
theorem cs_minA {X : Cx} (hc : X.calm = true) (hu : X.A.units + 65 < cLine) : CallS X (reD X.K) (.builtin "min") fMinA := by
  refine ⟨_, call_minA hc hu, fun W σ ρ st H ds vs Q r rv o => ?_⟩
  match ds, rv, o with
  | [d], rv, o =>
    obtain ⟨v, rfl, rd⟩ := rv.one
    simp only [fMinA] at o
    cases hl : Fx.listOf d st with
    | none => rw [hl] at o; exact o.elim
    | some xs =>
      rw [hl] at o
      cases xs with
      | nil => exact o.elim
      | cons x xs =>
        simp only at o
        split at o
        · rename_i h
          obtain ⟨h1, h2, h3⟩ := h
          obtain ⟨p, us, rfl, hs, ru⟩ := listOf_rel r rd hl
          have hd : DpAll X.K H us (toPys (x :: xs)) := dps_of (x :: xs) h1 ru
          have hx : dOk x = true ∧ dOks xs = true := by simpa [dOks] using h1
          refine ⟨p, us, toPy x, toPys xs, rfl, hs, hd, h2, h3, fun i u hu he => ?_⟩
          rw [← minF_toPy] at he
          obtain ⟨d', hd', e⟩ := toPys_get (xs := x :: xs) he
          have hm := minF_mem xs x
          have hok := dOks_all.mp h1
          have : d' = minF x xs := toPy_inj (hok d' (List.mem_of_getElem? hd')) (hok _ hm) e
          subst this
          obtain ⟨u', hu', ru'⟩ := ru.get hd'
          rw [hu] at hu'
          cases hu'
          exact o.here r ru'
        · exact o.elim
  | [], _, o => exact o.elim
  | _ :: _ :: _, _, o => simp [fMinA] at o; exact o.elim
theorem x_minA {st : Store} {x : D} {xs : List D} (h : MinOk (x :: xs)) : fMinA [.lst (x :: xs)] st = .ok (minF x xs) st := by
  simp only [fMinA, Fx.listOf]
  rw [if_pos h]
/-! the order is one -/
theorem toks_inj {x y : PyData} (h : PySem.W.alike x y = true) (e : keyToks x = keyToks y) : PyData.eqv x y = true := by
  cases q : PyData.eqv x y with
  | true => rfl
  | false =>
    have h1 := (toks_eqv x y h).2 q [] [.inl 0]
    rw [e, lex_pre, lex_irrefl] at h1
    simp [PyProof.Rows.lexLt] at h1
theorem data_total {x y : PyData} (h : PySem.W.alike x y = true) (h1 : dataLt x y = false) (h2 : dataLt y x = false) : PyData.eqv x y = true := toks_inj h (lex_total _ _ h1 h2)
theorem minF_le : ∀ (xs : List D) (x y : D), y ∈ x :: xs → dataLt (toPy y) (toPy (minF x xs)) = false
  | [], x, y, h => by
    rw [List.mem_singleton] at h; subst h
    exact dataLt_self _
  | z :: zs, x, y, h => by
    have e : minF x (z :: zs) = minF (if dataLt (toPy z) (toPy x) = true then z else x) zs := by simp only [minF, List.foldl_cons]
    rw [e]
    have ih0 := minF_le zs (if dataLt (toPy z) (toPy x) = true then z else x) _ List.mem_cons_self
    have neg : ∀ {a b c : PyData}, dataLt a b = false → dataLt b c = false → dataLt a c = false := by
      intro a b c h1 h2
      cases q : dataLt a c with
      | false => rfl
      | true =>
        rcases lex_negTrans (O := itemOrd) _ (keyToks b) _ q with z | z
        · exact absurd (h1.symm.trans z) (by simp)
        · exact absurd (h2.symm.trans z) (by simp)
    by_cases c : dataLt (toPy z) (toPy x) = true
    · rw [if_pos c] at ih0 ⊢
      rcases List.mem_cons.mp h with rfl | h
      · refine neg ?_ ih0
        cases q : dataLt (toPy y) (toPy z) with
        | false => rfl
        | true => exact absurd (lex_trans (O := itemOrd) _ _ _ q c) (by rw [show PyProof.Rows.lexLt itemOrd (keyToks (toPy y)) (keyToks (toPy y)) = false from lex_irrefl _]; simp)
      · exact minF_le zs z y h
    · rw [if_neg c] at ih0 ⊢
      have c' : dataLt (toPy z) (toPy x) = false := by simpa using c
      rcases List.mem_cons.mp h with rfl | h
      · exact ih0
      · rcases List.mem_cons.mp h with rfl | h
        · exact neg c' ih0
        · exact minF_le zs x y (List.mem_cons_of_mem _ h)
/-- the least of a row does not hang on its order -/
theorem minF_same {x y : D} {xs ys : List D} (hx : MinOk (x :: xs)) (hm : ∀ d, d ∈ x :: xs ↔ d ∈ y :: ys) (he : ∀ a ∈ x :: xs, ∀ b ∈ x :: xs, PyData.eqv (toPy a) (toPy b) = true → a = b) : minF x xs = minF y ys := by
  have m1 := minF_mem xs x
  have m2 := (hm _).mpr (minF_mem ys y)
  have l1 := minF_le xs x _ m2
  have l2 := minF_le ys y _ ((hm _).mp m1)
  have al : PySem.W.alike (toPy (minF x xs)) (toPy (minF y ys)) = true := by
    have key : ∀ {xs : List D} {d : D}, d ∈ xs → toPy d ∈ toPys xs := by
      intro xs
      induction xs with
      | nil => intro d h; cases h
      | cons a xs ih =>
        intro d h
        simp only [toPys]
        rcases List.mem_cons.mp h with rfl | h
        · exact List.mem_cons_self
        · exact List.mem_cons_of_mem _ (ih h)
    exact hx.2.1.1 _ (key m1) _ (key m2)
  exact he _ m1 _ m2 (data_total al l2 l1)
end Fx

set_option Elab.async false
set_option linter.all false
set_option maxRecDepth 100000
set_option maxHeartbeats 4000000
namespace Fx
open PySem L2
variable [Md]
variable [Mw]
variable {d : Nat} {ps us : List (Pm d)}
/-! ### systems as typed data -/
open PySem.W in
def codeS (ps : List (Pm d)) : Int × Tup (Tup Int) := ((d : Int), ⟨ps.map fun p => ⟨p.list.map fun (k : Nat) => (k : Int)⟩⟩)
theorem toPys_map {α : Type} {f : α → D} {g : α → PyData} : ∀ (l : List α), (∀ x ∈ l, toPy (f x) = g x) → toPys (l.map f) = l.map g
  | [], _ => rfl
  | x :: l, h => by simp only [List.map_cons, toPys, h x List.mem_cons_self, toPys_map l fun y hy => h y (List.mem_cons_of_mem _ hy)]
theorem toPy_sysD : toPy (sysD ps) = PySem.W.Datum.toD (codeS ps) := by
  have h1 : ∀ p : Pm d, toPy (tp p) = .tuple (p.list.map fun (k : Nat) => PyData.int (k : Int)) := fun p => by
    rw [tp, lD]; simp only [toPy]
    rw [toPys_map (g := fun (k : Nat) => PyData.int (k : Int)) _ fun x _ => rfl]
  have h2 : toPys (ps.map tp) = ps.map fun p => PyData.tuple (p.list.map fun (k : Nat) => PyData.int (k : Int)) := toPys_map _ fun p _ => h1 p
  rw [sysD, rD]
  simp only [toPy, toPys, h2]
  show PyData.tuple [.int (d : Int), .tuple _] = PyData.tuple [.int (d : Int), .tuple _]
  congr 4
  rw [codeS]
  simp only [List.map_map]
  refine List.map_congr_left fun p _ => ?_
  show PyData.tuple _ = PyData.tuple _
  simp [List.map_map]
  intro a _
  rfl
theorem codeS_inj (h : codeS ps = codeS us) : ps = us := by
  have h2 := congrArg (fun t : Int × PySem.W.Tup (PySem.W.Tup Int) => t.2.items.map fun u => u.items.map Int.toNat) h
  simp only [codeS, List.map_map] at h2
  have key : ∀ (l : List Nat), (l.map fun (k : Nat) => (k : Int)).map Int.toNat = l := fun l => by
    rw [List.map_map]
    exact (List.map_congr_left fun k _ => by simp).trans (List.map_id l)
  have h3 : ps.map Pm.list = us.map Pm.list := by
    have e : ∀ l : List (Pm d), (l.map (((fun u : PySem.W.Tup Int => u.items.map Int.toNat)) ∘ fun p => (⟨p.list.map fun (k : Nat) => (k : Int)⟩ : PySem.W.Tup Int))) = l.map Pm.list := fun l => List.map_congr_left fun p _ => key p.list
    rw [e, e] at h2; exact h2
  clear h h2
  induction ps generalizing us with
  | nil =>
    cases us with
    | nil => rfl
    | cons u us => simp at h3
  | cons p ps ih =>
    cases us with
    | nil => simp at h3
    | cons u us =>
      simp only [List.map_cons, List.cons.injEq] at h3
      rw [Pm.list_inj h3.1, ih h3.2]
theorem eqv_sysD : PyData.eqv (toPy (sysD ps)) (toPy (sysD us)) = true ↔ ps = us := by
  rw [toPy_sysD, toPy_sysD, PySem.W.Datum.eqv, decide_eq_true_eq]
  exact ⟨codeS_inj, fun h => by rw [h]⟩
theorem sysD_inj (h : sysD ps = sysD us) : ps = us := eqv_sysD.mp (by rw [h]; exact eqD_refl (fl_sysD).1)
open Classical in
theorem fEq_sysD {st : Store} : fEq (sysD ps) (sysD us) st = .ok (.bl (decide (ps = us))) st := by
  unfold fEq
  rw [if_pos ⟨fl_sysD.sh, fl_sysD.sh⟩]
  congr 2
  unfold eqD
  by_cases h : ps = us
  · rw [decide_eq_true h]; exact eqv_sysD.mpr h
  · rw [decide_eq_false h]
    cases q : PyData.eqv (toPy (sysD ps)) (toPy (sysD us)) with
    | false => rfl
    | true => exact absurd (eqv_sysD.mp q) h
theorem minOk_sys {α : Type} {f : α → List (Pm d)} {l : List α} : MinOk (l.map fun a => sysD (f a)) := by
  have e : toPys (l.map fun a => sysD (f a)) = l.map fun a => PySem.W.Datum.toD (codeS (f a)) := toPys_map _ fun a _ => toPy_sysD
  refine ⟨dOks_all.mpr fun x hx => ?_, ⟨fun x hx y hy => ?_, fun x hx => ?_⟩, ?_⟩
  · obtain ⟨a, _, rfl⟩ := List.mem_map.mp hx; exact fl_sysD.1
  · rw [e] at hx hy
    obtain ⟨a, _, rfl⟩ := List.mem_map.mp hx
    obtain ⟨b, _, rfl⟩ := List.mem_map.mp hy
    exact PySem.W.DatumOrd.alike _ _
  · rw [e] at hx
    obtain ⟨a, _, rfl⟩ := List.mem_map.mp hx
    exact PySem.W.DatumOrd.notNone _
  · exact Nat.le_trans (depths_le (k := 3) fun x hx => by obtain ⟨a, _, rfl⟩ := List.mem_map.mp hx; exact fl_sysD.2) (by decide)
/-! ### systems renumbered -/
def cj (f p : Pm d) : Pm d := f.inv * (p * f)
def turn (ps : List (Pm d)) (f : Pm d) : List (Pm d) := ps.map fun p => f.inv * (p * f)
theorem cj_f (f p : Pm d) (x : Nat) : (cj f p).f (f.f x) = f.f (p.f x) := by show f.f (p.f (f.b (f.f x))) = _; rw [f.bf]
theorem turn_turn (f g : Pm d) : turn (turn ps f) g = turn ps (f * g) := by
  rw [turn, turn, turn, List.map_map]
  refine List.map_congr_left fun p _ => ?_
  exact Pm.ext fun x => rfl
theorem turn_one : turn ps Pm.one = ps := by
  rw [turn]
  refine (List.map_congr_left fun p _ => ?_).trans (List.map_id ps)
  exact Pm.ext fun x => rfl
theorem turn_inv (f : Pm d) : turn (turn ps f) f.inv = ps := by rw [turn_turn, Pm.mul_inv, turn_one]
theorem turn_len (f : Pm d) : (turn ps f).length = ps.length := by simp [turn]
/-- the order of the sheets -/
def ordr (ps : List (Pm d)) (x : Nat) : List Nat := (bfs ps d 0 ([x], [x])).2
theorem invx {x : Nat} (hx : x < d) : Inv2 d (([x], [x]) : List Nat × List Nat) := ⟨by simp, by simp [hx], by simp, by simp⟩
theorem ordr_x {x : Nat} : x ∈ ordr ps x := by
  unfold ordr
  rw [← bfs_same d 0 rfl]
  exact bfs_keep d 0 (by simp)
theorem ordr_inv {x : Nat} (hx : x < d) : (ordr ps x).Nodup ∧ ∀ y ∈ ordr ps x, y < d := by
  have h := (invx hx).bfs (ps := ps) d 0
  exact ⟨h.nd2, fun y hy => h.lt y (h.sub y hy)⟩
theorem ordr_step {x y : Nat} (hx : x < d) (hy : y ∈ ordr ps x) {p : Pm d} (hp : p ∈ ps) : p.f y ∈ ordr ps x := by
  have := bfs_done (ps := ps) d 0 (invx hx) (fun j hj => absurd hj (Nat.not_lt_zero j)) (by omega) y hy p hp
  rw [bfs_same d 0 rfl] at this
  exact this
theorem back_of {L : List Nat} (hn : L.Nodup) {p : Pm d} (h : ∀ y ∈ L, p.f y ∈ L) {y : Nat} (hy : p.f y ∈ L) : y ∈ L := by
  have h1 : (L.map p.f).Nodup := by
    rw [List.Nodup, List.pairwise_map]
    exact hn.imp fun hne e => hne (p.inj e)
  have h2 := nodup_all h1 (D := L) (fun z hz => by
    obtain ⟨w, hw, rfl⟩ := List.mem_map.mp hz
    exact h w hw) (by simp) _ hy
  obtain ⟨z, hz, e⟩ := List.mem_map.mp h2
  rw [← p.inj e]; exact hz
theorem ordr_all {x : Nat} (hc : (parts ps).length = 1) (hx : x < d) : ∀ y, y < d → y ∈ ordr ps x :=
  all_of_conn (by omega) hc (S := fun y => y ∈ ordr ps x) (fun p hp y _ => ⟨fun h => back_of (ordr_inv hx).1 (fun z hz => ordr_step hx hz hp) h, fun h => ordr_step hx h hp⟩) hx ordr_x
theorem ordr_perm {x : Nat} (hc : (parts ps).length = 1) (hx : x < d) : (ordr ps x).Perm (List.range d) := by
  have h := ordr_inv (ps := ps) hx
  refine nodup_perm h.1 List.nodup_range (fun y hy => List.mem_range.mpr (h.2 y hy)) ?_
  have := nodup_len (l := List.range d) (D := ordr ps x) List.nodup_range fun y hy => ordr_all hc hx y (List.mem_range.mp hy)
  simpa using this
open Classical in
noncomputable def num (ps : List (Pm d)) (x : Nat) : Pm d := if h : (ordr ps x).Perm (List.range d) then Pm.ofList _ h else Pm.one
theorem num_list {x : Nat} (hc : (parts ps).length = 1) (hx : x < d) : (num ps x).list = ordr ps x := by
  rw [num, dif_pos (ordr_perm hc hx), Pm.ofList_list]
theorem bfs_map (f : Pm d) : ∀ (n k : Nat) (σ : List Nat × List Nat), bfs (turn ps f) n k (σ.1.map f.f, σ.2.map f.f) = ((bfs ps n k σ).1.map f.f, (bfs ps n k σ).2.map f.f) := by
  have mem : ∀ {l : List Nat} {y : Nat}, f.f y ∈ l.map f.f ↔ y ∈ l := fun {l y} => by
    refine ⟨fun h => ?_, fun h => List.mem_map.mpr ⟨y, h, rfl⟩⟩
    obtain ⟨z, hz, e⟩ := List.mem_map.mp h
    rw [← f.inj e]; exact hz
  have hv : ∀ (x : Nat) (p : Pm d) (σ : List Nat × List Nat), vis (f.f x) (σ.1.map f.f, σ.2.map f.f) (cj f p) = ((vis x σ p).1.map f.f, (vis x σ p).2.map f.f) := by
    intro x p σ
    unfold vis
    rw [cj_f]
    by_cases c : p.f x ∈ σ.1
    · rw [if_pos c, if_pos (mem.mpr c)]
    · rw [if_neg c, if_neg (fun z => c (mem.mp z))]
      simp
  have hf : ∀ (x : Nat) (qs : List (Pm d)) (σ : List Nat × List Nat), (qs.map (cj f)).foldl (vis (f.f x)) (σ.1.map f.f, σ.2.map f.f) = ((qs.foldl (vis x) σ).1.map f.f, (qs.foldl (vis x) σ).2.map f.f) := by
    intro x qs
    induction qs with
    | nil => intro σ; rfl
    | cons q qs ih => intro σ; rw [List.map_cons, List.foldl_cons, List.foldl_cons, hv, ih]
  intro n
  induction n with
  | zero => intro k σ; rfl
  | succ n ih =>
    intro k σ
    rw [bfs, bfs]
    simp only [List.getElem?_map]
    cases e : σ.2[k]? with
    | none => rfl
    | some x =>
      simp only [Option.map_some]
      rw [← ih, ← hf]; rfl
theorem ordr_turn (f : Pm d) (x : Nat) : ordr (turn ps f) (f.f x) = (ordr ps x).map f.f := by
  have := bfs_map (ps := ps) f d 0 ([x], [x])
  exact congrArg (fun t : List Nat × List Nat => t.2) this
theorem conn_turn (f : Pm d) (hd : 0 < d) (hc : (parts ps).length = 1) : (parts (turn ps f)).length = 1 := by
  refine (parts_iff hd).mpr fun x hx => ?_
  have hn := ordr_inv (ps := turn ps f) hd
  have hall := all_of_conn hd hc (S := fun y => f.f y ∈ ordr (turn ps f) 0) (x := f.b 0) (fun p hp y _ => by
    have hp' : cj f p ∈ turn ps f := List.mem_map.mpr ⟨p, hp, rfl⟩
    rw [← cj_f]
    exact ⟨fun h => back_of hn.1 (fun z hz => ordr_step hd hz hp') h, fun h => ordr_step hd h hp'⟩) (f.blt hd) (by rw [f.fb]; exact ordr_x) (f.b x) (f.blt hx)
  rw [f.fb] at hall
  exact hall
theorem num_turn (f : Pm d) {x : Nat} (hc : (parts ps).length = 1) (hx : x < d) : num (turn ps f) (f.f x) = num ps x * f := by
  refine Pm.list_inj ?_
  rw [num_list (conn_turn f (by omega) hc) (f.lt hx), ordr_turn, ← num_list hc hx, Pm.list, Pm.list, List.map_map]; rfl
noncomputable def numb (ps : List (Pm d)) (x : Nat) : List (Pm d) := turn ps (num ps x).inv
theorem numb_turn (f : Pm d) {x : Nat} (hc : (parts ps).length = 1) (hx : x < d) : numb (turn ps f) (f.f x) = numb ps x := by
  rw [numb, numb, num_turn f hc hx, Pm.inv_of_mul, turn_turn, Pm.mul_inv_l]
noncomputable def leastD (ps : List (Pm d)) : D := minF (sysD (numb ps 0)) ((List.range' 1 (d - 1)).map fun x => sysD (numb ps x))
theorem rng_cons {α : Type} (h : Nat → α) (hd : 0 < d) : (List.range d).map h = h 0 :: (List.range' 1 (d - 1)).map h := by
  obtain ⟨n, rfl⟩ : ∃ n, d = n + 1 := ⟨d - 1, by omega⟩
  rw [List.range_eq_range', List.range'_succ, List.map_cons]; rfl
theorem least_min {st : Store} (hd : 0 < d) : fMinA [.lst ((List.range d).map fun x => sysD (numb ps x))] st = .ok (leastD ps) st := by
  rw [rng_cons (fun x => sysD (numb ps x)) hd]
  refine x_minA ?_
  rw [← rng_cons (fun x => sysD (numb ps x)) hd]
  exact minOk_sys
theorem least_mem (hd : 0 < d) : ∃ x, x < d ∧ leastD ps = sysD (numb ps x) := by
  have := minF_mem ((List.range' 1 (d - 1)).map fun x => sysD (numb ps x)) (sysD (numb ps 0))
  rw [← rng_cons (fun x => sysD (numb ps x)) hd] at this
  obtain ⟨x, hx, e⟩ := List.mem_map.mp this
  exact ⟨x, List.mem_range.mp hx, e.symm⟩
theorem least_turn (f : Pm d) (hd : 0 < d) (hc : (parts ps).length = 1) : leastD (turn ps f) = leastD ps := by
  unfold leastD
  symm
  refine minF_same ?_ (fun z => ?_) fun a ha b hb e => ?_
  · rw [← rng_cons (fun x => sysD (numb ps x)) hd]; exact minOk_sys
  · rw [← rng_cons (fun x => sysD (numb ps x)) hd, ← rng_cons (fun x => sysD (numb (turn ps f) x)) hd]
    constructor
    · intro h
      obtain ⟨x, hx, rfl⟩ := List.mem_map.mp h
      exact List.mem_map.mpr ⟨f.f x, List.mem_range.mpr (f.lt (List.mem_range.mp hx)), by rw [numb_turn f hc (List.mem_range.mp hx)]⟩
    · intro h
      obtain ⟨x, hx, rfl⟩ := List.mem_map.mp h
      have hb := f.blt (List.mem_range.mp hx)
      refine List.mem_map.mpr ⟨f.b x, List.mem_range.mpr hb, ?_⟩
      rw [← numb_turn f hc hb, f.fb]
  · rw [← rng_cons (fun x => sysD (numb ps x)) hd] at ha hb
    obtain ⟨x, _, rfl⟩ := List.mem_map.mp ha
    obtain ⟨y, _, rfl⟩ := List.mem_map.mp hb
    rw [eqv_sysD.mp e]
theorem least_iff (hd : 0 < d) (hc : (parts ps).length = 1) : leastD us = leastD ps ↔ ∃ g : Pm d, us = turn ps g := by
  constructor
  · intro h
    obtain ⟨x, hx, e1⟩ := least_mem (ps := ps) hd
    obtain ⟨y, hy, e2⟩ := least_mem (ps := us) hd
    have e := sysD_inj (e2.symm.trans (h.trans e1))
    refine ⟨(num ps x).inv * num us y, ?_⟩
    rw [← turn_turn, show turn ps (num ps x).inv = numb ps x from rfl, ← e, numb]
    have := turn_inv (ps := us) (num us y).inv
    rw [Pm.inv_inv] at this
    exact this.symm
  · rintro ⟨g, rfl⟩
    exact least_turn g hd hc
/-! ### maps by leading words -/
theorem act_turn (g : Pm d) (i : Int) : act (turn ps g) i = cj g (act ps i) := by
  have e : (turn ps g).getD (i.natAbs - 1) Pm.one = cj g (ps.getD (i.natAbs - 1) Pm.one) := by
    rw [turn, List.getD_eq_getElem?_getD, List.getD_eq_getElem?_getD, List.getElem?_map]
    cases ps[i.natAbs - 1]? with
    | some p => rfl
    | none => exact Pm.ext fun x => (g.fb x).symm
  unfold act
  rw [e]
  split
  · rfl
  · exact Pm.ext fun x => rfl
theorem wact_turn (g : Pm d) : ∀ (w : List Int) (x : Nat), (wact (turn ps g) w).f (g.f x) = g.f ((wact ps w).f x)
  | [], x => rfl
  | i :: w, x => by
    rw [wact_cons, wact_cons, Pm.mul_f, Pm.mul_f, act_turn, cj_f, wact_turn g w]
/-- where the leading words of ps lead in us, from y -/
def mfun (ps us : List (Pm d)) (y x : Nat) : Nat := (wact us (wordOf (lead (stp ps) (ltrs ps.length) d 0) x)).f y
def isMapF (ps us : List (Pm d)) (F : Nat → Nat) : Prop := ∀ (j : Nat) (p u : Pm d), ps[j]? = some p → us[j]? = some u → ∀ x, x < d → F (p.f x) = u.f (F x)
theorem surj_perm : ∀ {D l : List Nat}, D.Nodup → (∀ x ∈ D, x ∈ l) → l.length ≤ D.length → l.Perm D
  | [], l, _, _, h => by
    have : l = [] := List.length_eq_zero_iff.mp (by simpa using h)
    rw [this]
  | x :: D, l, hn, hm, hl => by
    obtain ⟨h1, h2⟩ := List.nodup_cons.mp hn
    have hx := hm x List.mem_cons_self
    refine (List.perm_cons_erase hx).trans (List.Perm.cons x (surj_perm h2 (fun y hy => ?_) ?_))
    · exact (List.mem_erase_of_ne (fun e => h1 (by rw [← e]; exact hy))).mpr (hm y (List.mem_cons_of_mem _ hy))
    · rw [List.length_erase_of_mem hx]; simp at hl; omega
theorem map_iff (hd : 0 < d) (hl : us.length = ps.length) (hc : (parts ps).length = 1) (hu : (parts us).length = 1) : (∃ y, y < d ∧ isMapF ps us (mfun ps us y)) ↔ ∃ g : Pm d, us = turn ps g := by
  constructor
  · rintro ⟨y, hy, h⟩
    obtain ⟨F, hF⟩ : ∃ F, F = mfun ps us y := ⟨_, rfl⟩
    rw [← hF] at h
    have hlt : ∀ x, F x < d := fun x => by rw [hF]; exact (wact us _).lt hy
    have hS := all_of_conn hd hu (S := fun z => ∃ x, x < d ∧ F x = z) (x := F 0) (fun u hu z hz => by
      obtain ⟨j, hj, rfl⟩ := List.getElem_of_mem hu
      have hp : ps[j]? = some (ps[j]'(by omega)) := List.getElem?_eq_getElem (by omega)
      constructor
      · rintro ⟨w, hw, e⟩
        have hb := (ps[j]'(by omega)).blt hw
        refine ⟨(ps[j]'(by omega)).b w, hb, ?_⟩
        have := h j _ _ hp (List.getElem?_eq_getElem hj) _ hb
        rw [(ps[j]'(by omega)).fb, e] at this
        exact (us[j]).inj this.symm
      · rintro ⟨w, hw, rfl⟩
        exact ⟨(ps[j]'(by omega)).f w, (ps[j]'(by omega)).lt hw, h j _ _ hp (List.getElem?_eq_getElem hj) w hw⟩) (hlt 0) ⟨0, hd, rfl⟩
    have hp : ((List.range d).map F).Perm (List.range d) := surj_perm List.nodup_range (fun z hz => by
      obtain ⟨x, hx, e⟩ := hS z (List.mem_range.mp hz)
      exact List.mem_map.mpr ⟨x, List.mem_range.mpr hx, e⟩) (by simp)
    have hg : ∀ x, x < d → (Pm.ofList _ hp).f x = F x := fun x hx => by
      have := (Pm.ofList _ hp).list_get hx
      rw [Pm.ofList_list, List.getElem?_map, List.getElem?_range hx] at this
      exact (Option.some.inj this).symm
    refine ⟨Pm.ofList _ hp, List.ext_getElem (by rw [turn_len, hl]) fun j h1 h2 => ?_⟩
    have hj : j < ps.length := by omega
    rw [show (turn ps (Pm.ofList _ hp))[j] = cj (Pm.ofList _ hp) ps[j] by simp [turn, cj]]
    refine Pm.ext fun z => ?_
    by_cases hz : z < d
    · obtain ⟨x, hx, rfl⟩ := hS z hz
      rw [← hg x hx, cj_f, hg _ (ps[j].lt hx), hg x hx]
      exact (h j _ _ (List.getElem?_eq_getElem hj) (List.getElem?_eq_getElem h1) x hx).symm
    · rw [(us[j]).out z (by omega), Pm.out _ z (by omega)]
  · rintro ⟨g, rfl⟩
    have hF : ∀ x, x < d → mfun ps (turn ps g) (g.f 0) x = g.f x := fun x hx => by
      have h := (lead_ok (s := stp ps) (Ls := ltrs ps.length) stp_lt hd).1
      have h1 := h.at' _ (wordOf_mem (lead_all hc hd x hx))
      rw [nd_wact] at h1
      rw [mfun, wact_turn, h1]
    refine ⟨g.f 0, g.lt hd, fun j p u hp hu x hx => ?_⟩
    rw [turn, List.getElem?_map, hp] at hu
    cases hu
    rw [hF _ (p.lt hx), hF x hx]
    exact (cj_f g p x).symm
/-! ### all permutations, listed -/
def lvlP (d : Nat) : Nat → List (List Nat)
  | 0 => [[]]
  | n + 1 => (lvlP d n).flatMap fun r => ((List.range d).filter fun x => !decide (x ∈ r)).map fun x => r ++ [x]
theorem lvlP_mem : ∀ {n : Nat} {l : List Nat}, l ∈ lvlP d n ↔ l.length = n ∧ l.Nodup ∧ ∀ x ∈ l, x < d
  | 0, l => by
    rw [lvlP, List.mem_singleton]
    exact ⟨fun h => by subst h; simp, fun h => List.length_eq_zero_iff.mp h.1⟩
  | n + 1, l => by
    rw [lvlP, List.mem_flatMap]
    constructor
    · rintro ⟨r, hr, hl⟩
      obtain ⟨x, hx, rfl⟩ := List.mem_map.mp hl
      obtain ⟨h1, h2, h3⟩ := lvlP_mem.mp hr
      rw [List.mem_filter] at hx
      have hx2 : x ∉ r := by simpa using hx.2
      refine ⟨by simp [h1], nodup_snoc h2 hx2, fun y hy => ?_⟩
      rcases List.mem_append.mp hy with hy | hy
      · exact h3 y hy
      · rw [List.mem_singleton] at hy; subst hy; exact List.mem_range.mp hx.1
    · rintro ⟨h1, h2, h3⟩
      have hne : l ≠ [] := fun e => by rw [e] at h1; simp at h1
      have e := List.dropLast_concat_getLast hne
      rw [← e] at h1 h2 h3
      have hn := List.nodup_append.mp h2
      refine ⟨l.dropLast, lvlP_mem.mpr ⟨by simpa using h1, hn.1, fun y hy => h3 y (List.mem_append_left _ hy)⟩, List.mem_map.mpr ⟨l.getLast hne, List.mem_filter.mpr ⟨List.mem_range.mpr (h3 _ (by simp)), ?_⟩, e⟩⟩
      have : l.getLast hne ∉ l.dropLast := fun z => hn.2.2 _ z _ (by simp) rfl
      simpa using this
theorem lvlP_pm (g : Pm d) : g.list ∈ lvlP d d := by
  have hp := range_perm g
  rw [lvlP_mem]
  refine ⟨g.len, hp.nodup_iff.mpr List.nodup_range, fun x hx => List.mem_range.mp (hp.mem_iff.mp hx)⟩
theorem lvlP_get {l : List Nat} (h : l ∈ lvlP d d) : ∃ g : Pm d, g.list = l := by
  obtain ⟨h1, h2, h3⟩ := lvlP_mem.mp h
  exact ⟨Pm.ofList l (nodup_perm h2 List.nodup_range (fun x hx => List.mem_range.mpr (h3 x hx)) (by simp [h1])), Pm.ofList_list _⟩
end Fx

set_option Elab.async false
set_option linter.all false
set_option maxRecDepth 100000
set_option maxHeartbeats 4000000
namespace Fx
open PySem L2
variable [Md]
variable [Mw]
/-! ### the dict of the places -/
def kvN : Nat → List Nat → List (Key × D)
  | _, [] => []
  | j, y :: O => (.inl (y : Int), .int (j : Int)) :: kvN (j + 1) O
theorem kvN_snoc {y : Nat} : ∀ (O : List Nat) (j : Nat), kvN j (O ++ [y]) = kvN j O ++ [(.inl (y : Int), .int ((j + O.length : Nat) : Int))]
  | [], j => by simp [kvN]
  | a :: O, j => by
    have e : j + 1 + O.length = j + (O.length + 1) := by omega
    simp only [List.cons_append, kvN, kvN_snoc O (j + 1), List.length_cons, e]
theorem kvN_len : ∀ (O : List Nat) (j : Nat), (kvN j O).length = O.length
  | [], _ => rfl
  | a :: O, j => by simp [kvN, kvN_len O (j + 1)]
theorem valD_kvN {y : Nat} : ∀ (O : List Nat) (j : Nat), valD (kvN j O) (.inl (y : Int)) = if y ∈ O then some (.int ((j + O.idxOf y : Nat) : Int)) else none
  | [], _ => rfl
  | a :: O, j => by
    have ih := valD_kvN (y := y) O (j + 1)
    by_cases h : a = y
    · subst h
      rw [if_pos (by simp)]
      simp [valD, kvN]
    · have h' : ¬ (a : Int) = (y : Int) := by omega
      have hm : (y ∈ a :: O) = (y ∈ O) := by
        rw [List.mem_cons]
        exact propext ⟨fun z => z.elim (fun z => absurd z.symm h) id, .inr⟩
      have hi : (a :: O).idxOf y = O.idxOf y + 1 := by
        rw [List.idxOf_cons]
        have : (a == y) = false := by simpa using h
        rw [this]; rfl
      simp only [hm, hi]
      rw [show j + (O.idxOf y + 1) = j + 1 + O.idxOf y by omega, ← ih]
      simp only [valD, kvN, List.find?_cons, Sum.inl.injEq, h', decide_false]
theorem any_kvN {y : Nat} : ∀ {O : List Nat} {j : Nat}, y ∉ O → ((kvN j O).any fun kv => decide (kv.1 = Sum.inl (y : Int))) = false
  | [], _, _ => rfl
  | a :: O, j, h => by
    have h' : ¬ (a : Int) = (y : Int) := fun z => h (by rw [show y = a by omega]; simp)
    simp only [kvN, List.any_cons, Sum.inl.injEq, h', decide_false, Bool.false_or]
    exact any_kvN fun z => h (List.mem_cons_of_mem _ z)
section
variable {st : Store} {L y : Nat} {O : List Nat}
theorem kvN_in (h : st[L]? = some (.dk (kvN 0 O))) : fDIn false (nD y) (.loc L) st = .ok (.bl (!decide (y ∈ O))) st := by
  refine fDIn_not ?_
  unfold fDIn dGet
  simp only [h, nD, Fx.keyOf, valD_kvN]
  by_cases c : y ∈ O
  · rw [if_pos c, decide_eq_true c]
  · rw [if_neg c, decide_eq_false c]; rfl
theorem kvN_get (h : st[L]? = some (.dk (kvN 0 O))) (hy : y ∈ O) : fDGet (.loc L) (nD y) st = .ok (nD (O.idxOf y)) st := by
  unfold fDGet dGet
  simp only [h, nD, Fx.keyOf, valD_kvN]
  rw [if_pos hy, Nat.zero_add]
theorem kvN_set (h : st[L]? = some (.dk (kvN 0 O))) (hy : y ∉ O) (hl : O.length ≤ 900) : fSetD (.loc L) (nD y) (nD O.length) st = some (st.set L (.dk (kvN 0 (O ++ [y])))) := by
  unfold fSetD
  simp only [h, nD, Fx.keyOf]
  rw [if_pos (szFits_of1 (by rw [kvN_len]; omega)), putD_new (any_kvN hy), kvN_snoc, Nat.zero_add]
end
theorem num_b {d : Nat} {ps : List (Pm d)} {x y : Nat} (hc : (parts ps).length = 1) (hx : x < d) (hy : y < d) : (ordr ps x).idxOf y = (num ps x).b y := by
  rw [num, dif_pos (ordr_perm hc hx)]
  show _ = if y ∈ ordr ps x then (ordr ps x).idxOf y else y
  rw [if_pos (ordr_all hc hx y hy)]
end Fx

set_option Elab.async false
set_option linter.all false
set_option maxRecDepth 100000
set_option maxHeartbeats 4000000
namespace Fx
open PySem L2 PyProof.Rows
variable [Md]
variable [Mw]
section
variable {X : Cx} {W : WX} {a b c e k value o1 o2 i1 i2 : Expr} {ma mb mc md mk mv m mo1 mo2 mi1 mi2 : SE} {pos p1 p2 pt : Pos}
/-! ### a op b op c op d -/
def tChain3 (r r' r'' : R2) (ta tb tc td : TE) : TE := fun σ H Q => ta σ H fun x H1 => tb σ H1 fun y H2 => r x y H2 fun z H3 => ∃ k, z = .bl k ∧
  (if k = true then tc σ H3 fun w' H4 => r' y w' H4 fun z2 H5 => ∃ k2, z2 = .bl k2 ∧ (if k2 = true then td σ H5 fun w2 H6 => r'' w' w2 H6 Q else Q (.bl false) H5) else Q (.bl false) H3)
theorem pe_chain3 {d : Expr} {ta tb tc td : TE} {op op' op'' : CmpOp} {r r' r'' : R2} (ho : OpR X (compareOp op) r) (ho' : OpR X (compareOp op') r') (ho'' : OpR X (compareOp op'') r'') (ha : PE X a ta) (hb : PE X b tb) (hc : PE X c tc) (hd : PE X d td)
    (hm : lastMarks [op, op', op''] [b, c, d] = false := by with_unfolding_all rfl) : PE X (.Compare a [op, op', op''] [b, c, d] pos) (tChain3 r r' r'' ta tb tc td) := by
  refine ⟨fun pins s σ H Q I h => ?_⟩
  refine Compare_chain (thn (ha.run pins s σ H _ I h) fun v s1 ⟨x, H1, I1, r1, q1⟩ => chain_link (thn (hb.run pins s1 σ H1 _ I1 q1) fun u s2 ⟨y, H2, I2, r2, q2⟩ =>
    thn (ho pins s2 σ H2 x y v u _ I2 r1 r2 q2) fun d s3 ⟨z, H3, I3, r3, k, e, q3⟩ => ?_)) hm
  subst e
  cases r3
  refine wpAny_truthy_bool ?_
  cases k with
  | false => exact ite_ff ⟨.bl false, H3, I3, rfl, q3⟩
  | true =>
    refine ite_tt (chain_link (thn (hc.run pins s3 σ H3 _ I3 q3) fun w' s4 ⟨z', H4, I4, r4, q4⟩ => thn (ho' pins s4 σ H4 y z' u w' _ I4 r2 r4 q4) fun d5 s5 ⟨z5, H5, I5, r5, k2, e5, q5⟩ => ?_))
    subst e5
    cases r5
    refine wpAny_truthy_bool ?_
    cases k2 with
    | false => exact ite_ff ⟨.bl false, H5, I5, rfl, q5⟩
    | true => exact ite_tt (chain_last (thn (hd.run pins s5 σ H5 _ I5 q5) fun w2 s6 ⟨z6, H6, I6, r6, q6⟩ => ho'' pins s6 σ H6 z' z6 w' w2 Q I6 r4 r6 q6))
def mChain3 (f g h : D → D → Store → Rs D) (ma mb mc md : SE) : SE := fun τ st => (ma τ st).bind fun x st1 => (mb τ st1).bind fun y st2 => (f x y st2).bind fun z st3 => match z with
  | .bl true => (mc τ st3).bind fun u st4 => (g y u st4).bind fun z2 st5 => match z2 with
    | .bl true => (md τ st5).bind fun w st6 => h u w st6
    | .bl false => .ok (.bl false) st5
    | _ => .no
  | .bl false => .ok (.bl false) st3
  | _ => .no
theorem ev_chain3 {d : Expr} {op op' op'' : CmpOp} {f g h : D → D → Store → Rs D} (hf : OpS X (compareOp op) f) (hg : OpS X (compareOp op') g) (hh : OpS X (compareOp op'') h) (ha : EvE X W a ma) (hb : EvE X W b mb) (hc : EvE X W c mc) (hd : EvE X W d md)
    (hm : lastMarks [op, op', op''] [b, c, d] = false := by with_unfolding_all rfl) : EvE X W (.Compare a [op, op', op''] [b, c, d] pos) (mChain3 f g h ma mb mc md) := by
  obtain ⟨r, h1, h2⟩ := hf
  obtain ⟨r', h1', h2'⟩ := hg
  obtain ⟨r'', h1'', h2''⟩ := hh
  refine PE.imp (pe_chain3 h1 h1' h1'' ha hb hc hd hm) fun σ H Q ⟨ρ, τ, st, r0, en, o⟩ => ?_
  refine tM.bind r0 en o fun x st1 ρ1 H1 vx e1 r1 en1 qx o1 => tM.bind r1 en1 o1 fun y st2 ρ2 H2 vy e2 r2 en2 qy o2 => ?_
  refine h2 W σ ρ2 st2 H2 x y vx vy _ r2 (qx.mono e2 r1) qy (Out.bind r2 o2 fun z st3 ρ3 H3 vz e3 r3 qz o3 => ?_)
  cases z with
  | bl kk =>
    simp only [reD, RelD] at qz
    refine ⟨kk, qz, ?_⟩
    have en3 := en2.mono e3 r2
    cases kk with
    | false => exact o3.here r3 (by simp [reD, RelD])
    | true =>
      rw [if_pos rfl]
      refine tM.bind r3 en3 o3 fun u st4 ρ4 H4 vu e4 r4 en4 qu o4 => ?_
      refine h2' W σ ρ4 st4 H4 y u vy vu _ r4 ((qy.mono e3 r2).mono e4 r3) qu (Out.bind r4 o4 fun z2 st5 ρ5 H5 vz2 e5 r5 qz2 o5 => ?_)
      cases z2 with
      | bl k2 =>
        simp only [reD, RelD] at qz2
        refine ⟨k2, qz2, ?_⟩
        have en5 := en4.mono e5 r4
        cases k2 with
        | false => exact o5.here r5 (by simp [reD, RelD])
        | true =>
          rw [if_pos rfl]
          exact tM.bind r5 en5 o5 fun w st6 ρ6 H6 vw e6 r6 en6 qw o6 => h2'' W σ ρ6 st6 H6 u w vu vw Q r6 ((qu.mono e5 r4).mono e6 r5) qw o6
      | _ => exact o5.elim
  | _ => exact o3.elim
/-! ### o1[i1], o2[i2] = value -/
def sSwap2 (mo1 mi1 mo2 mi2 m : SE) : SS := fun τ st => (m τ st).go τ fun d st1 => match d with
  | .tup [d1, d2] => (mo1 τ st1).go τ fun ob1 st2 => (mi1 τ st2).go τ fun k1 st3 => match fSetL ob1 k1 d1 st3 with
    | some st4 => (mo2 τ st4).go τ fun ob2 st5 => (mi2 τ st5).go τ fun k2 st6 => match fSetL ob2 k2 d2 st6 with
      | some st7 => .nx τ st7
      | none => .no
    | none => .no
  | _ => .no
theorem es_swap2 {kt : Nat} (hc : X.calm = true) (ho1 : EvE X W o1 mo1) (hi1 : EvE X W i1 mi1) (ho2 : EvE X W o2 mo2) (hi2 : EvE X W i2 mi2) (hv : EvE X W value m)
    (hs : swapsWithSole [.Tuple [.Subscript o1 i1 p1, .Subscript o2 i2 p2] kt pt] value pos.line X.env = pure false := by rfl) (hw : swappedStores [.Tuple [.Subscript o1 i1 p1, .Subscript o2 i2 p2] kt pt] value X.env = pure none := by rfl)
    (h1 : (assignEach [.Tuple [.Subscript o1 i1 p1, .Subscript o2 i2 p2] kt pt] X.env).map (·.2) = [assign (.Tuple [.Subscript o1 i1 p1, .Subscript o2 i2 p2] kt pt) X.env] := by rfl)
    (ha1 : ∀ v, assign (.Subscript o1 i1 p1) X.env v = (do
      let ov ← holding [v] (eval o1 X.env)
      let iv ← holding [v, ov] (eval i1 X.env)
      standAt p1
      holding [v, ov, iv] (setItem ov iv v)
      release [v, ov, iv] []) := by intro _; rfl)
    (ha2 : ∀ v, assign (.Subscript o2 i2 p2) X.env v = (do
      let ov ← holding [v] (eval o2 X.env)
      let iv ← holding [v, ov] (eval i2 X.env)
      standAt p2
      holding [v, ov, iv] (setItem ov iv v)
      release [v, ov, iv] []) := by intro _; rfl)
    (hs1 : (assignEach [.Subscript o1 i1 p1, .Subscript o2 i2 p2] X.env).map (·.2) = assign (.Subscript o1 i1 p1) X.env :: (assignEach [.Subscript o2 i2 p2] X.env).map (·.2) := by rfl)
    (hs2 : (assignEach [.Subscript o2 i2 p2] X.env).map (·.2) = assign (.Subscript o2 i2 p2) X.env :: (assignEach [] X.env).map (·.2) := by rfl)
    (hn : (assignEach [.Subscript o1 i1 p1, .Subscript o2 i2 p2] X.env).length = 2 := by rfl) (hst : (assignEach [.Subscript o1 i1 p1, .Subscript o2 i2 p2] X.env).findIdx? (·.1) = none := by rfl) :
    EvS X W (.Assign [.Tuple [.Subscript o1 i1 p1, .Subscript o2 i2 p2] kt pt] value pos) (sSwap2 mo1 mi1 mo2 mi2 m) :=
  PS.imp (ps_asg hv (pg_tup hc (pgs_cons (pg_sub ho1 hi1 set_list ha1) (pgs_cons (pg_sub ho2 hi2 set_list ha2) pgs_nil hs2) hs1) hn hst) hs hw h1) fun D σ H ⟨ρ, τ, st, r0, en, oo⟩ => tM.goS r0 en oo fun d st1 ρ1 H1 v e1 r1 en1 q o1 => by
    match d, q, o1 with
    | .tup [d1, d2], q, o1 =>
      simp only [RelD] at q
      obtain ⟨a, vs, rfl, hq, rv⟩ := q
      obtain ⟨v1, v2, rfl, rv1, rv2⟩ := rv.two
      refine ⟨a, [v1, v2], rfl, hq.sq, rfl, v1, [v2], rfl, ?_⟩
      refine tM.goS r1 en1 o1 fun ob st2 ρ2 H2 vo e2 r2 en2 q2 o2 => tM.goS r2 en2 o2 fun k st3 ρ3 H3 vk e3 r3 en3 q3 o3 => ?_
      cases e : fSetL ob k d1 st3 with
      | none => rw [e] at o3; exact o3.elim
      | some st4 =>
        rw [e] at o3
        refine setL_ok r3 (q2.mono e3 r2) q3 ((rv1.mono e2 r1).mono e3 r2) e fun H4 ex r4 => ?_
        have en4 := en3.mono ex r3
        refine ⟨v2, [], rfl, ?_⟩
        refine tM.goS r4 en4 (OutS.shift o3 r3 ex r4) fun ob2 st5 ρ5 H5 vo2 e5 r5 en5 q5 o5 => tM.goS r5 en5 o5 fun k2 st6 ρ6 H6 vk2 e6 r6 en6 q6 o6 => ?_
        cases e7 : fSetL ob2 k2 d2 st6 with
        | none => rw [e7] at o6; exact o6.elim
        | some st7 =>
          rw [e7] at o6
          refine setL_ok r6 (q5.mono e6 r5) q6 (((((rv2.mono e2 r1).mono e3 r2).mono ex r3).mono e5 r4).mono e6 r5) e7 fun H7 ex7 r7 => ?_
          exact ⟨rfl, o6 ρ6 H7 σ ex7 r7 (en6.mono ex7 r6)⟩
    | .tup [], _, o1 => exact o1.elim
    | .tup [_], _, o1 => exact o1.elim
    | .tup (_ :: _ :: _ :: _), _, o1 => exact o1.elim
    | .non, _, o1 => exact o1.elim
    | .bl _, _, o1 => exact o1.elim
    | .int _, _, o1 => exact o1.elim
    | .str _, _, o1 => exact o1.elim
    | .ty _, _, o1 => exact o1.elim
    | .fn _, _, o1 => exact o1.elim
    | .lst _, _, o1 => exact o1.elim
    | .loc _, _, o1 => exact o1.elim
/-! ### {(..): v} -/
def tDispT1 (w : World) (K : PySem.W.Frag) (tk tv : TE) : TE := fun σ H Q => ∀ p, H p = none → tk σ (upd H p (DN w p [])) fun x H1 => tv σ H1 fun y H2 => H2 p = some (DN w p []) ∧ ∃ b k, x = .ref b ∧ NK K H2 k (.ref b) ∧ k.depth ≤ 8 ∧ Q (.ref p) (upd H2 p (DN w p [(k, b, y)]))
theorem pe_dispT1 {tk tv : TE} (hu : X.A.units + 10 < cLine) (hk : PE X k tk) (hv : PE X value tv) : PE X (.Dict [some k] [value] pos) (tDispT1 X.w X.K tk tv) := by
  refine ⟨fun pins s σ H Q I q => ?_⟩
  have hn := I.hok.fresh (Nat.le_refl s.heap.objs.size)
  have I1 := I.laid (a := s.heap.objs.size) (o := DN X.w s.heap.objs.size []) (h' := s.heap.push { cls := .type "dict", data := .dict #[] }) (t' := s.toks) (fun _ _ q => Heap.get?_push_of_some _ q) (Nat.le_refl _) (dn_empty s.heap I.big)
  rw [arm_eval_Dict, zip_pairTrees [some k] [value] X.env pos rfl rfl, dictDisplay_pairs (pairTrees [some k] [value] X.env pos) (by intro e; cases e) (by show 1 < 17; decide)]
  refine wpAny_bind (wpAny_standAt (wpAny_bind (wpAny_subDictH (knd := nestedKind X.prog X.w) (Q := fun d s' => wpAny (model X.prog X.w) X.A (pure (Value.ref d)) (EP X pins σ Q) X.xe s') (by show X.A.units + 8 < cLine; omega) (by show 1 ≤ 15; decide) ?_)))
  refine pairTrees_cons_walk (thn (hk.run pins _ σ _ _ I1 (q _ hn)) fun u s1 ⟨x, H1, I2, rx, q1⟩ => thn (hv.run pins s1 σ H1 _ I2 q1) fun w2 s2 ⟨y, H2, I3, ry, lk, b, ks, ex, eb, hd, q2⟩ => pairTrees_nil_walk ?_)
  subst ex
  obtain rfl : u = Value.ref b := rx
  obtain ⟨hm, z, xs, rel, dd⟩ := dn_of I3 lk (fun q hq => nomatch hq)
  cases rel
  refine ⟨[(ks, b, w2)], ⟨rfl, rfl, ⟨nested_of I3 _ eb rfl, hd⟩, trivial⟩, dd, fun h' tk' dd' hs => wpAny_pure ⟨.ref s.heap.objs.size, _, ?_, rfl, q2⟩⟩
  have ho : ∃ q, h'.get? s.heap.objs.size = some q := let ⟨q, _, _, hq, _⟩ := dd'; ⟨q, hq⟩
  exact d_write I3 (by rw [lk]; exact True.intro) hs ho (dn_new hm (by show 1 ≤ sizeLine; rw [sizeLine_eq]; omega) (.cons ⟨rfl, rfl, ry⟩ .nil) dd')
def mDispT1 (mk mv : SE) : SE := fun τ st => (mk τ (st ++ [.dt []])).bind fun x st1 => (mv τ st1).bind fun y st2 => match keyN x, st2[st.length]? with
  | some q, some (.dt []) => .ok (.loc st.length) (st2.set st.length (.dt [(q, y)]))
  | _, _ => .no
theorem ev_dispT1 (hu : X.A.units + 65 < cLine) (hw : Mw.w = some X.w) (hk : EvE X W k mk) (hv : EvE X W value mv) : EvE X W (.Dict [some k] [value] pos) (mDispT1 mk mv) := by
  refine PE.imp (pe_dispT1 (by omega) hk hv) fun σ H Q ⟨ρ, τ, st, r0, en, o⟩ => fun p hp => ?_
  have r1 : R X.K (put ρ st.length p) (st ++ [.dt []]) (upd H p (DN X.w p [])) := r0.alloc hp ⟨_, [], hw, upd_same, .nil⟩
  have ex : Ext ρ st.length H (put ρ st.length p) (st ++ [O.dt []]).length (upd H p (DN X.w p [])) := by
    rw [List.length_append, List.length_singleton]; exact put_ext hp
  have en1 := en.mono ex r0
  refine tM.bind r1 en1 (Out.shift o r0 ex r1) fun x st1 ρ1 H1 vx e1 r1' en1' q1 o1 => ?_
  refine tM.bind r1' en1' o1 fun y st2 ρ2 H2 vy e2 r2 en2 q2 o2 => ?_
  have hl : st.length < (st ++ [O.dt []]).length := by simp
  have hl1 : st.length < st1.length := Nat.lt_of_lt_of_le hl e1.le
  have ea : ρ2.at' st.length = p := by rw [e2.old _ hl1, e1.old _ hl, put_at]
  cases ek : keyN x with
  | none => rw [ek] at o2; exact o2.elim
  | some ks =>
    rw [ek] at o2
    cases es : st2[st.length]? with
    | none => rw [es] at o2; exact o2.elim
    | some ob =>
      rw [es] at o2
      cases ob with
      | lst _ => exact o2.elim
      | dk _ => exact o2.elim
      | dt kvs =>
        cases kvs with
        | cons _ _ => exact o2.elim
        | nil =>
          simp only at o2
          obtain ⟨w', ws, hw', hH, hpd⟩ := r2.obj _ _ es
          rw [hw] at hw'
          cases hw'
          cases hpd
          rw [ea] at hH
          obtain ⟨b, rfl, hb, hnk, hdp⟩ := keyN_rel (q1.mono e2 r1') ek
          refine ⟨hH, b, ks, rfl, hnk, hdp, ?_⟩
          have hl2 : st.length < st2.length := (List.getElem?_eq_some_iff.mp es).1
          have ex2 := r2.set_ext (u := DN X.w p [(ks, b, vy)]) hl2
          rw [← ea] at ex2 ⊢
          refine o2 ρ2 _ _ ?_ (r2.set hl2 ⟨_, _, hw, upd_same, .cons ⟨rfl, ⟨RelD.mono hb ex2 r2, hdp⟩, RelD.mono q2 ex2 r2⟩ .nil⟩) ?_
          · rw [List.length_set]; exact ex2
          · simp only [reD, RelD]; rw [List.length_set]; exact ⟨trivial, hl2⟩
@[simp] theorem x_mDispT1 {σ : En} {st : Store} : mDispT1 mk mv σ st = (mk σ (st ++ [.dt []])).bind fun x st1 => (mv σ st1).bind fun y st2 => match keyN x, st2[st.length]? with
  | some q, some (.dt []) => .ok (.loc st.length) (st2.set st.length (.dt [(q, y)]))
  | _, _ => .no := rfl
@[simp] theorem x_sSwap2 {τ : En} {st : Store} : sSwap2 mo1 mi1 mo2 mi2 m τ st = (m τ st).go τ fun d st1 => match d with
  | .tup [d1, d2] => (mo1 τ st1).go τ fun ob1 st2 => (mi1 τ st2).go τ fun k1 st3 => match fSetL ob1 k1 d1 st3 with
    | some st4 => (mo2 τ st4).go τ fun ob2 st5 => (mi2 τ st5).go τ fun k2 st6 => match fSetL ob2 k2 d2 st6 with
      | some st7 => .nx τ st7
      | none => .no
    | none => .no
  | _ => .no := rfl
@[simp] theorem x_mChain3 {f g h : D → D → Store → Rs D} {τ : En} {st : Store} : mChain3 f g h ma mb mc md τ st = (ma τ st).bind fun x st1 => (mb τ st1).bind fun y st2 => (f x y st2).bind fun z st3 => match z with
  | .bl true => (mc τ st3).bind fun u st4 => (g y u st4).bind fun z2 st5 => match z2 with
    | .bl true => (md τ st5).bind fun w st6 => h u w st6
    | .bl false => .ok (.bl false) st5
    | _ => .no
  | .bl false => .ok (.bl false) st3
  | _ => .no := rfl
end
end Fx

set_option Elab.async false
set_option linter.all false
set_option maxRecDepth 100000
set_option maxHeartbeats 4000000
namespace Fx
open PySem L2
variable [Md]
variable [Mw]
variable {d : Nat}
/-! ### cycles and swaps -/
/-- p runs along the list, and from its end to e -/
def Run (p : Pm d) : List Nat → Nat → Prop
  | [], _ => False
  | [x], e => p.f x = e
  | x :: y :: r, e => p.f x = y ∧ Run p (y :: r) e
theorem run_app {p : Pm d} {b : Nat} {r : List Nat} {e : Nat} : ∀ {l : List Nat} {x : Nat}, Run p (x :: l ++ b :: r) e ↔ Run p (x :: l) b ∧ Run p (b :: r) e
  | [], x => Iff.rfl
  | y :: l, x => by
    show p.f x = y ∧ Run p (y :: l ++ b :: r) e ↔ (p.f x = y ∧ Run p (y :: l) b) ∧ _
    rw [run_app, and_assoc]
theorem run_iff {p : Pm d} {e : Nat} : ∀ {l : List Nat} {x : Nat}, Run p (x :: l) e ↔ Along p (x :: l) ∧ ∃ z, (x :: l).getLast? = some z ∧ p.f z = e
  | [], x => ⟨fun h => ⟨trivial, x, rfl, h⟩, fun ⟨_, z, h1, h2⟩ => by simp at h1; subst h1; exact h2⟩
  | y :: l, x => by
    show p.f x = y ∧ Run p (y :: l) e ↔ (p.f x = y ∧ Along p (y :: l)) ∧ _
    rw [run_iff (x := y), and_assoc]
    have : (x :: y :: l).getLast? = (y :: l).getLast? := by rw [List.getLast?_cons_cons]
    rw [this]
theorem run_cyc {p : Pm d} {c : List Nat} (h : Cyc p c) : ∃ x r, c = x :: r ∧ Run p c x := by
  obtain ⟨a, r, z, rfl, h2, h3⟩ := h.ends
  exact ⟨a, r, rfl, run_iff.mpr ⟨h.al, z, h2, h3⟩⟩
theorem run_next {p : Pm d} {e : Nat} : ∀ {l : List Nat} {x : Nat}, Run p (x :: l) e → ∀ y ∈ x :: l, p.f y ∈ l ∨ p.f y = e
  | [], x, h, y, hy => by
    rw [List.mem_singleton] at hy; subst hy; exact .inr h
  | z :: l, x, h, y, hy => by
    rcases List.mem_cons.mp hy with rfl | hy
    · exact .inl (by rw [h.1]; exact List.mem_cons_self)
    · exact (run_next h.2 y hy).imp (List.mem_cons_of_mem _) id
def itr (p : Pm d) : Nat → Nat → Nat
  | 0, x => x
  | n + 1, x => itr p n (p.f x)
theorem itr_add (p : Pm d) : ∀ (n m x : Nat), itr p (n + m) x = itr p m (itr p n x)
  | 0, m, x => by rw [Nat.zero_add]; rfl
  | n + 1, m, x => by rw [Nat.add_right_comm]; exact itr_add p n m (p.f x)
theorem run_to {p : Pm d} {e : Nat} : ∀ {l : List Nat} {x : Nat}, Run p (x :: l) e → ∀ y ∈ x :: l, ∃ n, itr p n y = e
  | [], x, h, y, hy => by
    rw [List.mem_singleton] at hy; subst hy; exact ⟨1, h⟩
  | z :: l, x, h, y, hy => by
    rcases List.mem_cons.mp hy with rfl | hy
    · obtain ⟨n, hn⟩ := run_to h.2 z List.mem_cons_self
      exact ⟨n + 1, by rw [itr, h.1]; exact hn⟩
    · exact run_to h.2 y hy
theorem run_from {p : Pm d} {e : Nat} : ∀ {l : List Nat} {x : Nat}, Run p (x :: l) e → ∀ y ∈ x :: l, ∃ n, itr p n x = y
  | [], x, h, y, hy => by
    rw [List.mem_singleton] at hy; subst hy; exact ⟨0, rfl⟩
  | z :: l, x, h, y, hy => by
    rcases List.mem_cons.mp hy with rfl | hy
    · exact ⟨0, rfl⟩
    · obtain ⟨n, hn⟩ := run_from h.2 y hy
      exact ⟨n + 1, by rw [itr, h.1]; exact hn⟩
theorem cyc_in {p : Pm d} {x : Nat} {l : List Nat} (h : Run p (x :: l) x) : ∀ (n y : Nat), y ∈ x :: l → itr p n y ∈ x :: l
  | 0, y, hy => hy
  | n + 1, y, hy => cyc_in h n (p.f y) (by
    rcases run_next h y hy with z | z
    · exact List.mem_cons_of_mem _ z
    · rw [z]; exact List.mem_cons_self)
theorem cyc_reach {p : Pm d} {x : Nat} {l : List Nat} (h : Run p (x :: l) x) {y z : Nat} (hy : y ∈ x :: l) (hz : z ∈ x :: l) : ∃ n, itr p n y = z := by
  obtain ⟨n, hn⟩ := run_to h y hy
  obtain ⟨m, hm⟩ := run_from h z hz
  exact ⟨n + m, by rw [itr_add, hn, hm]⟩
/-- a row of cycles that has each sheet once -/
structure Dec (p : Pm d) (cs : List (List Nat)) : Prop where
  cy : ∀ c ∈ cs, ∃ x r, c = x :: r ∧ Run p c x
  all : cs.flatten.Perm (List.range d)
theorem dec_cycs (p : Pm d) : Dec p (cycs p) := ⟨fun c hc => run_cyc (cycs_cy hc), nodup_perm (cycs_nd p) List.nodup_range (fun x hx => List.mem_range.mpr (cycs_lt hx)) (by rw [cycs_len]; simp)⟩
theorem Dec.nd {p : Pm d} {cs : List (List Nat)} (h : Dec p cs) : cs.flatten.Nodup := h.all.nodup_iff.mpr List.nodup_range
theorem min_mem : ∀ (l : List Nat) (x : Nat), ∃ m ∈ x :: l, ∀ y ∈ x :: l, m ≤ y
  | [], x => ⟨x, by simp, by simp⟩
  | z :: l, x => by
    obtain ⟨m, hm, h⟩ := min_mem l z
    by_cases c : x ≤ m
    · exact ⟨x, List.mem_cons_self, fun y hy => by
        rcases List.mem_cons.mp hy with rfl | hy
        · exact Nat.le_refl _
        · exact Nat.le_trans c (h y hy)⟩
    · exact ⟨m, List.mem_cons_of_mem _ hm, fun y hy => by
        rcases List.mem_cons.mp hy with rfl | hy
        · omega
        · exact h y hy⟩
open Classical in
noncomputable def isL (p : Pm d) (x : Nat) : Bool := decide (∀ n, x ≤ itr p n x)
open Classical in
theorem cyc_one {p : Pm d} {x : Nat} {l : List Nat} (h : Run p (x :: l) x) (hn : (x :: l).Nodup) : (x :: l).countP (isL p) = 1 := by
  obtain ⟨m, hm, hmin⟩ := min_mem l x
  have hL : isL p m = true := decide_eq_true fun n => hmin _ (cyc_in h n m hm)
  have hno : ∀ y ∈ x :: l, y ≠ m → isL p y = false := fun y hy hne => decide_eq_false fun k => by
    obtain ⟨n, e⟩ := cyc_reach h hy hm
    have h1 := k n
    rw [e] at h1
    have h2 := hmin y hy
    omega
  obtain ⟨s, t, e⟩ := List.append_of_mem hm
  rw [e] at hn hno ⊢
  have hn' := List.nodup_append.mp hn
  have z1 : s.countP (isL p) = 0 := by
    rw [List.countP_eq_zero]
    intro y hy
    have := hno y (List.mem_append_left _ hy) fun e => hn'.2.2 y hy m List.mem_cons_self e
    simp [this]
  have z2 : t.countP (isL p) = 0 := by
    rw [List.countP_eq_zero]
    intro y hy
    have := hno y (List.mem_append_right _ (List.mem_cons_of_mem _ hy)) fun e => (List.nodup_cons.mp hn'.2.1).1 (e ▸ hy)
    simp [this]
  rw [List.countP_append, List.countP_cons_of_pos hL, z1, z2]
theorem dec_count {p : Pm d} : ∀ {cs : List (List Nat)}, (∀ c ∈ cs, ∃ x r, c = x :: r ∧ Run p c x) → cs.flatten.Nodup → cs.flatten.countP (isL p) = cs.length
  | [], _, _ => rfl
  | c :: cs, h, hn => by
    obtain ⟨x, r, rfl, hr⟩ := h c List.mem_cons_self
    rw [List.flatten_cons] at hn
    have hn' := List.nodup_append.mp hn
    rw [List.flatten_cons, List.countP_append, cyc_one hr hn'.1, dec_count (fun c hc => h c (List.mem_cons_of_mem _ hc)) hn'.2.1, List.length_cons, Nat.add_comm]
theorem dec_len {p : Pm d} {cs : List (List Nat)} (h : Dec p cs) : cs.length = (cycs p).length := by
  rw [← dec_count h.cy h.nd, ← dec_count (dec_cycs p).cy (dec_cycs p).nd]
  exact (h.all.trans (dec_cycs p).all.symm).countP_eq _
theorem flatten_perm {α : Type} {l l' : List (List α)} (h : l.Perm l') : l.flatten.Perm l'.flatten := by
  induction h with
  | nil => exact .nil
  | cons x _ ih => rw [List.flatten_cons, List.flatten_cons]; exact ih.append_left x
  | swap x y l =>
    simp only [List.flatten_cons, ← List.append_assoc]
    exact List.perm_append_comm.append_right _
  | trans _ _ h1 h2 => exact h1.trans h2
theorem dec_perm {p : Pm d} {cs cs' : List (List Nat)} (h : Dec p cs) (hp : cs.Perm cs') : Dec p cs' := ⟨fun c hc => h.cy c (hp.mem_iff.mpr hc), (flatten_perm hp).symm.trans h.all⟩
/-- a cycle told from a sheet of it -/
theorem dec_rot {p : Pm d} {C : List Nat} {cs : List (List Nat)} (h : Dec p (C :: cs)) {a : Nat} (ha : a ∈ C) : ∃ r, Dec p ((a :: r) :: cs) ∧ (a :: r).Perm C := by
  obtain ⟨l, r, rfl⟩ := List.append_of_mem ha
  obtain ⟨x, r', e, hr⟩ := h.cy _ List.mem_cons_self
  cases l with
  | nil => exact ⟨r, h, List.Perm.refl _⟩
  | cons y l =>
    rw [List.cons_append, List.cons.injEq] at e
    obtain ⟨rfl, rfl⟩ := e
    have hr' : Run p (y :: l ++ a :: r) y := hr
    obtain ⟨h1, h2⟩ := run_app.mp hr'
    have hp : (a :: (r ++ y :: l)).Perm (y :: l ++ a :: r) := by
      rw [← List.cons_append]; exact List.perm_append_comm
    refine ⟨r ++ y :: l, ⟨fun c hc => ?_, ?_⟩, hp⟩
    · rcases List.mem_cons.mp hc with rfl | hc
      · exact ⟨a, _, rfl, by rw [← List.cons_append]; exact run_app.mpr ⟨h2, h1⟩⟩
      · exact h.cy c (List.mem_cons_of_mem _ hc)
    · rw [List.flatten_cons]
      refine (hp.append_right _).trans ?_
      have := h.all
      rw [List.flatten_cons] at this
      exact this
theorem run_swap {p : Pm d} {a b e : Nat} (ha : a < d) (hb : b < d) : ∀ {l : List Nat} {x : Nat}, Run p (x :: l) e → (∀ y ∈ l, y ≠ a ∧ y ≠ b) → Run (p * swp d a b) (x :: l) ((swp d a b).f e)
  | [], x, h, _ => by
    show (swp d a b).f (p.f x) = _
    rw [show p.f x = e from h]
  | y :: l, x, h, hl => by
    obtain ⟨h1, h2⟩ := hl y List.mem_cons_self
    refine ⟨?_, run_swap ha hb h.2 fun z hz => hl z (List.mem_cons_of_mem _ hz)⟩
    show (swp d a b).f (p.f x) = y
    rw [show p.f x = y from h.1, swp_f ha hb, if_neg h1, if_neg h2]
theorem rest_swap {p : Pm d} {a b : Nat} (ha : a < d) (hb : b < d) {c : List Nat} (h : ∃ x r, c = x :: r ∧ Run p c x) (hc : ∀ y ∈ c, y ≠ a ∧ y ≠ b) : ∃ x r, c = x :: r ∧ Run (p * swp d a b) c x := by
  obtain ⟨x, r, rfl, hr⟩ := h
  refine ⟨x, r, rfl, ?_⟩
  have := run_swap ha hb hr fun y hy => hc y (List.mem_cons_of_mem _ hy)
  obtain ⟨h1, h2⟩ := hc x List.mem_cons_self
  rw [swp_f ha hb, if_neg h1, if_neg h2] at this
  exact this
theorem swp_a {a b : Nat} (ha : a < d) (hb : b < d) : (swp d a b).f a = b := by rw [swp_f ha hb, if_pos rfl]
theorem swp_b {a b : Nat} (ha : a < d) (hb : b < d) : (swp d a b).f b = a := by
  rw [swp_f ha hb]
  by_cases h : b = a
  · rw [if_pos h, h]
  · rw [if_neg h, if_pos rfl]
/-- a swap of two sheets of two cycles joins them -/
theorem swap_joins {p : Pm d} {a b : Nat} (ha : a < d) (hb : b < d) {C1 C2 : List Nat} (h1 : C1 ∈ cycs p) (h2 : C2 ∈ cycs p) (hne : C1 ≠ C2) (ha1 : a ∈ C1) (hb2 : b ∈ C2) : (cycs (p * swp d a b)).length + 1 = (cycs p).length := by
  have h2' : C2 ∈ (cycs p).erase C1 := (List.mem_erase_of_ne (Ne.symm hne)).mpr h2
  obtain ⟨cs, hcs⟩ : ∃ cs, cs = ((cycs p).erase C1).erase C2 := ⟨_, rfl⟩
  have hp : (cycs p).Perm (C1 :: C2 :: cs) := (List.perm_cons_erase h1).trans ((List.perm_cons_erase h2').cons C1 |>.trans (by rw [hcs]))
  obtain ⟨r1, d1, _⟩ := dec_rot (dec_perm (dec_cycs p) hp) ha1
  obtain ⟨r2, d2, _⟩ := dec_rot (dec_perm d1 (List.Perm.swap _ _ _)) hb2
  have d3 := dec_perm d2 (List.Perm.swap _ _ _)
  have hn := d3.nd
  rw [List.flatten_cons, List.flatten_cons] at hn
  have n1 := List.nodup_append.mp hn
  have n2 := List.nodup_append.mp n1.2.1
  have c1 := List.nodup_cons.mp n1.1
  have c2 := List.nodup_cons.mp n2.1
  have ab : a ≠ b := n1.2.2 a List.mem_cons_self b (List.mem_append_left _ List.mem_cons_self)
  obtain ⟨x, r, e, k1⟩ := d3.cy (a :: r1) List.mem_cons_self
  rw [List.cons.injEq] at e
  obtain ⟨rfl, rfl⟩ := e
  obtain ⟨x, r, e, k2⟩ := d3.cy (b :: r2) (List.mem_cons_of_mem _ List.mem_cons_self)
  rw [List.cons.injEq] at e
  obtain ⟨rfl, rfl⟩ := e
  have q1 := run_swap ha hb k1 fun y hy => ⟨fun e => c1.1 (e ▸ hy), fun e => n1.2.2 y (List.mem_cons_of_mem _ hy) b (List.mem_append_left _ List.mem_cons_self) e⟩
  have q2 := run_swap ha hb k2 fun y hy => ⟨fun e => n1.2.2 a List.mem_cons_self y (List.mem_append_left _ (List.mem_cons_of_mem _ hy)) e.symm, fun e => c2.1 (e ▸ hy)⟩
  rw [swp_a ha hb] at q1
  rw [swp_b ha hb] at q2
  have dq : Dec (p * swp d a b) ((a :: (r1 ++ b :: r2)) :: cs) := by
    refine ⟨fun c hc => ?_, ?_⟩
    · rcases List.mem_cons.mp hc with rfl | hc
      · exact ⟨a, _, rfl, by rw [← List.cons_append]; exact run_app.mpr ⟨q1, q2⟩⟩
      · refine rest_swap ha hb (d3.cy c (List.mem_cons_of_mem _ (List.mem_cons_of_mem _ hc))) fun y hy => ?_
        have hf : y ∈ cs.flatten := List.mem_flatten.mpr ⟨c, hc, hy⟩
        exact ⟨fun e => n1.2.2 a List.mem_cons_self y (List.mem_append_right _ hf) e.symm, fun e => n2.2.2 b List.mem_cons_self y hf e.symm⟩
    · have := d3.all
      rw [List.flatten_cons, List.flatten_cons, ← List.append_assoc, List.cons_append] at this
      exact this
  have l1 := dec_len dq
  have l2 := dec_len d3
  simp only [List.length_cons] at l1 l2
  omega
/-- a swap of two sheets of one cycle cuts it -/
theorem swap_cuts {p : Pm d} {a b : Nat} (ha : a < d) (hb : b < d) (hab : a ≠ b) {C : List Nat} (h : C ∈ cycs p) (ha1 : a ∈ C) (hb1 : b ∈ C) : (cycs (p * swp d a b)).length = (cycs p).length + 1 := by
  obtain ⟨cs, hcs⟩ : ∃ cs, cs = (cycs p).erase C := ⟨_, rfl⟩
  have hp : (cycs p).Perm (C :: cs) := by rw [hcs]; exact List.perm_cons_erase h
  obtain ⟨r, d1, hr⟩ := dec_rot (dec_perm (dec_cycs p) hp) ha1
  have hb' : b ∈ r := by
    have := hr.mem_iff.mpr hb1
    rcases List.mem_cons.mp this with e | e
    · exact absurd e.symm hab
    · exact e
  obtain ⟨s, t, rfl⟩ := List.append_of_mem hb'
  have hn := d1.nd
  rw [List.flatten_cons] at hn
  have n1 := List.nodup_append.mp hn
  rw [← List.cons_append] at n1
  have n2 := List.nodup_append.mp n1.1
  have c1 := List.nodup_cons.mp n2.1
  have c2 := List.nodup_cons.mp n2.2.1
  obtain ⟨x, r, e, k⟩ := d1.cy _ List.mem_cons_self
  rw [List.cons.injEq] at e
  obtain ⟨rfl, rfl⟩ := e
  rw [← List.cons_append] at k
  obtain ⟨k1, k2⟩ := run_app.mp k
  have q1 := run_swap ha hb k1 fun y hy => ⟨fun e => c1.1 (e ▸ hy), fun e => n2.2.2 y (List.mem_cons_of_mem _ hy) b List.mem_cons_self e⟩
  have q2 := run_swap ha hb k2 fun y hy => ⟨fun e => n2.2.2 a List.mem_cons_self y (List.mem_cons_of_mem _ hy) e.symm, fun e => c2.1 (e ▸ hy)⟩
  rw [swp_b ha hb] at q1
  rw [swp_a ha hb] at q2
  have dq : Dec (p * swp d a b) ((a :: s) :: (b :: t) :: cs) := by
    refine ⟨fun c hc => ?_, ?_⟩
    · rcases List.mem_cons.mp hc with rfl | hc
      · exact ⟨a, _, rfl, q1⟩
      · rcases List.mem_cons.mp hc with rfl | hc
        · exact ⟨b, _, rfl, q2⟩
        · refine rest_swap ha hb (d1.cy c (List.mem_cons_of_mem _ hc)) fun y hy => ?_
          have hf : y ∈ cs.flatten := List.mem_flatten.mpr ⟨c, hc, hy⟩
          exact ⟨fun e => n1.2.2 a (List.mem_append_left _ List.mem_cons_self) y hf e.symm, fun e => n1.2.2 b (List.mem_append_right _ List.mem_cons_self) y hf e.symm⟩
    · have := d1.all
      rw [List.flatten_cons] at this
      rw [List.flatten_cons, List.flatten_cons, ← List.append_assoc, List.cons_append]
      exact this
  have l1 := dec_len dq
  have l2 := dec_len d1
  simp only [List.length_cons] at l1 l2
  omega
/-! ### how far from the identity -/
def dst (p : Pm d) : Nat := d - (cycs p).length
theorem dst_eq (p : Pm d) : dst p + (cycs p).length = d := by
  have := told_count p
  unfold dst; omega
theorem told_dst (p : Pm d) : ((cycs p).flatMap (toldS d)).length = dst p := by
  have := told_count p
  unfold dst; omega
theorem dst_zero {p : Pm d} (h : dst p = 0) : p = Pm.one := by
  have h1 := told_dst p
  rw [h] at h1
  have h2 := told_prod p
  rw [List.length_eq_zero_iff.mp h1] at h2
  exact h2.symm
theorem dst_one : dst (Pm.one : Pm d) = 0 := by
  have hd : Dec (Pm.one : Pm d) ((List.range d).map fun x => [x]) := ⟨fun c hc => by
    obtain ⟨x, _, rfl⟩ := List.mem_map.mp hc
    exact ⟨x, [], rfl, rfl⟩, by
    have : ∀ l : List Nat, (l.map fun x => [x]).flatten = l := by
      intro l
      induction l with
      | nil => rfl
      | cons a l ih => rw [List.map_cons, List.flatten_cons, ih]; rfl
    rw [this]⟩
  have := dec_len hd
  rw [List.length_map, List.length_range] at this
  unfold dst; omega
theorem cyc_of {p : Pm d} {x : Nat} (hx : x < d) : ∃ C ∈ cycs p, x ∈ C := List.mem_flatten.mp (cycs_all hx)
theorem dst_step (p : Pm d) {a b : Nat} (ha : a < d) (hb : b < d) (hab : a ≠ b) : dst (p * swp d a b) = dst p + 1 ∨ dst (p * swp d a b) + 1 = dst p := by
  obtain ⟨C1, h1, m1⟩ := cyc_of (p := p) ha
  obtain ⟨C2, h2, m2⟩ := cyc_of (p := p) hb
  have e1 := dst_eq p
  have e2 := dst_eq (p * swp d a b)
  by_cases c : C1 = C2
  · subst c
    have := swap_cuts ha hb hab h1 m1 m2
    omega
  · have := swap_joins ha hb h1 h2 c m1 m2
    omega
theorem swp_sq {a b : Nat} (ha : a < d) (hb : b < d) : swp d a b * swp d a b = Pm.one := Pm.ext fun x => by
  show (swp d a b).f ((swp d a b).f x) = x
  rw [swp_f ha hb, swp_f ha hb]
  by_cases h1 : x = a
  · subst h1
    rw [if_pos rfl]
    by_cases h2 : b = x
    · rw [if_pos h2, h2]
    · rw [if_neg h2, if_pos rfl]
  · rw [if_neg h1]
    by_cases h2 : x = b
    · subst h2; rw [if_pos rfl, if_pos rfl]
    · rw [if_neg h2, if_neg h1, if_neg h2]
theorem swp_comm {a b : Nat} (ha : a < d) (hb : b < d) : swp d a b = swp d b a := Pm.ext fun x => by
  rw [swp_f ha hb, swp_f hb ha]
  by_cases h1 : x = a
  · subst h1
    rw [if_pos rfl]
    by_cases h2 : x = b
    · rw [if_pos h2, h2]
    · rw [if_neg h2, if_pos rfl]
  · rw [if_neg h1]
    by_cases h2 : x = b
    · rw [if_pos h2, if_pos h2]
    · rw [if_neg h2, if_neg h2, if_neg h1]
/-- nearer by one swap -/
theorem dst_back {p : Pm d} {j : Nat} (h : dst p = j + 1) : ∃ a b, a < b ∧ b < d ∧ dst (p * swp d a b) = j := by
  have h1 := told_dst p
  rw [h] at h1
  have : ∃ s, s ∈ (cycs p).flatMap (toldS d) := by
    cases e : (cycs p).flatMap (toldS d) with
    | nil => rw [e] at h1; simp at h1
    | cons s r => exact ⟨s, List.mem_cons_self⟩
  obtain ⟨s, hs⟩ := this
  obtain ⟨C, hC, hs⟩ := List.mem_flatMap.mp hs
  cases C with
  | nil => simp [toldS] at hs
  | cons a r =>
    cases r with
    | nil => simp [toldS] at hs
    | cons b r =>
      have hnd := nodup_elem (cycs_nd p) hC
      have hab : a ≠ b := fun e => (List.nodup_cons.mp hnd).1 (by rw [e]; simp)
      have ha : a < d := cycs_lt (List.mem_flatten.mpr ⟨_, hC, by simp⟩)
      have hb : b < d := cycs_lt (List.mem_flatten.mpr ⟨_, hC, by simp⟩)
      have hcut := swap_cuts ha hb hab hC (by simp) (by simp)
      have e1 := dst_eq p
      have e2 := dst_eq (p * swp d a b)
      by_cases c : a < b
      · exact ⟨a, b, c, hb, by omega⟩
      · exact ⟨b, a, by omega, ha, by rw [← swp_comm ha hb]; omega⟩
end Fx

set_option Elab.async false
set_option linter.all false
set_option maxRecDepth 100000
set_option maxHeartbeats 4000000
/-! Fx: an own exception class over ValueError whose __init__ says super().__init__(x); self.f = x. -/
namespace Fx
open PySem L2 PyProof.Rows PySem.W
variable [Md]
variable [Mw]

/-! ### the bound ValueError.__init__ called -/
section
variable {M : Model} {A : Around} {E : Value → Shared → Prop}
theorem ri_callWith {u x : Addr} {i : String} {pos : Pos} {env : PySem.Env} {e : Expr} {rest : List Expr} {s : Shared} {Q : Value → Shared → Prop}
    (h : wpAny M A (spliced (backTo pos (starEach (e :: rest) env))) (fun vs s₁ => KxsAt i u x s₁.heap ∧ wpAny M A (call (.ref u) vs) Q E s₁) E s)
    (he : starEach (e :: rest) env = (false, eval e env) :: starEach rest env := by rfl) (hplain : (backTo pos (starEach rest env)).any (·.1) = false := by rfl) :
    wpAny M A (callWith pos (.ref u) [] (backTo pos (starEach (e :: rest) env)) []) Q E s := by
  rw [he] at h ⊢
  refine kxs_callWith (i := i) (x := x) (by show (false || (backTo pos (starEach rest env)).any (·.1)) = false; rw [hplain]; rfl) ?_
  exact Calls.evalArgs_plain h
end
section
variable {prog : Program} {w : World} {A : Around} {E : Value → Shared → Prop} {h : Heap} {g : Array GenState} {d : Drawn} {t : Nat} {os : OsState}
variable {nm q : Str} {C N : Addr} {bs bm : List Value} {hdct : Bool} {sn : List Str} {sub : List Value} {ab : Bool} {col : Option Bool} {dd : Option Addr} {k0 k1 k2 k3 k5 : Option Value}
theorem ri_call {u e t0 : Addr} {rest : List Value} {Q : Value → Shared → Prop}
    (hC : h.get? C = some (excClassObj nm q C N bs bm hdct sn sub ab col dd k0 k1 k2 k3 k5 "ValueError.__new__")) (he : h.get? e = some (HandSPX.excO C t0)) (hu : h.get? u = some (kxs_mw "ValueError.__init__" e)) (hrest : rest.length ≤ sizeLine)
    (hq : ∀ h' t1, (∀ b o, b ≠ e → h.get? b = some o → h'.get? b = some o) → h'.get? e = some (HandSPX.excO C t1) → Q .none ⟨h', g, d, t, os⟩) :
    wpAny (model prog w) A (call (.ref u) rest) Q E ⟨h, g, d, t, os⟩ := by
  refine wpAny_call (codeAny_of_tree ?_)
  show wpAny _ A.in1 (callAny (.ref u) ⟨rest, []⟩) _ _ _
  simp only [callAny]
  refine wpAny_bind (wpAny_load hu ?_)
  simp only [kxs_mw, show (Value.type "method-wrapper" == Value.type "method" || Value.type "method-wrapper" == Value.type "builtin_function_or_method" || Value.type "method-wrapper" == Value.type "method-wrapper") = true by decide, if_true]
  refine W.KFB.if_so (by decide) ?_
  refine wpAny_bind (check_bound_init F.excBase_ValueError.toExcCallFacts hC he rfl ?_)
  refine wpAny_bind (wpAny_pure (wpAny_pure ?_))
  refine ⟨plainId_quiet F.excBase_ValueError.init.plain _, codeAny_builtin F.excBase_ValueError.initEntry ?_⟩
  refine exc_init_tree (cls := .ref C) (t0 := t0) (dv := none) (c2 := .none) (c3 := .none) (b4 := .bool false) he hrest fun h' k e' t' => ?_
  exact hq h' h.objs.size k e'
end

/-! ### __init__ -/
/-- what __init__ promises: the exception has its field -/
def spRI (C : Addr) (f : Str) : Sp := fun vs H Q _ => ∃ a r, vs = [.ref a, r] ∧ H a = some (exo a C none) ∧ ∀ dx, H dx = none → dx ≠ a → Q .non (upd (upd H dx (exd dx [(f, r)])) a (exo a C (some dx)))
/-- the scope of __init__, and with the parameters alone -/
abbrev riScope : Scope := { kind := .function, names := [("self", .local), ("reason", .local), ("__class__", .free), ("super", .globalImplicit)], isGenerator := false, isCoroutine := false, more := [] }
abbrev sc0 : Scope := { riScope with names := [("self", .local), ("reason", .local)] }
abbrev riBody (p0 p1 p2 p3 p4 p5 p6 p7 p8 p9 : Pos) : List Stmt := [.Expr (.Call (.Attribute (.Call (.Name "super" p0) [] [] p1) "__init__" p2) [.Name "reason" p3] [] p4) p5, .Assign [.Attribute (.Name "self" p6) "reason" p7] (.Name "reason" p8) p9]
abbrev riArgs (q0 q1 : Pos) : Arguments := { posonlyargs := [], args := [{ arg := "self", annotation := none, pos := q0 }, { arg := "reason", annotation := none, pos := q1 }], vararg := none, kwonlyargs := [], kw_defaults := [], kwarg := none, defaults := [] }
theorem ri_fn {P : Program} {w : World} {K : PySem.W.Frag} {mg : Str → Option Value} {base : Heap} {k : Nat} {C fI cc cda : Addr} {name qual : Str} {dV kV doc pm ct oc ccl cl : Value} {an od cdd cld : Option Addr} {osl ccs csl : Array (Option Value)} {vs : Array Value}
    {file : Str} {tf : Tok} {p0 p1 p2 p3 p4 p5 p6 p7 p8 p9 q0 q1 : Pos} {cv : ClassData}
    (T : OexC K C) (hno : findIn K (.ref C) "reason" = some none)
    (lk : K.lookup fI = some ⟨oc, od, .func (ksFn name qual (riArgs q0 q1) (riBody p0 p1 p2 p3 p4 p5 p6 p7 p8 p9) riScope dV kV doc pm an (.ref cda) ct cc), osl⟩) (hcd : codeIn K (.ref cda) qual = true)
    (hcode : K.lookup cda = some ⟨ccl, cdd, .fields vs, ccs⟩) (hvs : vs[2]? = some (.str file tf)) (hfile : ((P.main.file : Str) == file) = true) (htop : (P.main.scope.names.lookup ("super" : Str)).isSome = false)
    (hcell : K.lookup cc = some ⟨cl, cld, .cell (some (.ref C)), csl⟩) (hCl : clsIn K C = some cv)
    (hsup : ks_superIn K C C "__init__" = some (some (.builtin "ValueError.__init__"))) (hop : nsIn K cStatics "thirdparty.any" = some none)
    (hB : subIn K (.ref C) (.type "ValueError") = some true) (hCC : mroIn K C (.ref C) = some true) (hgs : mg "super" = none)
    (hE : ∀ env : PySem.Env, env.scope = riScope → ∃ pl : Sem Bool, eval (.Call (.Attribute (.Call (.Name "super" p0) [] [] p1) "__init__" p2) [.Name "reason" p3] [] p4) env = (do
      let ov ← attributeBase (.Call (.Name "super" p0) [] [] p1) "__init__" env (eval (.Call (.Name "super" p0) [] [] p1) env)
      standAt p2.atName
      let (f, first) ← holding [ov] (getMethod ov "__init__" pl)
      callWith p4 f first (backTo p4 (starEach [.Name "reason" p3] env)) [])) :
    FnOk P w K mg base (L2.CX P w) (k + 1) fI (ksFn name qual (riArgs q0 q1) (riBody p0 p1 p2 p3 p4 p5 p6 p7 p8 p9) riScope dV kV doc pm an (.ref cda) ct cc) ["self", "reason"] (spRI C "reason") := by
  refine ⟨fun vs H Q E ⟨a, r, e, _⟩ => by rw [e]; rfl, fun A outer s H args us vs' Q E hr e0 hb r hsp => ?_⟩
  obtain ⟨a, rr, rfl, ha, hq⟩ := hsp
  have hl : ([V.ref a, rr] : List V).length = (["self", "reason"] : List Str).length := rfl
  have r0 := r
  cases r with
  | @cons _ u1 _ us1 ra r1 =>
  cases r1 with
  | @cons _ u2 _ us2 rb r2 =>
  cases r2
  obtain rfl : u1 = Value.ref a := ra
  have KX : K.In s.heap := e0.mod.kin.keeps fun b o e => (e0.bs b o e).1
  have lim : s.heap.NoLimit := e0.mod.nolimit.keeps fun b o e => (e0.bs b o e).1
  refine ks_codeAny_call_defAt (binds := [("self", .ref a), ("reason", u2)]) hr.depth (KX _ _ lk) rfl lim (codeRec_of KX hcd) rfl hb (fun y hy => ?_) (fun y hy => ?_) (fun h₀ hns hk => ?_) rfl rfl rfl
  · have hy' : y ∈ riScope.names := hy
    have key : ∀ y ∈ riScope.names, y.2 ≠ .cell := by decide +kernel
    exact key y hy'
  · simp only [List.mem_cons, List.not_mem_nil, or_false] at hy
    rcases hy with rfl | rfl <;> rfl
  have hns' : h₀.Ns s.heap.objs.size (bindL (envOfC "" sc0 s.heap.objs.size fI (.ref cda)).kindOf ((["self", "reason"] : List Str).zip [Value.ref a, u2]) fun _ => none) := by
    have e : (bindL (envOfC "" sc0 s.heap.objs.size fI (.ref cda)).kindOf ((["self", "reason"] : List Str).zip [Value.ref a, u2]) fun _ => none) = fun x => ([("self", Value.ref a), ("reason", u2)] : List (Str × Value)).reverse.lookup x := by
      funext y
      show (if y = "reason" then some u2 else if y = "self" then some (Value.ref a) else none) = _
      by_cases c1 : y = "reason"
      · subst c1; rfl
      · rw [if_neg c1]
        have c1' : (y == "reason") = false := by simpa using c1
        by_cases c2 : y = "self"
        · subst c2; rfl
        · rw [if_neg c2]
          have c2' : (y == "self") = false := by simpa using c2
          simp only [List.reverse_cons, List.reverse_nil, List.nil_append, List.cons_append, List.lookup, c1', c2']
    rw [e]; exact hns
  have S0 : FnScope ["self", "reason"] ["self", "reason"] sc0 := ⟨rfl, rfl, rfl, by decide +kernel, rfl, by decide +kernel, by decide +kernel⟩
  obtain ⟨tk0, htk0⟩ : ∃ tk0, tk0 = s.toks + ([("self", Value.ref a), ("reason", u2)] : List (Str × Value)).length := ⟨_, rfl⟩
  rw [← htk0]
  have IC : InCallC s s.heap.objs.size (bindL (envOfC "" sc0 s.heap.objs.size fI (.ref cda)).kindOf ((["self", "reason"] : List Str).zip [Value.ref a, u2]) fun _ => none) (cellsFrom (s.heap.objs.size + 1) sc0.names []) (bindC (envOfC "" sc0 s.heap.objs.size fI (.ref cda)).kindOf ((["self", "reason"] : List Str).zip [Value.ref a, u2]) fun _ => none) { s with heap := h₀, toks := tk0 } := by
    have ec : cellsFrom (s.heap.objs.size + 1) sc0.names [] = [] := rfl
    rw [ec]
    exact ⟨⟨⟨h₀, _, rfl⟩, hns', hk, Nat.le_refl _⟩, fun n c z => (by cases z), .nil, fun n c z => (by cases z)⟩
  have I0 : Inv (cxOf (L2.CX P w) P w K mg base ["self", "reason"] "" sc0 fI (.ref cda) A outer s H E) [] (start ["self", "reason"] [.ref a, rr]) H { s with heap := h₀, toks := tk0 } := inv_start S0 hr.hd e0 hl r0 IC
  obtain ⟨nm, q, N', bs, bm, sn, sub, ab, col, dd, k0, k1, k2, k3, k5, hC, hbm⟩ := T.cls
  obtain ⟨t1, ho⟩ := exo_at I0.hok ha
  have up0 : ∀ b o, base.get? b = some o → h₀.get? b = some o := fun b o e => hk b o (e0.bs b o e).1
  have X0 : K.In h₀ := e0.mod.kin.keeps up0
  obtain ⟨mb, hmb, hmv⟩ := e0.mod.blt
  obtain ⟨oD, hD1, hD2⟩ : ∃ oD, h₀.get? C = some oD ∧ oD.data = .cls cv := by
    unfold clsIn at hCl
    split at hCl
    · rename_i c d cd' sl hoo
      cases hCl
      exact ⟨_, X0 _ _ hoo, rfl⟩
    · cases hCl
  have IA0 : W.InstAt h₀ a { cls := .ref C, dict := none, data := .fields #[.ref t1, .none, .none, .none, .bool false, .none] } C none := ⟨ho, rfl, rfl, trivial⟩
  have haC : a ≠ C := ks_ne X0 IA0 hCl
  obtain ⟨cdM, hcm, halong⟩ : ∃ cdM, clsIn K C = some cdM ∧ alongIn K "__init__" ((cdM.mro.dropWhile (· != .ref C)).drop 1) = some (some (.builtin "ValueError.__init__")) := by
    unfold ks_superIn at hsup
    cases z : clsIn K C with
    | none => rw [z] at hsup; cases hsup
    | some cdM => rw [z] at hsup; exact ⟨cdM, rfl, hsup⟩
  obtain ⟨pl, hpl⟩ := hE (callEnv (ksFn name qual (riArgs q0 q1) (riBody p0 p1 p2 p3 p4 p5 p6 p7 p8 p9) riScope dV kV doc pm an (.ref cda) ct cc) s.heap.objs.size fI) rfl
  refine ks_wpAt_execs_cons (ks_wpAt_Expr_any (ks_wpAt_MethodCall (pl := pl) ?_ hpl))
  refine ks_wpAt_super_base rfl rfl rfl rfl (X0 _ _ lk) rfl rfl rfl (X0 _ _ hcode) rfl hvs hfile htop ?_
  refine ks_loadName_global rfl rfl (Calls.loadGlobal_builtin (e0.mod.glob.keeps up0) hgs (hmb.keeps up0) ((hmv _ (by decide)).trans rfl) ⟨rfl, ?_⟩)
  refine wpAny_loadName_free rfl rfl rfl ⟨_, X0 _ _ hcell, rfl⟩ ?_
  refine wpAny_loadName_local rfl rfl hns (v := .ref a) rfl ?_
  refine ks_wpAny_isType_cls hD1 hD2 ⟨rfl, ?_⟩
  refine ks_wpAny_call_super hD1 hD2 IA0.at_ IA0.cls (fun c e => (by cases e)) (looks_mroIn X0 hCC) (fun h1 e1 kk1 => ?_)
  have X1 : K.In h1 := X0.keeps kk1
  have IA1 : W.InstAt h1 a { cls := .ref C, dict := none, data := .fields #[.ref t1, .none, .none, .none, .bool false, .none] } C none := ⟨kk1 _ _ ho, rfl, rfl, trivial⟩
  refine kxs_getMethod kxs_ValueError e1 (looks_opaque X1 hop) (l₀ := cdM.mro) (fun A Q E s k q => wpAny_bind ((looks_clsIn X1 hcm) A _ E s k (wpAny_pure q))) rfl X1 halong (IA1.type.andThen (looks_subIn X1 hB)) haC rfl ?_
  have hL0 : a ≠ s.heap.objs.size := fun z => by
    have := I0.free
    rw [show (cxOf (L2.CX P w) P w K mg base ["self", "reason"] "" sc0 fI (.ref cda) A outer s H E).env.locals = s.heap.objs.size from rfl, ← z, ha] at this
    cases this
  have hns2 : (h1.push (kxs_mw "ValueError.__init__" a)).Ns s.heap.objs.size (fun x => ([("self", Value.ref a), ("reason", u2)] : List (Str × Value)).reverse.lookup x) := by
    obtain ⟨oL, es, ep, hL, r⟩ := hns
    exact ⟨oL, es, ep, Heap.get?_push_of_some _ (kk1 _ _ hL), r⟩
  refine ri_callWith (i := "ValueError.__init__") (x := a) ?_
  refine spliced_more (wpAny_Name (wpAny_loadName_local rfl rfl hns2 (v := u2) rfl ?_) rfl)
  refine spliced_none ⟨Heap.get?_push_at rfl rfl, ?_⟩
  refine ri_call (C := C) (e := a) (t0 := t1) (Heap.get?_push_of_some _ (kk1 _ _ (X0 _ _ hC))) (Heap.get?_push_of_some _ (kk1 _ _ ho)) (Heap.get?_push_at rfl rfl) (by show 1 ≤ sizeLine; rw [sizeLine_eq]; decide) (fun h3 t3 k3 e3 => ?_)
  have k30 : ∀ b o, b ≠ a → h₀.get? b = some o → h3.get? b = some o := fun b o hb e => k3 b o hb (Heap.get?_push_of_some _ (kk1 _ _ e))
  have hns3 : h3.Ns s.heap.objs.size (fun x => ([("self", Value.ref a), ("reason", u2)] : List (Str × Value)).reverse.lookup x) := by
    obtain ⟨oL, es, ep, hL, r⟩ := hns
    exact ⟨oL, es, ep, k30 _ _ (Ne.symm hL0) hL, r⟩
  have I3 := I0.write (t' := tk0 + 1) (x := a) (e := a) (o := exo a C none) (by rw [ha]; exact True.intro) (.inl rfl) k30 ⟨_, e3⟩ (exo_ok e3)
  have eu : upd H a (exo a C none) = H := by
    funext b
    by_cases hb : b = a
    · rw [hb, upd_same, ha]
    · rw [upd_ne hb]
  rw [eu] at I3
  refine ks_wpAt_execs_cons (ks_wpAt_Assign_Attr (wpAt_of_wpAny (wpAny_Name (wpAny_loadName_local rfl rfl hns3 (v := u2) rfl (wpAny_Name (wpAny_loadName_local rfl rfl hns3 (v := .ref a) rfl ?_) rfl)) rfl)))
  refine ost_new T I3 ha hno rb (fun dx s' n ne J => ?_)
  exact wpAt_of_wpAny (wpAny_execs_nil ⟨.non, _, J.os, J.bare, J.base, J.hok, rfl, hq dx n ne⟩)
end Fx

set_option Elab.async false
set_option linter.all false
set_option maxRecDepth 100000
set_option maxHeartbeats 4000000
/-! Fx: raise C("..") where C has an __init__ of its own; except C as x: return (.., x.reason). -/
namespace Fx
open PySem L2 PyProof.Rows PySem.W
variable [Md]
variable [Mw]
/-- what must be known of such a class -/
structure RF (P : Program) (w : World) (K : PySem.W.Frag) (mg : Str → Option Value) (base : Heap) (C : Addr) : Prop where
  oex : OexC K C
  init : ∃ fI fd, findIn K (.ref C) "__init__" = some (some (.ref fI)) ∧ typeIn K (.ref fI) = some (.type "function") ∧ FnOk P w K mg base (L2.CX P w) 1 fI fd ["self", "reason"] (spRI C "reason") ∧ Binds K fd ["self", "reason"] []
  xf : XfC K C
  no : findIn K (.ref C) "reason" = some none
def sRaiseF (c : Addr) (m : Str) : SS := fun τ st => .er ⟨c, some [("reason", .str m)]⟩ τ st
theorem es_raiseF {X : Cx} {W : WX} {c : Addr} {x m : Str} {j k : Nat} {p p2 pos pos2 : Pos} (hc : X.calm = true) (tk : Takes X W) (rf : RF X.prog X.w X.K X.mg X.base c) (hr : Room k X.A) (hk : 2 ≤ k) (gC : X.mg x = some (.ref c)) (hg : Gl X x := by rfl) (hdb : (x == ("__debug__" : Str)) = false := by decide)
    (he : starEach [.Constant (.str m) j p2] X.env = (false, eval (.Constant (.str m) j p2) X.env) :: starEach [] X.env := by rfl) (hpl : (backTo pos (starEach [] X.env)).any (·.1) = false := by rfl) :
    EvS X W (.Raise (some (.Call (.Name x p) [.Constant (.str m) j p2] [] pos)) none pos2) (sRaiseF c m) := by
  obtain ⟨fI, fd, iC, tI, F1, hb⟩ := rf.init
  refine PS.imp (ps_raise hc tk (pmk_oex (ds := []) (dvs := []) rf.oex iC tI F1 (hr.mono hk) hb .nil (fun pins σ s H e s' I h => (cx_never h).elim) hg gC (pa_cons pe_str pa_nil he) hdb he hpl)) fun D σ H ⟨ρ, τ, st, r0, en, o⟩ => ?_
  refine ⟨by show 1 ≤ 1000; decide, fun a hna => ⟨a, .str m, rfl, upd_same, fun dx hdx hne => ⟨rfl, dx, [("reason", .str m)], upd_same, ?_, ?_, ?_⟩⟩⟩
  · rw [upd_ne hne, upd_same]
  · rw [upd_ne hne] at hdx; exact hdx
  · have hd0 : H dx = none := by rw [upd_ne hne] at hdx; exact hdx
    have eH : upd (del (upd (upd (upd H a (exo a c none)) dx (exd dx [("reason", .str m)])) a (exo a c (some dx))) a) dx (.xd [("reason", .str m)]) = upd H dx (.xd [("reason", .str m)]) := by
      funext b
      by_cases h1 : b = dx
      · rw [h1, upd_same, upd_same]
      · rw [upd_ne h1, upd_ne h1]
        by_cases h2 : b = a
        · rw [h2, del_same, hna]
        · rw [del_ne h2, upd_ne h2, upd_ne h1, upd_ne h2]
    rw [eH]
    have ex : Ext ρ st.length H ρ st.length (upd H dx (.xd [("reason", .str m)])) := r0.push_ext hd0
    exact o ρ _ σ (.ref c) (some dx) ex (r0.free hd0) (en.mono ex r0) ⟨rfl, [("reason", .str m)], upd_same, .cons ⟨rfl, by simp [RelD]⟩ .nil⟩
/-- the suite «return (k, x.reason)» -/
def fReason (c : Addr) (i : Nat) (k : Str) : Ex → SS := fun x τ st => if i < τ.length ∧ x.cls = c then (match x.fs with
  | some fs => (match fs.lookup ("reason" : Str) with
    | some d => .rt (.tup [.str k, d]) st
    | none => .no)
  | none => .no) else .no
theorem pair_look {K : PySem.W.Frag} {ρ : Mp} {n : Nat} {H : Hp} {g : Str} {d : D} : ∀ {fs : List (Str × D)} {ws : List (Str × V)}, Paired (fun p q => p.1 = q.1 ∧ RelD K ρ n H p.2 q.2) fs ws → fs.lookup g = some d → ∃ v, ws.lookup g = some v ∧ RelD K ρ n H d v := by
  intro fs ws h
  induction h with
  | nil => intro z; cases z
  | @cons p q l1 l2 h t ih =>
    intro z
    obtain ⟨p1, p2⟩ := p
    obtain ⟨q1, q2⟩ := q
    obtain ⟨h1, h2⟩ := h
    simp only at h1 h2
    subst h1
    simp only [List.lookup] at z ⊢
    cases e : g == p1 with
    | true =>
      rw [e] at z
      cases z
      exact ⟨q2, rfl, h2⟩
    | false => rw [e] at z; exact ih z
theorem suite_reason {X : Cx} {c : Addr} {i : Nat} {n k : Str} {j j2 : Nat} {p1 p2 p3 p4 p5 : Pos} (T : XfC X.K c) (hno : findIn X.K (.ref c) "reason" = some none) (hN : X.N[i]? = some n) (hv : Vis X.env.scope n)
    (hd : (n == ("__debug__" : Str)) = false := by decide) (hcd : (n == ("__classdict__" : Str)) = false := by decide)
    (hb : attributeBase (.Name n p2) "reason" X.env (eval (.Name n p2) X.env) = eval (.Name n p2) X.env := by rfl)
    (h1 : starEach [.Constant (.str k) j p1, .Attribute (.Name n p2) "reason" p3] X.env = (false, eval (.Constant (.str k) j p1) X.env) :: starEach [.Attribute (.Name n p2) "reason" p3] X.env := by rfl)
    (h2 : starEach [.Attribute (.Name n p2) "reason" p3] X.env = (false, eval (.Attribute (.Name n p2) "reason" p3) X.env) :: starEach [] X.env := by rfl) :
    SuiteOk X [.Return (some (.Tuple [.Constant (.str k) j p1, .Attribute (.Name n p2) "reason" p3] j2 p4)) p5] (fun a cls d => tRet (tTupN (tCons (tC (.str k)) (tCons (tXf a cls d c "reason" (tVar i)) tNil)))) :=
  fun a oe cls d pn hz hf => pss_one (ps_ret (pe_tupN (pa_cons (X := X.suite a ((a, oe) :: pn)) pe_str (pa_cons (X := X.suite a ((a, oe) :: pn)) (pe_xf T hno hz hf (pe_var (X := X.suite a ((a, oe) :: pn)) hN hv hd hcd) hb) pa_nil h2) h1)))
theorem serves_reason {K : PySem.W.Frag} {Wout : WX} {i : Nat} {c : Addr} {k : Str} : Serves K Wout (some i) (fun a cls d => tRet (tTupN (tCons (tC (.str k)) (tCons (tXf a cls d c "reason" (tVar i)) tNil)))) (fReason c i k) := by
  intro D ρ τ st σ H x cls d a r en rx ha o
  unfold fReason at o
  by_cases hc : i < τ.length ∧ x.cls = c
  · rw [if_pos hc] at o
    obtain ⟨e1, e2⟩ := rx
    cases hf : x.fs with
    | none => rw [hf] at o; exact o.elim
    | some fs =>
      rw [hf] at o e2
      cases d with
      | none => exact e2.elim
      | some dd =>
        obtain ⟨ws, hw, pw⟩ := e2
        simp only at o
        cases hl : fs.lookup ("reason" : Str) with
        | none => rw [hl] at o; exact o.elim
        | some y =>
          rw [hl] at o
          obtain ⟨v, hv, rv⟩ := pair_look pw hl
          have hi : i < σ.length := by rw [← en.1]; exact hc.1
          refine ⟨.ref a, by rw [List.getElem?_set_self hi], ?_⟩
          refine ⟨rfl, by rw [e1, hc.2], dd, ws, v, rfl, hw, hv, ?_⟩
          refine ⟨by show 2 ≤ sizeLine; rw [sizeLine_eq]; decide, fun p u hp nu => ?_⟩
          refine o ρ _ (.ref p) (r.push_ext hp) (r.free hp) ?_
          simp only [RelD]
          exact ⟨p, _, rfl, nu.upd, .cons (by simp [RelD]) (.cons (rv.mono (r.push_ext hp) r) .nil)⟩
  · rw [if_neg hc] at o; exact o.elim
/-- the facts, from the written part -/
def oexB (K : PySem.W.Frag) (C : Addr) : Bool := match K.lookup C with
  | some ⟨.type "type", _, .cls cd, sl⟩ => (match cd.mro, sl.toList with
    | .ref C' :: bm, [_, _, _, _, some (.builtin n), _] => C' == C && n == "ValueError.__new__" && !cd.hasDel && cd.hasDict && HandSPX.refsVE bm
    | _, _ => false)
  | _ => false
theorem oexB_cls {K : PySem.W.Frag} {C : Addr} (q : oexB K C = true) : ∃ nm q N bs bm sn sub ab col dd k0 k1 k2 k3 k5, K.lookup C = some (excClassObj nm q C N bs bm true sn sub ab col dd k0 k1 k2 k3 k5 "ValueError.__new__") ∧ PySem.HandSPX.refsVE bm = true := by
  unfold oexB at q
  split at q
  · rename_i dd cd sl ho
    split at q
    · rename_i C' bm k0 k1 k2 k3 n k5 hm hs
      simp only [Bool.and_eq_true, beq_iff_eq, Bool.not_eq_true'] at q
      obtain ⟨⟨⟨⟨rfl, rfl⟩, hdel⟩, hdict⟩, ht⟩ := q
      obtain ⟨nm, bs, mro, ns, qn, hd, sn, sub, ab, col, del⟩ := cd
      dsimp only at hm hdel hdict
      subst hm hdel hdict
      have hsl : sl = #[k0, k1, k2, k3, some (.builtin "ValueError.__new__"), k5] := by
        obtain ⟨l⟩ := sl
        simp only at hs
        rw [hs]
      subst hsl
      exact ⟨nm, qn, ns, bs, bm, sn, sub, ab, col, dd, k0, k1, k2, k3, k5, ho, ht⟩
    · cases q
  · cases q
theorem oex_of {K : PySem.W.Frag} {C : Addr} (q : oexB K C = true) (sa : findIn K (.ref C) "__setattr__" = some (some (.builtin "object.__setattr__"))) (exC : subIn K (.ref C) (.type "BaseException") = some true) (tyC : typeIn K (.ref C) = some (.type "type")) (kC : keepIn K (.ref C) = true) : OexC K C := ⟨oexB_cls q, sa, exC, tyC, kC⟩
/-- the first statement of a class -/
def clsInit (s : Stmt) : Stmt := match s with
  | .ClassDef _ _ _ (b :: _) _ _ _ _ _ _ _ => b
  | _ => s
theorem rf_mk {P : Program} {w : World} {K : PySem.W.Frag} {mg : Str → Option Value} {base : Heap} {st : Stmt} {C fI cc cda : Addr} {name qual : Str} {kV doc pm ct oc ccl cl : Value} {an od cdd cld : Option Addr} {osl ccs csl : Array (Option Value)} {vs : Array Value}
    {file : Str} {tf : Tok} {p0 p1 p2 p3 p4 p5 p6 p7 p8 p9 q0 q1 : Pos}
    (h1 : defArgs st = riArgs q0 q1) (h2 : defBody st = riBody p0 p1 p2 p3 p4 p5 p6 p7 p8 p9) (h3 : defScope st = riScope)
    (hE : ∀ env : PySem.Env, env.scope = riScope → ∃ pl : Sem Bool, eval (.Call (.Attribute (.Call (.Name "super" p0) [] [] p1) "__init__" p2) [.Name "reason" p3] [] p4) env = (do
      let ov ← attributeBase (.Call (.Name "super" p0) [] [] p1) "__init__" env (eval (.Call (.Name "super" p0) [] [] p1) env)
      standAt p2.atName
      let (f, first) ← holding [ov] (getMethod ov "__init__" pl)
      callWith p4 f first (backTo p4 (starEach [.Name "reason" p3] env)) []))
    (oB : oexB K C = true) (sa : findIn K (.ref C) "__setattr__" = some (some (.builtin "object.__setattr__"))) (exC : subIn K (.ref C) (.type "BaseException") = some true) (tyC : typeIn K (.ref C) = some (.type "type")) (kC : keepIn K (.ref C) = true)
    (iC : findIn K (.ref C) "__init__" = some (some (.ref fI))) (tI : typeIn K (.ref fI) = some (.type "function"))
    (lk : K.lookup fI = some ⟨oc, od, .func (ksFn name qual (defArgs st) (defBody st) (defScope st) .none kV doc pm an (.ref cda) ct cc), osl⟩) (hcd : codeIn K (.ref cda) qual = true)
    (hcode : K.lookup cda = some ⟨ccl, cdd, .fields vs, ccs⟩) (hvs : vs[2]? = some (.str file tf)) (hfile : ((P.main.file : Str) == file) = true) (htop : (P.main.scope.names.lookup ("super" : Str)).isSome = false)
    (hcell : K.lookup cc = some ⟨cl, cld, .cell (some (.ref C)), csl⟩)
    (hsup : ks_superIn K C C "__init__" = some (some (.builtin "ValueError.__init__"))) (hop : nsIn K cStatics "thirdparty.any" = some none)
    (hB : subIn K (.ref C) (.type "ValueError") = some true) (hCC : mroIn K C (.ref C) = some true) (hgs : mg "super" = none)
    (xf : xfB K C = true) (no : findIn K (.ref C) "reason" = some none) : RF P w K mg base C := by
  have T := oex_of oB sa exC tyC kC
  obtain ⟨nm, q, N', bs, bm, sn, sub, ab, col, dd, k0, k1, k2, k3, k5, hC, hbm⟩ := T.cls
  have hCl : ∃ cv, clsIn K C = some cv := by unfold clsIn; rw [hC]; exact ⟨_, rfl⟩
  obtain ⟨cv, hCl⟩ := hCl
  rw [h1, h2, h3] at lk
  refine ⟨T, ⟨fI, _, iC, tI, ri_fn T no lk hcd hcode hvs hfile htop hcell hCl hsup hop hB hCC hgs hE, ?_⟩, xfB_ok xf, no⟩
  exact .all fun us hl => match us, hl with | [_, _], _ => rfl
end Fx

set_option Elab.async false
set_option linter.all false
set_option maxRecDepth 100000
set_option maxHeartbeats 4000000
/-! Fx: zip of two tuples; t.index(x), t.count(x), l.index(x). -/
namespace Fx
open PySem PySem.Spec PyProof.Rows L2 RZ
variable [Md]
variable [Mw]
/-- two tuples side by side -/
def FxItz (K : PySem.W.Frag) (a b : Addr) : It :=
  ⟨fun i H => ∃ (xs ys : List V) (x y : V), SqT K H a xs ∧ SqT K H b ys ∧ xs[i]? = some x ∧ ys[i]? = some y,
    fun i H v H' => ∃ T x y, v = .ref T ∧ H T = none ∧ (∃ uu, NewT uu [x, y] ∧ H' = upd H T uu) ∧ (∀ xs, SqT K H a xs → xs[i]? = some x) ∧ ∀ ys, SqT K H b ys → ys[i]? = some y,
    fun i H => ∃ xs ys : List V, SqT K H a xs ∧ SqT K H b ys ∧ (xs.length ≤ i ∨ ys.length ≤ i)⟩
theorem fx_turn_zip {P : Program} {w : World} {K : PySem.W.Frag} {els : List Expr} {kn : Nat} {tpos : Pos} {a b z ti to j1 j2 : Addr} (D : ZipApart z ti to j1 j2 a b) :
    Turn P w K (.Tuple els kn tpos) (FxItz K a b) [z, ti, to, j1, j2] z (fun i h => IsZip h z ti to .none ∧ IsPair h ti (.ref j1) (.ref j2) ∧ (∃ x y, IsPair h to x y) ∧ h.IsTupleIter j1 a i ∧ h.IsTupleIter j2 b i) where
  mem := by simp
  obj := fun i h gs c hc => by
    obtain ⟨hz0, hti, ⟨x, y, hto⟩, ⟨o1, e1, _, d1⟩, ⟨o2, e2, _, d2⟩⟩ := gs
    have e' : c = z ∨ c = ti ∨ c = to ∨ c = j1 ∨ c = j2 := by simpa using hc
    rcases e' with q | q | q | q | q
    · rw [q]; exact ⟨_, hz0, fun v q => nomatch q⟩
    · rw [q]; exact ⟨_, hti, fun v q => nomatch q⟩
    · rw [q]; exact ⟨_, hto, fun v q => nomatch q⟩
    · rw [q]; exact ⟨o1, e1, fun v q => by rw [d1] at q; cases q⟩
    · rw [q]; exact ⟨o2, e2, fun v q => by rw [d2] at q; cases q⟩
  keep := fun i h h' gs k => by
    obtain ⟨hz0, hti, ⟨x, y, hto⟩, h1, h2⟩ := gs
    exact ⟨k z (by simp) _ hz0, k ti (by simp) _ hti, ⟨x, y, k to (by simp) _ hto⟩, h1.at fun o q => k j1 (by simp) o q, h2.at fun o q => k j2 (by simp) o q⟩
  item := by
    intro X hP hw hK hc i pins s σ H E I hf gs hg
    subst hP hw hK
    obtain ⟨hz0, hti, ⟨x0, y0, hto⟩, h1, h2⟩ := gs
    obtain ⟨xs, ys, x, y, qa, qb, hx, hy⟩ := hg
    obtain ⟨as1, rv1, p, _⟩ := I.tuple qa
    obtain ⟨as2, rv2, p2, _⟩ := I.tuple qb
    obtain ⟨u, hu, ru⟩ := rv1.get hx
    obtain ⟨u2, hu2, ru2⟩ := rv2.get hy
    have hzl : z < s.heap.objs.size := Heap.lt_size hz0
    refine pyNext_zipT_item D hz0 hti hto h1 h2 p p2 (x := u) (y := u2) (by simpa using hu) (by simpa using hu2) fun h' z' TO' h1' h2' hT hsz hk => ?_
    refine ⟨_, rfl, wpAny_letOwnedTupleGo_zip (s := { s with heap := h' }) z' fun h'' z'' sb => ?_⟩
    have hT2 : h''.get? s.heap.objs.size = some { cls := .type "tuple", data := .seq #[u, u2] } := (sb.2 _ (Nat.ne_of_gt hzl)).trans hT
    have new : ∃ uu, NewT uu [x, y] ∧ ObjOk X.prog X.w (upd H s.heap.objs.size uu) h'' s.heap.objs.size uu := newT_ok hT2 rfl fun H0 =>
      ⟨by show 2 ≤ sizeLine; decide, [u, u2], .cons ru (.cons ru2 .nil), ⟨_, hT2, rfl, _, rfl⟩⟩
    obtain ⟨uu, nu, new⟩ := new
    have I1 : Inv X pins σ (upd H s.heap.objs.size uu) { s with heap := h'' } :=
      I.turnedNew (t' := s.toks) (ch := [z, ti, to, j1, j2]) (fun c o hb q => (sb.2 c (fun q' => hb (by simp [q']))).trans (hk c o (fun q' => hb (by simp [q'])) (fun q' => hb (by simp [q'])) (fun q' => hb (by simp [q'])) (fun q' => hb (by simp [q'])) q)) hf (Nat.le_refl _) new
    refine ⟨.ref s.heap.objs.size, _, I1, rfl, ⟨_, x, y, rfl, I.hok.fresh (Nat.le_refl _), ⟨uu, nu, rfl⟩, fun l hl => by rw [I.tuple_inj hl qa]; exact hx, fun l hl => by rw [I.tuple_inj hl qb]; exact hy⟩, ⟨z'', ?_, ⟨u, u2, ?_⟩, ?_, ?_⟩, fun c hc2 => ?_⟩
    · exact (sb.2 _ D.TIz).trans (hk _ _ D.TIz D.TITO D.TIi1 D.TIi2 hti)
    · exact (sb.2 _ D.TOz).trans TO'
    · exact h1'.at fun o q => (sb.2 _ D.i1z).trans q
    · exact h2'.at fun o q => (sb.2 _ D.i2z).trans q
    · have hl3 : c < s.heap.objs.size := by
        have e' : c = z ∨ c = ti ∨ c = to ∨ c = j1 ∨ c = j2 := by simpa using hc2
        rcases e' with q | q | q | q | q
        · rw [q]; exact hzl
        · rw [q]; exact Heap.lt_size hti
        · rw [q]; exact Heap.lt_size hto
        · rw [q]; obtain ⟨_, e1, _⟩ := h1; exact Heap.lt_size e1
        · rw [q]; obtain ⟨_, e2, _⟩ := h2; exact Heap.lt_size e2
      rw [upd_ne (Nat.ne_of_lt hl3)]
      exact (hf c hc2).1
  done := by
    intro X hP hw hK hc i pins s σ H E I hf gs hg
    subst hP hw hK
    obtain ⟨hz0, hti, ⟨x0, y0, hto⟩, h1, h2⟩ := gs
    obtain ⟨xs, ys, qa, qb, hend⟩ := hg
    obtain ⟨as1, rv1, p, _⟩ := I.tuple qa
    obtain ⟨as2, rv2, p2, _⟩ := I.tuple qb
    have l1 := rv1.length
    have l2 := rv2.length
    have he : as1.toArray[i]? = none ∨ as2.toArray[i]? = none := by
      rcases hend with q | q
      · exact .inl (by simp; omega)
      · exact .inr (by simp; omega)
    exact pyNext_zipT_end (I.ok.hd hc) D hz0 hti hto h1 h2 p p2 he fun h' hk => ⟨rfl, I.turnedL (t' := s.toks) (ch := [z, ti, to, j1, j2]) (fun c o hb q =>
      hk c o (fun q' => hb (by simp [q'])) (fun q' => hb (by simp [q'])) (fun q' => hb (by simp [q'])) (fun q' => hb (by simp [q'])) q) hf⟩
  self := fun A i s Q E gs h => wpAny_pyIter_zip gs.1 h


def fxIZip (K : PySem.W.Frag) (ta : TA) : TI := fun σ H R => ta σ H fun vs H1 => ∃ a b xs ys, vs = [.ref a, .ref b] ∧ SqT K H1 a xs ∧ SqT K H1 b ys ∧ R (FxItz K a b) H1
theorem fx_pi_zip {X : Cx} {e e2 : Expr} {ta : TA} {p pos tpos : Pos} {els : List Expr} {kn : Nat} (hg : Gl X "zip") (hm : X.mg "zip" = none) (ha : PA X [e, e2] ta)
    (hs : starEach [e, e2] X.env = (false, eval e X.env) :: starEach [e2] X.env := by rfl) (hpl : (backTo pos (starEach [e2] X.env)).any (·.1) = false := by rfl) :
    PI X (.Tuple els kn tpos) (.Call (.Name "zip" p) [e, e2] [] pos) (fxIZip X.K ta) := by
  refine ⟨fun pins s σ H R I h => ?_⟩
  refine Call_ (ld_blt I hg hm PyProof.Rows.boot_zip (PyProof.Rows.callWith_type1 (thn (ha.run pos pins s σ H _ I h) fun us s1 ⟨vs, H1, I1, r1, q1⟩ => ?_) hs hpl))
  obtain ⟨a, b, xs, ys, ex, qa, qb, q⟩ := q1
  subst ex
  obtain ⟨u1, u2, rfl, ra, rb⟩ := vals2 r1
  cases ra
  cases rb
  obtain ⟨as1, rv1, p1, _⟩ := I1.tuple qa
  obtain ⟨as2, rv2, p2, _⟩ := I1.tuple qb
  obtain ⟨o1, ho1, _⟩ := id p1
  obtain ⟨o2, ho2, _⟩ := id p2
  refine call_zipT (show s1.heap.IsTuple a as1.toArray from p1) (show s1.heap.IsTuple b as2.toArray from p2) fun h' hz0 hti hto h1 h2 hsz hk => wpAny_pyIter_zip hz0 ?_
  have I2 : Inv X pins σ H1 { s1 with heap := h' } := I1.kept (t' := s1.toks) hk
  refine ⟨s1.heap.objs.size + 4, [s1.heap.objs.size + 4, s1.heap.objs.size + 2, s1.heap.objs.size + 3, s1.heap.objs.size, s1.heap.objs.size + 1], _, _, H1, rfl, I2, fx_turn_zip (PySem.W.ktu_apart s1.heap.objs.size a b (Heap.lt_size ho1) (Heap.lt_size ho2)), ⟨hz0, hti, ⟨_, _, hto⟩, h1, h2⟩, fun c hc2 => ?_, q⟩
  have hle : s1.heap.objs.size ≤ c := by
    simp only [List.mem_cons, List.not_mem_nil, or_false] at hc2
    rcases hc2 with z | z | z | z | z <;> (rw [z]; first | exact Nat.le_add_right _ _ | exact Nat.le_refl _)
  exact I1.fpOk hle (I1.hok.fresh hle)
/-- what zip gives -/
def zipD (xs ys : List D) : List D := List.zipWith (fun x y => D.tup [x, y]) xs ys
section
variable {K : PySem.W.Frag} {ρ : Mp} {st : Store} {H : Hp} {ds es : List D}
theorem TupAt.later {a : Addr} {vs : List V} {ρ2 : Mp} {n2 : Nat} {H2 : Hp} (h : TupAt H a vs) (e : ExtW ρ st.length H ρ2 n2 H2) (r : R K ρ st H) : SqT K H2 a vs := by
  obtain ⟨u, s, nu⟩ := h.some
  exact (nu.at (e.keep a _ s (r.ne s nu.mut))).sq
theorem itR_zip {a b : Addr} {vs ws : List V} (h : TupAt H a vs) (h' : TupAt H b ws) (rv : RelDs K ρ st.length H ds vs) (rw' : RelDs K ρ st.length H es ws) (r : R K ρ st H) : ItR K ρ st H (FxItz K a b) (zipD ds es) := fun ρ2 st2 H2 e r2 i => by
  have g1 : SqT K H2 a vs := h.later e r
  have g2 : SqT K H2 b ws := h'.later e r
  refine ⟨fun d hd => ?_, fun hl => ⟨vs, ws, g1, g2, ?_⟩⟩
  · unfold zipD at hd
    rw [List.getElem?_zipWith] at hd
    cases q1 : ds[i]? with
    | none => rw [q1] at hd; cases hd
    | some d1 =>
      cases q2 : es[i]? with
      | none => rw [q1, q2] at hd; cases hd
      | some d2 =>
        rw [q1, q2] at hd
        cases hd
        obtain ⟨v, hv, rd⟩ := rv.get q1
        obtain ⟨w, hw, re⟩ := rw'.get q2
        refine ⟨⟨vs, ws, v, w, g1, g2, hv, hw⟩, fun x H3 ⟨T, y, z, ex, hT, ⟨uu, nu, e3⟩, f1, f2⟩ => ?_⟩
        subst e3; subst ex
        have w1 := f1 vs g1
        rw [hv] at w1; cases w1
        have w2 := f2 ws g2
        rw [hw] at w2; cases w2
        refine ⟨r2.push_ext hT, r2.free hT, ?_⟩
        simp only [RelD]
        exact ⟨T, _, rfl, nu.upd, .cons ((RelD.monoW e r _ rd).mono (r2.push_ext hT) r2) (.cons ((RelD.monoW e r _ re).mono (r2.push_ext hT) r2) .nil)⟩
  · rw [rv.len, rw'.len]
    simp only [zipD, List.length_zipWith] at hl
    omega
end
def mZip (ma mb : SE) : SA := fun τ st => (ma τ st).bind fun x st1 => (mb τ st1).bind fun y st2 => match x, y with
  | .tup xs, .tup ys => .ok (zipD xs ys) st2
  | _, _ => .no
theorem ei_zip {X : Cx} {W : WX} {a b : Expr} {ma mb : SE} {p pos tpos : Pos} {els : List Expr} {kn : Nat} (hm : X.mg "zip" = none) (ha : EvE X W a ma) (hb : EvE X W b mb) (hg : Gl X "zip" := by rfl)
    (hs : starEach [a, b] X.env = (false, eval a X.env) :: starEach [b] X.env := by rfl) (hs2 : starEach [b] X.env = (false, eval b X.env) :: starEach [] X.env := by rfl) (hpl : (backTo pos (starEach [b] X.env)).any (·.1) = false := by rfl) :
    EvI X W (.Tuple els kn tpos) (.Call (.Name "zip" p) [a, b] [] pos) (mZip ma mb) := PI.imp (fx_pi_zip hg hm (pa_cons ha (pa_cons hb pa_nil hs2) hs) hs hpl) fun σ H Rr ⟨ρ, τ, st, r0, en, o⟩ =>
  tM.bind r0 en o fun x st1 ρ1 H1 vx e1 r1 en1 q1 o1 => tM.bind r1 en1 o1 fun y st2 ρ2 H2 vy e2 r2 en2 q2 o2 => by
    cases x with
    | tup xs =>
      cases y with
      | tup ys =>
        have q1' := q1.mono e2 r1
        simp only [RelD] at q1' q2
        obtain ⟨p1, us, rfl, h1, ru⟩ := q1'
        obtain ⟨p2, ws, rfl, h2, rw'⟩ := q2
        exact ⟨p1, p2, us, ws, rfl, h1.sq, h2.sq, o2 ρ2 H2 _ .refl r2 (itR_zip h1 h2 ru rw' r2)⟩
      | _ => exact o2.elim
    | _ => exact o2.elim
@[simp] theorem x_mZip {ma mb : SE} {τ : En} {st : Store} : mZip ma mb τ st = (ma τ st).bind fun x st1 => (mb τ st1).bind fun y st2 => match x, y with
  | .tup xs, .tup ys => .ok (zipD xs ys) st2
  | _, _ => .no := rfl

/-! ### a tuple's methods -/
section
variable {X : Cx} {W : WX}
theorem tup_own {K : PySem.W.Frag} {H : Hp} {p : Addr} {xs : List V} {pins : List (Addr × Obj)} {σ : L2.St} {s : Shared} (m : Md.fz = true) (I : Inv X pins σ H s) (h : TupAt H p xs) : s.TypeIs (.ref p) "tuple" ∧ ∀ a, Value.ref p = .ref a → ∃ ob, s.heap.get? a = some ob ∧ ob.dict = none := by
  unfold TupAt at h
  rw [if_pos m] at h
  obtain ⟨o, hd, h⟩ := h
  obtain ⟨e, hz, its, r, o', e', hc, _⟩ := I.hok p _ h
  rw [e] at e'
  cases e'
  exact ⟨⟨o, e, hc⟩, fun a ea => by cases ea; exact ⟨o, e, hd⟩⟩
theorem pe_bmT {o e : Expr} {es : List Expr} {to : TE} {t : TA} {name : Str} {apos cpos : Pos} {id : String} {r : V → List V → Hp → VK → Prop} (m : Md.fz = true) (slot : Slot "tuple" name id) (hty : typeOf (.builtin id) = pure (.type "method_descriptor")) (hm : MtR X id r) (ho : PE X o to) (ha : PA X (e :: es) t)
    (hbase : attributeBase o name X.env (eval o X.env) = eval o X.env)
    (hfew : ((backTo cpos (starEach (e :: es) X.env)).all (fun x => !x.1) && (backToKw cpos (keywordEach [] X.env)).all (fun x => x.1.isSome)
      && decide ((e :: es).length + ([] : List Keyword).length + (if ([] : List Keyword).isEmpty then 0 else 1) < 30)) = true)
    (hline : (apos.endLine == cpos.line) = true) (hs : starEach (e :: es) X.env = (false, eval e X.env) :: starEach es X.env) (hplain : (backTo cpos (starEach es X.env)).any (·.1) = false) :
    PE X (.Call (.Attribute o name apos) (e :: es) [] cpos) (fun σ H Q => to σ H fun x H1 => (∃ p xs, x = .ref p ∧ TupAt H1 p xs) ∧ t σ H1 fun ys H2 => r x ys H2 Q) := by
  refine ⟨fun pins s σ H Q I h => wpAny_Call_method_late hbase hfew hline rfl (thn (ho.run pins s σ H _ I h) fun v s1 ⟨x, H1, I1, r1, ⟨p, xs, ep, ht⟩, q1⟩ => ?_)⟩
  subst ep
  have rp := r1
  cases rp
  obtain ⟨g1, g2⟩ := tup_own (K := X.K) m I1 ht
  refine ⟨"tuple", id, PySem.F.plainAttrs_tuple, slot, hty, g1, g2, ?_⟩
  have hA := ha.run cpos pins s1 σ H1 _ I1 q1
  rw [hs] at hA ⊢
  refine Calls.callWith_builtin (by show (false || (backTo cpos (starEach es X.env)).any (·.1)) = false; rw [hplain] <;> rfl) (Calls.evalArgs_plain (thn hA fun us s2 ⟨vs, H2, I2, r2, q2⟩ => ?_))
  exact hm pins s2 σ H2 (.ref p) vs _ us Q I2 r1 r2 q2
/-- the first place of an equal item -/
def rTIdx (K : PySem.W.Frag) : V → List V → Hp → VK → Prop := fun x xs H Q => ∃ (y : V) (d : PyData) (ds : List PyData) (j : Nat), xs = [y] ∧ Dp K H x (.tuple ds) ∧ Dp K H y d ∧ SeqAt.shaped d = true ∧ PyData.canLayAll0 ds = true ∧ (ds.findIdx? fun z => PyData.eqv z d) = some j ∧ Q (.int (j : Nat)) H
def rTCnt (K : PySem.W.Frag) : V → List V → Hp → VK → Prop := fun x xs H Q => ∃ (y : V) (d : PyData) (ds : List PyData), xs = [y] ∧ Dp K H x (.tuple ds) ∧ Dp K H y d ∧ SeqAt.shaped d = true ∧ PyData.canLayAll0 ds = true ∧ Q (.int ((ds.countP fun z => PyData.eqv z d : Nat) : Int)) H
theorem mt_tidx (hu : X.A.units + 65 < cLine) : MtR X "tuple.index" (rTIdx X.K) := by
  intro pins s σ H x xs v us Q I rx rxs h
  obtain ⟨y, d, ds, j, rfl, hd, hy, sd, se, hj, q⟩ := h
  obtain ⟨uy, rfl, ry⟩ := vals1 rxs
  obtain ⟨cs, r1⟩ := Dp.reads I d y uy hy ry
  obtain ⟨cs2, r2⟩ := Dp.reads I (.tuple ds) x v hd rx
  cases r2 with
  | @tuple a o its n _ as h1 h2 h3 h4 =>
    obtain ⟨cls, dd, data, sl⟩ := o
    simp only at h2 h3
    subst h2 h3
    have em := SeqAt.readsAll_map ds _ _ se h4
    have el : its.toList.length = ds.length := by rw [← em, List.length_map]
    obtain ⟨hl, hit, hno⟩ := List.findIdx?_eq_some_iff_getElem.mp hj
    have hjs : j < its.size := by rw [Array.length_toList] at el; omega
    have at1 : ∀ (k : Nat) (hk : k < its.size) (hk' : k < ds.length), SeqAt.readOf s.heap its[k] = ds[k] := fun k hk hk' => by
      have q0 : (its.toList.map (SeqAt.readOf s.heap))[k]? = ds[k]? := by rw [em]
      rw [List.getElem?_map, Array.getElem?_toList, Array.getElem?_eq_getElem hk, List.getElem?_eq_getElem hk'] at q0
      exact Option.some.inj q0
    refine call_meets PySem.F.slot_tuple_index ⟨_, h1, rfl⟩ PySem.F.entry_tuple_index (PySem.F.args_tuple_index_2 _ _) (TI.tuple_indexAt a its n dd sl uy (fun u => PyData.eqv (SeqAt.readOf s.heap u) d) j hjs ?_ fun k hk hkj => ?_) ⟨h1, SeqAt.items_eqAt h4 r1 se (SeqAt.canLay_of_shaped sd) (roomA hu sd), .int (j : Nat), H, I.tok _, ⟨_, rfl⟩, q⟩
    · show PyData.eqv (SeqAt.readOf s.heap its[j]) d = true
      rw [at1 j hjs hl]; exact hit
    · show PyData.eqv (SeqAt.readOf s.heap its[k]) d = false
      rw [at1 k hk (by omega)]
      simpa using hno k hkj
theorem mt_tcnt (hu : X.A.units + 65 < cLine) : MtR X "tuple.count" (rTCnt X.K) := by
  intro pins s σ H x xs v us Q I rx rxs h
  obtain ⟨y, d, ds, rfl, hd, hy, sd, se, q⟩ := h
  obtain ⟨uy, rfl, ry⟩ := vals1 rxs
  obtain ⟨cs, r1⟩ := Dp.reads I d y uy hy ry
  obtain ⟨cs2, r2⟩ := Dp.reads I (.tuple ds) x v hd rx
  cases r2 with
  | @tuple a o its n _ as h1 h2 h3 h4 =>
    obtain ⟨cls, dd, data, sl⟩ := o
    simp only at h2 h3
    subst h2 h3
    have em := SeqAt.readsAll_map ds _ _ se h4
    have ec : its.toList.countP (fun u => PyData.eqv (SeqAt.readOf s.heap u) d) = ds.countP fun z => PyData.eqv z d := by
      rw [← em, List.countP_map]; rfl
    refine call_meets PySem.F.slot_tuple_count ⟨_, h1, rfl⟩ PySem.F.entry_tuple_count (PySem.F.args_tuple_count_2 _ _) (SeqAt.tuple_countAt a its n dd sl uy (fun u => PyData.eqv (SeqAt.readOf s.heap u) d)) ⟨h1, SeqAt.items_eqAt h4 r1 se (SeqAt.canLay_of_shaped sd) (roomA hu sd), .int ((ds.countP fun z => PyData.eqv z d : Nat) : Int), H, I.tok _, ⟨_, by rw [ec]⟩, q⟩
theorem find_toPys {x : D} : ∀ xs : List D, ((toPys xs).findIdx? fun z => PyData.eqv z (toPy x)) = xs.findIdx? fun z => eqD z x
  | [] => rfl
  | d :: ds => by simp only [toPys, List.findIdx?_cons, find_toPys ds]; rfl
theorem count_toPys {x : D} : ∀ xs : List D, ((toPys xs).countP fun z => PyData.eqv z (toPy x)) = xs.countP fun z => eqD z x
  | [] => rfl
  | d :: ds => by simp only [toPys, List.countP_cons, count_toPys ds]; rfl
def fTIdx : D → D → Store → Rs D := fun ob x st => match ob with
  | .tup xs => if shD x = true ∧ dOks xs = true then (match xs.findIdx? fun z => eqD z x with
    | some j => .ok (.int (j : Nat)) st
    | none => .no) else .no
  | _ => .no
def fTCnt : D → D → Store → Rs D := fun ob x st => match ob with
  | .tup xs => if shD x = true ∧ dOks xs = true then .ok (.int ((xs.countP fun z => eqD z x : Nat) : Int)) st else .no
  | _ => .no
def mTMeth (f : D → D → Store → Rs D) (mo me : SE) : SE := fun τ st => (mo τ st).bind fun ob st1 => match ob with
  | .tup xs => (me τ st1).bind fun x st2 => f (.tup xs) x st2
  | _ => .no
@[simp] theorem x_mTMeth {f : D → D → Store → Rs D} {mo me : SE} {τ : En} {st : Store} : mTMeth f mo me τ st = (mo τ st).bind fun ob st1 => match ob with
  | .tup xs => (me τ st1).bind fun x st2 => f (.tup xs) x st2
  | _ => .no := rfl
variable {o e : Expr} {mo me : SE} {apos cpos : Pos}
theorem ev_tidx (hu : X.A.units + 65 < cLine) (ho : EvE X W o mo) (ha : EvE X W e me) (m : Md.fz = true := by rfl)
    (hbase : attributeBase o "index" X.env (eval o X.env) = eval o X.env := by rfl)
    (hfew : ((backTo cpos (starEach (e :: []) X.env)).all (fun x => !x.1) && (backToKw cpos (keywordEach [] X.env)).all (fun x => x.1.isSome)
      && decide ((e :: []).length + ([] : List Keyword).length + (if ([] : List Keyword).isEmpty then 0 else 1) < 30)) = true := by rfl)
    (hline : (apos.endLine == cpos.line) = true := by rfl) (hs : starEach (e :: []) X.env = (false, eval e X.env) :: starEach [] X.env := by rfl) (hplain : (backTo cpos (starEach [] X.env)).any (·.1) = false := by rfl) :
    EvE X W (.Call (.Attribute o "index" apos) [e] [] cpos) (mTMeth fTIdx mo me) :=
  PE.imp (pe_bmT m PySem.F.slot_tuple_index rfl (mt_tidx hu) ho (pa_cons ha pa_nil hs) hbase hfew hline hs hplain) fun σ H Q ⟨ρ, τ, st, r0, en, oo⟩ => tM.bind r0 en oo fun ob st1 ρ1 H1 v e1 r1 en1 q o1 => by
    cases ob with
    | tup xs =>
      simp only [RelD] at q
      obtain ⟨p, us, rfl, ht, ru⟩ := q
      refine ⟨⟨p, us, rfl, ht⟩, tM.bind r1 en1 o1 fun x st2 ρ2 H2 vx e2 r2 en2 q2 o2 => ?_⟩
      simp only [fTIdx] at o2
      split at o2
      · rename_i hc
        cases hf : xs.findIdx? fun z => eqD z x with
        | none => rw [hf] at o2; exact o2.elim
        | some j =>
          rw [hf] at o2
          have ru2 := RelDs.mono e2 r1 xs ru
          obtain ⟨u, hu2, nu⟩ := ht.some
          have ht2 : TupAt H2 p us := nu.at (e2.keep p u hu2 (r1.ne hu2 nu.mut))
          exact ⟨vx, toPy x, toPys xs, j, rfl, .tup ht2.sq (dps_of xs hc.2 ru2), dp_of x (shD_ok hc.1) q2, shaped_of hc.1, canLays_of xs hc.2, by rw [find_toPys]; exact hf, o2.here r2 (by simp [reD, RelD])⟩
      · exact o2.elim
    | _ => exact o1.elim
theorem ev_tcnt (hu : X.A.units + 65 < cLine) (ho : EvE X W o mo) (ha : EvE X W e me) (m : Md.fz = true := by rfl)
    (hbase : attributeBase o "count" X.env (eval o X.env) = eval o X.env := by rfl)
    (hfew : ((backTo cpos (starEach (e :: []) X.env)).all (fun x => !x.1) && (backToKw cpos (keywordEach [] X.env)).all (fun x => x.1.isSome)
      && decide ((e :: []).length + ([] : List Keyword).length + (if ([] : List Keyword).isEmpty then 0 else 1) < 30)) = true := by rfl)
    (hline : (apos.endLine == cpos.line) = true := by rfl) (hs : starEach (e :: []) X.env = (false, eval e X.env) :: starEach [] X.env := by rfl) (hplain : (backTo cpos (starEach [] X.env)).any (·.1) = false := by rfl) :
    EvE X W (.Call (.Attribute o "count" apos) [e] [] cpos) (mTMeth fTCnt mo me) :=
  PE.imp (pe_bmT m PySem.F.slot_tuple_count rfl (mt_tcnt hu) ho (pa_cons ha pa_nil hs) hbase hfew hline hs hplain) fun σ H Q ⟨ρ, τ, st, r0, en, oo⟩ => tM.bind r0 en oo fun ob st1 ρ1 H1 v e1 r1 en1 q o1 => by
    cases ob with
    | tup xs =>
      simp only [RelD] at q
      obtain ⟨p, us, rfl, ht, ru⟩ := q
      refine ⟨⟨p, us, rfl, ht⟩, tM.bind r1 en1 o1 fun x st2 ρ2 H2 vx e2 r2 en2 q2 o2 => ?_⟩
      simp only [fTCnt] at o2
      split at o2
      · rename_i hc
        have ru2 := RelDs.mono e2 r1 xs ru
        obtain ⟨u, hu2, nu⟩ := ht.some
        have ht2 : TupAt H2 p us := nu.at (e2.keep p u hu2 (r1.ne hu2 nu.mut))
        exact ⟨vx, toPy x, toPys xs, rfl, .tup ht2.sq (dps_of xs hc.2 ru2), dp_of x (shD_ok hc.1) q2, shaped_of hc.1, canLays_of xs hc.2, o2.here r2 (by simp [reD, RelD, count_toPys])⟩
      · exact o2.elim
    | _ => exact o1.elim
end
end Fx

set_option Elab.async false
set_option linter.all false
set_option maxRecDepth 100000
set_option maxHeartbeats 4000000
/-! Fx: parts are led into themselves; the genus of a cover is not negative; systems beside each other. -/
namespace Fx
open PySem L2
variable [Md]
variable [Mw]
section
variable {d : Nat} {ps : List (Pm d)}
/-! ### parts -/
theorem visf_pre {x : Nat} {pre : List Nat} : ∀ (qs : List (Pm d)) {σ : List Nat × List Nat}, σ.1 = pre ++ σ.2 → (qs.foldl (vis x) σ).1 = pre ++ (qs.foldl (vis x) σ).2
  | [], _, h => h
  | p :: qs, σ, h => by
    rw [List.foldl_cons]
    refine visf_pre qs ?_
    unfold vis
    split
    · exact h
    · simp only [h, List.append_assoc]
theorem bfs_pre {pre : List Nat} : ∀ (n k : Nat) {σ : List Nat × List Nat}, σ.1 = pre ++ σ.2 → (bfs ps n k σ).1 = pre ++ (bfs ps n k σ).2
  | 0, _, _, h => h
  | n + 1, k, σ, h => by
    rw [bfs]
    split
    · exact h
    · exact bfs_pre n (k + 1) (visf_pre ps h)
/-- what is known of a part -/
structure Part (ps : List (Pm d)) (l : List Nat) : Prop where
  nd : l.Nodup
  lt : ∀ x ∈ l, x < d
  shut : ∀ x ∈ l, ∀ p ∈ ps, p.f x ∈ l
  ne : l ≠ []
structure PInv (ps : List (Pm d)) (t : List Nat × List (List Nat)) : Prop where
  nd : t.1.Nodup
  lt : ∀ x ∈ t.1, x < d
  shut : ∀ x ∈ t.1, ∀ p ∈ ps, p.f x ∈ t.1
  all : t.1 = t.2.flatten
  parts : ∀ l ∈ t.2, Part ps l
theorem PInv.step {t : List Nat × List (List Nat)} (h : PInv ps t) {x : Nat} (hx : x < d) : PInv ps (out1 ps t x) ∧ x ∈ (out1 ps t x).1 ∧ ∀ y ∈ t.1, y ∈ (out1 ps t x).1 := by
  by_cases c : x ∈ t.1
  · rw [show out1 ps t x = t by rw [out1, if_pos c]]
    exact ⟨h, c, fun _ h => h⟩
  have eo : out1 ps t x = ((bfs ps d 0 (t.1 ++ [x], [x])).1, t.2 ++ [(bfs ps d 0 (t.1 ++ [x], [x])).2]) := by rw [out1, if_neg c]
  have hv : Inv2 d (t.1 ++ [x], [x]) := ⟨nodup_snoc h.nd c, fun z hz => by
    rcases List.mem_append.mp hz with hz | hz
    · exact h.lt z hz
    · rw [List.mem_singleton] at hz; omega, by simp, fun z hz => List.mem_append_right _ hz⟩
  have hb := hv.bfs (ps := ps) d 0
  have hp := bfs_pre (ps := ps) (pre := t.1) d 0 (σ := (t.1 ++ [x], [x])) rfl
  have hk := bfs_done (ps := ps) d 0 hv (fun j hj => absurd hj (Nat.not_lt_zero j)) (by omega)
  have hx1 : x ∈ (bfs ps d 0 (t.1 ++ [x], [x])).1 := bfs_keep d 0 (by simp)
  rw [eo]
  generalize bfs ps d 0 (t.1 ++ [x], [x]) = B at *
  have hnd := hb.nd
  rw [hp] at hnd
  have hdis : ∀ y ∈ B.2, y ∉ t.1 := fun y hy ht => (List.nodup_append.mp hnd).2.2 y ht y hy rfl
  have sh : ∀ y ∈ B.2, ∀ p ∈ ps, p.f y ∈ B.2 := fun y hy p hpp => by
    have q := hk y hy p hpp
    rw [hp, List.mem_append] at q
    rcases q with q | q
    · exact absurd (Shut.back (p := p) (seen := t.1) (fun z hz => h.shut z hz p hpp) h.nd q) (hdis y hy)
    · exact q
  have hx2 : x ∈ B.2 := by
    rw [hp, List.mem_append] at hx1
    exact hx1.resolve_left c
  refine ⟨⟨hb.nd, hb.lt, fun y hy p hpp => ?_, by simp [hp, h.all], fun l hl => ?_⟩, hx1, fun y hy => by simp only [hp]; exact List.mem_append_left _ hy⟩
  · simp only [hp, List.mem_append] at hy ⊢
    rcases hy with hy | hy
    · exact .inl (h.shut y hy p hpp)
    · exact .inr (sh y hy p hpp)
  · rcases List.mem_append.mp hl with hl | hl
    · exact h.parts l hl
    · rw [List.mem_singleton] at hl
      subst hl
      exact ⟨hb.nd2, fun y hy => hb.lt y (hb.sub y hy), sh, fun e => by rw [e] at hx2; simp at hx2⟩
theorem PInv.fold : ∀ (l : List Nat) {t : List Nat × List (List Nat)}, PInv ps t → (∀ x ∈ l, x < d) → PInv ps (l.foldl (out1 ps) t) ∧ (∀ x ∈ l, x ∈ (l.foldl (out1 ps) t).1) ∧ ∀ x ∈ t.1, x ∈ (l.foldl (out1 ps) t).1
  | [], t, h, _ => ⟨h, by simp, fun _ h => h⟩
  | y :: l, t, h, hl => by
    obtain ⟨h1, h2, h3⟩ := h.step (hl y List.mem_cons_self)
    obtain ⟨k1, k2, k3⟩ := PInv.fold l h1 fun x hx => hl x (List.mem_cons_of_mem _ hx)
    refine ⟨k1, fun x hx => ?_, fun x hx => k3 x (h3 x hx)⟩
    rcases List.mem_cons.mp hx with rfl | hx
    · exact k3 _ h2
    · exact k2 x hx
theorem parts_inv (ps : List (Pm d)) : PInv ps ((List.range d).foldl (out1 ps) ([], [])) ∧ ∀ x, x < d → x ∈ (parts ps).flatten := by
  have h := PInv.fold (ps := ps) (t := ([], [])) (List.range d) ⟨.nil, by simp, by simp, rfl, by simp⟩ fun x hx => List.mem_range.mp hx
  refine ⟨h.1, fun x hx => ?_⟩
  have := h.2.1 x (List.mem_range.mpr hx)
  rw [h.1.all] at this
  exact this
theorem parts_part {l : List Nat} (h : l ∈ parts ps) : Part ps l := (parts_inv ps).1.parts l h
theorem parts_nd (ps : List (Pm d)) : (parts ps).flatten.Nodup := by
  have h := (parts_inv ps).1
  have := h.nd
  rw [h.all] at this
  exact this
/-! ### swaps that lead everywhere -/
/-- a swap of two sheets -/
def IsS (t : Pm d) : Prop := ∃ a b, a < d ∧ b < d ∧ a ≠ b ∧ t = swp d a b
theorem filt_len {c : Nat → Nat} {v : Nat} : ∀ {R : List Nat}, R.Pairwise (fun x y => c x ≠ c y) → R.length ≤ (R.filter fun r => decide (c r ≠ v)).length + 1
  | [], _ => by simp
  | r :: R, h => by
    cases h with
    | cons h1 h2 =>
      have ih := filt_len (c := c) (v := v) h2
      by_cases e : c r = v
      · have : (R.filter fun r => decide (c r ≠ v)) = R := List.filter_eq_self.mpr fun x hx => by
          have := h1 x hx
          simp; omega
        rw [List.filter_cons_of_neg (by simp [e]), this]
        simp
      · rw [List.filter_cons_of_pos (by simp [e])]
        simp only [List.length_cons]
        omega
theorem col_itr {c : Nat → Nat} {p : Pm d} (h : ∀ x, c (p.f x) = c x) : ∀ (n x : Nat), c (itr p n x) = c x
  | 0, x => rfl
  | n + 1, x => by
    show c (itr p n (p.f x)) = c x
    rw [col_itr h n, h]
theorem col_prod {c : Nat → Nat} : ∀ (ts : List (Pm d)), (∀ t ∈ ts, ∀ x, c (t.f x) = c x) → ∀ x, c ((prod ts).f x) = c x
  | [], _, x => rfl
  | t :: ts, h, x => by
    rw [prod_cons]
    show c ((prod ts).f (t.f x)) = c x
    rw [col_prod ts (fun s hs => h s (List.mem_cons_of_mem _ hs)), h t List.mem_cons_self]
theorem cols_of : ∀ (n : Nat) (ts : List (Pm d)), ts.length = n → (∀ t ∈ ts, IsS t) → ∃ (c : Nat → Nat) (R : List Nat), (∀ t ∈ ts, ∀ x, c (t.f x) = c x) ∧ R.Pairwise (fun x y => c x ≠ c y) ∧ (∀ x ∈ R, x < d) ∧ 2 * d ≤ ts.length + dst (prod ts) + 2 * R.length
  | 0, [], _, _ => ⟨id, List.range d, by simp, List.nodup_range, fun x hx => List.mem_range.mp hx, by simp⟩
  | n + 1, ts, hn, h => by
    obtain ⟨ss, s, rfl⟩ : ∃ ss s, ts = ss ++ [s] := ⟨ts.dropLast, ts.getLast (by intro e; subst e; simp at hn), (List.dropLast_concat_getLast _).symm⟩
    obtain ⟨c, R, h1, h2, h3, h4⟩ := cols_of n ss (by simpa using hn) fun t ht => h t (List.mem_append_left _ ht)
    obtain ⟨a, b, ha, hb, hab, rfl⟩ := h s (by simp)
    rw [prod_snoc]
    have hs := dst_step (prod ss) ha hb hab
    have hsw : ∀ x, (swp d a b).f x = if x = a then b else if x = b then a else x := swp_f ha hb
    by_cases e : c a = c b
    · refine ⟨c, R, fun t ht x => ?_, h2, h3, by simp; omega⟩
      rcases List.mem_append.mp ht with ht | ht
      · exact h1 t ht x
      · rw [List.mem_singleton] at ht
        subst ht
        rw [hsw]
        by_cases e1 : x = a
        · rw [if_pos e1, e1, e]
        · rw [if_neg e1]
          by_cases e2 : x = b
          · rw [if_pos e2, e2, e]
          · rw [if_neg e2]
    · have hj : dst (prod ss * swp d a b) = dst (prod ss) + 1 := by
        obtain ⟨C1, k1, m1⟩ := cyc_of (p := prod ss) ha
        obtain ⟨C2, k2, m2⟩ := cyc_of (p := prod ss) hb
        by_cases ce : C1 = C2
        · subst ce
          exfalso
          obtain ⟨x, r, rfl, hr⟩ := run_cyc (cycs_cy k1)
          obtain ⟨m, hm⟩ := cyc_reach hr m1 m2
          have := col_itr (col_prod ss h1) m a
          rw [hm] at this
          exact e this.symm
        · have := swap_joins ha hb k1 k2 ce m1 m2
          have e1 := dst_eq (prod ss)
          have e2 := dst_eq (prod ss * swp d a b)
          omega
      refine ⟨fun x => if c x = c b then c a else c x, R.filter fun r => decide (c r ≠ c b), fun t ht x => ?_, ?_, fun x hx => h3 x (List.mem_filter.mp hx).1, ?_⟩
      · show (if c (t.f x) = c b then c a else c (t.f x)) = if c x = c b then c a else c x
        rcases List.mem_append.mp ht with ht | ht
        · rw [h1 t ht x]
        · rw [List.mem_singleton] at ht
          subst ht
          rw [hsw]
          by_cases e1 : x = a
          · subst e1
            rw [if_pos rfl, if_pos rfl, if_neg e]
          · rw [if_neg e1]
            by_cases e2 : x = b
            · subst e2
              rw [if_pos rfl, if_pos rfl, if_neg e]
            · rw [if_neg e2]
      · refine List.Pairwise.imp_of_mem (R := fun x y => c x ≠ c y) (fun {x y} hx hy hxy => ?_) (h2.filter _)
        have q1 := (List.mem_filter.mp hx).2
        have q2 := (List.mem_filter.mp hy).2
        simp only [decide_eq_true_eq] at q1 q2
        show (if c x = c b then c a else c x) ≠ if c y = c b then c a else c y
        rw [if_neg q1, if_neg q2]
        exact hxy
      · have := filt_len (c := c) (v := c b) h2
        simp only [List.length_append, List.length_cons, List.length_nil]
        omega
/-- swaps with the product 1 that lead everywhere -/
theorem swaps_least {ts : List (Pm d)} (hd : 0 < d) (h : ∀ t ∈ ts, IsS t) (h1 : prod ts = Pm.one) (hc : ∀ S : Nat → Prop, (∀ t ∈ ts, ∀ x, x < d → (S (t.f x) ↔ S x)) → ∀ x, x < d → S x → ∀ y, y < d → S y) : 2 * d ≤ ts.length + 2 := by
  obtain ⟨c, R, k1, k2, k3, k4⟩ := cols_of ts.length ts rfl h
  rw [h1, dst_one] at k4
  have hR : R.length ≤ 1 := by
    match R, k2, k3 with
    | [], _, _ => simp
    | [_], _, _ => simp
    | x :: y :: R, k2, k3 =>
      exfalso
      have hne : c x ≠ c y := by
        cases k2 with
        | cons a b => exact a y List.mem_cons_self
      exact hne (hc (fun z => c x = c z) (fun t ht z _ => by rw [k1 t ht z]) x (k3 x List.mem_cons_self) rfl y (k3 y (List.mem_cons_of_mem _ List.mem_cons_self)))
  omega
theorem toldS_isS {p : Pm d} {t : Pm d} (h : t ∈ (cycs p).flatMap (toldS d)) : IsS t := by
  obtain ⟨C, hC, ht⟩ := List.mem_flatMap.mp h
  have hnd := nodup_elem (cycs_nd p) hC
  have hlt : ∀ x ∈ C, x < d := fun x hx => cycs_lt (List.mem_flatten.mpr ⟨C, hC, hx⟩)
  cases C with
  | nil => simp [toldS] at ht
  | cons a r =>
    obtain ⟨b, hb, rfl⟩ := List.mem_map.mp ht
    refine ⟨a, b, hlt a List.mem_cons_self, hlt b (List.mem_cons_of_mem _ hb), fun e => ?_, rfl⟩
    subst e
    exact (List.nodup_cons.mp hnd).1 hb
theorem prod_flat {f : Pm d → List (Pm d)} : ∀ (ps : List (Pm d)), (∀ p ∈ ps, prod (f p) = p) → prod (ps.flatMap f) = prod ps
  | [], _ => rfl
  | p :: ps, h => by
    rw [List.flatMap_cons, prod_app, h p List.mem_cons_self, prod_flat ps fun q hq => h q (List.mem_cons_of_mem _ hq), prod_cons]
/-- the rule of Riemann and Hurwitz says no less than 0 -/
theorem loss_least (hd : 0 < d) (hc : (parts ps).length = 1) (h1 : prod ps = Pm.one) : 2 * d ≤ (ps.map dst).sum + 2 := by
  have hl : (ps.flatMap fun p => (cycs p).flatMap (toldS d)).length = (ps.map dst).sum := by
    rw [List.length_flatMap]
    congr 1
    exact List.map_congr_left fun p _ => told_dst p
  rw [← hl]
  refine swaps_least hd (fun t ht => ?_) (by rw [prod_flat ps fun p _ => told_prod p]; exact h1) fun S hS x hx hx1 => ?_
  · obtain ⟨p, _, hp⟩ := List.mem_flatMap.mp ht
    exact toldS_isS hp
  · refine all_of_conn (ps := ps) hd hc (S := fun z => S z) (fun p hp y hy => ?_) hx hx1
    have key : ∀ (ts : List (Pm d)), (∀ t ∈ ts, ∀ x, x < d → (S (t.f x) ↔ S x)) → ∀ x, x < d → (S ((prod ts).f x) ↔ S x) := by
      intro ts
      induction ts with
      | nil => intro _ x _; exact Iff.rfl
      | cons t ts ih =>
        intro h x hx
        rw [prod_cons]
        show S ((prod ts).f (t.f x)) ↔ S x
        rw [ih (fun s hs => h s (List.mem_cons_of_mem _ hs)) (t.f x) (t.lt hx)]
        exact h t List.mem_cons_self x hx
    have := key ((cycs p).flatMap (toldS d)) (fun t ht => hS t (List.mem_flatMap.mpr ⟨p, hp, ht⟩)) y hy
    rw [told_prod] at this
    exact this
theorem conn_more {qs : List (Pm d)} (hd : 0 < d) (hc : (parts ps).length = 1) (h : ∀ p ∈ ps, p ∈ qs) : (parts qs).length = 1 :=
  (parts_iff hd).mpr fun x hx => reach0_pred (ps := ps) (P := fun y => y ∈ reach0 qs) (reach0_mem hd) (fun p hp y hy => reach0_step hd hy (h p hp)) x ((parts_iff hd).mp hc x hx)
end
/-! ### beside each other -/
section
variable {d e : Nat}
def Pm.bes (p : Pm d) (q : Pm e) : Pm (d + e) where
  f := fun x => if x < d then p.f x else d + q.f (x - d)
  b := fun x => if x < d then p.b x else d + q.b (x - d)
  fb := fun x => by
    by_cases h : x < d
    · rw [if_pos h, if_pos (p.blt h), p.fb]
    · rw [if_neg h, if_neg (by omega), show d + q.b (x - d) - d = q.b (x - d) by omega, q.fb]; omega
  bf := fun x => by
    by_cases h : x < d
    · rw [if_pos h, if_pos (p.lt h), p.bf]
    · rw [if_neg h, if_neg (by omega), show d + q.f (x - d) - d = q.f (x - d) by omega, q.bf]; omega
  out := fun x h => by rw [if_neg (by omega), q.out _ (by omega)]; omega
theorem Pm.bes_list (p : Pm d) (q : Pm e) : (p.bes q).list = p.list ++ q.list.map fun x => d + x := by
  unfold Pm.list
  rw [List.range_add, List.map_append, List.map_map, List.map_map]
  congr 1
  · exact List.map_congr_left fun x hx => by
      show (if x < d then p.f x else d + q.f (x - d)) = p.f x
      rw [if_pos (List.mem_range.mp hx)]
  · exact List.map_congr_left fun x hx => by
      show (if d + x < d then p.f (d + x) else d + q.f (d + x - d)) = d + q.f x
      rw [if_neg (by omega), show d + x - d = x by omega]
/-! ### the sheets of a part, ascending -/
def srt (l : List Nat) : List Nat := (sortI (l.map fun (k : Nat) => (k : Int))).map Int.toNat
theorem srt_cast (l : List Nat) : (srt l).map (fun (k : Nat) => (k : Int)) = sortI (l.map fun (k : Nat) => (k : Int)) := by
  unfold srt
  rw [List.map_map]
  refine (List.map_congr_left fun i hi => ?_).trans (List.map_id _)
  have := (sortI_perm _).mem_iff.mp hi
  obtain ⟨k, _, rfl⟩ := List.mem_map.mp this
  simp
theorem srt_perm (l : List Nat) : (srt l).Perm l := by
  have h := (sortI_perm (l.map fun (k : Nat) => (k : Int))).map Int.toNat
  rw [List.map_map] at h
  have e : l.map (Int.toNat ∘ fun (k : Nat) => (k : Int)) = l := (List.map_congr_left fun x _ => by simp).trans (List.map_id _)
  rw [e] at h
  exact h
theorem partD_srt (l : List Nat) : partD l = lD (srt l) := by
  unfold partD lD
  rw [← srt_cast, List.map_map]; rfl
end
end Fx

set_option Elab.async false
set_option linter.all false
set_option maxRecDepth 100000
set_option maxHeartbeats 4000000
/-! Fx: sorted of tuples of ints (of a list, of a tuple, of the keys of a dict). -/
namespace Fx
open PySem PySem.Spec PyProof.Rows L2 SrtO
/-- the value is a tuple of these ints -/
def IsTI (h : Heap) (v : Value) (ns : List Int) : Prop := ∃ a o its n, v = .ref a ∧ h.get? a = some o ∧ o.cls = .type "tuple" ∧ o.data = .seq its n ∧ IntsAre its.toList ns
theorem IsTI.keeps {h h' : Heap} {v : Value} {ns : List Int} (p : IsTI h v ns) (k : ∀ b o, h.get? b = some o → o.cls = .type "tuple" → h'.get? b = some o) : IsTI h' v ns := by
  obtain ⟨a, o, its, n, e, ho, hc, hd⟩ := p
  exact ⟨a, o, its, n, e, k _ _ ho hc, hc, hd⟩
def kI (h : Heap) (v : Value) : List Int := match v with
  | .ref a => (match h.get? a with
    | some o => (match o.data with
      | .seq its _ => its.toList.map fun u => match u with
        | .int i _ => i
        | _ => 0
      | _ => [])
    | none => [])
  | _ => []
theorem ints_map : ∀ {vs : List Value} {ns : List Int}, IntsAre vs ns → (vs.map fun u => match u with
        | .int i _ => i
        | _ => 0) = ns
  | _, _, .nil => rfl
  | _, _, .cons a t r => by simp [ints_map r]
theorem IsTI.kI {h : Heap} {v : Value} {ns : List Int} (p : IsTI h v ns) : Fx.kI h v = ns := by
  obtain ⟨a, o, its, n, rfl, ho, hc, hd, hi⟩ := p
  unfold Fx.kI
  simp only [ho, hd]
  exact ints_map hi
section
variable [Md] [Mw]
variable {prog : Program} {w : World} {A : Around} {E : Value → Shared → Prop} {s : Shared}
theorem lex_go {r : Bool} : ∀ {ns ms : List Int} {vs us : List Value} (i : Nat), IntsAre vs ns → IntsAre us ms → r = HT.lexLt ns ms →
    PySem.W.KatLex prog w A true (decide (ns.length < ms.length)) (fun q s' => s' = s ∧ q = r) (vs.zip us) i s
  | _, _, _, _, i, .nil, .nil, e => PySem.W.kat_nil ⟨rfl, by rw [e]; rfl⟩
  | _, _, _, _, i, .nil, .cons b u r2, e => PySem.W.kat_nil ⟨rfl, by rw [e, HT.lexLt_nil_cons]; simp⟩
  | _, _, _, _, i, .cons a t r1, .nil, e => PySem.W.kat_nil ⟨rfl, by rw [e, HT.lexLt_cons_nil]; simp⟩
  | _, _, _, _, i, .cons (ns := ns) a t r1, .cons (ns := ms) b u r2, e => by
    rw [HT.lexLt_cons] at e
    rw [List.zip_cons_cons]
    refine PySem.W.kat_cons (SeqAt.EqAt.int_int a t b u prog w _ _ ?_)
    refine PySem.W.kat_go (fun e1 => ?_) (fun e1 => ?_)
    · have ex : a = b := by simpa using e1
      rw [if_pos ex] at e
      have := lex_go (i + 1) r1 r2 e
      refine PySem.W.kat_yes ?_
      simpa only [List.length_cons, Nat.add_lt_add_iff_right] using this
    · have ex : ¬ a = b := by simpa using e1
      rw [if_neg ex] at e
      refine PySem.W.kat_no ?_
      by_cases hi : i = 0
      · subst hi
        exact oneLt_int ⟨rfl, e.symm⟩
      · have : (true && i == 0) = false := by simp [hi]
        rw [this]
        exact PySem.W.kat_one _ _ (PyProof.Rows.lt_int (show s = s ∧ _ from ⟨rfl, e.symm⟩))
theorem tup_cmp {vs : List Value} {k : Value → List Int} (hp : ∀ v ∈ vs, IsTI s.heap v (k v)) : Cmp prog w A s (tuples' true) (fun p => p.1 ∈ vs) (lt2 fun v u => HT.lexLt (k v) (k u)) := by
  intro p q hm hm'
  have h1 := hp _ hm
  have h2 := hp _ hm'
  show wpAny (model prog w) A (keyLt' (tuples' true) p.1 q.1) (fun r s' => s' = s ∧ r = HT.lexLt (k p.1) (k q.1)) (fun _ _ => False) s
  generalize k p.1 = ns at h1 ⊢
  generalize k q.1 = ms at h2 ⊢
  obtain ⟨a, o, its, n, e, ho, hc, hd, hi⟩ := h1
  obtain ⟨a', o', its', n', e', ho', hc', hd', hi'⟩ := h2
  rw [e, e']
  refine PySem.W.kat_lt ho hd ho' hd' ?_
  have z1 : its.size = ns.length := by rw [← hi.length]; simp
  have z2 : its'.size = ms.length := by rw [← hi'.length]; simp
  rw [z1, z2]
  exact lex_go 0 hi hi' rfl
theorem tup_firsts {h : Heap} {k : Value → List Int} : ∀ {vs : List Value}, (∀ v ∈ vs, IsTI h v (k v) ∧ k v ≠ []) → ∃ fs, PySem.W.KatTups h vs fs ∧ fs.length = vs.length ∧ ∀ f ∈ fs, ∃ x t, f = Value.int x t
  | [], _ => ⟨[], PySem.W.KatTups.nil, rfl, by simp⟩
  | v :: vs, hp => by
    obtain ⟨⟨a, o, its, n, rfl, ho, hc, hd, hi⟩, hne⟩ := hp v List.mem_cons_self
    obtain ⟨fs, h1, h2, h3⟩ := tup_firsts fun u hu => hp u (List.mem_cons_of_mem _ hu)
    obtain ⟨its⟩ := its
    generalize k (.ref a) = ns at hi hne
    cases hi with
    | nil => exact absurd rfl hne
    | cons x t r =>
      exact ⟨.int x t :: fs, PySem.W.KatTups.cons ho hc hd (by simp) h1, by simp [h2], fun f hf => by
        rcases List.mem_cons.mp hf with rfl | hf
        · exact ⟨x, t, rfl⟩
        · exact h3 f hf⟩
theorem tup_sortable {a : Addr} {vs : List Value} {k : Value → List Int} (h0 : 0 < vs.length) (hp : ∀ v ∈ vs, IsTI s.heap v (k v) ∧ k v ≠ []) (ha : ∀ o, s.heap.get? a = some o → o.cls ≠ .type "tuple") : SortableO prog w A s a vs fun v u => HT.lexLt (k v) (k u) := by
  intro h' keep
  have hp' : ∀ v ∈ vs, IsTI h' v (k v) ∧ k v ≠ [] := fun v hm => ⟨(hp v hm).1.keeps fun b o e c => keep b o (fun z => by subst z; exact ha o e c) e, (hp v hm).2⟩
  obtain ⟨fs, h1, h2, h3⟩ := tup_firsts hp'
  refine ⟨tuples' true, fun Q E hq => ?_, tup_cmp fun v hv => (hp' v hv).1⟩
  refine PySem.W.kat_kind (T := .type "int") h1 (by omega) (fun f hm => ?_) (by rfl) ?_
  · obtain ⟨x, t, rfl⟩ := h3 f hm
    exact PySem.W.Looks.now
  · have e : (Value.type "int" != Value.type "tuple") = true := by first | decide +kernel | rfl | decide
    rw [e]
    exact hq
/-- where the items come from -/
def Src (h : Heap) (l : Addr) (vs : List Value) : Prop := h.IsList l vs.toArray ∨ (∃ o n, h.get? l = some o ∧ o.cls = .type "tuple" ∧ o.data = .seq vs.toArray n) ∨
  ∃ es ep, h.DictRaw l es ep ∧ (l == sysModules) = false ∧ vs = es.toList.map (·.key)
theorem sorted_tups {l : Addr} {vs : List Value} {k : Value → List Int} {Q : Value → Shared → Prop} (hh : A.handled = none) (hl : Src s.heap l vs) (hz : vs.length ≤ sizeLine) (hp : ∀ v ∈ vs, IsTI s.heap v (k v) ∧ (2 ≤ vs.length → k v ≠ []))
    (h : ∀ (hm h' : Heap) (tk : Nat) (d : Addr) (out : List Value), Srtd (fun v u => HT.lexLt (k v) (k u)) out → out.Perm vs → (∀ b o, s.heap.get? b = some o → hm.get? b = some o) → (∀ b o, hm.get? b = some o → h'.get? b = some o) → hm.objs.size ≤ d → (∃ n, h'.get? d = some (seqObj "list" out.toArray n)) → Q (.ref d) { s with heap := h', toks := tk }) :
    wpAny (model prog w) A (call (.builtin "sorted") [.ref l]) Q E s := by
  have hS : 2 ≤ vs.length → ∀ (h₁ : Heap) (tk : Nat) (a : Addr), h₁.get? a = some (seqObj "list" vs.toArray 0) → (∀ b o, s.heap.get? b = some o → h₁.get? b = some o) → SortableO prog w A.in1.in1 { s with heap := h₁, toks := tk } a vs fun v u => HT.lexLt (k v) (k u) := fun h2 h₁ tk a ha kk => by
    refine tup_sortable (s := { s with heap := h₁, toks := tk }) (by omega) (fun v hv => ⟨(hp v hv).1.keeps fun b o e _ => kk b o e, (hp v hv).2 h2⟩) fun o e => ?_
    have e' : some o = some (seqObj "list" vs.toArray 0) := e.symm.trans ha
    cases e'
    intro c
    exact absurd (Value.type.inj c) (by decide)
  rcases hl with hl | ⟨o, n, ho, hc, hd⟩ | ⟨es, ep, hr, lo, hv⟩
  · refine sorted_ord (NtL.swo_lexL k) hl hz (fun h2 h₁ a ha kk => hS h2 h₁ s.toks a ha fun b o e => (kk b o e).2) fun out hs hb => ?_
    exact h s.heap _ s.toks _ out hs hb.perm (fun b o e => e) (fun b o e => sortedAll_old e) (Nat.le_succ _) (sortedAll_at s.heap vs out.toArray)
  · refine sorted_ordT (NtL.swo_lexL k) ho hc hd hz (fun h2 h₁ a ha kk => hS h2 h₁ s.toks a ha fun b o e => (kk b o e).2) fun out hs hb => ?_
    exact h s.heap _ s.toks _ out hs hb.perm (fun b o e => e) (fun b o e => sortedAll_old e) (Nat.le_succ _) (sortedAll_at s.heap vs out.toArray)
  · have hes : es.size = vs.length := by rw [hv]; simp
    refine Calls.call_function_entry kind_sorted plain_sorted entry_sorted (args_sorted1 _) ?_
    unfold Builtin.«sorted»
    refine wpAny_bind (m := checkCount "sorted" 1 1 _) (wpAny_pure ?_)
    refine wpAny_bind (PySem.W.kdu_collect (A := A.in1) (KdlSrc.rawDict (es := es) (ep := ep) lo) hh hr (by rw [hes]; exact hz) fun h' tk acc hk hacc => ?_)
    have hal : acc.toList = vs := by
      refine List.ext_getElem? fun i => ?_
      rw [hv, List.getElem?_map, Array.getElem?_toList, Array.getElem?_toList]
      by_cases hi : i < es.size
      · have hi' : i < acc.size := by rw [hacc.1]; exact hi
        rw [Array.getElem?_eq_getElem hi', Array.getElem?_eq_getElem hi]
        obtain ⟨_, e⟩ := hacc.2 i acc[i] (Array.getElem?_eq_getElem hi')
        rw [e]; rfl
      · rw [Array.getElem?_eq_none (by rw [hacc.1]; omega), Array.getElem?_eq_none (by omega)]; rfl
    rw [hal]
    refine wpAny_bind (wpAny_newList ?_ hz)
    have hoL : (h'.push (seqObj "list" vs.toArray 0)).get? h'.objs.size = some (seqObj "list" vs.toArray 0) := Heap.get?_push_size _ rfl
    have kp : ∀ b o, s.heap.get? b = some o → (h'.push (seqObj "list" vs.toArray 0)).get? b = some o := fun b o e => Heap.get?_push_of_some _ (hk b o e)
    show wpAny _ _ _ _ _ { s with heap := h'.push (seqObj "list" vs.toArray 0), toks := tk }
    refine wpAny_bind (wpAny_holding (wpAny_call_entry slot_list_sort ⟨_, hoL, rfl⟩ entry_list_sort (list_sort_ord (NtL.swo_lexL k) hoL hz (fun h2 => hS h2 _ _ _ hoL kp) fun out hs hb => ⟨_, rfl, ?_⟩) (args_list_sort _)))
    refine wpAny_pure ⟨_, rfl, h h' _ tk _ out hs hb.perm hk (fun b o e => ?_) (Nat.le_refl _) (sortedHeap_at hoL)⟩
    have e2 : (h'.push (seqObj "list" vs.toArray 0)).get? b = some o := Heap.get?_push_of_some _ e
    have hb' : b ≠ h'.objs.size := Nat.ne_of_lt (Heap.lt_size e)
    rw [sortedHeap_old hb' (Heap.lt_size e2)]
    exact e2
end
/-! ### the rule -/
theorem PWn.adds : ∀ {ws : List (NestedKey × Addr × V)} {xs : List (NestedKey × Addr × Value)}, PWn ws xs → xs.map (fun x => x.2.1) = ws.map fun q => q.2.1
  | _, _, .nil => rfl
  | _, _, .cons h t => by simp only [List.map_cons, PWn.adds t, h.2.1]
section
variable [Md] [Mw]
/-- sorted(x): the items in the order of their ints -/
def rSortT (K : PySem.W.Frag) (w : World) : List V → Hp → VK → Prop := fun vs H Q => ∃ (a : Addr) (zs : List (Addr × List Int)), vs = [V.ref a] ∧ (SqL K H a (zs.map fun z => V.ref z.1) ∨ SqT K H a (zs.map fun z => V.ref z.1) ∨ ∃ ws, H a = some (DN w a ws) ∧ Keys K H ws ∧ ws.map (fun q => q.2.1) = zs.map (·.1)) ∧
  (∀ z ∈ zs, SqT K H z.1 (z.2.map V.int) ∧ (2 ≤ zs.length → z.2 ≠ [])) ∧ ∀ (ys : List (Addr × List Int)) (p : Addr), ys.Perm zs → (ys.map (·.2)).Pairwise (fun x y => HT.lexLt y x = false) → H p = none → Q (.ref p) (upd H p (.lst (ys.map fun z => V.ref z.1)))
section
variable {X : Cx}
theorem refs_eq : ∀ {zs : List (Addr × List Int)} {us : List Value}, Vals (zs.map fun z => V.ref z.1) us → us = zs.map fun z => Value.ref z.1
  | [], _, .nil => rfl
  | z :: zs, _, .cons r t => by
    cases r
    rw [refs_eq t]; rfl
theorem refs_vals : ∀ zs : List (Addr × List Int), Vals (zs.map fun z => V.ref z.1) (zs.map fun z => Value.ref z.1)
  | [] => .nil
  | z :: zs => .cons rfl (refs_vals zs)
theorem perm_lift {α β : Type} {f : α → β} : ∀ {zs : List α} {out : List β}, out.Perm (zs.map f) → ∃ ys : List α, ys.Perm zs ∧ out = ys.map f := by
  intro zs out h
  generalize hm : zs.map f = m at h
  induction h generalizing zs with
  | nil => exact ⟨zs, .refl _, hm.symm⟩
  | @cons x l1 l2 h ih =>
    cases zs with
    | nil => cases hm
    | cons z zs =>
      simp only [List.map_cons, List.cons.injEq] at hm
      obtain ⟨ys, h1, h2⟩ := ih hm.2
      exact ⟨z :: ys, h1.cons z, by rw [List.map_cons, hm.1, h2]⟩
  | swap x y l =>
    match zs, hm with
    | a :: b :: zs, hm =>
      simp only [List.map_cons, List.cons.injEq] at hm
      exact ⟨b :: a :: zs, .swap _ _ _, by rw [List.map_cons, List.map_cons, hm.1, hm.2.1, hm.2.2]⟩
  | trans h1 h2 ih1 ih2 =>
    obtain ⟨ys, k1, k2⟩ := ih2 hm
    obtain ⟨xs, k3, k4⟩ := ih1 k2.symm
    exact ⟨xs, k3.trans k1, k4⟩
theorem cr_sortT (hcalm : X.calm = true) : CallR X (.builtin "sorted") (rSortT X.K X.w) := by
  intro pins s σ H vs us Q I r h
  obtain ⟨a, zs, rfl, hs, hz, q⟩ := h
  rw [Vals.ref1 r]
  have hsrc : Src s.heap a (zs.map fun z => Value.ref z.1) ∧ zs.length ≤ sizeLine := by
    rcases hs with hs | hs | ⟨ws, e, hk, hw⟩
    · obtain ⟨its, rv, hl, hle⟩ := I.list hs
      rw [refs_eq rv] at hl
      exact ⟨.inl hl.isList, by simpa using hle⟩
    · obtain ⟨its, rv, ⟨o, ho, hc, n, hd⟩, hle⟩ := I.tuple hs
      rw [refs_eq rv] at hd
      exact ⟨.inr (.inl ⟨o, n, ho, hc, hd⟩), by simpa using hle⟩
    · obtain ⟨hm, hle, xs, pw, dd⟩ := dn_of I e hk
      obtain ⟨o, es, ep, ho, hex, hd, hes, _, _⟩ := dd
      refine ⟨.inr (.inr ⟨es, ep, ⟨o, ho, hex, hd⟩, hm, ?_⟩), by rw [← List.length_map (f := (·.1)), ← hw, List.length_map]; exact hle⟩
      rw [hes, List.map_map]
      have e1 : xs.map (fun x => x.2.1) = ws.map fun q => q.2.1 := PWn.adds pw
      have e2 : (zs.map fun z => Value.ref z.1) = (zs.map (·.1)).map Value.ref := by rw [List.map_map]; rfl
      rw [e2, ← hw, ← e1, List.map_map]; rfl
  have hti : ∀ z ∈ zs, IsTI s.heap (.ref z.1) z.2 := fun z hzm => by
    obtain ⟨its, rv, ⟨o, ho, hc, n, hd⟩, _⟩ := I.tuple (hz z hzm).1
    exact ⟨z.1, o, its.toArray, n, rfl, ho, hc, hd, by simpa using rv.ints⟩
  refine sorted_tups (k := kI s.heap) (I.ok.hd hcalm) hsrc.1 (by simpa using hsrc.2) (fun v hv => ?_) fun hm h' tk d out h1 h2 hk1 hk2 hd hn => ?_
  · obtain ⟨z, hzm, rfl⟩ := List.mem_map.mp hv
    have := hti z hzm
    rw [this.kI]
    exact ⟨this, fun h2 => (hz z hzm).2 (by simpa using h2)⟩
  · obtain ⟨ys, p1, rfl⟩ := perm_lift h2
    obtain ⟨n, hn⟩ := hn
    have I1 : Inv X pins σ H { s with heap := hm, toks := tk } := I.kept hk1
    have I2 := I1.laid (a := d) (o := .lst (ys.map fun z => V.ref z.1)) (h' := h') (t' := tk) hk2 hd ⟨by rw [List.length_map, p1.length_eq]; exact hsrc.2, _, n, refs_vals ys, hn⟩
    refine ⟨.ref d, _, I2, rfl, q ys d p1 ?_ (I1.hok.fresh hd)⟩
    have hkI : ∀ z ∈ ys, kI s.heap (.ref z.1) = z.2 := fun z hzm => (hti z (p1.mem_iff.mp hzm)).kI
    rw [List.pairwise_map]
    have h1' := List.pairwise_map.mp h1
    refine List.Pairwise.imp_of_mem (fun {x y} hx hy hxy => ?_) h1'
    rw [← hkI x hx, ← hkI y hy]
    exact hxy
end
/-- the items of a sequence, the keys of a dict with tuple keys -/
def itemsS (d : D) (st : Store) : Option (List D) := match d with
  | .loc i => (match st[i]? with
    | some (.lst ds) => some ds
    | some (.dt kvs) => some (kvs.map fun kv => ofN kv.1)
    | _ => none)
  | d => seqOf d st
def tupsOf : List D → Option (List (List Int))
  | [] => some []
  | .tup ds :: r => (intsOf ds).bind fun ns => (tupsOf r).map fun q => ns :: q
  | _ :: _ => none
theorem tupsOf_eq : ∀ {ds : List D} {ns : List (List Int)}, tupsOf ds = some ns → ds = ns.map wD
  | [], ns, h => by simp [tupsOf] at h; subst h; rfl
  | .tup xs :: r, ns, h => by
    simp only [tupsOf] at h
    obtain ⟨a, h1, h2⟩ := Option.bind_eq_some_iff.mp h
    obtain ⟨b, h3, rfl⟩ := Option.map_eq_some_iff.mp h2
    rw [intsOf_eq h1, tupsOf_eq h3]; rfl
  | .non :: _, _, h | .bl _ :: _, _, h | .int _ :: _, _, h | .str _ :: _, _, h | .ty _ :: _, _, h | .fn _ :: _, _, h | .lst _ :: _, _, h | .loc _ :: _, _, h => by simp [tupsOf] at h
theorem tupsOf_map : ∀ ns : List (List Int), tupsOf (ns.map wD) = some ns
  | [] => rfl
  | a :: r => by
    rw [List.map_cons]
    show ((intsOf (a.map D.int)).bind fun ns => (tupsOf (r.map wD)).map fun q => ns :: q) = _
    rw [intsOf_map, tupsOf_map r]; rfl
def insL (x : List Int) : List (List Int) → List (List Int)
  | [] => [x]
  | y :: l => if HT.lexLt y x = true then y :: insL x l else x :: y :: l
/-- ascending -/
def sortL : List (List Int) → List (List Int)
  | [] => []
  | x :: l => insL x (sortL l)
theorem insL_perm (x : List Int) : ∀ l, (insL x l).Perm (x :: l)
  | [] => .refl _
  | y :: l => by
    rw [insL]
    split
    · exact ((insL_perm x l).cons y).trans (.swap x y l)
    · exact .refl _
theorem sortL_perm : ∀ l, (sortL l).Perm l
  | [] => .refl _
  | x :: l => (insL_perm x _).trans ((sortL_perm l).cons x)
theorem lex_trf {x y z : List Int} (h1 : HT.lexLt z y = false) (h2 : HT.lexLt y x = false) : HT.lexLt z x = false := (NtL.swo_lexL (id : List Int → List Int)).tr x y z h2 h1
theorem insL_sorted {x : List Int} : ∀ {l : List (List Int)}, l.Pairwise (fun x y => HT.lexLt y x = false) → (insL x l).Pairwise (fun x y => HT.lexLt y x = false)
  | [], _ => List.pairwise_singleton _ _
  | y :: l, h => by
    have O := NtL.swo_lexL (id : List Int → List Int)
    obtain ⟨h1, h2⟩ := List.pairwise_cons.mp h
    rw [insL]
    by_cases c : HT.lexLt y x = true
    · rw [if_pos c, List.pairwise_cons]
      refine ⟨fun z hz => ?_, insL_sorted h2⟩
      rcases List.mem_cons.mp ((insL_perm x l).mem_iff.mp hz) with rfl | hz
      · exact O.asym _ _ c
      · exact h1 z hz
    · rw [if_neg c, List.pairwise_cons]
      have c' : HT.lexLt y x = false := by simpa using c
      refine ⟨fun z hz => ?_, h⟩
      rcases List.mem_cons.mp hz with rfl | hz
      · exact c'
      · exact lex_trf (h1 z hz) c'
theorem sortL_sorted : ∀ l, (sortL l).Pairwise (fun x y => HT.lexLt y x = false)
  | [] => .nil
  | x :: l => insL_sorted (sortL_sorted l)
theorem lex_anti : ∀ {a b : List Int}, HT.lexLt a b = false → HT.lexLt b a = false → a = b
  | [], [], _, _ => rfl
  | [], b :: bs, h, _ => by rw [HT.lexLt_nil_cons] at h; cases h
  | a :: as, [], _, h => by rw [HT.lexLt_nil_cons] at h; cases h
  | a :: as, b :: bs, h1, h2 => by
    rw [HT.lexLt_cons] at h1 h2
    by_cases e : a = b
    · subst e
      rw [if_pos rfl] at h1 h2
      rw [lex_anti h1 h2]
    · rw [if_neg e] at h1
      rw [if_neg (fun z => e z.symm)] at h2
      simp at h1 h2
      omega
theorem sortedL_uniq {l m : List (List Int)} (hp : l.Perm m) (hl : l.Pairwise (fun x y => HT.lexLt y x = false)) (hm : m.Pairwise (fun x y => HT.lexLt y x = false)) : l = m :=
  List.Perm.eq_of_pairwise (le := fun x y => HT.lexLt y x = false) (fun a b _ _ h1 h2 => lex_anti h2 h1) hl hm hp
noncomputable def fSortT : FB (List D) := fun ds st => match ds with
  | [d] => (match itemsS d st with
    | some xs => (match tupsOf xs with
      | some ns => if (ns.all fun n => !n.isEmpty) = true ∨ ns.length < 2 then .ok ((sortL ns).map wD) st else .no
      | none => .no)
    | none => .no)
  | _ => .no
theorem rel_tups {K : PySem.W.Frag} {ρ : Mp} {n : Nat} {H : Hp} : ∀ {ns : List (List Int)} {us : List V}, RelDs K ρ n H (ns.map wD) us → ∃ zs : List (Addr × List Int), us = zs.map (fun z => V.ref z.1) ∧ zs.map (·.2) = ns ∧ ∀ z ∈ zs, TupAt H z.1 (z.2.map V.int)
  | [], us, h => ⟨[], by rw [h.nil_eq]; rfl, rfl, by simp⟩
  | a :: r, us, h => by
    obtain ⟨v, w, rfl, h1, h2⟩ := RelDs.cases (show RelDs K ρ n H (wD a :: r.map wD) us from h)
    simp only [wD, RelD] at h1
    obtain ⟨p, vs, rfl, ht, rv⟩ := h1
    rw [rv.ints] at ht
    obtain ⟨zs, rfl, e, hz⟩ := rel_tups h2
    exact ⟨(p, a) :: zs, rfl, by simp [e], fun z hz' => by
      rcases List.mem_cons.mp hz' with rfl | hz'
      · exact ht
      · exact hz z hz'⟩
theorem tups_rel {K : PySem.W.Frag} {ρ : Mp} {n : Nat} {H : Hp} : ∀ {zs : List (Addr × List Int)}, (∀ z ∈ zs, TupAt H z.1 (z.2.map V.int)) → RelDs K ρ n H ((zs.map (·.2)).map wD) (zs.map fun z => V.ref z.1)
  | [], _ => .nil
  | z :: zs, h => .cons (by simp only [wD, RelD]; exact ⟨z.1, _, rfl, h z List.mem_cons_self, RelDs.ints'⟩) (tups_rel fun y hy => h y (List.mem_cons_of_mem _ hy))
theorem tr_keys {K : PySem.W.Frag} {ρ : Mp} {n : Nat} {H : Hp} : ∀ {kvs : List (NestedKey × D)} {ws : List (NestedKey × Addr × V)}, TR K ρ n H kvs ws → RelDs K ρ n H (kvs.map fun kv => ofN kv.1) (ws.map fun q => V.ref q.2.1)
  | _, _, .nil => .nil
  | _, _, .cons h t => .cons h.2.1.1 (tr_keys t)
variable {X : Cx} {W : WX}
theorem cs_sortT (hc : X.calm = true) (hw : Mw.w = some X.w) : CallS X (reN X.K) (.builtin "sorted") fSortT := by
  refine ⟨_, cr_sortT hc, fun W σ ρ st H ds vs Q r rv o => ?_⟩
  match ds, rv, o with
  | [], _, o => exact o.elim
  | _ :: _ :: _, _, o => exact o.elim
  | [d], rv, o =>
    obtain ⟨v, rfl, rd⟩ := rv.one
    unfold fSortT at o
    simp only at o
    cases e1 : itemsS d st with
    | none => rw [e1] at o; exact o.elim
    | some xs =>
      rw [e1] at o
      simp only at o
      cases e2 : tupsOf xs with
      | none => rw [e2] at o; exact o.elim
      | some ns =>
        rw [e2] at o
        simp only at o
        split at o
        · rename_i hcond
          have ex := tupsOf_eq e2
          subst ex
          have fin : ∀ (a : Addr) (zs : List (Addr × List Int)), v = V.ref a → zs.map (·.2) = ns → (∀ z ∈ zs, TupAt H z.1 (z.2.map V.int)) → (SqL X.K H a (zs.map fun z => V.ref z.1) ∨ SqT X.K H a (zs.map fun z => V.ref z.1) ∨ ∃ ws, H a = some (DN X.w a ws) ∧ Keys X.K H ws ∧ ws.map (fun q => q.2.1) = zs.map (·.1)) → rSortT X.K X.w [v] H Q := by
            intro a zs ea en ht hs
            subst ea en
            refine ⟨a, zs, rfl, hs, fun z hz => ⟨(ht z hz).sq, fun h2 => ?_⟩, fun ys p hp hso hn => ?_⟩
            · rcases hcond with hcond | hcond
              · rw [List.all_eq_true] at hcond
                have := hcond z.2 (List.mem_map.mpr ⟨z, hz, rfl⟩)
                intro e
                rw [e] at this
                cases this
              · rw [List.length_map] at hcond; omega
            · have e' : ys.map (·.2) = sortL (zs.map (·.2)) := sortedL_uniq ((hp.map _).trans (sortL_perm _).symm) hso (sortL_sorted _)
              rw [← e'] at o
              exact Out.fresh r o hn (tups_rel fun z hz => ht z (hp.mem_iff.mp hz))
          have seq : ∀ (ds0 : List D), seqOf d st = some ds0 → ds0 = ns.map wD → rSortT X.K X.w [v] H Q := by
            intro ds0 hs e
            subst e
            obtain ⟨a, us, rfl, h, ru⟩ := seqOf_rel r rd hs
            obtain ⟨zs, rfl, en, ht⟩ := rel_tups ru
            exact fin a zs rfl en ht (h.imp id fun h => .inl h.sq)
          cases d with
          | loc i =>
            simp only [itemsS] at e1
            cases ei : st[i]? with
            | none => rw [ei] at e1; cases e1
            | some ob =>
              rw [ei] at e1
              cases ob with
              | lst ds0 => exact seq ds0 (by simp only [seqOf, ei]) (by cases e1; rfl)
              | dk _ => cases e1
              | dt kvs =>
                simp only [Option.some.injEq] at e1
                simp only [RelD] at rd
                obtain ⟨rfl, hl⟩ := rd
                obtain ⟨w', ws, hw', hH, hp⟩ := r.obj i _ ei
                rw [hw] at hw'
                cases hw'
                have rk := tr_keys hp
                rw [e1] at rk
                obtain ⟨zs, ez, en, ht⟩ := rel_tups rk
                refine fin _ zs rfl en ht (.inr (.inr ⟨ws, hH, TR.keys hp, ?_⟩))
                have := congrArg (List.map fun v : V => match v with | .ref a => a | _ => 0) ez
                simpa [List.map_map, Function.comp_def] using this
          | tup xs => exact seq xs rfl (by simpa [itemsS, seqOf] using e1)
          | lst xs => exact seq xs rfl (by simpa [itemsS, seqOf] using e1)
          | _ => simp [itemsS, seqOf] at e1
        · exact o.elim
theorem x_sortT {d : D} {st : Store} {ns : List (List Int)} (h : itemsS d st = some (ns.map wD)) (hc : (ns.all fun n => !n.isEmpty) = true ∨ ns.length < 2) : fSortT [d] st = .ok ((sortL ns).map wD) st := by
  unfold fSortT
  simp only [h, tupsOf_map]
  rw [if_pos hc]
end
end Fx

set_option Elab.async false
set_option linter.all false
set_option maxRecDepth 100000
set_option maxHeartbeats 4000000
/-! Fx: sorted(set(t)), t a tuple of ints. -/
namespace Fx
open PySem L2 PyProof.Rows
variable [Md]
variable [Mw]
section
variable {X : Cx} {W : WX} {e a : Expr} {m : SE} {p p2 q pos : Pos}
def tSortSetT (K : PySem.W.Frag) (ta : TE) : TE := fun σ H Q => ta σ H fun x H1 => ∃ (l : Addr) (ns : List Int), x = V.ref l ∧ SqT K H1 l (ns.map V.int) ∧ ns.length ≤ 4000 ∧ (dd ns).length < 64 ∧
  ∀ p : Addr, H1 p = none → Q (.ref p) (upd H1 p (.lst ((sortI (dd ns)).map V.int)))
theorem pe_sortSetT {ta : TE} (hg : Gl X "sorted") (hm : X.mg "sorted" = none) (hg2 : Gl X "set") (hm2 : X.mg "set" = none) (ha : PE X a ta) (hc : X.calm = true)
    (na : starEach [a] X.env = (false, eval a X.env) :: starEach [] X.env) : PE X (.Call (.Name "sorted" p) [.Call (.Name "set" p2) [a] [] q] [] pos) (tSortSetT X.K ta) := by
  refine ⟨fun pins s σ H Q I h => ?_⟩
  refine Call_ (ld_blt I hg hm PyProof.Rows.boot_sorted ?_)
  refine PyProof.Rows.callWith_builtin1 (PyProof.Rows.args_cons ?_ rfl) rfl rfl
  refine Call_ (ld_blt I hg2 hm2 PyProof.Rows.boot_set ?_)
  refine PyProof.Rows.callWith_type1 (PyProof.Rows.args_cons (thn (ha.run pins s σ H _ I h) fun v s1 ⟨x, H1, I1, r1, q1⟩ => PyProof.Rows.args_nil ?_) na) na rfl
  obtain ⟨l, ns, rfl, hq, h1, h2, q1⟩ := q1
  cases r1
  obtain ⟨its, r, pl, hz⟩ := I1.tuple hq
  refine call_set_tupI ns (I1.ok.hd hc) (show s1.heap.IsTuple l its.toArray from pl) (by simpa using r.ints) (by unfold scanBound; omega) fun h' tk c hS hcl hk => ?_
  refine PyProof.Rows.args_nil ?_
  have hcn : c = (dd ns).length := by
    obtain ⟨o, es, ep, t, ho, hex, hd, hgood, hnd, hmem, _, hf, hn, _⟩ := hS
    have hp : (es.toList.map L2.keyOf).Perm (dd ns) := (List.perm_ext_iff_of_nodup hnd (dd_nodup ns)).2 fun k => by
      rw [← hmem k, mem_dd, decide_eq_true_iff]
    have := hp.length_eq
    rw [← hn]
    simpa using this
  have I2 : Inv X pins σ H1 { s1 with heap := h', toks := tk } := I1.kept fun b o e => hk b o e
  have hS2 : SetR X.w ({ s1 with heap := h', toks := tk } : Shared).heap s1.heap.objs.size (fun j => decide (j ∈ ns)) c := hS
  obtain ⟨s2, e2⟩ : ∃ s2 : Shared, s2 = { s1 with heap := h', toks := tk } := ⟨_, rfl⟩
  have eg : ({ s1 with heap := h', gens := s1.gens, drawn := s1.drawn, toks := tk, os := s1.os } : Shared) = s2 := e2.symm
  rw [← e2] at I2 hS2
  show wpAny _ _ _ _ _ { s1 with heap := h', toks := tk }
  rw [← e2]
  refine sorted_set hS2 (I2.ok.hd hc) (by rw [hcn]; exact h2) fun s' p out c2 ns' k g o hp hg hi hs hm hl => ?_
  have e1 : ns' = sortI (dd ns) := by
    refine sorted_uniq (((List.perm_ext_iff_of_nodup (hs.imp fun h => Int.ne_of_lt h) (dd_nodup ns)).2 fun k => ?_).trans (sortI_perm _).symm) (hs.imp fun h => Int.le_of_lt h) (sortI_sorted _)
    rw [hm k, mem_dd, decide_eq_true_iff]
  subst e1
  have hlen : ((sortI (dd ns)).map V.int).length ≤ sizeLine := by rw [List.length_map, hl, hcn, sizeLine_eq]; omega
  have hn : H1 p = none := I2.hok.fresh hp
  have J : Inv X pins σ (upd H1 p (.lst ((sortI (dd ns)).map V.int))) { s2 with heap := s'.heap, gens := s'.gens, drawn := s'.drawn, toks := s'.toks } :=
    I2.call (ch := []) (Un.laid k hp hn) (I2.hok.laid k hp ⟨hlen, out.toList, c2, vals_of_ints hi, hg⟩) (by rw [g]; exact I2.bare) (fun _ z => nomatch z)
  have e : s' = { s2 with heap := s'.heap, gens := s'.gens, drawn := s'.drawn, toks := s'.toks } := by
    cases s'
    cases s2
    simp only at g o ⊢
    subst g o
    rfl
  rw [e]
  exact ⟨.ref p, _, J, rfl, q1 p hn⟩
noncomputable def mSortSet (m : SE) : SA := fun τ st => (m τ st).bind fun d st1 => match d with
  | .tup xs => (match intsOf xs with
    | some ns => if ns.length ≤ 4000 ∧ (dd ns).length < 64 then .ok ((sortI (dd ns)).map D.int) st1 else .no
    | none => .no)
  | _ => .no
theorem ef_sortSet (hm : X.mg "sorted" = none) (hm2 : X.mg "set" = none) (ha : EvE X W a m) (hg : Gl X "sorted" := by rfl) (hg2 : Gl X "set" := by rfl) (hc : X.calm = true := by rfl)
    (na : starEach [a] X.env = (false, eval a X.env) :: starEach [] X.env := by rfl) : EvF X W (.Call (.Name "sorted" p) [.Call (.Name "set" p2) [a] [] q] [] pos) (mSortSet m) :=
  PE.imp (pe_sortSetT hg hm hg2 hm2 ha hc na) fun σ H Q ⟨ρ, τ, st, r0, en, o⟩ => tM.bind r0 en o fun d st1 ρ1 H1 v e1 r1 en1 q o1 => by
    cases d with
    | tup xs =>
      simp only [RelD] at q
      obtain ⟨l, vs, rfl, hs, rv⟩ := q
      cases hx : intsOf xs with
      | none => simp only [hx] at o1; exact o1.elim
      | some ns =>
        simp only [hx] at o1
        split at o1
        · rename_i hl
          have ex := intsOf_eq hx
          subst ex
          rw [rv.ints] at hs
          exact ⟨l, ns, rfl, hs.sq, hl.1, hl.2, fun p hp => o1.fresh r1 hp RelDs.ints'⟩
        · exact o1.elim
    | _ => exact o1.elim
@[simp] theorem x_mSortSet {σ : En} {st : Store} : mSortSet m σ st = (m σ st).bind fun d st1 => match d with
  | .tup xs => (match intsOf xs with
    | some ns => if ns.length ≤ 4000 ∧ (dd ns).length < 64 then .ok ((sortI (dd ns)).map D.int) st1 else .no
    | none => .no)
  | _ => .no := rfl
end
end Fx

set_option Elab.async false
set_option linter.all false
set_option maxRecDepth 100000
set_option maxHeartbeats 4000000
/-! Fx: x //= j; d.get(k, x), the dict with keys of any kind. -/
namespace Fx
open PySem PySem.Spec L2 PyProof.Rows
variable [Md]
variable [Mw]
section
variable {X : Cx}
def ipD : TIp := fun x y H Q => ∃ i j, x = .int i ∧ y = .int j ∧ divFits i j = true ∧ Q (.int (i / j)) H
theorem ip_fdivD : PIp X .FloorDiv ipD := by
  intro pins s σ H x y v u Q I r1 r2 h
  obtain ⟨i, j, e1, e2, hc, q⟩ := h
  subst e1; subst e2
  obtain ⟨t, rfl⟩ := r1
  obtain ⟨t', rfl⟩ := r2
  obtain ⟨h1, h2⟩ := divFits_iff.mp hc
  exact ifloordiv_int (by omega) (by rw [Int.fdiv_eq_ediv_of_nonneg i (by omega)]; exact ⟨.int _, H, I.tok _, ⟨_, rfl⟩, q⟩) (.inl (PyProof.noPylong_of_log2 h2))
theorem ios_fdiv : IOpS X .FloorDiv (onIIc divFits fun i j => .int (i / j)) := by
  refine ⟨_, ip_fdivD, fun W σ ρ st H x y vx vy Q r rx ry o => ?_⟩
  cases x with
  | int i =>
    cases y with
    | int j =>
      simp only [RelD] at rx ry
      by_cases c : divFits i j = true
      · simp only [onIIc, c, if_true] at o
        exact ⟨i, j, rx, ry, c, o.here r (by simp [reD, RelD])⟩
      · simp only [onIIc, c] at o
        exact o.elim
    | _ => exact o.elim
  | _ => exact o.elim
end
/-! ### d.get(k, x) -/
section
variable {X : Cx} {pins : List (Addr × Obj)} {σ : L2.St} {H : Hp} {s : Shared} {a : Addr} {y d : V} {u r : Value} {o : Option V} {A : Around} {E : Value → Shared → Prop}
theorem n_getOr {Q : Value → Shared → Prop} (hu : A.units + 10 < cLine) (I : Inv X pins σ H s) (g : NGet X.w X.K H a y o) (ry : RelV y u) (rd : RelV d r) (h : ∀ w' s', Inv X pins σ H s' → RelV (o.getD d) w' → Q w' s') :
    wpAny (model X.prog X.w) A (call (.builtin "dict.get") [.ref a, u, r]) Q E s := by
  obtain ⟨ws, b, k, e, hk, rfl, hb, hd, l⟩ := g
  cases ry
  obtain ⟨hm, _, xs, pw, dd⟩ := dn_of I e hk
  refine call_meetsIn PySem.F.slot_dict_get dd.typeIs PySem.F.entry_dict_get (PySem.F.args_dict_get_3 _ _ _) (meetsH_dict_get_default (nestedKind X.prog X.w) a b hm r) ⟨dn_room hu, k, xs, ⟨nested_of I k hb rfl, hd⟩, dd, h _ _ (I.tok _) ?_⟩
  rw [l]
  exact (pw_val pw k).getD rd
/-- a is a dict, whatever its keys -/
def IsDN (w : World) (K : PySem.W.Frag) (H : Hp) (a : Addr) : Prop := IsD H a ∨ ∃ ws, H a = some (DN w a ws) ∧ Keys K H ws
theorem isDN_at (I : Inv X pins σ H s) (q : IsDN X.w X.K H a) : s.TypeIs (.ref a) "dict" ∧ (∀ b, Value.ref a = .ref b → ∃ ob, s.heap.get? b = some ob ∧ ob.dict = none) := by
  rcases q with q | ⟨ws, e, hk⟩
  · obtain ⟨h1, h2, _⟩ := isD_at I q
    exact ⟨h1, h2⟩
  · obtain ⟨_, _, xs, _, dd⟩ := dn_of I e hk
    refine ⟨dd.typeIs, fun b q => ?_⟩
    cases q
    obtain ⟨ob, _, _, h1, h2, _⟩ := dd
    exact ⟨ob, h1, h2.2.1⟩
end
def tFGetOr (w : World) (K : PySem.W.Frag) (td ty tx : TE) : TE := fun σ H Q => td σ H fun x H1 => ∃ a, x = .ref a ∧ IsDN w K H1 a ∧ ty σ H1 fun y H2 => tx σ H2 fun z H3 => ∃ o, (DGet H3 a y o ∨ NGet w K H3 a y o) ∧ Q (o.getD z) H3
section
variable {X : Cx} {W : WX} {o e f : Expr} {apos cpos : Pos} {td ty tx : TE} {mo mi mx : SE}
theorem pe_fgetOr (hu : X.A.units + 65 < cLine) (ho : PE X o td) (he : PE X e ty) (hf : PE X f tx) (m : M2 X o "get" apos e f cpos) : PE X (.Call (.Attribute o "get" apos) [e, f] [] cpos) (tFGetOr X.w X.K td ty tx) := by
  refine ⟨fun pins s σ H Q I h => ?_⟩
  refine wpAny_Call_method m.base m.few m.line PySem.F.plainAttrs_dict PySem.F.slot_dict_get PySem.F.type_dict_get (thn (ho.run pins s σ H _ I h) fun u s1 ⟨x, H1, I1, rx, a, ex, d, q1⟩ => ?_)
  subst ex
  obtain rfl : u = Value.ref a := rx
  obtain ⟨t1, t2⟩ := isDN_at I1 d
  refine ⟨t1, t2, ?_⟩
  rw [m.trees]
  refine Calls.callWith_builtin rfl (Calls.evalArgs_plain (Calls.spliced_cons (thn (he.run pins s1 σ H1 _ I1 q1) fun iv s2 ⟨y, H2, I2, ry, q2⟩ =>
    Calls.spliced_cons (thn (hf.run pins s2 σ H2 _ I2 q2) fun fv s3 ⟨z, H3, I3, rz, ov, g, q3⟩ => Calls.spliced_nil ?_))))
  rcases g with g | g
  · exact d_get2 (by omega) I3 g ry rz fun w' s4 I4 rw' => ⟨_, H3, I4, rw', q3⟩
  · exact n_getOr (by omega) I3 g ry rz fun w' s4 I4 rw' => ⟨_, H3, I4, rw', q3⟩
def isDt (ob : D) (st : Store) : Bool := match ob with
  | .loc n => (match st[n]? with
    | some (.dk _) => true
    | some (.dt _) => true
    | _ => false)
  | _ => false
def fDGetOr (ob k x : D) (st : Store) : Rs D := match dGet ob k st with
  | some (some d) => .ok d st
  | some none => .ok x st
  | none => .no
def mDGetOr (mo mi mx : SE) : SE := fun τ st => (mo τ st).bind fun ob st1 => if isDt ob st1 = true then (mi τ st1).bind fun k st2 => (mx τ st2).bind fun x st3 => fDGetOr ob k x st3 else .no
@[simp] theorem x_mDGetOr {τ : En} {st : Store} : mDGetOr mo mi mx τ st = (mo τ st).bind fun ob st1 => if isDt ob st1 = true then (mi τ st1).bind fun k st2 => (mx τ st2).bind fun x st3 => fDGetOr ob k x st3 else .no := rfl
theorem isDt_rel {K : PySem.W.Frag} {ρ : Mp} {st : Store} {H : Hp} {ob : D} {vo : V} {wd : World} (hw : Mw.w = some wd) (r : R K ρ st H) (ro : RelD K ρ st.length H ob vo) (h : isDt ob st = true) : ∃ a, vo = .ref a ∧ IsDN wd K H a := by
  cases ob with
  | loc n =>
    simp only [isDt] at h
    simp only [RelD] at ro
    obtain ⟨rfl, hl⟩ := ro
    cases e : st[n]? with
    | none => rw [e] at h; cases h
    | some ob =>
      rw [e] at h
      cases ob with
      | dk kvs =>
        obtain ⟨ws, hH, hp⟩ := r.obj n _ e
        exact ⟨_, rfl, .inl (.inl ⟨ws, .of hH⟩)⟩
      | dt kvs =>
        obtain ⟨w', ws, hw', hH, hp⟩ := r.obj n _ e
        rw [hw] at hw'
        cases hw'
        exact ⟨_, rfl, .inr ⟨ws, hH, TR.keys hp⟩⟩
      | lst xs => cases h
  | _ => cases h
theorem ev_dgetOr (hu : X.A.units + 65 < cLine) (hw : Mw.w = some X.w) (ho : EvE X W o mo) (hi : EvE X W e mi) (hf : EvE X W f mx) (m : M2 X o "get" apos e f cpos := by exact ⟨rfl, rfl, rfl, rfl⟩) : EvE X W (.Call (.Attribute o "get" apos) [e, f] [] cpos) (mDGetOr mo mi mx) :=
  PE.imp (pe_fgetOr hu ho hi hf m) fun σ H Q ⟨ρ, τ, st, r0, en, oo⟩ =>
    tM.bind r0 en oo fun ob st1 ρ1 H1 vo e1 r1 en1 q o1 => by
      by_cases c : isDt ob st1 = true
      · rw [if_pos c] at o1
        obtain ⟨a, rfl, hd⟩ := isDt_rel hw r1 q c
        refine ⟨a, rfl, hd, ?_⟩
        exact tM.bind r1 en1 o1 fun k st2 ρ2 H2 vk e2 r2 en2 q2 o2 => tM.bind r2 en2 o2 fun x st3 ρ3 H3 vx e3 r3 en3 q3 o3 => by
          simp only [fDGetOr] at o3
          cases e' : dGet ob k st3 with
          | none => rw [e'] at o3; exact o3.elim
          | some res =>
            rw [e'] at o3
            obtain ⟨a', w, ha', g, z⟩ := dGet_rel hw r3 ((q.mono e2 r1).mono e3 r2) (q2.mono e3 r2) e'
            cases ha'
            rcases z with ⟨rfl, rfl⟩ | ⟨d, v, rfl, rfl, rd⟩
            · exact ⟨none, g, o3.here r3 q3⟩
            · exact ⟨some v, g, o3.here r3 rd⟩
      · rw [if_neg c] at o1
        exact o1.elim
end
end Fx

set_option Elab.async false
set_option linter.all false
set_option maxRecDepth 100000
set_option maxHeartbeats 4000000
/-! Fx: sum of a tuple of ints. -/
namespace Fx
open PySem PySem.Spec L2 PyProof.Rows
section
variable {prog : Program} {w : World} {A : Around} {E : Value → Shared → Prop} {s : Shared} {l : Addr} {xs : Array (Int × Tok)} {its : List Value} {ns : List Int}
theorem sum_tupI {Q : Value → Shared → Prop} (hh : A.handled = none) (hl : s.heap.IsTuple l (intItems xs))
    (h : ∀ h' tk t', (∀ b o, s.heap.get? b = some o → h'.get? b = some o) → Q (.int (preSum (numAt xs) xs.size) t') { s with heap := h', toks := tk }) :
    wpAny (model prog w) A (call (.builtin "sum") [.ref l]) Q E s := by
  refine call_sum_walkG (wpAny_pyIter_tuple hl ?_)
  have hlt : l < s.heap.objs.size := by
    obtain ⟨o, ho, _⟩ := hl
    exact Heap.lt_size ho
  obtain ⟨h2, e2⟩ : ∃ h2, h2 = s.heap.push { cls := .type "tuple_iterator", data := .fields #[.ref l, .int 0 0] } := ⟨_, rfl⟩
  have hlI : l ≠ s.heap.objs.size := Nat.ne_of_lt hlt
  refine ⟨_, _, _, _, _, _, numAt xs, rfl, Walks.tuple (A := A.in1) hh _ l hlI (intItems xs), ⟨⟨_, Heap.get?_push_size _ rfl, rfl, rfl⟩, hl.at fun o e => Heap.get?_push_of_some _ e⟩, ?_, (fun _ _ => intItems_at), fun h' tk t' hk => ?_⟩
  · intro b hb
    simp at hb
    rcases hb with rfl | rfl
    · simp [Heap.push]
    · simp only [Heap.size_push]
      exact Nat.lt_succ_of_lt hlt
  · have := h h' tk t' fun b o e => hk b o (by simp; exact Nat.ne_of_lt (Heap.lt_size e)) (Heap.get?_push_of_some _ e)
    simpa [intItems] using this
theorem sum_tupR {Q : Value → Shared → Prop} (hh : A.handled = none) (hl : s.heap.IsTuple l its.toArray) (hi : IntsAre its ns)
    (h : ∀ h' tk t', (∀ b o, s.heap.get? b = some o → h'.get? b = some o) → Q (.int ns.sum t') { s with heap := h', toks := tk }) : wpAny (model prog w) A (call (.builtin "sum") [.ref l]) Q E s := by
  obtain ⟨xs, e⟩ := hi.allInts.items
  have hn : numsOf (intItems xs).toList = ns := by rw [← e]; exact hi.numsOf
  rw [nums_intItems] at hn
  rw [e] at hl
  refine sum_tupI hh hl fun h' tk t' hk => ?_
  have := h h' tk t' hk
  rw [preSum_eq, List.take_of_length_le (by simp), hn]; exact this
end
section
variable [Md] [Mw]
variable {X : Cx}
def rSumT (K : PySem.W.Frag) : List V → Hp → VK → Prop := fun vs H Q => ∃ (a : Addr) (ns : List Int), vs = [V.ref a] ∧ SqT K H a (ns.map V.int) ∧ Q (.int ns.sum) H
theorem cr_sumT (hc : X.calm = true) : CallR X (.builtin "sum") (rSumT X.K) := by
  intro pins s σ H vs us Q I r h
  obtain ⟨a, ns, rfl, hs, q⟩ := h
  obtain ⟨its, rv, hl, _⟩ := I.tuple hs
  rw [Vals.ref1 r]
  exact sum_tupR (I.ok.hd hc) hl rv.ints fun h' tk t' hk => ⟨.int _, H, I.kept hk, ⟨_, rfl⟩, q⟩
def fSumA : FB D := fun ds st => match ds with
  | [.tup xs] => (match intsOf xs with
    | some ns => .ok (.int ns.sum) st
    | none => .no)
  | ds => (onInts fun ns => D.int ns.sum) ds st
theorem cs_sumA (hc : X.calm = true) : CallS X (reD X.K) (.builtin "sum") fSumA := by
  refine ⟨_, (cr_sumT hc).or (cr_sum hc), fun W σ ρ st H ds vs Q r rv o => ?_⟩
  unfold fSumA at o
  split at o
  · rename_i xs
    split at o
    · rename_i ns hx
      obtain ⟨v, rfl, rd⟩ := rv.one
      simp only [RelD] at rd
      obtain ⟨l, us, rfl, hs, ru⟩ := rd
      have ex := intsOf_eq hx
      subst ex
      rw [ru.ints] at hs
      exact .inl ⟨l, ns, rfl, hs.sq, o.here r (by simp [reD, RelD])⟩
    · exact o.elim
  · obtain ⟨d, bs, rfl, hx, e⟩ := onInts_ok (f := fun ns => D.int ns.sum) (ds := ds) (st := st) (fun z => by rw [z] at o; exact o)
    rw [e] at o
    obtain ⟨v, rfl, rd⟩ := rv.one
    obtain ⟨a, us, rfl, h, ru⟩ := listOf_rel r rd hx
    rw [ru.ints] at h
    exact .inr ⟨a, bs, rfl, h, o.here r (by simp [reD, RelD])⟩
theorem x_sumT {ns : List Int} {st : Store} : fSumA [.tup (ns.map D.int)] st = .ok (.int ns.sum) st := by
  unfold fSumA
  simp only [intsOf_map]
theorem x_sumL {ns : List Int} {st : Store} : fSumA [.lst (ns.map D.int)] st = .ok (.int ns.sum) st := by
  unfold fSumA
  exact x_onInts
end
end Fx

set_option Elab.async false
set_option linter.all false
set_option maxRecDepth 100000
set_option maxHeartbeats 4000000
/-! partitions as lists of naturals: the plain side. -/
namespace Fx
def pts : Nat → Nat → Nat → List (List Nat)
  | 0, _, _ => []
  | n + 1, d, m => if d = 0 then [[]] else ((List.range (min d m)).map fun k => (pts n (d - (k + 1)) (k + 1)).map fun r => (k + 1) :: r).flatten
def ptsTo (n d j : Nat) : List (List Nat) := ((List.range j).map fun k => (pts n (d - (k + 1)) (k + 1)).map fun r => (k + 1) :: r).flatten
theorem ptsTo_succ {n d j : Nat} : ptsTo n d (j + 1) = ptsTo n d j ++ (pts n (d - (j + 1)) (j + 1)).map fun r => (j + 1) :: r := by
  unfold ptsTo
  rw [List.range_succ, List.map_append, List.flatten_append]; simp
theorem pts_succ {n d m : Nat} (h : d ≠ 0) : pts (n + 1) d m = ptsTo n d (min d m) := by rw [pts, if_neg h]; rfl
theorem pts_len : ∀ (n d m : Nat), (pts n d m).length ≤ 2 ^ d
  | 0, _, _ => by simp [pts]
  | n + 1, d, m => by
    by_cases h : d = 0
    · subst h; simp [pts]
    · rw [pts_succ h]
      have key : ∀ j, j ≤ d → (ptsTo n d j).length + 2 ^ (d - j) ≤ 2 ^ d := by
        intro j
        induction j with
        | zero => intro _; simp [ptsTo]
        | succ j ih =>
          intro hj
          have h1 := ih (by omega)
          have h2 := pts_len n (d - (j + 1)) (j + 1)
          rw [ptsTo_succ, List.length_append, List.length_map]
          have e : d - j = (d - (j + 1)) + 1 := by omega
          rw [e, Nat.pow_succ] at h1
          omega
      exact Nat.le_trans (Nat.le_add_right _ _) (key (min d m) (by omega))
theorem ptsTo_len {n d j : Nat} (h : j ≤ d) : (ptsTo n d j).length ≤ 2 ^ d := by
  have key : ∀ j, j ≤ d → (ptsTo n d j).length + 2 ^ (d - j) ≤ 2 ^ d := by
    intro j
    induction j with
    | zero => intro _; simp [ptsTo]
    | succ j ih =>
      intro hj
      have h1 := ih (by omega)
      have h2 := pts_len n (d - (j + 1)) (j + 1)
      rw [ptsTo_succ, List.length_append, List.length_map]
      have e : d - j = (d - (j + 1)) + 1 := by omega
      rw [e, Nat.pow_succ] at h1
      omega
  exact Nat.le_trans (Nat.le_add_right _ _) (key j h)
theorem pts_mem : ∀ {n d m : Nat} {r : List Nat}, r ∈ pts n d m → r.sum = d ∧ r.Pairwise (fun a b => b ≤ a) ∧ (∀ x ∈ r, 0 < x ∧ x ≤ m)
  | 0, _, _, _, h => by simp [pts] at h
  | n + 1, d, m, r, h => by
    by_cases hd : d = 0
    · subst hd
      simp [pts] at h
      subst h; simp
    · rw [pts_succ hd] at h
      unfold ptsTo at h
      obtain ⟨l, hl, hr⟩ := List.mem_flatten.mp h
      obtain ⟨k, hk, rfl⟩ := List.mem_map.mp hl
      obtain ⟨q, hq, rfl⟩ := List.mem_map.mp hr
      rw [List.mem_range] at hk
      obtain ⟨h1, h2, h3⟩ := pts_mem hq
      refine ⟨by rw [List.sum_cons, h1]; omega, List.pairwise_cons.mpr ⟨fun x hx => (h3 x hx).2, h2⟩, fun x hx => ?_⟩
      rcases List.mem_cons.mp hx with rfl | hx
      · omega
      · have := h3 x hx; omega
theorem len_le_sum : ∀ {r : List Nat}, (∀ x ∈ r, 0 < x) → r.length ≤ r.sum
  | [], _ => by simp
  | a :: r, h => by
    have := len_le_sum fun x hx => h x (List.mem_cons_of_mem _ hx)
    have := h a List.mem_cons_self
    simp only [List.length_cons, List.sum_cons]; omega
/-! ### the numbers of partitions -/
def pgo (f : List Int) (n : Nat) : Nat → Nat → Int → Int → Int
  | 0, _, _, t => t
  | u + 1, k, s, t => if k * (3 * k - 1) / 2 ≤ n then pgo f n u (k + 1) (-s) (if k * (3 * k + 1) / 2 ≤ n then t + s * f.getD (n - k * (3 * k - 1) / 2) 0 + s * f.getD (n - k * (3 * k + 1) / 2) 0 else t + s * f.getD (n - k * (3 * k - 1) / 2) 0) else t
def pnums : Nat → List Int
  | 0 => [1]
  | n + 1 => pnums n ++ [pgo (pnums n) (n + 1) 6 1 1 0]
theorem pnums_len : ∀ n, (pnums n).length = n + 1
  | 0 => rfl
  | n + 1 => by rw [pnums, List.length_append, pnums_len n]; rfl
def cntsOk : Bool := (List.range 25).all fun d => decide ((pts 26 d d).length = ((pnums 24).getD d 0).toNat ∧ 0 ≤ (pnums 24).getD d 0)
theorem cnts_ok : cntsOk = true := by decide +kernel
theorem cnts {d : Nat} (h : d < 25) : (pnums 24)[d]? = some (((pts 26 d d).length : Nat) : Int) := by
  have := List.all_eq_true.mp cnts_ok d (List.mem_range.mpr h)
  rw [decide_eq_true_iff] at this
  have hl : d < (pnums 24).length := by rw [pnums_len]; omega
  rw [List.getD_eq_getElem?_getD, List.getElem?_eq_getElem hl] at this
  rw [List.getElem?_eq_getElem hl]
  simp only [Option.getD_some] at this
  congr 1; omega
/-! ### counts -/
def cstep (acc : List (Nat × Nat)) (x : Nat) : List (Nat × Nat) := match acc.getLast? with
  | some (p, c) => if p = x then acc.dropLast ++ [(x, c + 1)] else acc ++ [(x, 1)]
  | none => [(x, 1)]
structure CtI (pre : List Nat) (acc : List (Nat × Nat)) : Prop where
  ord : (acc.map (·.1)).Pairwise (fun a b => b < a)
  mem : ∀ p, p ∈ acc.map (·.1) ↔ p ∈ pre
  cnt : ∀ q ∈ acc, q.2 = pre.count q.1
theorem CtI.nil : CtI [] [] := ⟨by simp, by simp, by simp⟩
theorem cstep_snoc {init : List (Nat × Nat)} {p c x : Nat} : cstep (init ++ [(p, c)]) x = if p = x then init ++ [(x, c + 1)] else init ++ [(p, c)] ++ [(x, 1)] := by
  unfold cstep
  rw [List.getLast?_append]
  simp
theorem snoc_cases {α : Type} (l : List α) : l = [] ∨ ∃ i x, l = i ++ [x] := by
  rcases List.eq_nil_or_concat l with h | ⟨i, x, h⟩
  · exact .inl h
  · exact .inr ⟨i, x, by simpa using h⟩
theorem CtI.step {pre : List Nat} {acc : List (Nat × Nat)} {x : Nat} (h : CtI pre acc) (hx : ∀ y ∈ pre, x ≤ y) : CtI (pre ++ [x]) (cstep acc x) := by
  have new : x ∉ pre → CtI (pre ++ [x]) (acc ++ [(x, 1)]) := fun hn => by
    refine ⟨?_, fun p => ?_, fun q hq => ?_⟩
    · rw [List.map_append, List.pairwise_append]
      refine ⟨h.ord, by simp, fun a ha b hb => ?_⟩
      simp at hb
      subst hb
      have h1 := (h.mem a).mp ha
      have h2 := hx a h1
      rcases Nat.lt_or_eq_of_le h2 with h3 | h3
      · exact h3
      · subst h3; exact absurd h1 hn
    · simp only [List.map_append, List.mem_append, h.mem p]; simp
    · rcases List.mem_append.mp hq with hq | hq
      · have hne : q.1 ≠ x := fun e => hn (e ▸ (h.mem q.1).mp (List.mem_map.mpr ⟨q, hq, rfl⟩))
        rw [h.cnt q hq, List.count_append, List.count_singleton]
        simp [Ne.symm hne]
      · rw [List.mem_singleton] at hq
        subst hq
        rw [List.count_append, List.count_eq_zero.mpr hn]; simp
  rcases snoc_cases acc with rfl | ⟨init, ⟨p, c⟩, rfl⟩
  · exact new fun hm => by have := (h.mem x).mpr hm; simp at this
  · rw [cstep_snoc]
    by_cases e : p = x
    · subst e
      rw [if_pos rfl]
      have ho := h.ord
      have hp : ∀ q ∈ init, p < q.1 := fun q hq => by
        rw [List.map_append, List.pairwise_append] at ho
        exact ho.2.2 q.1 (List.mem_map.mpr ⟨q, hq, rfl⟩) p (by simp)
      have em : (init ++ [(p, c + 1)]).map (·.1) = (init ++ [(p, c)]).map (·.1) := by simp
      refine ⟨by rw [em]; exact ho, fun y => ?_, fun q hq => ?_⟩
      · rw [em, h.mem y, List.mem_append, List.mem_singleton]
        refine ⟨.inl, fun z => ?_⟩
        rcases z with z | rfl
        · exact z
        · exact (h.mem y).mp (by simp)
      · rw [List.count_append, List.count_singleton]
        rcases List.mem_append.mp hq with hq | hq
        · have := hp q hq
          rw [h.cnt q (by simp [hq]), if_neg (by simp; omega)]; rfl
        · rw [List.mem_singleton] at hq
          subst hq
          have := h.cnt (p, c) (by simp)
          simp at this ⊢
          exact this
    · rw [if_neg e]
      refine new fun hm => ?_
      have h1 := (h.mem x).mpr hm
      rw [List.map_append, List.mem_append] at h1
      have ho := h.ord
      rw [List.map_append, List.pairwise_append] at ho
      rcases h1 with h1 | h1
      · have := ho.2.2 x h1 p (by simp)
        have h2 := hx p ((h.mem p).mp (by simp))
        omega
      · simp at h1; exact e h1.symm
theorem cfold_inv : ∀ {l pre : List Nat} {acc : List (Nat × Nat)}, CtI pre acc → (pre ++ l).Pairwise (fun a b => b ≤ a) → CtI (pre ++ l) (l.foldl cstep acc)
  | [], pre, acc, h, _ => by simpa using h
  | x :: l, pre, acc, h, hd => by
    have h1 := h.step (x := x) fun y hy => by
      rw [List.pairwise_append] at hd
      exact hd.2.2 y hy x List.mem_cons_self
    have := cfold_inv (l := l) h1 (by simpa using hd)
    simpa using this
def cts (l : List Nat) : List (Nat × Nat) := l.foldl cstep []
theorem cts_inv {l : List Nat} (h : l.Pairwise (fun a b => b ≤ a)) : CtI l (cts l) := by
  have := cfold_inv (l := l) CtI.nil (by simpa using h)
  simpa [cts] using this
theorem dist_eq [Md] [Mw] {l : List Nat} (h : l.Pairwise (fun a b => b ≤ a)) : (sortI (dd (l.map fun n : Nat => (n : Int)))).reverse = ((cts l).map (·.1)).map fun n : Nat => (n : Int) := by
  have I := cts_inv h
  have e : sortI (dd (l.map fun n : Nat => (n : Int))) = (((cts l).map (·.1)).map fun n : Nat => (n : Int)).reverse := by
    refine sorted_uniq ((sortI_perm _).trans ?_) (sortI_sorted _) ?_
    · refine ((List.perm_ext_iff_of_nodup (dd_nodup _) ?_).2 fun k => ?_).trans (List.reverse_perm _).symm
      · have hn : ((cts l).map (·.1)).Nodup := I.ord.imp fun h => Nat.ne_of_gt h
        exact List.pairwise_map.mpr (hn.imp fun h e => h (by omega))
      · rw [mem_dd, List.mem_map, List.mem_map]
        exact ⟨fun ⟨n, h1, h2⟩ => ⟨n, (I.mem n).mpr h1, h2⟩, fun ⟨n, h1, h2⟩ => ⟨n, (I.mem n).mp h1, h2⟩⟩
    · rw [List.pairwise_reverse, List.pairwise_map]
      exact I.ord.imp fun h => by omega
  rw [e, List.reverse_reverse]
/-! ### descending, sorted -/
def descB : List Nat → Bool
  | a :: b :: r => decide (b ≤ a) && descB (b :: r)
  | _ => true
theorem descB_iff : ∀ {l : List Nat}, descB l = true ↔ l.Pairwise (fun a b => b ≤ a)
  | [] => by simp [descB]
  | [a] => by simp [descB]
  | a :: b :: r => by
    rw [descB, Bool.and_eq_true, decide_eq_true_iff, descB_iff (l := b :: r), List.pairwise_cons (a := a)]
    refine ⟨fun ⟨h1, h2⟩ => ⟨fun x hx => ?_, h2⟩, fun ⟨h1, h2⟩ => ⟨h1 b List.mem_cons_self, h2⟩⟩
    rcases List.mem_cons.mp hx with rfl | hx
    · exact h1
    · exact Nat.le_trans ((List.pairwise_cons.mp h2).1 x hx) h1
theorem descB_range : ∀ (l : List Nat), ((List.range (l.length - 1)).all fun k => decide (l.getD (k + 1) 0 ≤ l.getD k 0)) = descB l
  | [] => rfl
  | [a] => rfl
  | a :: b :: r => by
    have ih := descB_range (b :: r)
    simp only [List.length_cons, Nat.add_sub_cancel] at ih ⊢
    rw [List.range_succ_eq_map, List.all_cons, List.all_map, descB, ← ih]
    rfl
theorem sorted_back [Md] [Mw] {l : List Nat} : decide ((l.map fun n : Nat => (n : Int)) = (sortI (l.map fun n : Nat => (n : Int))).reverse) = descB l := by
  have key : (l.map fun n : Nat => (n : Int)) = (sortI (l.map fun n : Nat => (n : Int))).reverse ↔ l.Pairwise (fun a b => b ≤ a) := by
    have hi : (l.map fun n : Nat => (n : Int)).Pairwise (fun a b => b ≤ a) ↔ l.Pairwise (fun a b => b ≤ a) := by
      rw [List.pairwise_map]
      exact ⟨fun h => h.imp fun h => by omega, fun h => h.imp fun h => by omega⟩
    rw [← hi]
    refine ⟨fun h => ?_, fun h => ?_⟩
    · rw [h, List.pairwise_reverse]; exact sortI_sorted _
    · have : sortI (l.map fun n : Nat => (n : Int)) = (l.map fun n : Nat => (n : Int)).reverse := sorted_uniq ((sortI_perm _).trans (List.reverse_perm _).symm) (sortI_sorted _) (List.pairwise_reverse.mpr h)
      rw [this, List.reverse_reverse]
  by_cases c : l.Pairwise (fun a b => b ≤ a)
  · rw [decide_eq_true (key.mpr c), descB_iff.mpr c]
  · rw [decide_eq_false fun z => c (key.mp z)]
    cases q : descB l with
    | false => rfl
    | true => exact absurd (descB_iff.mp q) c
/-! ### conjugates -/
def cnj (mu : List Nat) : List Nat := (List.range (mu.headD 0)).map fun j => mu.countP fun x => decide (j < x)
theorem cnj_len {mu : List Nat} : (cnj mu).length = mu.headD 0 := by simp [cnj]
theorem cnj_desc (mu : List Nat) : (cnj mu).Pairwise (fun a b => b ≤ a) := by
  unfold cnj
  rw [List.pairwise_map]
  refine List.pairwise_lt_range.imp fun {a b} h => List.countP_mono_left fun x _ hx => ?_
  rw [decide_eq_true_iff] at hx ⊢
  omega
theorem cnj_pos {mu : List Nat} : ∀ x ∈ cnj mu, 0 < x := by
  intro x hx
  unfold cnj at hx
  obtain ⟨j, hj, rfl⟩ := List.mem_map.mp hx
  rw [List.mem_range] at hj
  cases mu with
  | nil => simp at hj
  | cons a r => exact List.countP_pos_iff.mpr ⟨a, List.mem_cons_self, decide_eq_true hj⟩
theorem cnj_le {mu : List Nat} : ∀ x ∈ cnj mu, x ≤ mu.length := by
  intro x hx
  unfold cnj at hx
  obtain ⟨j, hj, rfl⟩ := List.mem_map.mp hx
  exact List.countP_le_length
theorem desc_cnt : ∀ {mu : List Nat} (h : mu.Pairwise (fun a b => b ≤ a)) {i j : Nat} (hi : i < mu.length), i < mu.countP (fun x => decide (j < x)) ↔ j < mu[i]
  | [], _, i, j, hi => by simp at hi
  | a :: r, h, i, j, hi => by
    obtain ⟨h1, h2⟩ := List.pairwise_cons.mp h
    have none_ : ¬ j < a → r.countP (fun x => decide (j < x)) = 0 := fun hn => List.countP_eq_zero.mpr fun x hx => by
      have := h1 x hx
      simp; omega
    rw [List.countP_cons]
    cases i with
    | zero =>
      by_cases c : j < a
      · simp [c]
      · simp [c, none_ c]
    | succ i =>
      have hi' : i < r.length := by simpa using hi
      have ih := desc_cnt h2 (i := i) (j := j) hi'
      simp only [List.getElem_cons_succ]
      by_cases c : j < a
      · simp only [c, decide_true, if_true]
        omega
      · rw [none_ c] at ih
        rw [none_ c]
        simp only [c, decide_false]
        have := h1 r[i] (List.getElem_mem hi')
        simp; omega
theorem cnt_range (m : Nat) : ∀ a : Nat, (List.range a).countP (fun j => decide (j < m)) = min a m
  | 0 => by simp
  | a + 1 => by
    rw [List.range_succ, List.countP_append, cnt_range m a]
    by_cases c : a < m
    · simp [c]; omega
    · simp [c]; omega
theorem cnj_get {mu : List Nat} {i : Nat} (h : i < (cnj mu).length) : (cnj mu)[i] = mu.countP fun x => decide (i < x) := by simp [cnj]
theorem cnj_cj {mu : List Nat} (h : mu.Pairwise (fun a b => b ≤ a)) (hp : ∀ x ∈ mu, 0 < x) : cnj (cnj mu) = mu := by
  cases mu with
  | nil => rfl
  | cons a r =>
    have ha := hp a List.mem_cons_self
    have hh : (cnj (a :: r)).headD 0 = (a :: r).length := by
      unfold cnj
      obtain ⟨a', rfl⟩ : ∃ a', a = a' + 1 := ⟨a - 1, by omega⟩
      simp only [List.headD_cons]
      rw [List.range_succ_eq_map, List.map_cons, List.headD_cons]
      exact List.countP_eq_length.mpr fun x hx => decide_eq_true (hp x hx)
    refine List.ext_getElem (by rw [cnj_len, hh]) fun i h1 h2 => ?_
    rw [cnj_get]
    conv => lhs; arg 2; unfold cnj
    rw [List.countP_map]
    have e2 : (List.range ((a :: r).headD 0)).countP ((fun x => decide (i < x)) ∘ fun j => (a :: r).countP fun x => decide (j < x)) = (List.range a).countP (fun j => decide (j < (a :: r)[i])) := by
      rw [List.headD_cons]
      refine List.countP_congr fun j _ => ?_
      simp only [Function.comp_apply, decide_eq_true_iff]
      exact desc_cnt h h2
    rw [e2, cnt_range]
    have : (a :: r)[i] ≤ a := by
      rcases List.mem_cons.mp (List.getElem_mem h2) with e | e
      · omega
      · exact (List.pairwise_cons.mp h).1 _ e
    omega
end Fx

set_option Elab.async false
set_option linter.all false
set_option maxRecDepth 100000
set_option maxHeartbeats 4000000
/-! partitions, more of the plain side. -/
namespace Fx
open PySem L2
section
variable [Md]
variable [Mw]
theorem le_sum : ∀ {l : List Nat} {x : Nat}, x ∈ l → x ≤ l.sum
  | a :: l, x, h => by
    rw [List.sum_cons]
    rcases List.mem_cons.mp h with rfl | h
    · omega
    · have := le_sum h; omega
/-- from the greatest on -/
def srtN (l : List Nat) : List Nat := (sortI (l.map fun n : Nat => (n : Int))).reverse.map Int.toNat
theorem srtN_perm (l : List Nat) : (srtN l).Perm l := by
  unfold srtN
  have h := ((List.reverse_perm _).trans (sortI_perm (l.map fun n : Nat => (n : Int)))).map Int.toNat
  rw [List.map_map] at h
  have e : l.map (Int.toNat ∘ fun n : Nat => (n : Int)) = l := by
    have : (Int.toNat ∘ fun n : Nat => (n : Int)) = id := by funext n; simp
    rw [this, List.map_id]
  rwa [e] at h
theorem srtN_cast (l : List Nat) : (srtN l).map nD = ((sortI (l.map fun n : Nat => (n : Int))).map D.int).reverse := by
  unfold srtN
  rw [List.map_map, ← List.map_reverse]
  refine List.map_congr_left fun i hi => ?_
  rw [List.mem_reverse] at hi
  have := (sortI_perm _).mem_iff.mp hi
  obtain ⟨n, _, rfl⟩ := List.mem_map.mp this
  simp [nD]
theorem srtN_desc (l : List Nat) : (srtN l).Pairwise (fun a b => b ≤ a) := by
  unfold srtN
  rw [List.pairwise_map, List.pairwise_reverse]
  exact (sortI_sorted _).imp fun h => by omega
def wq (q : Nat × Nat) : Nat := q.1 * q.2
theorem wsum_step {acc : List (Nat × Nat)} {x : Nat} : ((cstep acc x).map wq).sum = (acc.map wq).sum + x := by
  rcases snoc_cases acc with rfl | ⟨i, ⟨p, c⟩, rfl⟩
  · simp [cstep, wq]
  · rw [cstep_snoc]
    split
    · rename_i e
      subst e
      simp only [List.map_append, List.map_cons, List.map_nil, List.sum_append, List.sum_cons, List.sum_nil, wq]
      rw [Nat.mul_add]; omega
    · simp only [List.map_append, List.map_cons, List.map_nil, List.sum_append, List.sum_cons, List.sum_nil, wq]
      omega
theorem wsum : ∀ {l : List Nat} {acc : List (Nat × Nat)}, ((l.foldl cstep acc).map wq).sum = (acc.map wq).sum + l.sum
  | [], acc => by simp
  | x :: l, acc => by
    rw [List.foldl_cons, wsum, wsum_step, List.sum_cons]; omega
theorem fst_le : ∀ {c : List (Nat × Nat)}, (∀ q ∈ c, 1 ≤ q.2) → (c.map (·.1)).sum ≤ (c.map wq).sum
  | [], _ => by simp
  | q :: c, h => by
    have ih := fst_le fun x hx => h x (List.mem_cons_of_mem _ hx)
    have h1 := h q List.mem_cons_self
    have : q.1 * 1 ≤ q.1 * q.2 := Nat.mul_le_mul_left _ h1
    simp only [List.map_cons, List.sum_cons, wq] at ih ⊢
    omega
theorem head_ge : ∀ {c : List Nat}, c.Pairwise (fun a b => b < a) → (∀ x ∈ c, 0 < x) → c.length ≤ c.headD 0 ∧ c.length * (c.length + 1) ≤ 2 * c.sum
  | [], _, _ => by simp
  | a :: c, h, hp => by
    obtain ⟨h1, h2⟩ := List.pairwise_cons.mp h
    obtain ⟨i1, i2⟩ := head_ge h2 fun x hx => hp x (List.mem_cons_of_mem _ hx)
    have ha := hp a List.mem_cons_self
    have hh : c.length + 1 ≤ a := by
      cases c with
      | nil => simp; omega
      | cons b r =>
        have := h1 b List.mem_cons_self
        simp only [List.headD_cons] at i1
        omega
    refine ⟨by simpa using hh, ?_⟩
    simp only [List.length_cons, List.sum_cons]
    have e : (c.length + 1) * (c.length + 1 + 1) = c.length * (c.length + 1) + 2 * (c.length + 1) := by
      rw [Nat.mul_add, Nat.mul_one, Nat.mul_comm (c.length + 1) (c.length + 1), Nat.add_mul]; omega
    omega
theorem cts_few {l : List Nat} (hp : ∀ x ∈ l, 0 < x) (hd : l.Pairwise (fun a b => b ≤ a)) (hs : l.sum ≤ 720) : (cts l).length < 64 := by
  have I := cts_inv hd
  have h1 := head_ge I.ord fun x hx => hp x ((I.mem x).mp hx)
  have h2 := fst_le (c := cts l) fun q hq => by
    rw [I.cnt q hq]
    exact List.count_pos_iff.mpr ((I.mem q.1).mp (List.mem_map.mpr ⟨q, hq, rfl⟩))
  have h3 := wsum (l := l) (acc := [])
  simp only [List.map_nil, List.sum_nil, Nat.zero_add] at h3
  rw [cts] at h2
  rw [h3] at h2
  refine Nat.lt_of_not_le fun z => ?_
  have h4 := h1.2
  rw [List.length_map] at h4
  have : 64 * 65 ≤ (cts l).length * ((cts l).length + 1) := Nat.mul_le_mul z (by omega)
  rw [cts] at this h4
  omega
theorem dd_len_eq {l : List Nat} (hd : l.Pairwise (fun a b => b ≤ a)) : (dd (l.map fun n : Nat => (n : Int))).length = (cts l).length := by
  have := congrArg List.length (dist_eq hd)
  rw [List.length_reverse, (sortI_perm _).length_eq, List.length_map, List.length_map] at this
  exact this
theorem tcnt {l : List Nat} {a : Nat} {st : Store} : fTCnt (.tup (l.map nD)) (.int (a : Int)) st = .ok (.int ((l.count a : Nat) : Int)) st := by
  have h1 : dOks (l.map nD) = true := by
    induction l with
    | nil => rfl
    | cons x l ih => rw [List.map_cons, dOks, ih]; rfl
  have h2 : ((l.map nD).countP fun z => eqD z (.int (a : Int))) = l.count a := by
    rw [List.countP_map, List.count]
    refine List.countP_congr fun x _ => ?_
    simp [eqD, nD, toPy, PyData.eqv, Int.natCast_inj]
  simp only [fTCnt]
  rw [if_pos ⟨rfl, h1⟩, h2]

theorem ints_nDF (l : List Nat) : l.map nD = (l.map fun n : Nat => (n : Int)).map D.int := by rw [List.map_map]; rfl
/-! ### factorials, orders -/
def facN : Nat → Nat
  | 0 => 1
  | n + 1 => (n + 1) * facN n
theorem facN_pos : ∀ n, 0 < facN n
  | 0 => by decide
  | n + 1 => Nat.mul_pos (by omega) (facN_pos n)
theorem facN_le : ∀ n, facN n ≤ n ^ n
  | 0 => by decide
  | n + 1 => by
    rw [facN, Nat.pow_succ, Nat.mul_comm]
    exact Nat.mul_le_mul_right _ (Nat.le_trans (facN_le n) (Nat.pow_le_pow_left (by omega) n))
theorem facN_mono {a b : Nat} (h : a ≤ b) : facN a ≤ facN b := by
  induction b with
  | zero => rw [show a = 0 by omega]; exact Nat.le_refl _
  | succ b ih =>
    rcases Nat.lt_or_eq_of_le h with h | h
    · refine Nat.le_trans (ih (by omega)) ?_
      rw [facN]
      exact Nat.le_mul_of_pos_left _ (by omega)
    · rw [h]; exact Nat.le_refl _
def prodN : List Nat → Nat
  | [] => 1
  | a :: l => a * prodN l
theorem prodN_append : ∀ (l m : List Nat), prodN (l ++ m) = prodN l * prodN m
  | [], m => by simp [prodN]
  | a :: l, m => by rw [List.cons_append, prodN, prodN, prodN_append l m, Nat.mul_assoc]
theorem prodN_reverse : ∀ l : List Nat, prodN l.reverse = prodN l
  | [] => rfl
  | a :: l => by rw [List.reverse_cons, prodN_append, prodN_reverse l, prodN, prodN, prodN, Nat.mul_one, Nat.mul_comm]
theorem prodN_mul {α : Type} {f g : α → Nat} : ∀ l : List α, prodN (l.map fun a => f a * g a) = prodN (l.map f) * prodN (l.map g)
  | [] => rfl
  | a :: l => by
    simp only [List.map_cons, prodN]
    rw [prodN_mul l]
    simp only [Nat.mul_assoc, Nat.mul_left_comm]
theorem prodN_pos : ∀ {l : List Nat}, (∀ x ∈ l, 0 < x) → 0 < prodN l
  | [], _ => by decide
  | a :: l, h => Nat.mul_pos (h a List.mem_cons_self) (prodN_pos fun x hx => h x (List.mem_cons_of_mem _ hx))
def zf (q : Nat × Nat) : Nat := q.1 ^ q.2 * facN q.2
def zN (l : List Nat) : Nat := prodN ((cts l).map zf)
def rN (l : List Nat) : Nat := prodN ((cts l).map fun q => facN q.2)
def csize (l : List Nat) : Nat := facN l.sum / zN l
theorem len_step {acc : List (Nat × Nat)} {x : Nat} : ((cstep acc x).map (·.2)).sum = (acc.map (·.2)).sum + 1 := by
  rcases snoc_cases acc with rfl | ⟨i, ⟨p, c⟩, rfl⟩
  · simp [cstep]
  · rw [cstep_snoc]
    split
    · simp only [List.map_append, List.map_cons, List.map_nil, List.sum_append, List.sum_cons, List.sum_nil]; omega
    · simp only [List.map_append, List.map_cons, List.map_nil, List.sum_append, List.sum_cons, List.sum_nil]; omega
theorem len_sum : ∀ {l : List Nat} {acc : List (Nat × Nat)}, ((l.foldl cstep acc).map (·.2)).sum = (acc.map (·.2)).sum + l.length
  | [], acc => by simp
  | x :: l, acc => by
    rw [List.foldl_cons, len_sum, len_step, List.length_cons]; omega
theorem zf_le {q : Nat × Nat} {S : Nat} (h : q.1 * q.2 ≤ S) : zf q ≤ S ^ q.2 := by
  unfold zf
  refine Nat.le_trans (Nat.mul_le_mul_left _ (facN_le q.2)) ?_
  rw [← Nat.mul_pow]
  exact Nat.pow_le_pow_left h _
theorem prod_le {S : Nat} : ∀ {c : List (Nat × Nat)}, (∀ q ∈ c, q.1 * q.2 ≤ S) → prodN (c.map zf) ≤ S ^ (c.map (·.2)).sum
  | [], _ => by simp [prodN]
  | q :: c, h => by
    simp only [List.map_cons, prodN, List.sum_cons]
    rw [Nat.pow_add]
    exact Nat.mul_le_mul (zf_le (h q List.mem_cons_self)) (prod_le fun x hx => h x (List.mem_cons_of_mem _ hx))
theorem wq_le : ∀ {c : List (Nat × Nat)} {q : Nat × Nat}, q ∈ c → q.1 * q.2 ≤ (c.map wq).sum
  | a :: c, q, h => by
    simp only [List.map_cons, List.sum_cons]
    rcases List.mem_cons.mp h with rfl | h
    · exact Nat.le_add_right _ _
    · exact Nat.le_trans (wq_le h) (Nat.le_add_left _ _)
theorem zN_le (l : List Nat) : zN l ≤ l.sum ^ l.length := by
  have h1 := wsum (l := l) (acc := [])
  have h2 := len_sum (l := l) (acc := [])
  simp only [List.map_nil, List.sum_nil, Nat.zero_add] at h1 h2
  have := prod_le (S := l.sum) (c := cts l) fun q hq => by
    rw [← h1]; exact wq_le hq
  rw [cts, h2] at this
  exact this
theorem zf_pos {q : Nat × Nat} (h : 0 < q.1) : 0 < zf q := Nat.mul_pos (Nat.pow_pos h) (facN_pos _)
theorem cts_mem {l : List Nat} (hd : l.Pairwise (fun a b => b ≤ a)) (hp : ∀ x ∈ l, 0 < x) : ∀ q ∈ cts l, 0 < q.1 ∧ 0 < q.2 ∧ q.2 ≤ l.length ∧ q.1 ∈ l ∧ q.2 = l.count q.1 := fun q hq => by
  have I := cts_inv hd
  have h1 := (I.mem q.1).mp (List.mem_map.mpr ⟨q, hq, rfl⟩)
  have h2 := I.cnt q hq
  exact ⟨hp _ h1, by rw [h2]; exact List.count_pos_iff.mpr h1, by rw [h2]; exact List.count_le_length, h1, h2⟩
theorem zN_pos {l : List Nat} (hd : l.Pairwise (fun a b => b ≤ a)) (hp : ∀ x ∈ l, 0 < x) : 0 < zN l := prodN_pos fun x hx => by
  obtain ⟨q, hq, rfl⟩ := List.mem_map.mp hx
  exact zf_pos (cts_mem hd hp q hq).1
theorem big_pow {a n : Nat} (ha : a ≤ 1024) (hn : n ≤ 80) : a ^ n ≤ 2 ^ 800 := by
  have h1 : a ^ n ≤ 1024 ^ n := Nat.pow_le_pow_left ha n
  have h2 : 1024 ^ n = 2 ^ (10 * n) := by rw [Nat.pow_mul]
  have h3 : 2 ^ (10 * n) ≤ 2 ^ 800 := Nat.pow_le_pow_right (by decide) (by omega)
  omega
theorem zN_few {l : List Nat} (hs : l.sum ≤ 720) (hl : l.length ≤ 80) : zN l ≤ 2 ^ 800 := Nat.le_trans (zN_le l) (big_pow (by omega) hl)
theorem log_lt {n K : Nat} (h : n < 2 ^ K) (hK : 0 < K) : n.log2 < K := by
  by_cases c : n = 0
  · subst c; simpa using hK
  · exact (Nat.log2_lt c).mpr h
theorem mulFits_big {a b : Nat} (ha : a < 2 ^ 10000) (hb : b < 2 ^ 10000) : mulFits (a : Int) (b : Int) = true := by
  refine mulFits_iff.mpr (.inr (.inr ?_))
  have h1 := log_lt ha (by decide)
  have h2 := log_lt hb (by decide)
  simp only [Int.natAbs_natCast]
  omega
theorem divFits_big {a b : Nat} (h0 : 0 < b) (hb : b ≤ 2 ^ 800) : divFits (a : Int) (b : Int) = true := by
  refine divFits_iff.mpr ⟨by omega, ?_⟩
  have h1 := log_lt (n := b) (K := 801) (Nat.lt_of_le_of_lt hb (Nat.pow_lt_pow_right (by decide) (by decide))) (by decide)
  simp only [Int.natAbs_natCast]
  omega
theorem lt_big {a : Nat} (h : a ≤ 2 ^ 800) : a < 2 ^ 10000 := Nat.lt_of_le_of_lt h (Nat.pow_lt_pow_right (by decide) (by decide))
theorem fac_big {n : Nat} (h : n ≤ 80) : facN n ≤ 2 ^ 800 := Nat.le_trans (facN_le n) (big_pow (by omega) h)
/-! ### the finite part -/
def ringF (f : Nat → Nat) : Nat → List Nat → Nat → List Nat
  | 0, _, _ => []
  | n + 1, seen, y => if y ∈ seen then [] else y :: ringF f n (seen ++ [y]) (f y)
def cyc1F (f : Nat → Nat) (d : Nat) (t : List Nat × List Nat) (x : Nat) : List Nat × List Nat :=
  if x ∈ t.1 then t else (t.1 ++ ringF f d t.1 x, t.2 ++ [(ringF f d t.1 x).length])
def lensF (f : Nat → Nat) (d : Nat) : List Nat := ((List.range d).foldl (cyc1F f d) ([], [])).2
def insD (x : Nat) : List Nat → List Nat
  | [] => [x]
  | y :: l => if y ≤ x then x :: y :: l else y :: insD x l
def srtD : List Nat → List Nat
  | [] => []
  | x :: l => insD x (srtD l)
def typeF (d : Nat) (r : List Nat) : List Nat := srtD (lensF (fun x => r.getD x x) d)
def sumOk : Bool := (List.range 17).all fun n => decide (((pts 18 n n).map csize).sum = facN n)
theorem sum_ok : sumOk = true := by decide +kernel
def cntOk (d : Nat) : Bool := (pts 18 d d).all fun mu => decide (((lvlP d d).countP fun r => decide (typeF d r = mu)) = csize mu ∧ 0 < csize mu)
theorem cnt_ok0 : cntOk 0 = true := by decide +kernel
theorem cnt_ok1 : cntOk 1 = true := by decide +kernel
theorem cnt_ok2 : cntOk 2 = true := by decide +kernel
theorem cnt_ok3 : cntOk 3 = true := by decide +kernel
theorem cnt_ok4 : cntOk 4 = true := by decide +kernel
theorem cnt_ok5 : cntOk 5 = true := by decide +kernel
theorem cnt_ok6 : cntOk 6 = true := by decide +kernel
theorem cnt_all {d : Nat} (h : d < 7) : cntOk d = true := by
  have : d = 0 ∨ d = 1 ∨ d = 2 ∨ d = 3 ∨ d = 4 ∨ d = 5 ∨ d = 6 := by omega
  rcases this with rfl | rfl | rfl | rfl | rfl | rfl | rfl
  · exact cnt_ok0
  · exact cnt_ok1
  · exact cnt_ok2
  · exact cnt_ok3
  · exact cnt_ok4
  · exact cnt_ok5
  · exact cnt_ok6
theorem cnt_mu {d : Nat} {mu : List Nat} (h : d < 7) (hm : mu ∈ pts 18 d d) : ((lvlP d d).map (typeF d)).count mu = csize mu ∧ 0 < csize mu := by
  have := List.all_eq_true.mp (cnt_all h) mu hm
  obtain ⟨h1, h2⟩ := of_decide_eq_true this
  refine ⟨?_, h2⟩
  rw [← h1, List.count, List.countP_map]
  refine List.countP_congr fun r _ => ?_
  simp
theorem pts_few : ((List.range 17).all fun n => decide ((pts 18 n n).length ≤ 300 ∧ 0 < (pts 18 n n).length)) = true := by decide +kernel
theorem pts_fewI {n : Nat} (h : n < 17) : (pts 18 n n).length ≤ 300 ∧ 0 < (pts 18 n n).length := of_decide_eq_true (List.all_eq_true.mp pts_few n (List.mem_range.mpr h))
theorem sum_pts {n : Nat} (h : n < 17) : ((pts 18 n n).map csize).sum = facN n := of_decide_eq_true (List.all_eq_true.mp sum_ok n (List.mem_range.mpr h))
/-! ### the types -/
theorem ringF_eq {d : Nat} (p : Pm d) : ∀ (n : Nat) (seen : List Nat) (y : Nat), ringF p.f n seen y = ring p n seen y
  | 0, _, _ => rfl
  | n + 1, seen, y => by
    rw [ringF, ring]
    split
    · rfl
    · rw [ringF_eq p n]
theorem cycF_eq {d : Nat} (p : Pm d) : ∀ (xs : List Nat) (t : List Nat × List (List Nat)), xs.foldl (cyc1F p.f d) (t.1, t.2.map List.length) = ((xs.foldl (cyc1 p) t).1, (xs.foldl (cyc1 p) t).2.map List.length)
  | [], t => rfl
  | x :: xs, t => by
    rw [List.foldl_cons, List.foldl_cons, ← cycF_eq p xs]
    congr 1
    unfold cyc1F cyc1
    rw [ringF_eq]
    split
    · rfl
    · simp
theorem lensF_eq {d : Nat} (p : Pm d) : lensF p.f d = lens p := by
  unfold lensF lens cycs
  have := cycF_eq p (List.range d) ([], [])
  simp only [List.map_nil] at this
  rw [this]
theorem insD_perm (x : Nat) : ∀ l, (insD x l).Perm (x :: l)
  | [] => .refl _
  | y :: l => by
    rw [insD]
    split
    · exact .refl _
    · exact ((insD_perm x l).cons y).trans (.swap x y l)
theorem srtD_perm : ∀ l, (srtD l).Perm l
  | [] => .refl _
  | x :: l => (insD_perm x _).trans ((srtD_perm l).cons x)
theorem insD_desc {x : Nat} : ∀ {l : List Nat}, l.Pairwise (fun a b => b ≤ a) → (insD x l).Pairwise (fun a b => b ≤ a)
  | [], _ => List.pairwise_singleton _ _
  | y :: l, h => by
    obtain ⟨h1, h2⟩ := List.pairwise_cons.mp h
    rw [insD]
    split
    · rename_i c
      refine List.pairwise_cons.mpr ⟨fun z hz => ?_, h⟩
      rcases List.mem_cons.mp hz with rfl | hz
      · exact c
      · exact Nat.le_trans (h1 z hz) c
    · rename_i c
      refine List.pairwise_cons.mpr ⟨fun z hz => ?_, insD_desc h2⟩
      rcases List.mem_cons.mp ((insD_perm x l).mem_iff.mp hz) with rfl | hz
      · omega
      · exact h1 z hz
theorem srtD_desc : ∀ l, (srtD l).Pairwise (fun a b => b ≤ a)
  | [] => .nil
  | x :: l => insD_desc (srtD_desc l)
theorem typeF_eq {d : Nat} (g : Pm d) : typeF d g.list = lensS g := by
  have hf : (fun x => g.list.getD x x) = g.f := by
    funext x
    rw [List.getD_eq_getElem?_getD]
    by_cases hx : x < d
    · rw [g.list_get hx]; rfl
    · rw [List.getElem?_eq_none (by rw [g.len]; omega), g.out x (by omega)]; rfl
  unfold typeF
  rw [hf, lensF_eq]
  have h1 : (lensS g).Pairwise (fun a b => b ≤ a) := srtN_desc (lens g)
  exact List.Perm.eq_of_pairwise (le := fun a b => b ≤ a) (fun a b _ _ h1 h2 => by omega) (srtD_desc _) h1 ((srtD_perm _).trans (lensS_perm g).symm)
/-! ### keys -/
def kk (l : List Nat) : NestedKey := .tup (l.map fun n : Nat => .num (n : Int))
theorem toNs_nD : ∀ l : List Nat, toNs (l.map nD) = some (l.map fun n : Nat => NestedKey.num (n : Int))
  | [] => rfl
  | a :: l => by
    rw [List.map_cons, toNs, toNs_nD l]; rfl
theorem kk_depth (l : List Nat) : (kk l).depth ≤ 8 := by
  have : ∀ l : List Nat, NestedKey.depthAll (l.map fun n : Nat => NestedKey.num (n : Int)) = 0 := by
    intro l
    induction l with
    | nil => rfl
    | cons a l ih => rw [List.map_cons, NestedKey.depthAll, ih]; rfl
  rw [kk, NestedKey.depth, this]; omega
theorem keyN_lD (l : List Nat) : keyN (lD l) = some (kk l) := by
  have e : toN (.tup (l.map nD)) = some (kk l) := by rw [toN, toNs_nD]; rfl
  unfold keyN lD
  simp only [e]
  rw [if_pos (kk_depth l)]
theorem kk_inj {l m : List Nat} (h : kk l = kk m) : l = m := by
  have h1 := NestedKey.tup.inj h
  have h2 := congrArg (List.map fun k : NestedKey => match k with | .num i => i.toNat | _ => 0) h1
  rw [List.map_map, List.map_map] at h2
  have e : ∀ l : List Nat, l.map ((fun k : NestedKey => match k with | .num i => i.toNat | _ => 0) ∘ fun n : Nat => NestedKey.num (n : Int)) = l := fun l => by
    refine Eq.trans (List.map_congr_left (g := id) fun i _ => ?_) (List.map_id _)
    simp
  rwa [e, e] at h2
theorem valD_cons {κ : Type} [DecidableEq κ] {kv : κ × D} {kvs : List (κ × D)} {q : κ} : valD (kv :: kvs) q = if kv.1 = q then some kv.2 else valD kvs q := by
  unfold valD
  rw [List.find?_cons]
  by_cases c : kv.1 = q
  · simp [c]
  · simp [c]
theorem valD_map {κ : Type} [DecidableEq κ] {k q : κ} {v : D} : ∀ {kvs : List (κ × D)}, (kvs.any fun kv => decide (kv.1 = k)) = true → valD (kvs.map fun kv => if kv.1 = k then (kv.1, v) else kv) q = if k = q then some v else valD kvs q
  | [], h => by simp at h
  | kv :: kvs, h => by
    have rest : ∀ {kvs : List (κ × D)}, ¬ k = q → valD (kvs.map fun kv => if kv.1 = k then (kv.1, v) else kv) q = valD kvs q := by
      intro kvs hne
      induction kvs with
      | nil => rfl
      | cons a l ih =>
        rw [List.map_cons, valD_cons, valD_cons, ih]
        by_cases c : a.1 = k
        · rw [if_pos c]
          have : ¬ a.1 = q := fun z => hne (c.symm.trans z)
          simp only
          rw [if_neg this, if_neg this]
        · rw [if_neg c]
    by_cases e : k = q
    · subst e
      rw [if_pos rfl, List.map_cons, valD_cons]
      by_cases c : kv.1 = k
      · rw [if_pos c]
        simp only
        rw [if_pos c]
      · rw [if_neg c, if_neg c]
        have h' : (kvs.any fun kv => decide (kv.1 = k)) = true := by
          simpa [List.any_cons, c] using h
        have := valD_map (q := k) (v := v) h'
        rw [if_pos rfl] at this
        exact this
    · rw [if_neg e]
      exact rest e
theorem valD_snoc {κ : Type} [DecidableEq κ] {k q : κ} {v : D} : ∀ {kvs : List (κ × D)}, (kvs.any fun kv => decide (kv.1 = k)) = false → valD (kvs ++ [(k, v)]) q = if k = q then some v else valD kvs q
  | [], _ => by rw [List.nil_append, valD_cons]
  | kv :: kvs, h => by
    simp only [List.any_cons, Bool.or_eq_false_iff, decide_eq_false_iff_not] at h
    rw [List.cons_append, valD_cons, valD_cons, valD_snoc (by simpa using h.2)]
    by_cases e : k = q
    · subst e
      rw [if_neg h.1, if_pos rfl, if_pos rfl]
    · rw [if_neg e, if_neg e]
theorem valD_putD {κ : Type} [DecidableEq κ] {kvs : List (κ × D)} {k q : κ} {v : D} : valD (putD kvs k v) q = if k = q then some v else valD kvs q := by
  unfold putD
  by_cases c : (kvs.any fun kv => decide (kv.1 = k)) = true
  · rw [if_pos c]; exact valD_map c
  · rw [if_neg c]; exact valD_snoc (by cases q : (kvs.any fun kv => decide (kv.1 = k)) <;> simp_all)
theorem putD_len {κ : Type} [DecidableEq κ] {kvs : List (κ × D)} {k : κ} {v : D} : (putD kvs k v).length ≤ kvs.length + 1 := by
  unfold putD
  split <;> simp
structure DI (ts : List (List Nat)) (kvs : List (NestedKey × D)) : Prop where
  len : kvs.length ≤ ts.length
  val : ∀ mu, valD kvs (kk mu) = if ts.count mu = 0 then none else some (.int ((ts.count mu : Nat) : Int))
theorem DI.nil : DI [] [] := ⟨Nat.le_refl _, fun mu => rfl⟩
theorem DI.put {ts : List (List Nat)} {kvs : List (NestedKey × D)} {mu : List Nat} (h : DI ts kvs) : DI (ts ++ [mu]) (putD kvs (kk mu) (.int (((ts.count mu : Nat) : Int) + 1))) := by
  refine ⟨Nat.le_trans putD_len (by rw [List.length_append]; have := h.len; simp; omega), fun nu => ?_⟩
  rw [valD_putD, h.val, List.count_append, List.count_singleton]
  by_cases e : mu = nu
  · subst e
    rw [if_pos rfl]
    simp
  · rw [if_neg fun z => e (kk_inj z)]
    simp [e]
end
end Fx

set_option Elab.async false
set_option linter.all false
set_option maxRecDepth 100000
set_option maxHeartbeats 4000000
namespace K02
open PySem L2 Fx
def top (i : Nat) : Stmt := PySem.Challenge.pw_branchsheets_k02_whole_sizes_of_classes.main.body.getD i (.Pass ⟨0, 0, 0, 0⟩)
abbrev s_law_state : Stmt := top 16
abbrev N_law_state : List Str := ["script", "seed", "total", "cell"]
theorem sc_law_state : FnScope N_law_state ["script"] (defScope s_law_state) := ⟨rfl, rfl, rfl, by decide +kernel, rfl, by decide +kernel, by decide +kernel⟩
abbrev s_law_take : Stmt := top 17
abbrev N_law_take : List Str := ["state", "m", "value"]
theorem sc_law_take : FnScope N_law_take ["state", "m"] (defScope s_law_take) := ⟨rfl, rfl, rfl, by decide +kernel, rfl, by decide +kernel, by decide +kernel⟩
abbrev s_law_every : Stmt := top 23
abbrev N_law_every : List Str := ["d", "found", "turn", "longer", "row", "x"]
theorem sc_law_every : FnScope N_law_every ["d"] (defScope s_law_every) := ⟨rfl, rfl, rfl, by decide +kernel, rfl, by decide +kernel, by decide +kernel⟩
abbrev s_law_partitions : Stmt := top 22
abbrev N_law_partitions : List Str := ["d", "most", "found", "first", "rest"]
theorem sc_law_partitions : FnScope N_law_partitions ["d", "most"] (defScope s_law_partitions) := ⟨rfl, rfl, rfl, by decide +kernel, rfl, by decide +kernel, by decide +kernel⟩
abbrev s_law_same : Stmt := top 18
abbrev N_law_same : List Str := ["value", "due", "k"]
theorem sc_law_same : FnScope N_law_same ["value", "due"] (defScope s_law_same) := ⟨rfl, rfl, rfl, by decide +kernel, rfl, by decide +kernel, by decide +kernel⟩
abbrev s_law_cycles : Stmt := top 24
abbrev N_law_cycles : List Str := ["p", "met", "found", "x", "cycle", "y"]
theorem sc_law_cycles : FnScope N_law_cycles ["p"] (defScope s_law_cycles) := ⟨rfl, rfl, rfl, by decide +kernel, rfl, by decide +kernel, by decide +kernel⟩
abbrev s_law_type : Stmt := top 25
abbrev N_law_type : List Str := ["p", "cycle"]
theorem sc_law_type : FnScope N_law_type ["p"] (defScope s_law_type) := ⟨rfl, rfl, rfl, by decide +kernel, rfl, by decide +kernel, by decide +kernel⟩
abbrev s_law_factorial : Stmt := top 26
abbrev N_law_factorial : List Str := ["n", "total", "k"]
theorem sc_law_factorial : FnScope N_law_factorial ["n"] (defScope s_law_factorial) := ⟨rfl, rfl, rfl, by decide +kernel, rfl, by decide +kernel, by decide +kernel⟩
abbrev s_is_integer : Stmt := top 5
abbrev N_is_integer : List Str := ["value"]
theorem sc_is_integer : FnScope N_is_integer ["value"] (defScope s_is_integer) := ⟨rfl, rfl, rfl, by decide +kernel, rfl, by decide +kernel, by decide +kernel⟩
abbrev s_is_partition : Stmt := top 9
abbrev N_is_partition : List Str := ["value", "part", "k"]
theorem sc_is_partition : FnScope N_is_partition ["value"] (defScope s_is_partition) := ⟨rfl, rfl, rfl, by decide +kernel, rfl, by decide +kernel, by decide +kernel⟩
abbrev s_check_partition : Stmt := top 10
abbrev N_check_partition : List Str := ["mu"]
theorem sc_check_partition : FnScope N_check_partition ["mu"] (defScope s_check_partition) := ⟨rfl, rfl, rfl, by decide +kernel, rfl, by decide +kernel, by decide +kernel⟩
abbrev s_factorial_of : Stmt := top 7
abbrev N_factorial_of : List Str := ["n", "found", "k"]
theorem sc_factorial_of : FnScope N_factorial_of ["n"] (defScope s_factorial_of) := ⟨rfl, rfl, rfl, by decide +kernel, rfl, by decide +kernel, by decide +kernel⟩
abbrev s_counts_of : Stmt := top 11
abbrev N_counts_of : List Str := ["mu", "found", "part"]
theorem sc_counts_of : FnScope N_counts_of ["mu"] (defScope s_counts_of) := ⟨rfl, rfl, rfl, by decide +kernel, rfl, by decide +kernel, by decide +kernel⟩
abbrev s_raised_to : Stmt := top 6
abbrev N_raised_to : List Str := ["a", "e", "found", "base"]
theorem sc_raised_to : FnScope N_raised_to ["a", "e"] (defScope s_raised_to) := ⟨rfl, rfl, rfl, by decide +kernel, rfl, by decide +kernel, by decide +kernel⟩
abbrev s_centralizer_order : Stmt := top 13
abbrev N_centralizer_order : List Str := ["mu", "found", "part", "times"]
theorem sc_centralizer_order : FnScope N_centralizer_order ["mu"] (defScope s_centralizer_order) := ⟨rfl, rfl, rfl, by decide +kernel, rfl, by decide +kernel, by decide +kernel⟩
abbrev s_class_size : Stmt := top 14
abbrev N_class_size : List Str := ["mu"]
theorem sc_class_size : FnScope N_class_size ["mu"] (defScope s_class_size) := ⟨rfl, rfl, rfl, by decide +kernel, rfl, by decide +kernel, by decide +kernel⟩
abbrev s_law_due : Stmt := top 27
abbrev N_law_due : List Str := ["mu", "repeat", "order", "part", "count", "turn"]
theorem sc_law_due : FnScope N_law_due ["mu"] (defScope s_law_due) := ⟨rfl, rfl, rfl, by decide +kernel, rfl, by decide +kernel, by decide +kernel⟩
abbrev s_repeat_number : Stmt := top 12
abbrev N_repeat_number : List Str := ["mu", "found", "_", "times"]
theorem sc_repeat_number : FnScope N_repeat_number ["mu"] (defScope s_repeat_number) := ⟨rfl, rfl, rfl, by decide +kernel, rfl, by decide +kernel, by decide +kernel⟩
abbrev s_law_told : Stmt := top 19
abbrev N_law_told : List Str := ["f", "given", "error"]
theorem sc_law_told : FnScope N_law_told ["f", "given"] (defScope s_law_told) := ⟨rfl, rfl, rfl, by decide +kernel, rfl, by decide +kernel, by decide +kernel⟩
abbrev s_law_is_told : Stmt := top 20
abbrev N_law_is_told : List Str := ["pair", "due"]
theorem sc_law_is_told : FnScope N_law_is_told ["pair", "due"] (defScope s_law_is_told) := ⟨rfl, rfl, rfl, by decide +kernel, rfl, by decide +kernel, by decide +kernel⟩
abbrev s_law_holds : Stmt := top 28
abbrev N_law_holds : List Str := ["mu", "repeat", "order", "told"]
theorem sc_law_holds : FnScope N_law_holds ["mu"] (defScope s_law_holds) := ⟨rfl, rfl, rfl, by decide +kernel, rfl, by decide +kernel, by decide +kernel⟩
abbrev s_law_is_raised : Stmt := top 21
abbrev N_law_is_raised : List Str := ["pair", "reason"]
theorem sc_law_is_raised : FnScope N_law_is_raised ["pair", "reason"] (defScope s_law_is_raised) := ⟨rfl, rfl, rfl, by decide +kernel, rfl, by decide +kernel, by decide +kernel⟩
abbrev s_law : Stmt := top 29
abbrev N_law : List Str := ["script", "state", "d", "counts", "p", "own", "mu", "n", "shapes", "turn", "great", "bad", "f"]
theorem sc_law : FnScope N_law ["script"] (defScope s_law) := ⟨rfl, rfl, rfl, by decide +kernel, rfl, by decide +kernel, by decide +kernel⟩
instance md : Fx.Md := ⟨true⟩
@[simp] theorem md_fz : Fx.Md.fz = true := rfl
/-- what stands in the module -/
structure Txt [Fx.Mw] (P : Program) (w : World) (base : Heap) (K : PySem.W.Frag) (mg : Str → Option Value) (A : Nat → Addr) (fd : Nat → FuncData) : Prop where
  hw : Fx.Mw.w = some w
  m_law_state : mg "_law_state" = some (.ref (A 16))
  F_law_state : Fun K "_law_state" "_law_state" s_law_state (A 16) (fd 16)
  m_law_take : mg "_law_take" = some (.ref (A 17))
  F_law_take : Fun K "_law_take" "_law_take" s_law_take (A 17) (fd 17)
  m_law_every : mg "_law_every" = some (.ref (A 23))
  F_law_every : Fun K "_law_every" "_law_every" s_law_every (A 23) (fd 23)
  m_law_partitions : mg "_law_partitions" = some (.ref (A 22))
  F_law_partitions : Fun K "_law_partitions" "_law_partitions" s_law_partitions (A 22) (fd 22)
  m_law_same : mg "_law_same" = some (.ref (A 18))
  F_law_same : Fun K "_law_same" "_law_same" s_law_same (A 18) (fd 18)
  m_law_cycles : mg "_law_cycles" = some (.ref (A 24))
  F_law_cycles : Fun K "_law_cycles" "_law_cycles" s_law_cycles (A 24) (fd 24)
  m_law_type : mg "_law_type" = some (.ref (A 25))
  F_law_type : Fun K "_law_type" "_law_type" s_law_type (A 25) (fd 25)
  m_law_factorial : mg "_law_factorial" = some (.ref (A 26))
  F_law_factorial : Fun K "_law_factorial" "_law_factorial" s_law_factorial (A 26) (fd 26)
  m_is_integer : mg "is_integer" = some (.ref (A 5))
  F_is_integer : Fun K "is_integer" "is_integer" s_is_integer (A 5) (fd 5)
  m_is_partition : mg "is_partition" = some (.ref (A 9))
  F_is_partition : Fun K "is_partition" "is_partition" s_is_partition (A 9) (fd 9)
  m_check_partition : mg "check_partition" = some (.ref (A 10))
  F_check_partition : Fun K "check_partition" "check_partition" s_check_partition (A 10) (fd 10)
  m_factorial_of : mg "factorial_of" = some (.ref (A 7))
  F_factorial_of : Fun K "factorial_of" "factorial_of" s_factorial_of (A 7) (fd 7)
  m_counts_of : mg "counts_of" = some (.ref (A 11))
  F_counts_of : Fun K "counts_of" "counts_of" s_counts_of (A 11) (fd 11)
  m_raised_to : mg "raised_to" = some (.ref (A 6))
  F_raised_to : Fun K "raised_to" "raised_to" s_raised_to (A 6) (fd 6)
  m_centralizer_order : mg "centralizer_order" = some (.ref (A 13))
  F_centralizer_order : Fun K "centralizer_order" "centralizer_order" s_centralizer_order (A 13) (fd 13)
  m_class_size : mg "class_size" = some (.ref (A 14))
  F_class_size : Fun K "class_size" "class_size" s_class_size (A 14) (fd 14)
  m_law_due : mg "_law_due" = some (.ref (A 27))
  F_law_due : Fun K "_law_due" "_law_due" s_law_due (A 27) (fd 27)
  m_repeat_number : mg "repeat_number" = some (.ref (A 12))
  F_repeat_number : Fun K "repeat_number" "repeat_number" s_repeat_number (A 12) (fd 12)
  m_law_told : mg "_law_told" = some (.ref (A 19))
  F_law_told : Fun K "_law_told" "_law_told" s_law_told (A 19) (fd 19)
  m_law_is_told : mg "_law_is_told" = some (.ref (A 20))
  F_law_is_told : Fun K "_law_is_told" "_law_is_told" s_law_is_told (A 20) (fd 20)
  m_law_holds : mg "_law_holds" = some (.ref (A 28))
  F_law_holds : Fun K "_law_holds" "_law_holds" s_law_holds (A 28) (fd 28)
  m_law_is_raised : mg "_law_is_raised" = some (.ref (A 21))
  F_law_is_raised : Fun K "_law_is_raised" "_law_is_raised" s_law_is_raised (A 21) (fd 21)
  m_law : mg "law" = some (.ref (A 29))
  F_law : Fun K "law" "law" s_law (A 29) (fd 29)
  z_abs : mg "abs" = none
  z_all : mg "all" = none
  z_bool : mg "bool" = none
  z_int : mg "int" = none
  z_isinstance : mg "isinstance" = none
  z_len : mg "len" = none
  z_list : mg "list" = none
  z_min : mg "min" = none
  z_range : mg "range" = none
  z_set : mg "set" = none
  z_sorted : mg "sorted" = none
  z_str : mg "str" = none
  z_sum : mg "sum" = none
  z_tuple : mg "tuple" = none
  m_Malformed : mg "Malformed" = some (.ref (A 2))
  q_Malformed : PySem.W.excIn K (A 2) [.type "ValueError", .type "Exception", .type "BaseException", .type "object"] "ValueError.__new__" = true
  k_Malformed : PySem.W.keepIn K (.ref (A 2)) = true
  b_Malformed : PySem.W.subIn K (.ref (A 2)) (.type "BaseException") = some true
  t_Malformed : PySem.W.typeIn K (.ref (A 2)) = some (.type "type")
  m_Refused : mg "Refused" = some (.ref (A 3))
  k_Refused : PySem.W.keepIn K (.ref (A 3)) = true
  b_Refused : PySem.W.subIn K (.ref (A 3)) (.type "BaseException") = some true
  t_Refused : PySem.W.typeIn K (.ref (A 3)) = some (.type "type")
  ap : Apart K [A 2, A 3]
section
variable [Fx.Mw]
variable {P : Program} {w : World} {K : PySem.W.Frag} {mg : Str → Option Value} {base : Heap} {A : Nat → Addr} {fd : Nat → FuncData}
theorem b_law_state (T : Txt P w base K mg A fd) : Binds K (fd 16) ["script"] [] := T.F_law_state.binds fun _ _ _ _ _ _ us hl => match us, hl with | [_], _ => rfl
theorem b_law_take (T : Txt P w base K mg A fd) : Binds K (fd 17) ["state", "m"] [] := T.F_law_take.binds fun _ _ _ _ _ _ us hl => match us, hl with | [_, _], _ => rfl
theorem b_law_every (T : Txt P w base K mg A fd) : Binds K (fd 23) ["d"] [] := T.F_law_every.binds fun _ _ _ _ _ _ us hl => match us, hl with | [_], _ => rfl
theorem b_law_partitions (T : Txt P w base K mg A fd) : Binds K (fd 22) ["d", "most"] [] := T.F_law_partitions.binds fun _ _ _ _ _ _ us hl => match us, hl with | [_, _], _ => rfl
theorem b_law_same (T : Txt P w base K mg A fd) : Binds K (fd 18) ["value", "due"] [] := T.F_law_same.binds fun _ _ _ _ _ _ us hl => match us, hl with | [_, _], _ => rfl
theorem b_law_cycles (T : Txt P w base K mg A fd) : Binds K (fd 24) ["p"] [] := T.F_law_cycles.binds fun _ _ _ _ _ _ us hl => match us, hl with | [_], _ => rfl
theorem b_law_type (T : Txt P w base K mg A fd) : Binds K (fd 25) ["p"] [] := T.F_law_type.binds fun _ _ _ _ _ _ us hl => match us, hl with | [_], _ => rfl
theorem b_law_factorial (T : Txt P w base K mg A fd) : Binds K (fd 26) ["n"] [] := T.F_law_factorial.binds fun _ _ _ _ _ _ us hl => match us, hl with | [_], _ => rfl
theorem b_is_integer (T : Txt P w base K mg A fd) : Binds K (fd 5) ["value"] [] := T.F_is_integer.binds fun _ _ _ _ _ _ us hl => match us, hl with | [_], _ => rfl
theorem b_is_partition (T : Txt P w base K mg A fd) : Binds K (fd 9) ["value"] [] := T.F_is_partition.binds fun _ _ _ _ _ _ us hl => match us, hl with | [_], _ => rfl
theorem b_check_partition (T : Txt P w base K mg A fd) : Binds K (fd 10) ["mu"] [] := T.F_check_partition.binds fun _ _ _ _ _ _ us hl => match us, hl with | [_], _ => rfl
theorem b_factorial_of (T : Txt P w base K mg A fd) : Binds K (fd 7) ["n"] [] := T.F_factorial_of.binds fun _ _ _ _ _ _ us hl => match us, hl with | [_], _ => rfl
theorem b_counts_of (T : Txt P w base K mg A fd) : Binds K (fd 11) ["mu"] [] := T.F_counts_of.binds fun _ _ _ _ _ _ us hl => match us, hl with | [_], _ => rfl
theorem b_raised_to (T : Txt P w base K mg A fd) : Binds K (fd 6) ["a", "e"] [] := T.F_raised_to.binds fun _ _ _ _ _ _ us hl => match us, hl with | [_, _], _ => rfl
theorem b_centralizer_order (T : Txt P w base K mg A fd) : Binds K (fd 13) ["mu"] [] := T.F_centralizer_order.binds fun _ _ _ _ _ _ us hl => match us, hl with | [_], _ => rfl
theorem b_class_size (T : Txt P w base K mg A fd) : Binds K (fd 14) ["mu"] [] := T.F_class_size.binds fun _ _ _ _ _ _ us hl => match us, hl with | [_], _ => rfl
theorem b_law_due (T : Txt P w base K mg A fd) : Binds K (fd 27) ["mu"] [] := T.F_law_due.binds fun _ _ _ _ _ _ us hl => match us, hl with | [_], _ => rfl
theorem b_repeat_number (T : Txt P w base K mg A fd) : Binds K (fd 12) ["mu"] [] := T.F_repeat_number.binds fun _ _ _ _ _ _ us hl => match us, hl with | [_], _ => rfl
theorem b_law_told (T : Txt P w base K mg A fd) : Binds K (fd 19) ["f", "given"] [] := T.F_law_told.binds fun _ _ _ _ _ _ us hl => match us, hl with | [_, _], _ => rfl
theorem b_law_is_told (T : Txt P w base K mg A fd) : Binds K (fd 20) ["pair", "due"] [] := T.F_law_is_told.binds fun _ _ _ _ _ _ us hl => match us, hl with | [_, _], _ => rfl
theorem b_law_holds (T : Txt P w base K mg A fd) : Binds K (fd 28) ["mu"] [] := T.F_law_holds.binds fun _ _ _ _ _ _ us hl => match us, hl with | [_], _ => rfl
theorem b_law_is_raised (T : Txt P w base K mg A fd) : Binds K (fd 21) ["pair", "reason"] [] := T.F_law_is_raised.binds fun _ _ _ _ _ _ us hl => match us, hl with | [_, _], _ => rfl
theorem b_law (T : Txt P w base K mg A fd) : Binds K (fd 29) ["script"] [] := T.F_law.binds fun _ _ _ _ _ _ us hl => match us, hl with | [_], _ => rfl
noncomputable def b_law_state_0 : SS :=
      (sSeq (sSet 1 (mOp fAdd (mOp fMulG (mVar 1) (mC (.int 1000003))) (mFn fAbs (mCons (mVar 3) mNil))))
      (sSet 2 (mOp fMod (mFn fInt (mCons (mOp fAdd (mOp fMulG (mVar 2) (mC (.int 48271))) (mVar 3)) mNil)) (mC (.int 2147483647)))))
noncomputable def m_law_state : SS :=
      (sSeq (sSet 1 (mC (.int 0)))
      (sSeq (sSet 2 (mC (.int 1)))
      (sSeq (sFor (mItems (mSl fSl (mVar 0) mNoPart (mPart (mC (.int 63))))) (gN 3) b_law_state_0)
      (sRet (mNew (mCons (mVar 1) (mCons (mVar 2) mNil)))))))
theorem w_law_state {k : Nat} (T : Txt P w base K mg A fd) : FnD P w K mg base (k + 1) (A 16) (fd 16) ["script"] (runF N_law_state (m_law_state)) := by
  refine fn_def T.F_law_state sc_law_state fun cdv A_ outer s H E X hX hr tk hp => ?_
  subst hX
  exact (es_cons (es_set 1 sc_law_state.nd ev_int)
      (es_cons (es_set 2 sc_law_state.nd ev_int)
      (es_cons (es_for hp rfl (ei_seq (ev_sl (ev_var 0) eo_none (eo_some ev_int))) (eg_name (vs := [3]) 3 sc_law_state.nd) (es_cons (es_set 1 sc_law_state.nd (ev_op opS_add (ev_op opS_mulG (ev_var 1) ev_int) (ev_bf cs_abs T.z_abs PyProof.Rows.boot_abs (ea_cons (ev_var 3) ea_nil))))
      (es_one (es_set 2 sc_law_state.nd (ev_op opS_mod (ev_bt cs_int T.z_int PyProof.Rows.boot_int (ea_cons (ev_op opS_add (ev_op opS_mulG (ev_var 2) ev_int) (ev_var 3)) ea_nil)) ev_int)))))
      (es_one (es_ret (ev_new (ef_lst (ea_cons (ev_var 1) (ea_cons (ev_var 2) ea_nil)) (lenA_cons (lenA_cons lenA_nil)))))))))
noncomputable def m_law_take : SS :=
      (sSeq (sIf (mB (mOp fGt (mOp fIx (mVar 0) (mC (.int 0))) (mC (.int 0)))) (sSeq (sSet 2 (mOp fMod (mFn fInt (mCons (mOp fIx (mVar 0) (mC (.int 0))) mNil)) (mVar 1)))
      (sSeq (sSub fSetL (mVar 0) (mC (.int 0)) (mOp fFdiv (mOp fIx (mVar 0) (mC (.int 0))) (mVar 1)))
      (sRet (mVar 2)))) sSkip)
      (sSeq (sSub fSetL (mVar 0) (mC (.int 1)) (mOp fMod (mFn fInt (mCons (mOp fAdd (mOp fMulG (mOp fIx (mVar 0) (mC (.int 1))) (mC (.int 48271))) (mC (.int 11))) mNil)) (mC (.int 2147483647))))
      (sRet (mOp fMod (mFn fInt (mCons (mOp fFdiv (mOp fIx (mVar 0) (mC (.int 1))) (mC (.int 7))) mNil)) (mVar 1)))))
theorem w_law_take {k : Nat} (T : Txt P w base K mg A fd) : FnD P w K mg base (k + 1) (A 17) (fd 17) ["state", "m"] (runF N_law_take (m_law_take)) := by
  refine fn_def T.F_law_take sc_law_take fun cdv A_ outer s H E X hX hr tk hp => ?_
  subst hX
  exact (es_cons (es_if (et_cmp opS_gt (ev_ix (ev_var 0) ev_int) ev_int (nomark _)) (es_cons (es_set 2 sc_law_take.nd (ev_op opS_mod (ev_bt cs_int T.z_int PyProof.Rows.boot_int (ea_cons (ev_ix (ev_var 0) ev_int) ea_nil)) (ev_var 1)))
      (es_cons (es_sub (ev_var 0) ev_int (ev_op opS_fdiv (ev_ix (ev_var 0) ev_int) (ev_var 1)))
      (es_one (es_ret (ev_var 2))))) es_nil)
      (es_cons (es_sub (ev_var 0) ev_int (ev_op opS_mod (ev_bt cs_int T.z_int PyProof.Rows.boot_int (ea_cons (ev_op opS_add (ev_op opS_mulG (ev_ix (ev_var 0) ev_int) ev_int) ev_int) ea_nil)) ev_int))
      (es_one (es_ret (ev_op opS_mod (ev_bt cs_int T.z_int PyProof.Rows.boot_int (ea_cons (ev_op opS_fdiv (ev_ix (ev_var 0) ev_int) ev_int) ea_nil)) (ev_var 1))))))
noncomputable def t_law_every_0 : SB :=
      (mB (mOp (fSIn true) (mVar 5) (mVar 4)))
noncomputable def e_law_every_0 : SE :=
      (mOp fAdd (mVar 4) (mTup (mCons (mVar 5) mNil)))
noncomputable def b_law_every_0 : SS :=
      (sExpr (mExtF (mVar 3) (mComp (mRng1 (mVar 0)) (gN 5) t_law_every_0 e_law_every_0 [5])))
noncomputable def b_law_every_1 : SS :=
      (sSeq (sSet 3 (mNew mNil))
      (sSeq (sFor (mItems (mVar 1)) (gN 4) b_law_every_0)
      (sSet 1 (mFrz (mFn fList (mCons (mVar 3) mNil))))))
noncomputable def m_law_every : SS :=
      (sSeq (sSet 1 (mFrz (mCons (mTup mNil) mNil)))
      (sSeq (sFor (mRng1 (mVar 0)) (gN 2) b_law_every_1)
      (sRet (mVar 1))))
theorem w_law_every {k : Nat} (T : Txt P w base K mg A fd) : FnD P w K mg base (k + 1) (A 23) (fd 23) ["d"] (runF N_law_every (m_law_every)) := by
  refine fn_def T.F_law_every sc_law_every fun cdv A_ outer s H E X hX hr tk hp => ?_
  subst hX
  exact (es_cons (es_set 1 sc_law_every.nd (ev_frz (ef_lst (ea_cons (ev_tup ea_nil lenA_nil) ea_nil) (lenA_cons lenA_nil))))
      (es_cons (es_for hp rfl (ei_range1 T.z_range (ev_var 0)) (eg_name (vs := [2]) 2 sc_law_every.nd) (es_cons (es_set 3 sc_law_every.nd (ev_new (ef_lst ea_nil lenA_nil)))
      (es_cons (es_for hp rfl (ei_seq (ev_var 1)) (eg_name (vs := [4]) 4 sc_law_every.nd) (es_one (es_expr (ev_extF (ev_var 3) (ef_comp (own := [("x", 5)]) rfl sc_law_every.nd (ei_range1 T.z_range (ev_var 0)) (blkOk_by (N := N_law_every) (sc := defScope s_law_every) (own := [("x", 5)]) (by decide +kernel)) (fun s_ H_ C_ cl_ fp_ => (eg_name (vs := _) 5 sc_law_every.nd)) (fun s_ H_ C_ cl_ fp_ => (eif_one (et_cmp (opS_snotin (hu5_of hr)) (ev_var 5) (ev_var 4) rfl))) (fun s_ H_ C_ cl_ fp_ => (ev_op opS_add (ev_var 4) (ev_tup (ea_cons (ev_var 5) ea_nil) (lenA_cons lenA_nil)))))))))
      (es_one (es_set 1 sc_law_every.nd (ev_frz (ev_bt cs_list T.z_list PyProof.Rows.boot_list (ea_cons (ev_var 3) ea_nil))))))))
      (es_one (es_ret (ev_var 1)))))
noncomputable def e_law_partitions_0 : SE :=
      (mOp fAdd (mTup (mCons (mVar 3) mNil)) (mVar 4))
noncomputable def b_law_partitions_0 (r_ : FS) : SS :=
      (sExpr (mExtF (mVar 2) (mComp (mItems (mCall r_ (mCons (mOp fSub (mVar 0) (mVar 3)) (mCons (mVar 3) mNil)))) (gN 4) mYes e_law_partitions_0 [4])))
noncomputable def m_law_partitions (r_ : FS) : SS :=
      (sSeq (sIf (mB (mOp fEq (mVar 0) (mC (.int 0)))) (sRet (mFrz (mCons (mTup mNil) mNil))) sSkip)
      (sSeq (sSet 2 (mNew mNil))
      (sSeq (sFor (mRng2 (mC (.int 1)) (mOp fAdd (mFn fMin2 (mCons (mVar 0) (mCons (mVar 1) mNil))) (mC (.int 1)))) (gN 3) (b_law_partitions_0 r_))
      (sRet (mVar 2)))))
theorem w_law_partitions {k : Nat} (T : Txt P w base K mg A fd) {r_ : FS} (R_ : FnD P w K mg base k (A 22) (fd 22) ["d", "most"] r_) : FnD P w K mg base (k + 1) (A 22) (fd 22) ["d", "most"] (runF N_law_partitions (m_law_partitions r_)) := by
  refine fn_def T.F_law_partitions sc_law_partitions fun cdv A_ outer s H E X hX hr tk hp => ?_
  subst hX
  exact (es_cons (es_if (et_cmp (opS_eq hr.units) (ev_var 0) ev_int (nomark _)) (es_one (es_ret (ev_frz (ef_lst (ea_cons (ev_tup ea_nil lenA_nil) ea_nil) (lenA_cons lenA_nil))))) es_nil)
      (es_cons (es_set 2 sc_law_partitions.nd (ev_new (ef_lst ea_nil lenA_nil)))
      (es_cons (es_for hp rfl (ei_range2 T.z_range ev_int (ev_op opS_add (ev_bf (cs_min2 rfl) T.z_min PyProof.Rows.boot_min (ea_cons (ev_var 0) (ea_cons (ev_var 1) ea_nil))) ev_int)) (eg_name (vs := [3]) 3 sc_law_partitions.nd) (es_one (es_expr (ev_extF (ev_var 2) (ef_comp (own := [("rest", 4)]) rfl sc_law_partitions.nd (ei_seq (ev_call R_ hr tk T.m_law_partitions T.F_law_partitions.kp (b_law_partitions T) (ea_cons (ev_op opS_sub (ev_var 0) (ev_var 3)) (ea_cons (ev_var 3) ea_nil)) (lenA_cons (lenA_cons lenA_nil)))) (blkOk_by (N := N_law_partitions) (sc := defScope s_law_partitions) (own := [("rest", 4)]) (by decide +kernel)) (fun s_ H_ C_ cl_ fp_ => (eg_name (vs := _) 4 sc_law_partitions.nd)) (fun s_ H_ C_ cl_ fp_ => eif_nil) (fun s_ H_ C_ cl_ fp_ => (ev_op opS_add (ev_tup (ea_cons (ev_var 3) ea_nil) (lenA_cons lenA_nil)) (ev_var 4))))))))
      (es_one (es_ret (ev_var 2))))))
noncomputable def e_law_same_0 (r_ : FS) : SE :=
      (mCall r_ (mCons (mOp fIx (mVar 0) (mVar 2)) (mCons (mOp fIx (mVar 1) (mVar 2)) mNil)))
noncomputable def m_law_same (r_ : FS) : SS :=
      (sSeq (sIf (mB (mIsi (mVar 1) .tup)) (sRet (mAndV (mIsi (mVar 0) .tup) (mAndV (mOp fEq (mFn fLen (mCons (mVar 0) mNil)) (mFn fLen (mCons (mVar 1) mNil))) (mFn fAll (mCons (mFrz (mComp (mRng1 (mFn fLen (mCons (mVar 1) mNil))) (gN 2) mYes (e_law_same_0 r_) [2])) mNil))))) sSkip)
      (sSeq (sIf (mB (mOp fIs (mVar 1) (mC .non))) (sRet (mOp fIs (mVar 0) (mC .non))) sSkip)
      (sSeq (sIf (mB (mIsi (mVar 1) .bool)) (sRet (mAndV (mIsi (mVar 0) .bool) (mOp fEq (mVar 0) (mVar 1)))) sSkip)
      (sSeq (sIf (mB (mIsi (mVar 1) .str)) (sRet (mAndV (mIsi (mVar 0) .str) (mOp fEq (mVar 0) (mVar 1)))) sSkip)
      (sRet (mAndV (mIsi (mVar 0) .int) (mAndV (mNotV (mIsi (mVar 0) .bool)) (mOp fEq (mVar 0) (mVar 1)))))))))
theorem w_law_same {k : Nat} (T : Txt P w base K mg A fd) {r_ : FS} (R_ : FnD P w K mg base k (A 18) (fd 18) ["value", "due"] r_) : FnD P w K mg base (k + 1) (A 18) (fd 18) ["value", "due"] (runF N_law_same (m_law_same r_)) := by
  refine fn_def T.F_law_same sc_law_same fun cdv A_ outer s H E X hX hr tk hp => ?_
  subst hX
  exact (es_cons (es_if (et_val (ev_isi .tup T.z_isinstance T.z_tuple PyProof.Rows.boot_tuple (ev_var 1))) (es_one (es_ret (ev_and (ev_isi .tup T.z_isinstance T.z_tuple PyProof.Rows.boot_tuple (ev_var 0)) (ev_and (ev_cmp (opS_eq hr.units) (ev_bf cs_len T.z_len PySem.boot_len (ea_cons (ev_var 0) ea_nil)) (ev_bf cs_len T.z_len PySem.boot_len (ea_cons (ev_var 1) ea_nil)) (nomark _)) (ev_one (ev_bf (cs_all rfl) T.z_all PyProof.Rows.boot_all (ea_cons (ev_frz (ef_comp (own := [("k", 2)]) rfl sc_law_same.nd (ei_range1 T.z_range (ev_bf cs_len T.z_len PySem.boot_len (ea_cons (ev_var 1) ea_nil))) (blkOk_by (N := N_law_same) (sc := defScope s_law_same) (own := [("k", 2)]) (by decide +kernel)) (fun s_ H_ C_ cl_ fp_ => (eg_name (vs := _) 2 sc_law_same.nd)) (fun s_ H_ C_ cl_ fp_ => eif_nil) (fun s_ H_ C_ cl_ fp_ => (ev_call R_ hr takes_none5 T.m_law_same T.F_law_same.kp (b_law_same T) (ea_cons (ev_ix (ev_var 0) (ev_var 2)) (ea_cons (ev_ix (ev_var 1) (ev_var 2)) ea_nil)) (lenA_cons (lenA_cons lenA_nil)))))) ea_nil))))))) es_nil)
      (es_cons (es_if (et_cmp opS_is (ev_var 1) ev_non (nomark _)) (es_one (es_ret (ev_cmp opS_is (ev_var 0) ev_non (nomark _)))) es_nil)
      (es_cons (es_if (et_val (ev_isi .bool T.z_isinstance T.z_bool PyProof.Rows.boot_bool (ev_var 1))) (es_one (es_ret (ev_and (ev_isi .bool T.z_isinstance T.z_bool PyProof.Rows.boot_bool (ev_var 0)) (ev_one (ev_cmp (opS_eq hr.units) (ev_var 0) (ev_var 1) (nomark _)))))) es_nil)
      (es_cons (es_if (et_val (ev_isi .str T.z_isinstance T.z_str PyProof.Rows.boot_str (ev_var 1))) (es_one (es_ret (ev_and (ev_isi .str T.z_isinstance T.z_str PyProof.Rows.boot_str (ev_var 0)) (ev_one (ev_cmp (opS_eq hr.units) (ev_var 0) (ev_var 1) (nomark _)))))) es_nil)
      (es_one (es_ret (ev_and (ev_isi .int T.z_isinstance T.z_int PyProof.Rows.boot_int (ev_var 0)) (ev_and (ev_not (ev_isi .bool T.z_isinstance T.z_bool PyProof.Rows.boot_bool (ev_var 0))) (ev_one (ev_cmp (opS_eq hr.units) (ev_var 0) (ev_var 1) (nomark _)))))))))))
noncomputable def c_law_cycles_0 : SB :=
      (mB (mOp (fDIn false) (mVar 5) (mVar 1)))
noncomputable def b_law_cycles_0 : SS :=
      (sSeq (sSub fSetD (mVar 1) (mVar 5) (mC (.bl true)))
      (sSeq (sSet 4 (mOp fAdd (mVar 4) (mTup (mCons (mVar 5) mNil))))
      (sSet 5 (mOp fIx (mVar 0) (mVar 5)))))
noncomputable def b_law_cycles_1 : SS :=
      (sSeq (sPar 4 5 (mTup mNil) (mVar 3))
      (sSeq (sWhile c_law_cycles_0 b_law_cycles_0)
      (sIf (mB (mOp fGt (mFn fLen (mCons (mVar 4) mNil)) (mC (.int 0)))) (sExpr (mMeth fApp (mVar 2) (mCons (mVar 4) mNil))) sSkip)))
noncomputable def m_law_cycles : SS :=
      (sSeq (sPar 1 2 mDNewK (mNew mNil))
      (sSeq (sFor (mRng1 (mFn fLen (mCons (mVar 0) mNil))) (gN 3) b_law_cycles_1)
      (sRet (mFn fTuple (mCons (mVar 2) mNil)))))
theorem w_law_cycles {k : Nat} (T : Txt P w base K mg A fd) : FnD P w K mg base (k + 1) (A 24) (fd 24) ["p"] (runF N_law_cycles (m_law_cycles)) := by
  refine fn_def T.F_law_cycles sc_law_cycles fun cdv A_ outer s H E X hX hr tk hp => ?_
  subst hX
  exact (es_cons (es_par 1 2 rfl sc_law_cycles.nd ev_dnewK (ev_new (ef_lst ea_nil lenA_nil)))
      (es_cons (es_for hp rfl (ei_range1 T.z_range (ev_bf cs_len T.z_len PySem.boot_len (ea_cons (ev_var 0) ea_nil))) (eg_name (vs := [3]) 3 sc_law_cycles.nd) (es_cons (es_par 4 5 rfl sc_law_cycles.nd (ev_tup ea_nil lenA_nil) (ev_var 3))
      (es_cons (es_while hp (et_dnotin (hu5_of hr) T.hw (ev_var 5) (ev_var 1)) (es_cons (es_dput (hu5_of hr) T.hw (ev_var 1) (ev_var 5) ev_bl)
      (es_cons (es_set 4 sc_law_cycles.nd (ev_op opS_add (ev_var 4) (ev_tup (ea_cons (ev_var 5) ea_nil) (lenA_cons lenA_nil))))
      (es_one (es_set 5 sc_law_cycles.nd (ev_ix (ev_var 0) (ev_var 5)))))))
      (es_one (es_if (et_cmp opS_gt (ev_bf cs_len T.z_len PySem.boot_len (ea_cons (ev_var 4) ea_nil)) ev_int (nomark _)) (es_one (es_expr (ev_bm PySem.F.slot_list_append rfl ms_append (ev_var 2) (ea_cons (ev_var 4) ea_nil)))) es_nil)))))
      (es_one (es_ret (ev_bt cs_tuple T.z_tuple PyProof.Rows.boot_tuple (ea_cons (ev_var 2) ea_nil))))))
noncomputable def e_law_type_0 : SE :=
      (mFn fLen (mCons (mVar 1) mNil))
noncomputable def m_law_type (f_law_cycles : FS) : SS :=
      (sRet (mFn fTuple (mCons (mFrz (mRevL (mFrz (mFn fSorted (mCons (mFrz (mComp (mItems (mCall f_law_cycles (mCons (mVar 0) mNil))) (gN 1) mYes e_law_type_0 [1])) mNil))))) mNil)))
theorem w_law_type {k : Nat} (T : Txt P w base K mg A fd) {f_law_cycles : FS} (D_law_cycles : FnD P w K mg base k (A 24) (fd 24) ["p"] f_law_cycles) : FnD P w K mg base (k + 1) (A 25) (fd 25) ["p"] (runF N_law_type (m_law_type f_law_cycles)) := by
  refine fn_def T.F_law_type sc_law_type fun cdv A_ outer s H E X hX hr tk hp => ?_
  subst hX
  exact (es_one (es_ret (ev_bt cs_tuple T.z_tuple PyProof.Rows.boot_tuple (ea_cons (ev_frz (ef_revL (ev_frz (ev_bf cs_sorted T.z_sorted PyProof.Rows.boot_sorted (ea_cons (ev_frz (ef_comp (own := [("cycle", 1)]) rfl sc_law_type.nd (ei_seq (ev_call D_law_cycles hr tk T.m_law_cycles T.F_law_cycles.kp (b_law_cycles T) (ea_cons (ev_var 0) ea_nil) (lenA_cons lenA_nil))) (blkOk_by (N := N_law_type) (sc := defScope s_law_type) (own := [("cycle", 1)]) (by decide +kernel)) (fun s_ H_ C_ cl_ fp_ => (eg_name (vs := _) 1 sc_law_type.nd)) (fun s_ H_ C_ cl_ fp_ => eif_nil) (fun s_ H_ C_ cl_ fp_ => (ev_bf cs_len T.z_len PySem.boot_len (ea_cons (ev_var 1) ea_nil))))) ea_nil))))) ea_nil))))
noncomputable def b_law_factorial_0 : SS :=
      (sSet 1 (mOp fMulG (mVar 1) (mVar 2)))
noncomputable def m_law_factorial : SS :=
      (sSeq (sSet 1 (mC (.int 1)))
      (sSeq (sFor (mRng2 (mC (.int 2)) (mOp fAdd (mVar 0) (mC (.int 1)))) (gN 2) b_law_factorial_0)
      (sRet (mVar 1))))
theorem w_law_factorial {k : Nat} (T : Txt P w base K mg A fd) : FnD P w K mg base (k + 1) (A 26) (fd 26) ["n"] (runF N_law_factorial (m_law_factorial)) := by
  refine fn_def T.F_law_factorial sc_law_factorial fun cdv A_ outer s H E X hX hr tk hp => ?_
  subst hX
  exact (es_cons (es_set 1 sc_law_factorial.nd ev_int)
      (es_cons (es_for hp rfl (ei_range2 T.z_range ev_int (ev_op opS_add (ev_var 0) ev_int)) (eg_name (vs := [2]) 2 sc_law_factorial.nd) (es_one (es_set 1 sc_law_factorial.nd (ev_op opS_mulG (ev_var 1) (ev_var 2)))))
      (es_one (es_ret (ev_var 1)))))
noncomputable def m_is_integer : SS :=
      (sRet (mAndV (mIsi (mVar 0) .int) (mNotV (mIsi (mVar 0) .bool))))
theorem w_is_integer {k : Nat} (T : Txt P w base K mg A fd) : FnD P w K mg base (k + 1) (A 5) (fd 5) ["value"] (runF N_is_integer (m_is_integer)) := by
  refine fn_def T.F_is_integer sc_is_integer fun cdv A_ outer s H E X hX hr tk hp => ?_
  subst hX
  exact (es_one (es_ret (ev_and (ev_isi .int T.z_isinstance T.z_int PyProof.Rows.boot_int (ev_var 0)) (ev_one (ev_not (ev_isi .bool T.z_isinstance T.z_bool PyProof.Rows.boot_bool (ev_var 0)))))))
noncomputable def e_is_partition_0 : SE :=
      (mOp fGe (mOp fIx (mVar 0) (mOp fSub (mVar 2) (mC (.int 1)))) (mOp fIx (mVar 0) (mVar 2)))
noncomputable def e_is_partition_1 (f_is_integer : FS) : SE :=
      (mAndV (mCall f_is_integer (mCons (mVar 1) mNil)) (mOp fGt (mVar 1) (mC (.int 0))))
noncomputable def m_is_partition (f_is_integer : FS) : SS :=
      (sSeq (sIf (mOr (mNot (mB (mIsi (mVar 0) .tup))) (mNot (mB (mFn fAll (mCons (mFrz (mComp (mItems (mVar 0)) (gN 1) mYes (e_is_partition_1 f_is_integer) [1])) mNil))))) (sRet (mC (.bl false))) sSkip)
      (sRet (mFn fAll (mCons (mFrz (mComp (mRng2 (mC (.int 1)) (mFn fLen (mCons (mVar 0) mNil))) (gN 2) mYes e_is_partition_0 [2])) mNil))))
theorem w_is_partition {k : Nat} (T : Txt P w base K mg A fd) {f_is_integer : FS} (D_is_integer : FnD P w K mg base k (A 5) (fd 5) ["value"] f_is_integer) : FnD P w K mg base (k + 1) (A 9) (fd 9) ["value"] (runF N_is_partition (m_is_partition f_is_integer)) := by
  refine fn_def T.F_is_partition sc_is_partition fun cdv A_ outer s H E X hX hr tk hp => ?_
  subst hX
  exact (es_cons (es_if (et_of (ew_or (et_not (et_val (ev_isi .tup T.z_isinstance T.z_tuple PyProof.Rows.boot_tuple (ev_var 0)))) (ew_or1 (et_not (et_val (ev_bf (cs_all rfl) T.z_all PyProof.Rows.boot_all (ea_cons (ev_frz (ef_comp (own := [("part", 1)]) rfl sc_is_partition.nd (ei_seq (ev_var 0)) (blkOk_by (N := N_is_partition) (sc := defScope s_is_partition) (own := [("part", 1)]) (by decide +kernel)) (fun s_ H_ C_ cl_ fp_ => (eg_name (vs := _) 1 sc_is_partition.nd)) (fun s_ H_ C_ cl_ fp_ => eif_nil) (fun s_ H_ C_ cl_ fp_ => (ev_and (ev_call D_is_integer hr takes_none5 T.m_is_integer T.F_is_integer.kp (b_is_integer T) (ea_cons (ev_var 1) ea_nil) (lenA_cons lenA_nil)) (ev_one (ev_cmp opS_gt (ev_var 1) ev_int (nomark _))))))) ea_nil))))))) (es_one (es_ret ev_bl)) es_nil)
      (es_one (es_ret (ev_bf (cs_all rfl) T.z_all PyProof.Rows.boot_all (ea_cons (ev_frz (ef_comp (own := [("k", 2)]) rfl sc_is_partition.nd (ei_range2 T.z_range ev_int (ev_bf cs_len T.z_len PySem.boot_len (ea_cons (ev_var 0) ea_nil))) (blkOk_by (N := N_is_partition) (sc := defScope s_is_partition) (own := [("k", 2)]) (by decide +kernel)) (fun s_ H_ C_ cl_ fp_ => (eg_name (vs := _) 2 sc_is_partition.nd)) (fun s_ H_ C_ cl_ fp_ => eif_nil) (fun s_ H_ C_ cl_ fp_ => (ev_cmp opS_ge (ev_ix (ev_var 0) (ev_op opS_sub (ev_var 2) ev_int)) (ev_ix (ev_var 0) (ev_var 2)) (nomark _))))) ea_nil)))))
noncomputable def m_check_partition (A : Nat → Addr) (f_is_partition : FS) : SS :=
      (sIf (mNot (mB (mCall f_is_partition (mCons (mVar 0) mNil)))) (sRaise (A 2)) sSkip)
theorem w_check_partition {k : Nat} (T : Txt P w base K mg A fd) {f_is_partition : FS} (D_is_partition : FnD P w K mg base k (A 9) (fd 9) ["value"] f_is_partition) : FnD P w K mg base (k + 1) (A 10) (fd 10) ["mu"] (runF N_check_partition (m_check_partition A f_is_partition)) := by
  refine fn_def T.F_check_partition sc_check_partition fun cdv A_ outer s H E X hX hr tk hp => ?_
  subst hX
  exact (es_one (es_if (et_not (et_val (ev_call D_is_partition hr tk T.m_is_partition T.F_is_partition.kp (b_is_partition T) (ea_cons (ev_var 0) ea_nil) (lenA_cons lenA_nil)))) (es_one (es_raise rfl tk T.q_Malformed T.m_Malformed T.k_Malformed T.b_Malformed T.t_Malformed)) es_nil))
noncomputable def b_factorial_of_0 : SS :=
      (sSet 1 (mOp fMulG (mVar 1) (mVar 2)))
noncomputable def m_factorial_of : SS :=
      (sSeq (sSet 1 (mC (.int 1)))
      (sSeq (sFor (mRng2 (mC (.int 2)) (mOp fAdd (mVar 0) (mC (.int 1)))) (gN 2) b_factorial_of_0)
      (sRet (mVar 1))))
theorem w_factorial_of {k : Nat} (T : Txt P w base K mg A fd) : FnD P w K mg base (k + 1) (A 7) (fd 7) ["n"] (runF N_factorial_of (m_factorial_of)) := by
  refine fn_def T.F_factorial_of sc_factorial_of fun cdv A_ outer s H E X hX hr tk hp => ?_
  subst hX
  exact (es_cons (es_set 1 sc_factorial_of.nd ev_int)
      (es_cons (es_for hp rfl (ei_range2 T.z_range ev_int (ev_op opS_add (ev_var 0) ev_int)) (eg_name (vs := [2]) 2 sc_factorial_of.nd) (es_one (es_set 1 sc_factorial_of.nd (ev_op opS_mulG (ev_var 1) (ev_var 2)))))
      (es_one (es_ret (ev_var 1)))))
noncomputable def b_counts_of_0 : SS :=
      (sIf (mAnd (mB (mOp fGt (mFn fLen (mCons (mVar 1) mNil)) (mC (.int 0)))) (mB (mOp fEq (mOp fIx (mOp fIx (mVar 1) (mNeg (mC (.int 1)))) (mC (.int 0))) (mVar 2)))) (sSub fSetL (mVar 1) (mNeg (mC (.int 1))) (mTup (mCons (mVar 2) (mCons (mOp fAdd (mOp fIx (mOp fIx (mVar 1) (mNeg (mC (.int 1)))) (mC (.int 1))) (mC (.int 1))) mNil)))) (sExpr (mMeth fApp (mVar 1) (mCons (mTup (mCons (mVar 2) (mCons (mC (.int 1)) mNil))) mNil))))
noncomputable def m_counts_of : SS :=
      (sSeq (sSet 1 (mNew mNil))
      (sSeq (sFor (mItems (mVar 0)) (gN 2) b_counts_of_0)
      (sRet (mFn fTuple (mCons (mVar 1) mNil)))))
theorem w_counts_of {k : Nat} (T : Txt P w base K mg A fd) : FnD P w K mg base (k + 1) (A 11) (fd 11) ["mu"] (runF N_counts_of (m_counts_of)) := by
  refine fn_def T.F_counts_of sc_counts_of fun cdv A_ outer s H E X hX hr tk hp => ?_
  subst hX
  exact (es_cons (es_set 1 sc_counts_of.nd (ev_new (ef_lst ea_nil lenA_nil)))
      (es_cons (es_for hp rfl (ei_seq (ev_var 0)) (eg_name (vs := [2]) 2 sc_counts_of.nd) (es_one (es_if (et_of (ew_and (et_cmp opS_gt (ev_bf cs_len T.z_len PySem.boot_len (ea_cons (ev_var 1) ea_nil)) ev_int (nomark _)) (ew_and1 (et_cmp (opS_eq hr.units) (ev_ix (ev_ix (ev_var 1) (ev_neg ev_int)) ev_int) (ev_var 2) (nomark _))))) (es_one (es_sub (ev_var 1) (ev_neg ev_int) (ev_tup (ea_cons (ev_var 2) (ea_cons (ev_op opS_add (ev_ix (ev_ix (ev_var 1) (ev_neg ev_int)) ev_int) ev_int) ea_nil)) (lenA_cons (lenA_cons lenA_nil))))) (es_one (es_expr (ev_bm PySem.F.slot_list_append rfl ms_append (ev_var 1) (ea_cons (ev_tup (ea_cons (ev_var 2) (ea_cons ev_int ea_nil)) (lenA_cons (lenA_cons lenA_nil))) ea_nil)))))))
      (es_one (es_ret (ev_bt cs_tuple T.z_tuple PyProof.Rows.boot_tuple (ea_cons (ev_var 1) ea_nil))))))
noncomputable def c_raised_to_0 : SB :=
      (mB (mOp fGt (mVar 1) (mC (.int 0))))
noncomputable def b_raised_to_0 : SS :=
      (sSeq (sIf (mB (mOp fEq (mOp fMod (mVar 1) (mC (.int 2))) (mC (.int 1)))) (sSet 2 (mOp fMulG (mVar 2) (mVar 3))) sSkip)
      (sSeq (sAug 1 (onIIc divFits fun i j => .int (i / j)) (mC (.int 2)))
      (sIf (mB (mOp fGt (mVar 1) (mC (.int 0)))) (sSet 3 (mOp fMulG (mVar 3) (mVar 3))) sSkip)))
noncomputable def m_raised_to : SS :=
      (sSeq (sPar 2 3 (mC (.int 1)) (mVar 0))
      (sSeq (sWhile c_raised_to_0 b_raised_to_0)
      (sRet (mVar 2))))
theorem w_raised_to {k : Nat} (T : Txt P w base K mg A fd) : FnD P w K mg base (k + 1) (A 6) (fd 6) ["a", "e"] (runF N_raised_to (m_raised_to)) := by
  refine fn_def T.F_raised_to sc_raised_to fun cdv A_ outer s H E X hX hr tk hp => ?_
  subst hX
  exact (es_cons (es_par 2 3 rfl sc_raised_to.nd ev_int (ev_var 0))
      (es_cons (es_while hp (et_cmp opS_gt (ev_var 1) ev_int (nomark _)) (es_cons (es_if (et_cmp (opS_eq hr.units) (ev_op opS_mod (ev_var 1) ev_int) ev_int (nomark _)) (es_one (es_set 2 sc_raised_to.nd (ev_op opS_mulG (ev_var 2) (ev_var 3)))) es_nil)
      (es_cons (es_aug 1 sc_raised_to.nd ios_fdiv ev_int)
      (es_one (es_if (et_cmp opS_gt (ev_var 1) ev_int (nomark _)) (es_one (es_set 3 sc_raised_to.nd (ev_op opS_mulG (ev_var 3) (ev_var 3)))) es_nil)))))
      (es_one (es_ret (ev_var 2)))))
noncomputable def b_centralizer_order_0 (f_raised_to : FS) (f_factorial_of : FS) : SS :=
      (sSet 1 (mOp fMulG (mOp fMulG (mVar 1) (mCall f_raised_to (mCons (mVar 2) (mCons (mVar 3) mNil)))) (mCall f_factorial_of (mCons (mVar 3) mNil))))
noncomputable def m_centralizer_order (f_check_partition : FS) (f_counts_of : FS) (f_factorial_of : FS) (f_raised_to : FS) : SS :=
      (sSeq (sExpr (mCall f_check_partition (mCons (mVar 0) mNil)))
      (sSeq (sSet 1 (mC (.int 1)))
      (sSeq (sFor (mItems (mCall f_counts_of (mCons (mVar 0) mNil))) (gT (gsCons (gN 2) (gsCons (gN 3) gsNil))) (b_centralizer_order_0 f_raised_to f_factorial_of))
      (sRet (mVar 1)))))
theorem w_centralizer_order {k : Nat} (T : Txt P w base K mg A fd) {f_check_partition : FS} (D_check_partition : FnD P w K mg base k (A 10) (fd 10) ["mu"] f_check_partition) {f_counts_of : FS} (D_counts_of : FnD P w K mg base k (A 11) (fd 11) ["mu"] f_counts_of) {f_factorial_of : FS} (D_factorial_of : FnD P w K mg base k (A 7) (fd 7) ["n"] f_factorial_of) {f_raised_to : FS} (D_raised_to : FnD P w K mg base k (A 6) (fd 6) ["a", "e"] f_raised_to) : FnD P w K mg base (k + 1) (A 13) (fd 13) ["mu"] (runF N_centralizer_order (m_centralizer_order f_check_partition f_counts_of f_factorial_of f_raised_to)) := by
  refine fn_def T.F_centralizer_order sc_centralizer_order fun cdv A_ outer s H E X hX hr tk hp => ?_
  subst hX
  exact (es_cons (es_expr (ev_call D_check_partition hr tk T.m_check_partition T.F_check_partition.kp (b_check_partition T) (ea_cons (ev_var 0) ea_nil) (lenA_cons lenA_nil)))
      (es_cons (es_set 1 sc_centralizer_order.nd ev_int)
      (es_cons (es_for hp rfl (ei_seq (ev_call D_counts_of hr tk T.m_counts_of T.F_counts_of.kp (b_counts_of T) (ea_cons (ev_var 0) ea_nil) (lenA_cons lenA_nil))) (eg_tup rfl (egs_cons (eg_name (vs := [2, 3]) 2 sc_centralizer_order.nd) (egs_cons (eg_name (vs := [2, 3]) 3 sc_centralizer_order.nd) egs_nil)) (lenG_cons (lenG_cons lenG_nil))) (es_one (es_set 1 sc_centralizer_order.nd (ev_op opS_mulG (ev_op opS_mulG (ev_var 1) (ev_call D_raised_to hr tk T.m_raised_to T.F_raised_to.kp (b_raised_to T) (ea_cons (ev_var 2) (ea_cons (ev_var 3) ea_nil)) (lenA_cons (lenA_cons lenA_nil)))) (ev_call D_factorial_of hr tk T.m_factorial_of T.F_factorial_of.kp (b_factorial_of T) (ea_cons (ev_var 3) ea_nil) (lenA_cons lenA_nil))))))
      (es_one (es_ret (ev_var 1))))))
noncomputable def m_class_size (f_check_partition : FS) (f_factorial_of : FS) (f_centralizer_order : FS) : SS :=
      (sSeq (sExpr (mCall f_check_partition (mCons (mVar 0) mNil)))
      (sRet (mOp fFdiv (mCall f_factorial_of (mCons (mFn fSumA (mCons (mVar 0) mNil)) mNil)) (mCall f_centralizer_order (mCons (mVar 0) mNil)))))
theorem w_class_size {k : Nat} (T : Txt P w base K mg A fd) {f_check_partition : FS} (D_check_partition : FnD P w K mg base k (A 10) (fd 10) ["mu"] f_check_partition) {f_factorial_of : FS} (D_factorial_of : FnD P w K mg base k (A 7) (fd 7) ["n"] f_factorial_of) {f_centralizer_order : FS} (D_centralizer_order : FnD P w K mg base k (A 13) (fd 13) ["mu"] f_centralizer_order) : FnD P w K mg base (k + 1) (A 14) (fd 14) ["mu"] (runF N_class_size (m_class_size f_check_partition f_factorial_of f_centralizer_order)) := by
  refine fn_def T.F_class_size sc_class_size fun cdv A_ outer s H E X hX hr tk hp => ?_
  subst hX
  exact (es_cons (es_expr (ev_call D_check_partition hr tk T.m_check_partition T.F_check_partition.kp (b_check_partition T) (ea_cons (ev_var 0) ea_nil) (lenA_cons lenA_nil)))
      (es_one (es_ret (ev_op opS_fdiv (ev_call D_factorial_of hr tk T.m_factorial_of T.F_factorial_of.kp (b_factorial_of T) (ea_cons (ev_bf (cs_sumA rfl) T.z_sum PyProof.Rows.boot_sum (ea_cons (ev_var 0) ea_nil)) ea_nil) (lenA_cons lenA_nil)) (ev_call D_centralizer_order hr tk T.m_centralizer_order T.F_centralizer_order.kp (b_centralizer_order T) (ea_cons (ev_var 0) ea_nil) (lenA_cons lenA_nil))))))
noncomputable def b_law_due_0 : SS :=
      (sSet 2 (mOp fMulG (mVar 2) (mVar 3)))
noncomputable def b_law_due_1 (f_law_factorial : FS) : SS :=
      (sSeq (sSet 4 (mTMeth fTCnt (mVar 0) (mVar 3)))
      (sSeq (sSet 1 (mOp fMulG (mVar 1) (mCall f_law_factorial (mCons (mVar 4) mNil))))
      (sFor (mRng1 (mVar 4)) (gN 5) b_law_due_0)))
noncomputable def m_law_due (f_law_factorial : FS) : SS :=
      (sSeq (sAsg (gT (gsCons (gN 1) (gsCons (gN 2) gsNil))) (mTup (mCons (mC (.int 1)) (mCons (mC (.int 1)) mNil))))
      (sSeq (sFor (mItems (mFrz (mSortSet (mVar 0)))) (gN 3) (b_law_due_1 f_law_factorial))
      (sRet (mTup (mCons (mVar 1) (mCons (mOp fMulG (mVar 2) (mVar 1)) mNil))))))
theorem w_law_due {k : Nat} (T : Txt P w base K mg A fd) {f_law_factorial : FS} (D_law_factorial : FnD P w K mg base k (A 26) (fd 26) ["n"] f_law_factorial) : FnD P w K mg base (k + 1) (A 27) (fd 27) ["mu"] (runF N_law_due (m_law_due f_law_factorial)) := by
  refine fn_def T.F_law_due sc_law_due fun cdv A_ outer s H E X hX hr tk hp => ?_
  subst hX
  exact (es_cons (es_asg (ev_tup (ea_cons ev_int (ea_cons ev_int ea_nil)) (lenA_cons (lenA_cons lenA_nil))) (eg_tup rfl (egs_cons (eg_name (vs := [1, 2]) 1 sc_law_due.nd) (egs_cons (eg_name (vs := [1, 2]) 2 sc_law_due.nd) egs_nil)) (lenG_cons (lenG_cons lenG_nil))))
      (es_cons (es_for hp rfl (ei_seq (ev_frz (ef_sortSet T.z_sorted T.z_set (ev_var 0)))) (eg_name (vs := [3]) 3 sc_law_due.nd) (es_cons (es_set 4 sc_law_due.nd (ev_tcnt (hu5_of hr) (ev_var 0) (ev_var 3)))
      (es_cons (es_set 1 sc_law_due.nd (ev_op opS_mulG (ev_var 1) (ev_call D_law_factorial hr tk T.m_law_factorial T.F_law_factorial.kp (b_law_factorial T) (ea_cons (ev_var 4) ea_nil) (lenA_cons lenA_nil))))
      (es_one (es_for hp rfl (ei_range1 T.z_range (ev_var 4)) (eg_name (vs := [5]) 5 sc_law_due.nd) (es_one (es_set 2 sc_law_due.nd (ev_op opS_mulG (ev_var 2) (ev_var 3)))))))))
      (es_one (es_ret (ev_tup (ea_cons (ev_var 1) (ea_cons (ev_op opS_mulG (ev_var 2) (ev_var 1)) ea_nil)) (lenA_cons (lenA_cons lenA_nil)))))))
noncomputable def b_repeat_number_0 (f_factorial_of : FS) : SS :=
      (sSet 1 (mOp fMulG (mVar 1) (mCall f_factorial_of (mCons (mVar 3) mNil))))
noncomputable def m_repeat_number (f_check_partition : FS) (f_counts_of : FS) (f_factorial_of : FS) : SS :=
      (sSeq (sExpr (mCall f_check_partition (mCons (mVar 0) mNil)))
      (sSeq (sSet 1 (mC (.int 1)))
      (sSeq (sFor (mItems (mCall f_counts_of (mCons (mVar 0) mNil))) (gT (gsCons (gN 2) (gsCons (gN 3) gsNil))) (b_repeat_number_0 f_factorial_of))
      (sRet (mVar 1)))))
theorem w_repeat_number {k : Nat} (T : Txt P w base K mg A fd) {f_check_partition : FS} (D_check_partition : FnD P w K mg base k (A 10) (fd 10) ["mu"] f_check_partition) {f_counts_of : FS} (D_counts_of : FnD P w K mg base k (A 11) (fd 11) ["mu"] f_counts_of) {f_factorial_of : FS} (D_factorial_of : FnD P w K mg base k (A 7) (fd 7) ["n"] f_factorial_of) : FnD P w K mg base (k + 1) (A 12) (fd 12) ["mu"] (runF N_repeat_number (m_repeat_number f_check_partition f_counts_of f_factorial_of)) := by
  refine fn_def T.F_repeat_number sc_repeat_number fun cdv A_ outer s H E X hX hr tk hp => ?_
  subst hX
  exact (es_cons (es_expr (ev_call D_check_partition hr tk T.m_check_partition T.F_check_partition.kp (b_check_partition T) (ea_cons (ev_var 0) ea_nil) (lenA_cons lenA_nil)))
      (es_cons (es_set 1 sc_repeat_number.nd ev_int)
      (es_cons (es_for hp rfl (ei_seq (ev_call D_counts_of hr tk T.m_counts_of T.F_counts_of.kp (b_counts_of T) (ea_cons (ev_var 0) ea_nil) (lenA_cons lenA_nil))) (eg_tup rfl (egs_cons (eg_name (vs := [2, 3]) 2 sc_repeat_number.nd) (egs_cons (eg_name (vs := [2, 3]) 3 sc_repeat_number.nd) egs_nil)) (lenG_cons (lenG_cons lenG_nil))) (es_one (es_set 1 sc_repeat_number.nd (ev_op opS_mulG (ev_var 1) (ev_call D_factorial_of hr tk T.m_factorial_of T.F_factorial_of.kp (b_factorial_of T) (ea_cons (ev_var 3) ea_nil) (lenA_cons lenA_nil))))))
      (es_one (es_ret (ev_var 1))))))
noncomputable def m_law_told (A : Nat → Addr) (tab : Addr → Option (Nat × FS)) : SS :=
      (sTry [A 2, A 3] (sSeq (sIf (mB (mOp fEq (mFn fLen (mCons (mVar 1) mNil)) (mC (.int 1)))) (sRet (mTup (mCons (mC (.str "told")) (mCons (mCallV tab 0 (mCons (mOp fIx (mVar 1) (mC (.int 0))) mNil)) mNil)))) sSkip)
      (sSeq (sIf (mB (mOp fEq (mFn fLen (mCons (mVar 1) mNil)) (mC (.int 2)))) (sRet (mTup (mCons (mC (.str "told")) (mCons (mCallV tab 0 (mCons (mOp fIx (mVar 1) (mC (.int 0))) (mCons (mOp fIx (mVar 1) (mC (.int 1))) mNil))) mNil)))) sSkip)
      (sSeq (sIf (mB (mOp fEq (mFn fLen (mCons (mVar 1) mNil)) (mC (.int 3)))) (sRet (mTup (mCons (mC (.str "told")) (mCons (mCallV tab 0 (mCons (mOp fIx (mVar 1) (mC (.int 0))) (mCons (mOp fIx (mVar 1) (mC (.int 1))) (mCons (mOp fIx (mVar 1) (mC (.int 2))) mNil)))) mNil)))) sSkip)
      (sRet (mTup (mCons (mC (.str "told")) (mCons (mCallV tab 0 (mCons (mOp fIx (mVar 1) (mC (.int 0))) (mCons (mOp fIx (mVar 1) (mC (.int 1))) (mCons (mOp fIx (mVar 1) (mC (.int 2))) (mCons (mOp fIx (mVar 1) (mC (.int 3))) mNil))))) mNil))))))) ((A 2, fun _ => (sRet (mTup (mCons (mC (.str "raised")) (mCons (mC (.str "malformed")) mNil))))) :: ((A 3, sNever) :: [])))
theorem w_law_told {k : Nat} (T : Txt P w base K mg A fd) {tab : Addr → Option (Nat × FS)} (TB : TabOk P w K mg base k tab) : FnD P w K mg base (k + 1) (A 19) (fd 19) ["f", "given"] (runF N_law_told (m_law_told A tab)) := by
  refine fn_def T.F_law_told sc_law_told fun cdv A_ outer s H E X hX hr tk hp => ?_
  subst hX
  exact (es_one (es_try (leafs := [A 2, A 3]) rfl rfl tk T.ap (fun W_ pn_ xe_ tk_ hp => (es_cons (es_if (et_cmp (opS_eq hr.units) (ev_bf cs_len T.z_len PySem.boot_len (ea_cons (ev_var 1) ea_nil)) ev_int (nomark _)) (es_one (es_ret (ev_tup (ea_cons ev_str (ea_cons (ev_callV 0 TB hr tk_ (ea_cons (ev_ix (ev_var 1) ev_int) ea_nil)) ea_nil)) (lenA_cons (lenA_cons lenA_nil))))) es_nil)
      (es_cons (es_if (et_cmp (opS_eq hr.units) (ev_bf cs_len T.z_len PySem.boot_len (ea_cons (ev_var 1) ea_nil)) ev_int (nomark _)) (es_one (es_ret (ev_tup (ea_cons ev_str (ea_cons (ev_callV 0 TB hr tk_ (ea_cons (ev_ix (ev_var 1) ev_int) (ea_cons (ev_ix (ev_var 1) ev_int) ea_nil))) ea_nil)) (lenA_cons (lenA_cons lenA_nil))))) es_nil)
      (es_cons (es_if (et_cmp (opS_eq hr.units) (ev_bf cs_len T.z_len PySem.boot_len (ea_cons (ev_var 1) ea_nil)) ev_int (nomark _)) (es_one (es_ret (ev_tup (ea_cons ev_str (ea_cons (ev_callV 0 TB hr tk_ (ea_cons (ev_ix (ev_var 1) ev_int) (ea_cons (ev_ix (ev_var 1) ev_int) (ea_cons (ev_ix (ev_var 1) ev_int) ea_nil)))) ea_nil)) (lenA_cons (lenA_cons lenA_nil))))) es_nil)
      (es_one (es_ret (ev_tup (ea_cons ev_str (ea_cons (ev_callV 0 TB hr tk_ (ea_cons (ev_ix (ev_var 1) ev_int) (ea_cons (ev_ix (ev_var 1) ev_int) (ea_cons (ev_ix (ev_var 1) ev_int) (ea_cons (ev_ix (ev_var 1) ev_int) ea_nil))))) ea_nil)) (lenA_cons (lenA_cons lenA_nil))))))))) (HsD.plain (c := A 2) (ts := fun _ _ _ => tSt K W0 (sRet (mTup (mCons (mC (.str "raised")) (mCons (mC (.str "malformed")) mNil))))) (by simp) ⟨rfl, by decide, Or.inl T.m_Malformed⟩ (fun _ _ _ _ _ _ _ => (es_one (es_ret (ev_tup (ea_cons ev_str (ea_cons ev_str ea_nil)) (lenA_cons (lenA_cons lenA_nil)))))) (serves_plain (fun _ _ _ _ _ h_ => Rt.noConfusion h_)) (HsD.named (i := 2) (c := A 3) (ts := fun _ _ _ => tNever) (by simp) ⟨rfl, by decide, Or.inl T.m_Refused⟩ sc_law_told.nd rfl rfl suite_never serves_never HsD.nil))))
noncomputable def m_law_is_told (f_law_same : FS) : SS :=
      (sRet (mAndV (mOp fEq (mOp fIx (mVar 0) (mC (.int 0))) (mC (.str "told"))) (mCall f_law_same (mCons (mOp fIx (mVar 0) (mC (.int 1))) (mCons (mVar 1) mNil)))))
theorem w_law_is_told {k : Nat} (T : Txt P w base K mg A fd) {f_law_same : FS} (D_law_same : FnD P w K mg base k (A 18) (fd 18) ["value", "due"] f_law_same) : FnD P w K mg base (k + 1) (A 20) (fd 20) ["pair", "due"] (runF N_law_is_told (m_law_is_told f_law_same)) := by
  refine fn_def T.F_law_is_told sc_law_is_told fun cdv A_ outer s H E X hX hr tk hp => ?_
  subst hX
  exact (es_one (es_ret (ev_and (ev_cmp (opS_eq hr.units) (ev_ix (ev_var 0) ev_int) ev_str (nomark _)) (ev_one (ev_call D_law_same hr tk T.m_law_same T.F_law_same.kp (b_law_same T) (ea_cons (ev_ix (ev_var 0) ev_int) (ea_cons (ev_var 1) ea_nil)) (lenA_cons (lenA_cons lenA_nil)))))))
noncomputable def m_law_holds (A : Nat → Addr) (f_law_due : FS) (f_law_told : FS) (f_law_is_told : FS) (f_law_factorial : FS) : SS :=
      (sSeq (sAsg (gT (gsCons (gN 1) (gsCons (gN 2) gsNil))) (mCall f_law_due (mCons (mVar 0) mNil)))
      (sSeq (sSet 3 (mTup (mCons (mCall f_law_told (mCons (mC (.fn (A 12))) (mCons (mTup (mCons (mVar 0) mNil)) mNil))) (mCons (mCall f_law_told (mCons (mC (.fn (A 13))) (mCons (mTup (mCons (mVar 0) mNil)) mNil))) (mCons (mCall f_law_told (mCons (mC (.fn (A 14))) (mCons (mTup (mCons (mVar 0) mNil)) mNil))) mNil)))))
      (sRet (mAndV (mCall f_law_is_told (mCons (mOp fIx (mVar 3) (mC (.int 0))) (mCons (mVar 1) mNil))) (mAndV (mCall f_law_is_told (mCons (mOp fIx (mVar 3) (mC (.int 1))) (mCons (mVar 2) mNil))) (mCall f_law_is_told (mCons (mOp fIx (mVar 3) (mC (.int 2))) (mCons (mOp fFdiv (mCall f_law_factorial (mCons (mFn fSumA (mCons (mVar 0) mNil)) mNil)) (mVar 2)) mNil))))))))
theorem w_law_holds {k : Nat} (T : Txt P w base K mg A fd) {f_law_due : FS} (D_law_due : FnD P w K mg base k (A 27) (fd 27) ["mu"] f_law_due) {f_law_told : FS} (D_law_told : FnD P w K mg base k (A 19) (fd 19) ["f", "given"] f_law_told) {f_law_is_told : FS} (D_law_is_told : FnD P w K mg base k (A 20) (fd 20) ["pair", "due"] f_law_is_told) {f_law_factorial : FS} (D_law_factorial : FnD P w K mg base k (A 26) (fd 26) ["n"] f_law_factorial) : FnD P w K mg base (k + 1) (A 28) (fd 28) ["mu"] (runF N_law_holds (m_law_holds A f_law_due f_law_told f_law_is_told f_law_factorial)) := by
  refine fn_def T.F_law_holds sc_law_holds fun cdv A_ outer s H E X hX hr tk hp => ?_
  subst hX
  exact (es_cons (es_asg (ev_call D_law_due hr tk T.m_law_due T.F_law_due.kp (b_law_due T) (ea_cons (ev_var 0) ea_nil) (lenA_cons lenA_nil)) (eg_tup rfl (egs_cons (eg_name (vs := [1, 2]) 1 sc_law_holds.nd) (egs_cons (eg_name (vs := [1, 2]) 2 sc_law_holds.nd) egs_nil)) (lenG_cons (lenG_cons lenG_nil))))
      (es_cons (es_set 3 sc_law_holds.nd (ev_tup (ea_cons (ev_call D_law_told hr tk T.m_law_told T.F_law_told.kp (b_law_told T) (ea_cons (ev_fn rfl T.m_repeat_number) (ea_cons (ev_tup (ea_cons (ev_var 0) ea_nil) (lenA_cons lenA_nil)) ea_nil)) (lenA_cons (lenA_cons lenA_nil))) (ea_cons (ev_call D_law_told hr tk T.m_law_told T.F_law_told.kp (b_law_told T) (ea_cons (ev_fn rfl T.m_centralizer_order) (ea_cons (ev_tup (ea_cons (ev_var 0) ea_nil) (lenA_cons lenA_nil)) ea_nil)) (lenA_cons (lenA_cons lenA_nil))) (ea_cons (ev_call D_law_told hr tk T.m_law_told T.F_law_told.kp (b_law_told T) (ea_cons (ev_fn rfl T.m_class_size) (ea_cons (ev_tup (ea_cons (ev_var 0) ea_nil) (lenA_cons lenA_nil)) ea_nil)) (lenA_cons (lenA_cons lenA_nil))) ea_nil))) (lenA_cons (lenA_cons (lenA_cons lenA_nil)))))
      (es_one (es_ret (ev_and (ev_call D_law_is_told hr tk T.m_law_is_told T.F_law_is_told.kp (b_law_is_told T) (ea_cons (ev_ix (ev_var 3) ev_int) (ea_cons (ev_var 1) ea_nil)) (lenA_cons (lenA_cons lenA_nil))) (ev_and (ev_call D_law_is_told hr tk T.m_law_is_told T.F_law_is_told.kp (b_law_is_told T) (ea_cons (ev_ix (ev_var 3) ev_int) (ea_cons (ev_var 2) ea_nil)) (lenA_cons (lenA_cons lenA_nil))) (ev_one (ev_call D_law_is_told hr tk T.m_law_is_told T.F_law_is_told.kp (b_law_is_told T) (ea_cons (ev_ix (ev_var 3) ev_int) (ea_cons (ev_op opS_fdiv (ev_call D_law_factorial hr tk T.m_law_factorial T.F_law_factorial.kp (b_law_factorial T) (ea_cons (ev_bf (cs_sumA rfl) T.z_sum PyProof.Rows.boot_sum (ea_cons (ev_var 0) ea_nil)) ea_nil) (lenA_cons lenA_nil)) (ev_var 2)) ea_nil)) (lenA_cons (lenA_cons lenA_nil))))))))))
noncomputable def m_law_is_raised (f_law_same : FS) : SS :=
      (sRet (mAndV (mOp fEq (mOp fIx (mVar 0) (mC (.int 0))) (mC (.str "raised"))) (mCall f_law_same (mCons (mOp fIx (mVar 0) (mC (.int 1))) (mCons (mVar 1) mNil)))))
theorem w_law_is_raised {k : Nat} (T : Txt P w base K mg A fd) {f_law_same : FS} (D_law_same : FnD P w K mg base k (A 18) (fd 18) ["value", "due"] f_law_same) : FnD P w K mg base (k + 1) (A 21) (fd 21) ["pair", "reason"] (runF N_law_is_raised (m_law_is_raised f_law_same)) := by
  refine fn_def T.F_law_is_raised sc_law_is_raised fun cdv A_ outer s H E X hX hr tk hp => ?_
  subst hX
  exact (es_one (es_ret (ev_and (ev_cmp (opS_eq hr.units) (ev_ix (ev_var 0) ev_int) ev_str (nomark _)) (ev_one (ev_call D_law_same hr tk T.m_law_same T.F_law_same.kp (b_law_same T) (ea_cons (ev_ix (ev_var 0) ev_int) (ea_cons (ev_var 1) ea_nil)) (lenA_cons (lenA_cons lenA_nil)))))))
noncomputable def b_law_0 (f_law_is_raised : FS) (f_law_told : FS) : SS :=
      (sIf (mNot (mB (mCall f_law_is_raised (mCons (mCall f_law_told (mCons (mVar 12) (mCons (mTup (mCons (mVar 11) mNil)) mNil))) (mCons (mC (.str "malformed")) mNil))))) (sRet (mC (.bl false))) sSkip)
noncomputable def b_law_1 (A : Nat → Addr) (f_law_is_raised : FS) (f_law_told : FS) : SS :=
      (sFor (mItems (mTup (mCons (mC (.fn (A 14))) (mCons (mC (.fn (A 13))) (mCons (mC (.fn (A 12))) mNil))))) (gN 12) (b_law_0 f_law_is_raised f_law_told))
noncomputable def e_law_0 (f_law_take : FS) : SE :=
      (mOp fAdd (mC (.int 1)) (mCall f_law_take (mCons (mVar 1) (mCons (mC (.int 60)) mNil))))
noncomputable def b_law_2 (f_law_holds : FS) (f_law_take : FS) : SS :=
      (sIf (mNot (mB (mCall f_law_holds (mCons (mOp fIx (mVar 8) (mCall f_law_take (mCons (mVar 1) (mCons (mFn fLen (mCons (mVar 8) mNil)) mNil)))) mNil)))) (sRet (mC (.bl false))) sSkip)
noncomputable def e_law_1 (f_class_size : FS) : SE :=
      (mCall f_class_size (mCons (mVar 6) mNil))
noncomputable def b_law_3 (A : Nat → Addr) (f_law_is_told : FS) (f_law_told : FS) (f_law_holds : FS) : SS :=
      (sIf (mOr (mNot (mB (mCall f_law_is_told (mCons (mCall f_law_told (mCons (mC (.fn (A 14))) (mCons (mTup (mCons (mVar 6) mNil)) mNil))) (mCons (mOp fDGet (mVar 3) (mVar 6)) mNil))))) (mNot (mB (mCall f_law_holds (mCons (mVar 6) mNil))))) (sRet (mC (.bl false))) sSkip)
noncomputable def b_law_4 (f_law_type : FS) : SS :=
      (sSeq (sSet 5 (mCall f_law_type (mCons (mVar 4) mNil)))
      (sSub fSetD (mVar 3) (mVar 5) (mOp fAdd (mDGetOr (mVar 3) (mVar 5) (mC (.int 0))) (mC (.int 1)))))
noncomputable def m_law (A : Nat → Addr) (f_law_state : FS) (f_law_take : FS) (f_law_every : FS) (f_law_partitions : FS) (f_law_same : FS) (f_law_type : FS) (f_law_factorial : FS) (f_class_size : FS) (f_law_holds : FS) (f_law_is_told : FS) (f_law_is_raised : FS) (f_law_told : FS) : SS :=
      (sSeq (sSet 1 (mCall f_law_state (mCons (mVar 0) mNil)))
      (sSeq (sSet 2 (mCall f_law_take (mCons (mVar 1) (mCons (mC (.int 7)) mNil))))
      (sSeq (sSet 3 mDNewT)
      (sSeq (sFor (mItems (mCall f_law_every (mCons (mVar 2) mNil))) (gN 4) (b_law_4 f_law_type))
      (sSeq (sFor (mItems (mCall f_law_partitions (mCons (mVar 2) (mCons (mVar 2) mNil)))) (gN 6) (b_law_3 A f_law_is_told f_law_told f_law_holds))
      (sSeq (sSet 7 (mOp fAdd (mC (.int 7)) (mCall f_law_take (mCons (mVar 1) (mCons (mC (.int 10)) mNil)))))
      (sSeq (sSet 8 (mCall f_law_partitions (mCons (mVar 7) (mCons (mVar 7) mNil))))
      (sSeq (sIf (mB (mOp fNe (mFn fSumA (mCons (mFrz (mComp (mItems (mVar 8)) (gN 6) mYes (e_law_1 f_class_size) [6])) mNil)) (mCall f_law_factorial (mCons (mVar 7) mNil)))) (sRet (mC (.bl false))) sSkip)
      (sSeq (sFor (mRng1 (mC (.int 6))) (gN 9) (b_law_2 f_law_holds f_law_take))
      (sSeq (sSet 10 (mFn fTuple (mCons (mFrz (mRevL (mFrz (mFn fSorted (mCons (mFrz (mComp (mRng1 (mOp fAdd (mC (.int 1)) (mCall f_law_take (mCons (mVar 1) (mCons (mC (.int 12)) mNil))))) (gN 9) mYes (e_law_0 f_law_take) [9])) mNil))))) mNil)))
      (sSeq (sIf (mOr (mNot (mB (mCall f_law_holds (mCons (mVar 10) mNil)))) (mNot (mB (mCall f_law_holds (mCons (mOp fMulG (mTup (mCons (mC (.int 1)) mNil)) (mOp fAdd (mC (.int 20)) (mCall f_law_take (mCons (mVar 1) (mCons (mC (.int 60)) mNil))))) mNil))))) (sRet (mC (.bl false))) sSkip)
      (sSeq (sFor (mItems (mFrz (mCons (mC .non) (mCons (mC (.int 3)) (mCons (mFrz (mCons (mC (.int 2)) (mCons (mC (.int 1)) mNil))) (mCons (mTup (mCons (mC (.int 1)) (mCons (mC (.int 2)) mNil))) (mCons (mTup (mCons (mC (.int 0)) mNil)) (mCons (mTup (mCons (mC (.bl true)) mNil)) (mCons (mTup (mCons (mC (.str "2")) mNil)) (mCons (mTup (mCons (mC (.int 2)) (mCons (mNeg (mC (.int 1))) mNil))) mNil)))))))))) (gN 11) (b_law_1 A f_law_is_raised f_law_told))
      (sRet (mCall f_law_same (mCons (mCall f_class_size (mCons (mTup mNil) mNil)) (mCons (mC (.int 1)) mNil))))))))))))))))
theorem w_law {k : Nat} (T : Txt P w base K mg A fd) {f_law_state : FS} (D_law_state : FnD P w K mg base k (A 16) (fd 16) ["script"] f_law_state) {f_law_take : FS} (D_law_take : FnD P w K mg base k (A 17) (fd 17) ["state", "m"] f_law_take) {f_law_every : FS} (D_law_every : FnD P w K mg base k (A 23) (fd 23) ["d"] f_law_every) {f_law_partitions : FS} (D_law_partitions : FnD P w K mg base k (A 22) (fd 22) ["d", "most"] f_law_partitions) {f_law_same : FS} (D_law_same : FnD P w K mg base k (A 18) (fd 18) ["value", "due"] f_law_same) {f_law_type : FS} (D_law_type : FnD P w K mg base k (A 25) (fd 25) ["p"] f_law_type) {f_law_factorial : FS} (D_law_factorial : FnD P w K mg base k (A 26) (fd 26) ["n"] f_law_factorial) {f_class_size : FS} (D_class_size : FnD P w K mg base k (A 14) (fd 14) ["mu"] f_class_size) {f_law_holds : FS} (D_law_holds : FnD P w K mg base k (A 28) (fd 28) ["mu"] f_law_holds) {f_law_is_told : FS} (D_law_is_told : FnD P w K mg base k (A 20) (fd 20) ["pair", "due"] f_law_is_told) {f_law_is_raised : FS} (D_law_is_raised : FnD P w K mg base k (A 21) (fd 21) ["pair", "reason"] f_law_is_raised) {f_law_told : FS} (D_law_told : FnD P w K mg base k (A 19) (fd 19) ["f", "given"] f_law_told) : FnD P w K mg base (k + 1) (A 29) (fd 29) ["script"] (runF N_law (m_law A f_law_state f_law_take f_law_every f_law_partitions f_law_same f_law_type f_law_factorial f_class_size f_law_holds f_law_is_told f_law_is_raised f_law_told)) := by
  refine fn_def T.F_law sc_law fun cdv A_ outer s H E X hX hr tk hp => ?_
  subst hX
  exact (es_cons (es_set 1 sc_law.nd (ev_call D_law_state hr tk T.m_law_state T.F_law_state.kp (b_law_state T) (ea_cons (ev_var 0) ea_nil) (lenA_cons lenA_nil)))
      (es_cons (es_set 2 sc_law.nd (ev_call D_law_take hr tk T.m_law_take T.F_law_take.kp (b_law_take T) (ea_cons (ev_var 1) (ea_cons ev_int ea_nil)) (lenA_cons (lenA_cons lenA_nil))))
      (es_cons (es_set 3 sc_law.nd (ev_dnewT T.hw))
      (es_cons (es_for hp rfl (ei_seq (ev_call D_law_every hr tk T.m_law_every T.F_law_every.kp (b_law_every T) (ea_cons (ev_var 2) ea_nil) (lenA_cons lenA_nil))) (eg_name (vs := [4]) 4 sc_law.nd) (es_cons (es_set 5 sc_law.nd (ev_call D_law_type hr tk T.m_law_type T.F_law_type.kp (b_law_type T) (ea_cons (ev_var 4) ea_nil) (lenA_cons lenA_nil)))
      (es_one (es_dput (hu5_of hr) T.hw (ev_var 3) (ev_var 5) (ev_op opS_add (ev_dgetOr (hu5_of hr) T.hw (ev_var 3) (ev_var 5) ev_int) ev_int)))))
      (es_cons (es_for hp rfl (ei_seq (ev_call D_law_partitions hr tk T.m_law_partitions T.F_law_partitions.kp (b_law_partitions T) (ea_cons (ev_var 2) (ea_cons (ev_var 2) ea_nil)) (lenA_cons (lenA_cons lenA_nil)))) (eg_name (vs := [6]) 6 sc_law.nd) (es_one (es_if (et_of (ew_or (et_not (et_val (ev_call D_law_is_told hr tk T.m_law_is_told T.F_law_is_told.kp (b_law_is_told T) (ea_cons (ev_call D_law_told hr tk T.m_law_told T.F_law_told.kp (b_law_told T) (ea_cons (ev_fn rfl T.m_class_size) (ea_cons (ev_tup (ea_cons (ev_var 6) ea_nil) (lenA_cons lenA_nil)) ea_nil)) (lenA_cons (lenA_cons lenA_nil))) (ea_cons (ev_dget (hu5_of hr) T.hw (ev_var 3) (ev_var 6)) ea_nil)) (lenA_cons (lenA_cons lenA_nil))))) (ew_or1 (et_not (et_val (ev_call D_law_holds hr tk T.m_law_holds T.F_law_holds.kp (b_law_holds T) (ea_cons (ev_var 6) ea_nil) (lenA_cons lenA_nil))))))) (es_one (es_ret ev_bl)) es_nil)))
      (es_cons (es_set 7 sc_law.nd (ev_op opS_add ev_int (ev_call D_law_take hr tk T.m_law_take T.F_law_take.kp (b_law_take T) (ea_cons (ev_var 1) (ea_cons ev_int ea_nil)) (lenA_cons (lenA_cons lenA_nil)))))
      (es_cons (es_set 8 sc_law.nd (ev_call D_law_partitions hr tk T.m_law_partitions T.F_law_partitions.kp (b_law_partitions T) (ea_cons (ev_var 7) (ea_cons (ev_var 7) ea_nil)) (lenA_cons (lenA_cons lenA_nil))))
      (es_cons (es_if (et_cmp (opS_ne hr.units) (ev_bf (cs_sumA rfl) T.z_sum PyProof.Rows.boot_sum (ea_cons (ev_frz (ef_comp (own := [("mu", 6)]) rfl sc_law.nd (ei_seq (ev_var 8)) (blkOk_by (N := N_law) (sc := defScope s_law) (own := [("mu", 6)]) (by decide +kernel)) (fun s_ H_ C_ cl_ fp_ => (eg_name (vs := _) 6 sc_law.nd)) (fun s_ H_ C_ cl_ fp_ => eif_nil) (fun s_ H_ C_ cl_ fp_ => (ev_call D_class_size hr takes_none5 T.m_class_size T.F_class_size.kp (b_class_size T) (ea_cons (ev_var 6) ea_nil) (lenA_cons lenA_nil))))) ea_nil)) (ev_call D_law_factorial hr tk T.m_law_factorial T.F_law_factorial.kp (b_law_factorial T) (ea_cons (ev_var 7) ea_nil) (lenA_cons lenA_nil)) (nomark _)) (es_one (es_ret ev_bl)) es_nil)
      (es_cons (es_for hp rfl (ei_range1 T.z_range ev_int) (eg_name (vs := [9]) 9 sc_law.nd) (es_one (es_if (et_not (et_val (ev_call D_law_holds hr tk T.m_law_holds T.F_law_holds.kp (b_law_holds T) (ea_cons (ev_ix (ev_var 8) (ev_call D_law_take hr tk T.m_law_take T.F_law_take.kp (b_law_take T) (ea_cons (ev_var 1) (ea_cons (ev_bf cs_len T.z_len PySem.boot_len (ea_cons (ev_var 8) ea_nil)) ea_nil)) (lenA_cons (lenA_cons lenA_nil)))) ea_nil) (lenA_cons lenA_nil)))) (es_one (es_ret ev_bl)) es_nil)))
      (es_cons (es_set 10 sc_law.nd (ev_bt cs_tuple T.z_tuple PyProof.Rows.boot_tuple (ea_cons (ev_frz (ef_revL (ev_frz (ev_bf cs_sorted T.z_sorted PyProof.Rows.boot_sorted (ea_cons (ev_frz (ef_comp (own := [("turn", 9)]) rfl sc_law.nd (ei_range1 T.z_range (ev_op opS_add ev_int (ev_call D_law_take hr tk T.m_law_take T.F_law_take.kp (b_law_take T) (ea_cons (ev_var 1) (ea_cons ev_int ea_nil)) (lenA_cons (lenA_cons lenA_nil))))) (blkOk_by (N := N_law) (sc := defScope s_law) (own := [("turn", 9)]) (by decide +kernel)) (fun s_ H_ C_ cl_ fp_ => (eg_name (vs := _) 9 sc_law.nd)) (fun s_ H_ C_ cl_ fp_ => eif_nil) (fun s_ H_ C_ cl_ fp_ => (ev_op opS_add ev_int (ev_call D_law_take hr takes_none5 T.m_law_take T.F_law_take.kp (b_law_take T) (ea_cons (ev_var 1) (ea_cons ev_int ea_nil)) (lenA_cons (lenA_cons lenA_nil))))))) ea_nil))))) ea_nil)))
      (es_cons (es_if (et_of (ew_or (et_not (et_val (ev_call D_law_holds hr tk T.m_law_holds T.F_law_holds.kp (b_law_holds T) (ea_cons (ev_var 10) ea_nil) (lenA_cons lenA_nil)))) (ew_or1 (et_not (et_val (ev_call D_law_holds hr tk T.m_law_holds T.F_law_holds.kp (b_law_holds T) (ea_cons (ev_op opS_mulG (ev_tup (ea_cons ev_int ea_nil) (lenA_cons lenA_nil)) (ev_op opS_add ev_int (ev_call D_law_take hr tk T.m_law_take T.F_law_take.kp (b_law_take T) (ea_cons (ev_var 1) (ea_cons ev_int ea_nil)) (lenA_cons (lenA_cons lenA_nil))))) ea_nil) (lenA_cons lenA_nil))))))) (es_one (es_ret ev_bl)) es_nil)
      (es_cons (es_for hp rfl (ei_seq (ev_frz (ef_lst (ea_cons ev_non (ea_cons ev_int (ea_cons (ev_frz (ef_lst (ea_cons ev_int (ea_cons ev_int ea_nil)) (lenA_cons (lenA_cons lenA_nil)))) (ea_cons (ev_tup (ea_cons ev_int (ea_cons ev_int ea_nil)) (lenA_cons (lenA_cons lenA_nil))) (ea_cons (ev_tup (ea_cons ev_int ea_nil) (lenA_cons lenA_nil)) (ea_cons (ev_tup (ea_cons ev_bl ea_nil) (lenA_cons lenA_nil)) (ea_cons (ev_tup (ea_cons ev_str ea_nil) (lenA_cons lenA_nil)) (ea_cons (ev_tup (ea_cons ev_int (ea_cons (ev_neg ev_int) ea_nil)) (lenA_cons (lenA_cons lenA_nil))) ea_nil)))))))) (lenA_cons (lenA_cons (lenA_cons (lenA_cons (lenA_cons (lenA_cons (lenA_cons (lenA_cons lenA_nil))))))))))) (eg_name (vs := [11]) 11 sc_law.nd) (es_one (es_for hp rfl (ei_seq (ev_tup (ea_cons (ev_fn rfl T.m_class_size) (ea_cons (ev_fn rfl T.m_centralizer_order) (ea_cons (ev_fn rfl T.m_repeat_number) ea_nil))) (lenA_cons (lenA_cons (lenA_cons lenA_nil))))) (eg_name (vs := [12]) 12 sc_law.nd) (es_one (es_if (et_not (et_val (ev_call D_law_is_raised hr tk T.m_law_is_raised T.F_law_is_raised.kp (b_law_is_raised T) (ea_cons (ev_call D_law_told hr tk T.m_law_told T.F_law_told.kp (b_law_told T) (ea_cons (ev_var 12) (ea_cons (ev_tup (ea_cons (ev_var 11) ea_nil) (lenA_cons lenA_nil)) ea_nil)) (lenA_cons (lenA_cons lenA_nil))) (ea_cons ev_str ea_nil)) (lenA_cons (lenA_cons lenA_nil))))) (es_one (es_ret ev_bl)) es_nil)))))
      (es_one (es_ret (ev_call D_law_same hr tk T.m_law_same T.F_law_same.kp (b_law_same T) (ea_cons (ev_call D_class_size hr tk T.m_class_size T.F_class_size.kp (b_class_size T) (ea_cons (ev_tup ea_nil lenA_nil) ea_nil) (lenA_cons lenA_nil)) (ea_cons ev_int ea_nil)) (lenA_cons (lenA_cons lenA_nil)))))))))))))))))
theorem ex_law_state (A : Nat → Addr) : ∃ F : FS, F = runF N_law_state (m_law_state) := ⟨_, rfl⟩
noncomputable def S_law_state (A : Nat → Addr) : FS := (ex_law_state A).choose
theorem S_law_state_eq (A : Nat → Addr) : S_law_state A = runF N_law_state (m_law_state) := (ex_law_state A).choose_spec
noncomputable abbrev B_law_state_0 (A : Nat → Addr) : SS := b_law_state_0
theorem d_law_state (T : Txt P w base K mg A fd) : FnD P w K mg base 1 (A 16) (fd 16) ["script"] (S_law_state A) := by rw [S_law_state_eq]; exact w_law_state (k := 0) T
theorem ex_law_take (A : Nat → Addr) : ∃ F : FS, F = runF N_law_take (m_law_take) := ⟨_, rfl⟩
noncomputable def S_law_take (A : Nat → Addr) : FS := (ex_law_take A).choose
theorem S_law_take_eq (A : Nat → Addr) : S_law_take A = runF N_law_take (m_law_take) := (ex_law_take A).choose_spec
theorem d_law_take (T : Txt P w base K mg A fd) : FnD P w K mg base 1 (A 17) (fd 17) ["state", "m"] (S_law_take A) := by rw [S_law_take_eq]; exact w_law_take (k := 0) T
theorem ex_law_every (A : Nat → Addr) : ∃ F : FS, F = gc (runF N_law_every (m_law_every)) := ⟨_, rfl⟩
noncomputable def S_law_every (A : Nat → Addr) : FS := (ex_law_every A).choose
theorem S_law_every_eq (A : Nat → Addr) : S_law_every A = gc (runF N_law_every (m_law_every)) := (ex_law_every A).choose_spec
noncomputable abbrev T_law_every_0 (A : Nat → Addr) : SB := t_law_every_0
noncomputable abbrev E_law_every_0 (A : Nat → Addr) : SE := e_law_every_0
noncomputable abbrev B_law_every_0 (A : Nat → Addr) : SS := b_law_every_0
noncomputable abbrev B_law_every_1 (A : Nat → Addr) : SS := b_law_every_1
theorem d_law_every (T : Txt P w base K mg A fd) : FnD P w K mg base 1 (A 23) (fd 23) ["d"] (S_law_every A) := by rw [S_law_every_eq]; exact fn_gc (w_law_every (k := 0) T)
noncomputable def R_law_partitions (A : Nat → Addr) : Nat → FS
  | 0 => fun _ _ => .no
  | n + 1 => gc (runF N_law_partitions (m_law_partitions (R_law_partitions A n)))
theorem ex_law_partitions (A : Nat → Addr) : ∃ F : Nat → FS, F 0 = (fun _ _ => .no) ∧ ∀ n, F (n + 1) = gc (runF N_law_partitions (m_law_partitions (F n))) := ⟨R_law_partitions A, rfl, fun _ => rfl⟩
noncomputable def S_law_partitions (A : Nat → Addr) : Nat → FS := (ex_law_partitions A).choose
theorem S_law_partitions_eq (A : Nat → Addr) (n : Nat) : S_law_partitions A (n + 1) = gc (runF N_law_partitions (m_law_partitions (S_law_partitions A n))) := (ex_law_partitions A).choose_spec.2 n
theorem d_law_partitions (T : Txt P w base K mg A fd) : ∀ n, FnD P w K mg base (0 + n) (A 22) (fd 22) ["d", "most"] (S_law_partitions A n)
  | 0 => by rw [show S_law_partitions A 0 = fun _ _ => .no from (ex_law_partitions A).choose_spec.1]; exact fn_none.mono (Nat.zero_le _)
  | n + 1 => by rw [S_law_partitions_eq]; exact fn_gc (w_law_partitions (k := 0 + n) T (d_law_partitions T n))
noncomputable def R_law_same (A : Nat → Addr) : Nat → FS
  | 0 => fun _ _ => .no
  | n + 1 => gc (runF N_law_same (m_law_same (R_law_same A n)))
theorem ex_law_same (A : Nat → Addr) : ∃ F : Nat → FS, F 0 = (fun _ _ => .no) ∧ ∀ n, F (n + 1) = gc (runF N_law_same (m_law_same (F n))) := ⟨R_law_same A, rfl, fun _ => rfl⟩
noncomputable def S_law_same (A : Nat → Addr) : Nat → FS := (ex_law_same A).choose
theorem S_law_same_eq (A : Nat → Addr) (n : Nat) : S_law_same A (n + 1) = gc (runF N_law_same (m_law_same (S_law_same A n))) := (ex_law_same A).choose_spec.2 n
theorem d_law_same (T : Txt P w base K mg A fd) : ∀ n, FnD P w K mg base (0 + n) (A 18) (fd 18) ["value", "due"] (S_law_same A n)
  | 0 => by rw [show S_law_same A 0 = fun _ _ => .no from (ex_law_same A).choose_spec.1]; exact fn_none.mono (Nat.zero_le _)
  | n + 1 => by rw [S_law_same_eq]; exact fn_gc (w_law_same (k := 0 + n) T (d_law_same T n))
theorem ex_law_cycles (A : Nat → Addr) : ∃ F : FS, F = gc (runF N_law_cycles (m_law_cycles)) := ⟨_, rfl⟩
noncomputable def S_law_cycles (A : Nat → Addr) : FS := (ex_law_cycles A).choose
theorem S_law_cycles_eq (A : Nat → Addr) : S_law_cycles A = gc (runF N_law_cycles (m_law_cycles)) := (ex_law_cycles A).choose_spec
noncomputable abbrev C_law_cycles_0 (A : Nat → Addr) : SB := c_law_cycles_0
noncomputable abbrev B_law_cycles_0 (A : Nat → Addr) : SS := b_law_cycles_0
noncomputable abbrev B_law_cycles_1 (A : Nat → Addr) : SS := b_law_cycles_1
theorem d_law_cycles (T : Txt P w base K mg A fd) : FnD P w K mg base 1 (A 24) (fd 24) ["p"] (S_law_cycles A) := by rw [S_law_cycles_eq]; exact fn_gc (w_law_cycles (k := 0) T)
theorem ex_law_type (A : Nat → Addr) : ∃ F : FS, F = gc (runF N_law_type (m_law_type (S_law_cycles A))) := ⟨_, rfl⟩
noncomputable def S_law_type (A : Nat → Addr) : FS := (ex_law_type A).choose
theorem S_law_type_eq (A : Nat → Addr) : S_law_type A = gc (runF N_law_type (m_law_type (S_law_cycles A))) := (ex_law_type A).choose_spec
noncomputable abbrev E_law_type_0 (A : Nat → Addr) : SE := e_law_type_0
theorem d_law_type (T : Txt P w base K mg A fd) : FnD P w K mg base 2 (A 25) (fd 25) ["p"] (S_law_type A) := by rw [S_law_type_eq]; exact fn_gc (w_law_type (k := 1) T ((d_law_cycles T).mono (by decide)))
theorem ex_law_factorial (A : Nat → Addr) : ∃ F : FS, F = gc (runF N_law_factorial (m_law_factorial)) := ⟨_, rfl⟩
noncomputable def S_law_factorial (A : Nat → Addr) : FS := (ex_law_factorial A).choose
theorem S_law_factorial_eq (A : Nat → Addr) : S_law_factorial A = gc (runF N_law_factorial (m_law_factorial)) := (ex_law_factorial A).choose_spec
noncomputable abbrev B_law_factorial_0 (A : Nat → Addr) : SS := b_law_factorial_0
theorem d_law_factorial (T : Txt P w base K mg A fd) : FnD P w K mg base 1 (A 26) (fd 26) ["n"] (S_law_factorial A) := by rw [S_law_factorial_eq]; exact fn_gc (w_law_factorial (k := 0) T)
theorem ex_is_integer (A : Nat → Addr) : ∃ F : FS, F = gc (runF N_is_integer (m_is_integer)) := ⟨_, rfl⟩
noncomputable def S_is_integer (A : Nat → Addr) : FS := (ex_is_integer A).choose
theorem S_is_integer_eq (A : Nat → Addr) : S_is_integer A = gc (runF N_is_integer (m_is_integer)) := (ex_is_integer A).choose_spec
theorem d_is_integer (T : Txt P w base K mg A fd) : FnD P w K mg base 1 (A 5) (fd 5) ["value"] (S_is_integer A) := by rw [S_is_integer_eq]; exact fn_gc (w_is_integer (k := 0) T)
theorem ex_is_partition (A : Nat → Addr) : ∃ F : FS, F = gc (runF N_is_partition (m_is_partition (S_is_integer A))) := ⟨_, rfl⟩
noncomputable def S_is_partition (A : Nat → Addr) : FS := (ex_is_partition A).choose
theorem S_is_partition_eq (A : Nat → Addr) : S_is_partition A = gc (runF N_is_partition (m_is_partition (S_is_integer A))) := (ex_is_partition A).choose_spec
noncomputable abbrev E_is_partition_0 (A : Nat → Addr) : SE := e_is_partition_0
noncomputable abbrev E_is_partition_1 (A : Nat → Addr) : SE := e_is_partition_1 (S_is_integer A)
theorem d_is_partition (T : Txt P w base K mg A fd) : FnD P w K mg base 2 (A 9) (fd 9) ["value"] (S_is_partition A) := by rw [S_is_partition_eq]; exact fn_gc (w_is_partition (k := 1) T ((d_is_integer T).mono (by decide)))
theorem ex_check_partition (A : Nat → Addr) : ∃ F : FS, F = gc (runF N_check_partition (m_check_partition A (S_is_partition A))) := ⟨_, rfl⟩
noncomputable def S_check_partition (A : Nat → Addr) : FS := (ex_check_partition A).choose
theorem S_check_partition_eq (A : Nat → Addr) : S_check_partition A = gc (runF N_check_partition (m_check_partition A (S_is_partition A))) := (ex_check_partition A).choose_spec
theorem d_check_partition (T : Txt P w base K mg A fd) : FnD P w K mg base 3 (A 10) (fd 10) ["mu"] (S_check_partition A) := by rw [S_check_partition_eq]; exact fn_gc (w_check_partition (k := 2) T ((d_is_partition T).mono (by decide)))
theorem ex_factorial_of (A : Nat → Addr) : ∃ F : FS, F = gc (runF N_factorial_of (m_factorial_of)) := ⟨_, rfl⟩
noncomputable def S_factorial_of (A : Nat → Addr) : FS := (ex_factorial_of A).choose
theorem S_factorial_of_eq (A : Nat → Addr) : S_factorial_of A = gc (runF N_factorial_of (m_factorial_of)) := (ex_factorial_of A).choose_spec
noncomputable abbrev B_factorial_of_0 (A : Nat → Addr) : SS := b_factorial_of_0
theorem d_factorial_of (T : Txt P w base K mg A fd) : FnD P w K mg base 1 (A 7) (fd 7) ["n"] (S_factorial_of A) := by rw [S_factorial_of_eq]; exact fn_gc (w_factorial_of (k := 0) T)
theorem ex_counts_of (A : Nat → Addr) : ∃ F : FS, F = gc (runF N_counts_of (m_counts_of)) := ⟨_, rfl⟩
noncomputable def S_counts_of (A : Nat → Addr) : FS := (ex_counts_of A).choose
theorem S_counts_of_eq (A : Nat → Addr) : S_counts_of A = gc (runF N_counts_of (m_counts_of)) := (ex_counts_of A).choose_spec
noncomputable abbrev B_counts_of_0 (A : Nat → Addr) : SS := b_counts_of_0
theorem d_counts_of (T : Txt P w base K mg A fd) : FnD P w K mg base 1 (A 11) (fd 11) ["mu"] (S_counts_of A) := by rw [S_counts_of_eq]; exact fn_gc (w_counts_of (k := 0) T)
theorem ex_raised_to (A : Nat → Addr) : ∃ F : FS, F = gc (runF N_raised_to (m_raised_to)) := ⟨_, rfl⟩
noncomputable def S_raised_to (A : Nat → Addr) : FS := (ex_raised_to A).choose
theorem S_raised_to_eq (A : Nat → Addr) : S_raised_to A = gc (runF N_raised_to (m_raised_to)) := (ex_raised_to A).choose_spec
noncomputable abbrev C_raised_to_0 (A : Nat → Addr) : SB := c_raised_to_0
noncomputable abbrev B_raised_to_0 (A : Nat → Addr) : SS := b_raised_to_0
theorem d_raised_to (T : Txt P w base K mg A fd) : FnD P w K mg base 1 (A 6) (fd 6) ["a", "e"] (S_raised_to A) := by rw [S_raised_to_eq]; exact fn_gc (w_raised_to (k := 0) T)
theorem ex_centralizer_order (A : Nat → Addr) : ∃ F : FS, F = gc (runF N_centralizer_order (m_centralizer_order (S_check_partition A) (S_counts_of A) (S_factorial_of A) (S_raised_to A))) := ⟨_, rfl⟩
noncomputable def S_centralizer_order (A : Nat → Addr) : FS := (ex_centralizer_order A).choose
theorem S_centralizer_order_eq (A : Nat → Addr) : S_centralizer_order A = gc (runF N_centralizer_order (m_centralizer_order (S_check_partition A) (S_counts_of A) (S_factorial_of A) (S_raised_to A))) := (ex_centralizer_order A).choose_spec
noncomputable abbrev B_centralizer_order_0 (A : Nat → Addr) : SS := b_centralizer_order_0 (S_raised_to A) (S_factorial_of A)
theorem d_centralizer_order (T : Txt P w base K mg A fd) : FnD P w K mg base 4 (A 13) (fd 13) ["mu"] (S_centralizer_order A) := by rw [S_centralizer_order_eq]; exact fn_gc (w_centralizer_order (k := 3) T ((d_check_partition T).mono (by decide)) ((d_counts_of T).mono (by decide)) ((d_factorial_of T).mono (by decide)) ((d_raised_to T).mono (by decide)))
theorem ex_class_size (A : Nat → Addr) : ∃ F : FS, F = gc (runF N_class_size (m_class_size (S_check_partition A) (S_factorial_of A) (S_centralizer_order A))) := ⟨_, rfl⟩
noncomputable def S_class_size (A : Nat → Addr) : FS := (ex_class_size A).choose
theorem S_class_size_eq (A : Nat → Addr) : S_class_size A = gc (runF N_class_size (m_class_size (S_check_partition A) (S_factorial_of A) (S_centralizer_order A))) := (ex_class_size A).choose_spec
theorem d_class_size (T : Txt P w base K mg A fd) : FnD P w K mg base 5 (A 14) (fd 14) ["mu"] (S_class_size A) := by rw [S_class_size_eq]; exact fn_gc (w_class_size (k := 4) T ((d_check_partition T).mono (by decide)) ((d_factorial_of T).mono (by decide)) ((d_centralizer_order T).mono (by decide)))
theorem ex_law_due (A : Nat → Addr) : ∃ F : FS, F = gc (runF N_law_due (m_law_due (S_law_factorial A))) := ⟨_, rfl⟩
noncomputable def S_law_due (A : Nat → Addr) : FS := (ex_law_due A).choose
theorem S_law_due_eq (A : Nat → Addr) : S_law_due A = gc (runF N_law_due (m_law_due (S_law_factorial A))) := (ex_law_due A).choose_spec
noncomputable abbrev B_law_due_0 (A : Nat → Addr) : SS := b_law_due_0
noncomputable abbrev B_law_due_1 (A : Nat → Addr) : SS := b_law_due_1 (S_law_factorial A)
theorem d_law_due (T : Txt P w base K mg A fd) : FnD P w K mg base 2 (A 27) (fd 27) ["mu"] (S_law_due A) := by rw [S_law_due_eq]; exact fn_gc (w_law_due (k := 1) T ((d_law_factorial T).mono (by decide)))
theorem ex_repeat_number (A : Nat → Addr) : ∃ F : FS, F = gc (runF N_repeat_number (m_repeat_number (S_check_partition A) (S_counts_of A) (S_factorial_of A))) := ⟨_, rfl⟩
noncomputable def S_repeat_number (A : Nat → Addr) : FS := (ex_repeat_number A).choose
theorem S_repeat_number_eq (A : Nat → Addr) : S_repeat_number A = gc (runF N_repeat_number (m_repeat_number (S_check_partition A) (S_counts_of A) (S_factorial_of A))) := (ex_repeat_number A).choose_spec
noncomputable abbrev B_repeat_number_0 (A : Nat → Addr) : SS := b_repeat_number_0 (S_factorial_of A)
theorem d_repeat_number (T : Txt P w base K mg A fd) : FnD P w K mg base 4 (A 12) (fd 12) ["mu"] (S_repeat_number A) := by rw [S_repeat_number_eq]; exact fn_gc (w_repeat_number (k := 3) T ((d_check_partition T).mono (by decide)) ((d_counts_of T).mono (by decide)) ((d_factorial_of T).mono (by decide)))
noncomputable def tab_law_told (A : Nat → Addr) : Addr → Option (Nat × FS) := fun a => if a = A 12 then some (1, S_repeat_number A) else if a = A 13 then some (1, S_centralizer_order A) else if a = A 14 then some (1, S_class_size A) else none
theorem TB_law_told (T : Txt P w base K mg A fd) : TabOk P w K mg base 5 (tab_law_told A) := by
  intro f n fs h
  unfold tab_law_told at h
  split at h
  · rename_i e; cases h; subst e; exact ⟨fd 12, ["mu"], rfl, (d_repeat_number T).mono (by decide), T.F_repeat_number.kp, b_repeat_number T⟩
  split at h
  · rename_i e; cases h; subst e; exact ⟨fd 13, ["mu"], rfl, (d_centralizer_order T).mono (by decide), T.F_centralizer_order.kp, b_centralizer_order T⟩
  split at h
  · rename_i e; cases h; subst e; exact ⟨fd 14, ["mu"], rfl, (d_class_size T).mono (by decide), T.F_class_size.kp, b_class_size T⟩
  · cases h
theorem ex_law_told (A : Nat → Addr) : ∃ F : FS, F = gc (runF N_law_told (m_law_told A (tab_law_told A))) := ⟨_, rfl⟩
noncomputable def S_law_told (A : Nat → Addr) : FS := (ex_law_told A).choose
theorem S_law_told_eq (A : Nat → Addr) : S_law_told A = gc (runF N_law_told (m_law_told A (tab_law_told A))) := (ex_law_told A).choose_spec
theorem d_law_told (T : Txt P w base K mg A fd) : FnD P w K mg base 6 (A 19) (fd 19) ["f", "given"] (S_law_told A) := by rw [S_law_told_eq]; exact fn_gc (w_law_told (k := 5) T (TB_law_told T))
theorem ex_law_is_told (A : Nat → Addr) : ∃ F : FS, F = gc (runF N_law_is_told (m_law_is_told (S_law_same A 4))) := ⟨_, rfl⟩
noncomputable def S_law_is_told (A : Nat → Addr) : FS := (ex_law_is_told A).choose
theorem S_law_is_told_eq (A : Nat → Addr) : S_law_is_told A = gc (runF N_law_is_told (m_law_is_told (S_law_same A 4))) := (ex_law_is_told A).choose_spec
theorem d_law_is_told (T : Txt P w base K mg A fd) : FnD P w K mg base 5 (A 20) (fd 20) ["pair", "due"] (S_law_is_told A) := by rw [S_law_is_told_eq]; exact fn_gc (w_law_is_told (k := 4) T ((d_law_same T 4).mono (by decide)))
theorem ex_law_holds (A : Nat → Addr) : ∃ F : FS, F = gc (runF N_law_holds (m_law_holds A (S_law_due A) (S_law_told A) (S_law_is_told A) (S_law_factorial A))) := ⟨_, rfl⟩
noncomputable def S_law_holds (A : Nat → Addr) : FS := (ex_law_holds A).choose
theorem S_law_holds_eq (A : Nat → Addr) : S_law_holds A = gc (runF N_law_holds (m_law_holds A (S_law_due A) (S_law_told A) (S_law_is_told A) (S_law_factorial A))) := (ex_law_holds A).choose_spec
theorem d_law_holds (T : Txt P w base K mg A fd) : FnD P w K mg base 7 (A 28) (fd 28) ["mu"] (S_law_holds A) := by rw [S_law_holds_eq]; exact fn_gc (w_law_holds (k := 6) T ((d_law_due T).mono (by decide)) ((d_law_told T).mono (by decide)) ((d_law_is_told T).mono (by decide)) ((d_law_factorial T).mono (by decide)))
theorem ex_law_is_raised (A : Nat → Addr) : ∃ F : FS, F = gc (runF N_law_is_raised (m_law_is_raised (S_law_same A 4))) := ⟨_, rfl⟩
noncomputable def S_law_is_raised (A : Nat → Addr) : FS := (ex_law_is_raised A).choose
theorem S_law_is_raised_eq (A : Nat → Addr) : S_law_is_raised A = gc (runF N_law_is_raised (m_law_is_raised (S_law_same A 4))) := (ex_law_is_raised A).choose_spec
theorem d_law_is_raised (T : Txt P w base K mg A fd) : FnD P w K mg base 5 (A 21) (fd 21) ["pair", "reason"] (S_law_is_raised A) := by rw [S_law_is_raised_eq]; exact fn_gc (w_law_is_raised (k := 4) T ((d_law_same T 4).mono (by decide)))
theorem ex_law (A : Nat → Addr) : ∃ F : FS, F = gc (runF N_law (m_law A (S_law_state A) (S_law_take A) (S_law_every A) (S_law_partitions A 18) (S_law_same A 4) (S_law_type A) (S_law_factorial A) (S_class_size A) (S_law_holds A) (S_law_is_told A) (S_law_is_raised A) (S_law_told A))) := ⟨_, rfl⟩
noncomputable def S_law (A : Nat → Addr) : FS := (ex_law A).choose
theorem S_law_eq (A : Nat → Addr) : S_law A = gc (runF N_law (m_law A (S_law_state A) (S_law_take A) (S_law_every A) (S_law_partitions A 18) (S_law_same A 4) (S_law_type A) (S_law_factorial A) (S_class_size A) (S_law_holds A) (S_law_is_told A) (S_law_is_raised A) (S_law_told A))) := (ex_law A).choose_spec
noncomputable abbrev B_law_0 (A : Nat → Addr) : SS := b_law_0 (S_law_is_raised A) (S_law_told A)
noncomputable abbrev B_law_1 (A : Nat → Addr) : SS := b_law_1 A (S_law_is_raised A) (S_law_told A)
noncomputable abbrev E_law_0 (A : Nat → Addr) : SE := e_law_0 (S_law_take A)
noncomputable abbrev B_law_2 (A : Nat → Addr) : SS := b_law_2 (S_law_holds A) (S_law_take A)
noncomputable abbrev E_law_1 (A : Nat → Addr) : SE := e_law_1 (S_class_size A)
noncomputable abbrev B_law_3 (A : Nat → Addr) : SS := b_law_3 A (S_law_is_told A) (S_law_told A) (S_law_holds A)
noncomputable abbrev B_law_4 (A : Nat → Addr) : SS := b_law_4 (S_law_type A)
theorem d_law (T : Txt P w base K mg A fd) : FnD P w K mg base 19 (A 29) (fd 29) ["script"] (S_law A) := by rw [S_law_eq]; exact fn_gc (w_law (k := 18) T ((d_law_state T).mono (by decide)) ((d_law_take T).mono (by decide)) ((d_law_every T).mono (by decide)) ((d_law_partitions T 18).mono (by decide)) ((d_law_same T 4).mono (by decide)) ((d_law_type T).mono (by decide)) ((d_law_factorial T).mono (by decide)) ((d_class_size T).mono (by decide)) ((d_law_holds T).mono (by decide)) ((d_law_is_told T).mono (by decide)) ((d_law_is_raised T).mono (by decide)) ((d_law_told T).mono (by decide)))
end
theorem all_mk {l : PySem.W.OpenLaw} {w : World} {K : PySem.W.Frag} {h : Heap} {mg : Str → Option Value} {fa : Addr}
    {f2 f3 f5 f6 f7 f9 f10 f11 f12 f13 f14 f16 f17 f18 f19 f20 f21 f22 f23 f24 f25 f26 f27 f28 f29 : Addr}
    {od16 an16 : Option Addr} {sl16 : Array (Option Value)} {oc16 kV16 dc16 pm16 cd16 ct16 : Value}
    {od17 an17 : Option Addr} {sl17 : Array (Option Value)} {oc17 kV17 dc17 pm17 cd17 ct17 : Value}
    {od23 an23 : Option Addr} {sl23 : Array (Option Value)} {oc23 kV23 dc23 pm23 cd23 ct23 : Value}
    {od22 an22 : Option Addr} {sl22 : Array (Option Value)} {oc22 kV22 dc22 pm22 cd22 ct22 : Value}
    {od18 an18 : Option Addr} {sl18 : Array (Option Value)} {oc18 kV18 dc18 pm18 cd18 ct18 : Value}
    {od24 an24 : Option Addr} {sl24 : Array (Option Value)} {oc24 kV24 dc24 pm24 cd24 ct24 : Value}
    {od25 an25 : Option Addr} {sl25 : Array (Option Value)} {oc25 kV25 dc25 pm25 cd25 ct25 : Value}
    {od26 an26 : Option Addr} {sl26 : Array (Option Value)} {oc26 kV26 dc26 pm26 cd26 ct26 : Value}
    {od5 an5 : Option Addr} {sl5 : Array (Option Value)} {oc5 kV5 dc5 pm5 cd5 ct5 : Value}
    {od9 an9 : Option Addr} {sl9 : Array (Option Value)} {oc9 kV9 dc9 pm9 cd9 ct9 : Value}
    {od10 an10 : Option Addr} {sl10 : Array (Option Value)} {oc10 kV10 dc10 pm10 cd10 ct10 : Value}
    {od7 an7 : Option Addr} {sl7 : Array (Option Value)} {oc7 kV7 dc7 pm7 cd7 ct7 : Value}
    {od11 an11 : Option Addr} {sl11 : Array (Option Value)} {oc11 kV11 dc11 pm11 cd11 ct11 : Value}
    {od6 an6 : Option Addr} {sl6 : Array (Option Value)} {oc6 kV6 dc6 pm6 cd6 ct6 : Value}
    {od13 an13 : Option Addr} {sl13 : Array (Option Value)} {oc13 kV13 dc13 pm13 cd13 ct13 : Value}
    {od14 an14 : Option Addr} {sl14 : Array (Option Value)} {oc14 kV14 dc14 pm14 cd14 ct14 : Value}
    {od27 an27 : Option Addr} {sl27 : Array (Option Value)} {oc27 kV27 dc27 pm27 cd27 ct27 : Value}
    {od12 an12 : Option Addr} {sl12 : Array (Option Value)} {oc12 kV12 dc12 pm12 cd12 ct12 : Value}
    {od19 an19 : Option Addr} {sl19 : Array (Option Value)} {oc19 kV19 dc19 pm19 cd19 ct19 : Value}
    {od20 an20 : Option Addr} {sl20 : Array (Option Value)} {oc20 kV20 dc20 pm20 cd20 ct20 : Value}
    {od28 an28 : Option Addr} {sl28 : Array (Option Value)} {oc28 kV28 dc28 pm28 cd28 ct28 : Value}
    {od21 an21 : Option Addr} {sl21 : Array (Option Value)} {oc21 kV21 dc21 pm21 cd21 ct21 : Value}
    {od29 an29 : Option Addr} {sl29 : Array (Option Value)} {oc29 kV29 dc29 pm29 cd29 ct29 : Value} (X : K.In h) (G : h.Ns mainGlobals mg) (hfa : mg "law" = some (.ref fa))
    (a16 : PySem.W.nsIn K mainGlobals "_law_state" = some (some (.ref f16))) (l16 : K.lookup f16 = some ⟨oc16, od16, .func (PySem.W.fnOf "_law_state" "_law_state" (defArgs s_law_state) (defBody s_law_state) (defScope s_law_state) .none kV16 dc16 pm16 an16 cd16 ct16), sl16⟩) (c16 : PySem.W.codeIn K cd16 "_law_state" = true) (k16 : PySem.W.keepIn K (.ref f16) = true)
    (a17 : PySem.W.nsIn K mainGlobals "_law_take" = some (some (.ref f17))) (l17 : K.lookup f17 = some ⟨oc17, od17, .func (PySem.W.fnOf "_law_take" "_law_take" (defArgs s_law_take) (defBody s_law_take) (defScope s_law_take) .none kV17 dc17 pm17 an17 cd17 ct17), sl17⟩) (c17 : PySem.W.codeIn K cd17 "_law_take" = true) (k17 : PySem.W.keepIn K (.ref f17) = true)
    (a23 : PySem.W.nsIn K mainGlobals "_law_every" = some (some (.ref f23))) (l23 : K.lookup f23 = some ⟨oc23, od23, .func (PySem.W.fnOf "_law_every" "_law_every" (defArgs s_law_every) (defBody s_law_every) (defScope s_law_every) .none kV23 dc23 pm23 an23 cd23 ct23), sl23⟩) (c23 : PySem.W.codeIn K cd23 "_law_every" = true) (k23 : PySem.W.keepIn K (.ref f23) = true)
    (a22 : PySem.W.nsIn K mainGlobals "_law_partitions" = some (some (.ref f22))) (l22 : K.lookup f22 = some ⟨oc22, od22, .func (PySem.W.fnOf "_law_partitions" "_law_partitions" (defArgs s_law_partitions) (defBody s_law_partitions) (defScope s_law_partitions) .none kV22 dc22 pm22 an22 cd22 ct22), sl22⟩) (c22 : PySem.W.codeIn K cd22 "_law_partitions" = true) (k22 : PySem.W.keepIn K (.ref f22) = true)
    (a18 : PySem.W.nsIn K mainGlobals "_law_same" = some (some (.ref f18))) (l18 : K.lookup f18 = some ⟨oc18, od18, .func (PySem.W.fnOf "_law_same" "_law_same" (defArgs s_law_same) (defBody s_law_same) (defScope s_law_same) .none kV18 dc18 pm18 an18 cd18 ct18), sl18⟩) (c18 : PySem.W.codeIn K cd18 "_law_same" = true) (k18 : PySem.W.keepIn K (.ref f18) = true)
    (a24 : PySem.W.nsIn K mainGlobals "_law_cycles" = some (some (.ref f24))) (l24 : K.lookup f24 = some ⟨oc24, od24, .func (PySem.W.fnOf "_law_cycles" "_law_cycles" (defArgs s_law_cycles) (defBody s_law_cycles) (defScope s_law_cycles) .none kV24 dc24 pm24 an24 cd24 ct24), sl24⟩) (c24 : PySem.W.codeIn K cd24 "_law_cycles" = true) (k24 : PySem.W.keepIn K (.ref f24) = true)
    (a25 : PySem.W.nsIn K mainGlobals "_law_type" = some (some (.ref f25))) (l25 : K.lookup f25 = some ⟨oc25, od25, .func (PySem.W.fnOf "_law_type" "_law_type" (defArgs s_law_type) (defBody s_law_type) (defScope s_law_type) .none kV25 dc25 pm25 an25 cd25 ct25), sl25⟩) (c25 : PySem.W.codeIn K cd25 "_law_type" = true) (k25 : PySem.W.keepIn K (.ref f25) = true)
    (a26 : PySem.W.nsIn K mainGlobals "_law_factorial" = some (some (.ref f26))) (l26 : K.lookup f26 = some ⟨oc26, od26, .func (PySem.W.fnOf "_law_factorial" "_law_factorial" (defArgs s_law_factorial) (defBody s_law_factorial) (defScope s_law_factorial) .none kV26 dc26 pm26 an26 cd26 ct26), sl26⟩) (c26 : PySem.W.codeIn K cd26 "_law_factorial" = true) (k26 : PySem.W.keepIn K (.ref f26) = true)
    (a5 : PySem.W.nsIn K mainGlobals "is_integer" = some (some (.ref f5))) (l5 : K.lookup f5 = some ⟨oc5, od5, .func (PySem.W.fnOf "is_integer" "is_integer" (defArgs s_is_integer) (defBody s_is_integer) (defScope s_is_integer) .none kV5 dc5 pm5 an5 cd5 ct5), sl5⟩) (c5 : PySem.W.codeIn K cd5 "is_integer" = true) (k5 : PySem.W.keepIn K (.ref f5) = true)
    (a9 : PySem.W.nsIn K mainGlobals "is_partition" = some (some (.ref f9))) (l9 : K.lookup f9 = some ⟨oc9, od9, .func (PySem.W.fnOf "is_partition" "is_partition" (defArgs s_is_partition) (defBody s_is_partition) (defScope s_is_partition) .none kV9 dc9 pm9 an9 cd9 ct9), sl9⟩) (c9 : PySem.W.codeIn K cd9 "is_partition" = true) (k9 : PySem.W.keepIn K (.ref f9) = true)
    (a10 : PySem.W.nsIn K mainGlobals "check_partition" = some (some (.ref f10))) (l10 : K.lookup f10 = some ⟨oc10, od10, .func (PySem.W.fnOf "check_partition" "check_partition" (defArgs s_check_partition) (defBody s_check_partition) (defScope s_check_partition) .none kV10 dc10 pm10 an10 cd10 ct10), sl10⟩) (c10 : PySem.W.codeIn K cd10 "check_partition" = true) (k10 : PySem.W.keepIn K (.ref f10) = true)
    (a7 : PySem.W.nsIn K mainGlobals "factorial_of" = some (some (.ref f7))) (l7 : K.lookup f7 = some ⟨oc7, od7, .func (PySem.W.fnOf "factorial_of" "factorial_of" (defArgs s_factorial_of) (defBody s_factorial_of) (defScope s_factorial_of) .none kV7 dc7 pm7 an7 cd7 ct7), sl7⟩) (c7 : PySem.W.codeIn K cd7 "factorial_of" = true) (k7 : PySem.W.keepIn K (.ref f7) = true)
    (a11 : PySem.W.nsIn K mainGlobals "counts_of" = some (some (.ref f11))) (l11 : K.lookup f11 = some ⟨oc11, od11, .func (PySem.W.fnOf "counts_of" "counts_of" (defArgs s_counts_of) (defBody s_counts_of) (defScope s_counts_of) .none kV11 dc11 pm11 an11 cd11 ct11), sl11⟩) (c11 : PySem.W.codeIn K cd11 "counts_of" = true) (k11 : PySem.W.keepIn K (.ref f11) = true)
    (a6 : PySem.W.nsIn K mainGlobals "raised_to" = some (some (.ref f6))) (l6 : K.lookup f6 = some ⟨oc6, od6, .func (PySem.W.fnOf "raised_to" "raised_to" (defArgs s_raised_to) (defBody s_raised_to) (defScope s_raised_to) .none kV6 dc6 pm6 an6 cd6 ct6), sl6⟩) (c6 : PySem.W.codeIn K cd6 "raised_to" = true) (k6 : PySem.W.keepIn K (.ref f6) = true)
    (a13 : PySem.W.nsIn K mainGlobals "centralizer_order" = some (some (.ref f13))) (l13 : K.lookup f13 = some ⟨oc13, od13, .func (PySem.W.fnOf "centralizer_order" "centralizer_order" (defArgs s_centralizer_order) (defBody s_centralizer_order) (defScope s_centralizer_order) .none kV13 dc13 pm13 an13 cd13 ct13), sl13⟩) (c13 : PySem.W.codeIn K cd13 "centralizer_order" = true) (k13 : PySem.W.keepIn K (.ref f13) = true)
    (a14 : PySem.W.nsIn K mainGlobals "class_size" = some (some (.ref f14))) (l14 : K.lookup f14 = some ⟨oc14, od14, .func (PySem.W.fnOf "class_size" "class_size" (defArgs s_class_size) (defBody s_class_size) (defScope s_class_size) .none kV14 dc14 pm14 an14 cd14 ct14), sl14⟩) (c14 : PySem.W.codeIn K cd14 "class_size" = true) (k14 : PySem.W.keepIn K (.ref f14) = true)
    (a27 : PySem.W.nsIn K mainGlobals "_law_due" = some (some (.ref f27))) (l27 : K.lookup f27 = some ⟨oc27, od27, .func (PySem.W.fnOf "_law_due" "_law_due" (defArgs s_law_due) (defBody s_law_due) (defScope s_law_due) .none kV27 dc27 pm27 an27 cd27 ct27), sl27⟩) (c27 : PySem.W.codeIn K cd27 "_law_due" = true) (k27 : PySem.W.keepIn K (.ref f27) = true)
    (a12 : PySem.W.nsIn K mainGlobals "repeat_number" = some (some (.ref f12))) (l12 : K.lookup f12 = some ⟨oc12, od12, .func (PySem.W.fnOf "repeat_number" "repeat_number" (defArgs s_repeat_number) (defBody s_repeat_number) (defScope s_repeat_number) .none kV12 dc12 pm12 an12 cd12 ct12), sl12⟩) (c12 : PySem.W.codeIn K cd12 "repeat_number" = true) (k12 : PySem.W.keepIn K (.ref f12) = true)
    (a19 : PySem.W.nsIn K mainGlobals "_law_told" = some (some (.ref f19))) (l19 : K.lookup f19 = some ⟨oc19, od19, .func (PySem.W.fnOf "_law_told" "_law_told" (defArgs s_law_told) (defBody s_law_told) (defScope s_law_told) .none kV19 dc19 pm19 an19 cd19 ct19), sl19⟩) (c19 : PySem.W.codeIn K cd19 "_law_told" = true) (k19 : PySem.W.keepIn K (.ref f19) = true)
    (a20 : PySem.W.nsIn K mainGlobals "_law_is_told" = some (some (.ref f20))) (l20 : K.lookup f20 = some ⟨oc20, od20, .func (PySem.W.fnOf "_law_is_told" "_law_is_told" (defArgs s_law_is_told) (defBody s_law_is_told) (defScope s_law_is_told) .none kV20 dc20 pm20 an20 cd20 ct20), sl20⟩) (c20 : PySem.W.codeIn K cd20 "_law_is_told" = true) (k20 : PySem.W.keepIn K (.ref f20) = true)
    (a28 : PySem.W.nsIn K mainGlobals "_law_holds" = some (some (.ref f28))) (l28 : K.lookup f28 = some ⟨oc28, od28, .func (PySem.W.fnOf "_law_holds" "_law_holds" (defArgs s_law_holds) (defBody s_law_holds) (defScope s_law_holds) .none kV28 dc28 pm28 an28 cd28 ct28), sl28⟩) (c28 : PySem.W.codeIn K cd28 "_law_holds" = true) (k28 : PySem.W.keepIn K (.ref f28) = true)
    (a21 : PySem.W.nsIn K mainGlobals "_law_is_raised" = some (some (.ref f21))) (l21 : K.lookup f21 = some ⟨oc21, od21, .func (PySem.W.fnOf "_law_is_raised" "_law_is_raised" (defArgs s_law_is_raised) (defBody s_law_is_raised) (defScope s_law_is_raised) .none kV21 dc21 pm21 an21 cd21 ct21), sl21⟩) (c21 : PySem.W.codeIn K cd21 "_law_is_raised" = true) (k21 : PySem.W.keepIn K (.ref f21) = true)
    (a29 : PySem.W.nsIn K mainGlobals "law" = some (some (.ref f29))) (l29 : K.lookup f29 = some ⟨oc29, od29, .func (PySem.W.fnOf "law" "law" (defArgs s_law) (defBody s_law) (defScope s_law) .none kV29 dc29 pm29 an29 cd29 ct29), sl29⟩) (c29 : PySem.W.codeIn K cd29 "law" = true) (k29 : PySem.W.keepIn K (.ref f29) = true)
    (z_abs : PySem.W.nsIn K mainGlobals "abs" = some none)
    (z_all : PySem.W.nsIn K mainGlobals "all" = some none)
    (z_bool : PySem.W.nsIn K mainGlobals "bool" = some none)
    (z_int : PySem.W.nsIn K mainGlobals "int" = some none)
    (z_isinstance : PySem.W.nsIn K mainGlobals "isinstance" = some none)
    (z_len : PySem.W.nsIn K mainGlobals "len" = some none)
    (z_list : PySem.W.nsIn K mainGlobals "list" = some none)
    (z_min : PySem.W.nsIn K mainGlobals "min" = some none)
    (z_range : PySem.W.nsIn K mainGlobals "range" = some none)
    (z_set : PySem.W.nsIn K mainGlobals "set" = some none)
    (z_sorted : PySem.W.nsIn K mainGlobals "sorted" = some none)
    (z_str : PySem.W.nsIn K mainGlobals "str" = some none)
    (z_sum : PySem.W.nsIn K mainGlobals "sum" = some none)
    (z_tuple : PySem.W.nsIn K mainGlobals "tuple" = some none)
    (a2 : PySem.W.nsIn K mainGlobals "Malformed" = some (some (.ref f2))) (q2 : PySem.W.excIn K f2 [.type "ValueError", .type "Exception", .type "BaseException", .type "object"] "ValueError.__new__" = true) (k2 : PySem.W.keepIn K (.ref f2) = true) (b2 : PySem.W.subIn K (.ref f2) (.type "BaseException") = some true) (t2 : PySem.W.typeIn K (.ref f2) = some (.type "type"))
    (a3 : PySem.W.nsIn K mainGlobals "Refused" = some (some (.ref f3))) (k3 : PySem.W.keepIn K (.ref f3) = true) (b3 : PySem.W.subIn K (.ref f3) (.type "BaseException") = some true) (t3 : PySem.W.typeIn K (.ref f3) = some (.type "type"))
    (i2 : PySem.W.isClsIn K f2 = true)
    (s2_2 : PySem.W.subIn K (.ref f2) (.ref f2) = some true)
    (s2_3 : PySem.W.subIn K (.ref f2) (.ref f3) = some false)
    (i3 : PySem.W.isClsIn K f3 = true)
    (s3_2 : PySem.W.subIn K (.ref f3) (.ref f2) = some false)
    (s3_3 : PySem.W.subIn K (.ref f3) (.ref f3) = some true)
    (h_law : ∀ (A : Nat → Addr), (A 2 ≠ A 3 ∧ A 12 ≠ A 13 ∧ A 12 ≠ A 14 ∧ A 13 ≠ A 14) → ∀ ns : List Int, ns.length ≤ 63 → ∃ st', S_law A [.lst (ns.map D.int)] [] = .ok (.bl true) st')
    (hne : f2 ≠ f3 ∧ f12 ≠ f13 ∧ f12 ≠ f14 ∧ f13 ≠ f14) :
    ∃ fd : FuncData, (∀ (s : Shared) (v : Value), BindsTo s fd ⟨[v], []⟩ [("script", v)]) ∧ ∀ base : Heap, K.In base → base.Ns mainGlobals mg → FnOk l.prog w K mg base (L2.CX l.prog w) 19 fa fd ["script"] (spLaw K) := by
  have e := hfa.symm.trans (PySem.W.mg_of X G a29)
  cases e
  letI : Fx.Mw := ⟨some w⟩
  have T : ∀ base : Heap, Txt l.prog w base K mg (fun i => ([0, 0, f2, f3, 0, f5, f6, f7, 0, f9, f10, f11, f12, f13, f14, 0, f16, f17, f18, f19, f20, f21, f22, f23, f24, f25, f26, f27, f28, fa] : List Addr).getD i 0) (fun i => ([(PySem.W.fnOf "law" "law" (defArgs s_law) (defBody s_law) (defScope s_law) .none kV29 dc29 pm29 an29 cd29 ct29), (PySem.W.fnOf "law" "law" (defArgs s_law) (defBody s_law) (defScope s_law) .none kV29 dc29 pm29 an29 cd29 ct29), (PySem.W.fnOf "law" "law" (defArgs s_law) (defBody s_law) (defScope s_law) .none kV29 dc29 pm29 an29 cd29 ct29), (PySem.W.fnOf "law" "law" (defArgs s_law) (defBody s_law) (defScope s_law) .none kV29 dc29 pm29 an29 cd29 ct29), (PySem.W.fnOf "law" "law" (defArgs s_law) (defBody s_law) (defScope s_law) .none kV29 dc29 pm29 an29 cd29 ct29), (PySem.W.fnOf "is_integer" "is_integer" (defArgs s_is_integer) (defBody s_is_integer) (defScope s_is_integer) .none kV5 dc5 pm5 an5 cd5 ct5), (PySem.W.fnOf "raised_to" "raised_to" (defArgs s_raised_to) (defBody s_raised_to) (defScope s_raised_to) .none kV6 dc6 pm6 an6 cd6 ct6), (PySem.W.fnOf "factorial_of" "factorial_of" (defArgs s_factorial_of) (defBody s_factorial_of) (defScope s_factorial_of) .none kV7 dc7 pm7 an7 cd7 ct7), (PySem.W.fnOf "law" "law" (defArgs s_law) (defBody s_law) (defScope s_law) .none kV29 dc29 pm29 an29 cd29 ct29), (PySem.W.fnOf "is_partition" "is_partition" (defArgs s_is_partition) (defBody s_is_partition) (defScope s_is_partition) .none kV9 dc9 pm9 an9 cd9 ct9), (PySem.W.fnOf "check_partition" "check_partition" (defArgs s_check_partition) (defBody s_check_partition) (defScope s_check_partition) .none kV10 dc10 pm10 an10 cd10 ct10), (PySem.W.fnOf "counts_of" "counts_of" (defArgs s_counts_of) (defBody s_counts_of) (defScope s_counts_of) .none kV11 dc11 pm11 an11 cd11 ct11), (PySem.W.fnOf "repeat_number" "repeat_number" (defArgs s_repeat_number) (defBody s_repeat_number) (defScope s_repeat_number) .none kV12 dc12 pm12 an12 cd12 ct12), (PySem.W.fnOf "centralizer_order" "centralizer_order" (defArgs s_centralizer_order) (defBody s_centralizer_order) (defScope s_centralizer_order) .none kV13 dc13 pm13 an13 cd13 ct13), (PySem.W.fnOf "class_size" "class_size" (defArgs s_class_size) (defBody s_class_size) (defScope s_class_size) .none kV14 dc14 pm14 an14 cd14 ct14), (PySem.W.fnOf "law" "law" (defArgs s_law) (defBody s_law) (defScope s_law) .none kV29 dc29 pm29 an29 cd29 ct29), (PySem.W.fnOf "_law_state" "_law_state" (defArgs s_law_state) (defBody s_law_state) (defScope s_law_state) .none kV16 dc16 pm16 an16 cd16 ct16), (PySem.W.fnOf "_law_take" "_law_take" (defArgs s_law_take) (defBody s_law_take) (defScope s_law_take) .none kV17 dc17 pm17 an17 cd17 ct17), (PySem.W.fnOf "_law_same" "_law_same" (defArgs s_law_same) (defBody s_law_same) (defScope s_law_same) .none kV18 dc18 pm18 an18 cd18 ct18), (PySem.W.fnOf "_law_told" "_law_told" (defArgs s_law_told) (defBody s_law_told) (defScope s_law_told) .none kV19 dc19 pm19 an19 cd19 ct19), (PySem.W.fnOf "_law_is_told" "_law_is_told" (defArgs s_law_is_told) (defBody s_law_is_told) (defScope s_law_is_told) .none kV20 dc20 pm20 an20 cd20 ct20), (PySem.W.fnOf "_law_is_raised" "_law_is_raised" (defArgs s_law_is_raised) (defBody s_law_is_raised) (defScope s_law_is_raised) .none kV21 dc21 pm21 an21 cd21 ct21), (PySem.W.fnOf "_law_partitions" "_law_partitions" (defArgs s_law_partitions) (defBody s_law_partitions) (defScope s_law_partitions) .none kV22 dc22 pm22 an22 cd22 ct22), (PySem.W.fnOf "_law_every" "_law_every" (defArgs s_law_every) (defBody s_law_every) (defScope s_law_every) .none kV23 dc23 pm23 an23 cd23 ct23), (PySem.W.fnOf "_law_cycles" "_law_cycles" (defArgs s_law_cycles) (defBody s_law_cycles) (defScope s_law_cycles) .none kV24 dc24 pm24 an24 cd24 ct24), (PySem.W.fnOf "_law_type" "_law_type" (defArgs s_law_type) (defBody s_law_type) (defScope s_law_type) .none kV25 dc25 pm25 an25 cd25 ct25), (PySem.W.fnOf "_law_factorial" "_law_factorial" (defArgs s_law_factorial) (defBody s_law_factorial) (defScope s_law_factorial) .none kV26 dc26 pm26 an26 cd26 ct26), (PySem.W.fnOf "_law_due" "_law_due" (defArgs s_law_due) (defBody s_law_due) (defScope s_law_due) .none kV27 dc27 pm27 an27 cd27 ct27), (PySem.W.fnOf "_law_holds" "_law_holds" (defArgs s_law_holds) (defBody s_law_holds) (defScope s_law_holds) .none kV28 dc28 pm28 an28 cd28 ct28), (PySem.W.fnOf "law" "law" (defArgs s_law) (defBody s_law) (defScope s_law) .none kV29 dc29 pm29 an29 cd29 ct29)] : List FuncData).getD i (PySem.W.fnOf "law" "law" (defArgs s_law) (defBody s_law) (defScope s_law) .none kV29 dc29 pm29 an29 cd29 ct29)) :=
    fun base =>
    { hw := rfl,
      m_law_state := PySem.W.mg_of X G a16,
      F_law_state := fun_mk (st := s_law_state) l16 c16 k16,
      m_law_take := PySem.W.mg_of X G a17,
      F_law_take := fun_mk (st := s_law_take) l17 c17 k17,
      m_law_every := PySem.W.mg_of X G a23,
      F_law_every := fun_mk (st := s_law_every) l23 c23 k23,
      m_law_partitions := PySem.W.mg_of X G a22,
      F_law_partitions := fun_mk (st := s_law_partitions) l22 c22 k22,
      m_law_same := PySem.W.mg_of X G a18,
      F_law_same := fun_mk (st := s_law_same) l18 c18 k18,
      m_law_cycles := PySem.W.mg_of X G a24,
      F_law_cycles := fun_mk (st := s_law_cycles) l24 c24 k24,
      m_law_type := PySem.W.mg_of X G a25,
      F_law_type := fun_mk (st := s_law_type) l25 c25 k25,
      m_law_factorial := PySem.W.mg_of X G a26,
      F_law_factorial := fun_mk (st := s_law_factorial) l26 c26 k26,
      m_is_integer := PySem.W.mg_of X G a5,
      F_is_integer := fun_mk (st := s_is_integer) l5 c5 k5,
      m_is_partition := PySem.W.mg_of X G a9,
      F_is_partition := fun_mk (st := s_is_partition) l9 c9 k9,
      m_check_partition := PySem.W.mg_of X G a10,
      F_check_partition := fun_mk (st := s_check_partition) l10 c10 k10,
      m_factorial_of := PySem.W.mg_of X G a7,
      F_factorial_of := fun_mk (st := s_factorial_of) l7 c7 k7,
      m_counts_of := PySem.W.mg_of X G a11,
      F_counts_of := fun_mk (st := s_counts_of) l11 c11 k11,
      m_raised_to := PySem.W.mg_of X G a6,
      F_raised_to := fun_mk (st := s_raised_to) l6 c6 k6,
      m_centralizer_order := PySem.W.mg_of X G a13,
      F_centralizer_order := fun_mk (st := s_centralizer_order) l13 c13 k13,
      m_class_size := PySem.W.mg_of X G a14,
      F_class_size := fun_mk (st := s_class_size) l14 c14 k14,
      m_law_due := PySem.W.mg_of X G a27,
      F_law_due := fun_mk (st := s_law_due) l27 c27 k27,
      m_repeat_number := PySem.W.mg_of X G a12,
      F_repeat_number := fun_mk (st := s_repeat_number) l12 c12 k12,
      m_law_told := PySem.W.mg_of X G a19,
      F_law_told := fun_mk (st := s_law_told) l19 c19 k19,
      m_law_is_told := PySem.W.mg_of X G a20,
      F_law_is_told := fun_mk (st := s_law_is_told) l20 c20 k20,
      m_law_holds := PySem.W.mg_of X G a28,
      F_law_holds := fun_mk (st := s_law_holds) l28 c28 k28,
      m_law_is_raised := PySem.W.mg_of X G a21,
      F_law_is_raised := fun_mk (st := s_law_is_raised) l21 c21 k21,
      m_law := PySem.W.mg_of X G a29,
      F_law := fun_mk (st := s_law) l29 c29 k29,
      z_abs := PySem.W.mg_none_of X G z_abs,
      z_all := PySem.W.mg_none_of X G z_all,
      z_bool := PySem.W.mg_none_of X G z_bool,
      z_int := PySem.W.mg_none_of X G z_int,
      z_isinstance := PySem.W.mg_none_of X G z_isinstance,
      z_len := PySem.W.mg_none_of X G z_len,
      z_list := PySem.W.mg_none_of X G z_list,
      z_min := PySem.W.mg_none_of X G z_min,
      z_range := PySem.W.mg_none_of X G z_range,
      z_set := PySem.W.mg_none_of X G z_set,
      z_sorted := PySem.W.mg_none_of X G z_sorted,
      z_str := PySem.W.mg_none_of X G z_str,
      z_sum := PySem.W.mg_none_of X G z_sum,
      z_tuple := PySem.W.mg_none_of X G z_tuple,
      m_Malformed := PySem.W.mg_of X G a2,
      q_Malformed := q2,
      k_Malformed := k2,
      b_Malformed := b2,
      t_Malformed := t2,
      m_Refused := PySem.W.mg_of X G a3,
      k_Refused := k3,
      b_Refused := b3,
      t_Refused := t3,
      ap := apart2 hne.1 (exm_own b2 i2 t2 b2 s2_2) (exm_own b3 i3 t3 b3 s3_3) (exm_own b2 i3 t3 b3 s2_3) (exm_own b3 i2 t2 b2 s3_2) }
  exact ⟨(PySem.W.fnOf "law" "law" (defArgs s_law) (defBody s_law) (defScope s_law) .none kV29 dc29 pm29 an29 cd29 ct29), fun s v => .of_eq rfl, fun base _ _ => law_imp (d_law (T base)) (h_law _ hne)⟩
end K02

set_option Elab.async false
set_option linter.all false
set_option maxRecDepth 100000
set_option maxHeartbeats 4000000
namespace K02
open PySem L2 Fx
variable {A : Nat → Addr} {d : Nat}
theorem is_integer_eq {x : D} {st : Store} (h : pl x = true) : S_is_integer A [x] st = .ok (.bl (isI x)) st := by
  rw [S_is_integer_eq]
  refine gc_ok [] (runF_rt ?_) (by simp [WfD])
  cases x <;> simp_all [m_is_integer, pl, isI, N_is_integer]
theorem take_eq {s t m : Int} {r : Store} (hs : 0 ≤ s) (hm : 0 < m) (hm2 : m < 1000000000) : ∃ v s' t' : Int, S_law_take A [.loc 0, .int m] (stt s t :: r) = .ok (.int v) (stt s' t' :: r) ∧ 0 ≤ v ∧ v < m ∧ 0 ≤ s' := by
  rw [S_law_take_eq]
  by_cases c : 0 < s
  · refine ⟨s % m, s / m, t, runF_rt ?_, Int.emod_nonneg _ (by omega), Int.emod_lt_of_pos _ hm, Int.ediv_nonneg hs (by omega)⟩
    simp [m_law_take, N_law_take, ix0, ix1, set0, set1, c, hm, divFits_of hm hm2]
  · refine ⟨((t * 48271 + 11) % 2147483647 / 7) % m, s, (t * 48271 + 11) % 2147483647, runF_rt ?_, Int.emod_nonneg _ (by omega), Int.emod_lt_of_pos _ hm, hs⟩
    simp [m_law_take, N_law_take, ix0, ix1, set0, set1, c, hm, divFits_of, mulFits_r]
theorem take_nat {s t : Int} {n : Nat} {r : Store} (hs : 0 ≤ s) (hn : 0 < n) (hn2 : n ≤ 1000) : ∃ (v : Nat) (s' t' : Int), S_law_take A [.loc 0, .int (n : Int)] (stt s t :: r) = .ok (.int (v : Int)) (stt s' t' :: r) ∧ v < n ∧ 0 ≤ s' := by
  obtain ⟨v, s', t', e, h0, h1, h2⟩ := take_eq (A := A) (s := s) (t := t) (m := n) (r := r) hs (by omega) (by omega)
  refine ⟨v.toNat, s', t', ?_, by omega, h2⟩
  rw [e, show ((v.toNat : Nat) : Int) = v by omega]
theorem state_eq (ns : List Int) : ∃ s t : Int, S_law_state A [.lst (ns.map D.int)] [] = .ok (.loc 0) [stt s t] ∧ 0 ≤ s := by
  have key := forS_ind (g := gN 3) (b := B_law_state_0 A)
    (P := fun ds τ st' => ∃ (s t : Int) (τ0 τ3 : Option D) (ns' : List Int), τ = [τ0, some (.int s), some (.int t), τ3] ∧ st' = [] ∧ ds = ns'.map D.int ∧ 0 ≤ s)
    (fun y ys τ st' ⟨s, t, τ0, τ3, ns', e1, e2, e3, hs⟩ => by
      subst e1 e2
      cases ns' with
      | nil => simp at e3
      | cons n ns' =>
        simp only [List.map_cons, List.cons.injEq] at e3
        obtain ⟨rfl, rfl⟩ := e3
        refine ⟨_, rfl, _, _, .inl ?_, s * 1000003 + (if n < 0 then -n else n), (t * 48271 + n) % 2147483647, τ0, some (.int n), ns', rfl, rfl, rfl, by split <;> omega⟩
        simp [b_law_state_0, mulFits_r])
    (cutD (ns.map D.int) none (some 63)) [some (.lst (ns.map D.int)), some (.int 0), some (.int 1), none] [] ⟨0, 1, _, _, ns.take 63, rfl, rfl, by
      unfold cutD
      rw [HT.sIx_none, List.drop_zero, show (some (63 : Int)) = some ((63 : Nat) : Int) from rfl, HT.sIx_nat, Nat.sub_zero, List.map_take]
      rw [List.length_map]
      rcases Nat.le_total 63 ns.length with h | h
      · rw [Nat.min_eq_left h]
      · rw [Nat.min_eq_right h, List.take_of_length_le (by simp), List.take_of_length_le (by simpa using h)], by omega⟩
  obtain ⟨τ', st', e, s, t, τ0, τ3, ns', e1, e2, _, hs⟩ := key
  subst e1 e2
  rw [S_law_state_eq]
  refine ⟨s, t, runF_rt ?_, hs⟩
  simp [m_law_state, N_law_state, e]
def RM : D := .tup [.str "raised", .str "malformed"]
def RL : D := .tup [.str "raised", .str "large"]
theorem same_int {n : Nat} {i : Int} {st : Store} : S_law_same A (n + 1) [.int i, .int i] st = .ok (.bl true) st := by
  rw [S_law_same_eq]
  refine gc_ok [] (runF_rt ?_) (by simp [WfD])
  simp [m_law_same, N_law_same]
theorem same_str {n : Nat} {s : Str} {st : Store} (h : PyData.strOk s = true) : S_law_same A (n + 1) [.str s, .str s] st = .ok (.bl true) st := by
  rw [S_law_same_eq]
  refine gc_ok [] (runF_rt ?_) (by simp [WfD])
  have e : fEq (.str s) (.str s) st = .ok (.bl true) st := fEq_self (k := 0) (Fl.str h)
  have e2 : fIs (.str s) .non st = .ok (.bl false) st := rfl
  simp [m_law_same, N_law_same, e, e2]
theorem same_tup {n : Nat} {xs : List D} {st : Store} (h : ∀ x ∈ xs, S_law_same A n [x, x] st = .ok (.bl true) st) (hl : xs.length ≤ 4000) : S_law_same A (n + 1) [.tup xs, .tup xs] st = .ok (.bl true) st := by
  rw [S_law_same_eq]
  refine gc_ok [] (runF_rt ?_) (by simp [WfD])
  have z : w62 (xs.length : Int) = true := w62_of (by omega) (by omega)
  have k1 : compS (gN 2) mYes (e_law_same_0 (S_law_same A n)) [2] ((List.range xs.length).map nD) [some (.tup xs), some (.tup xs), none] st [] = .ok ((List.range xs.length).map fun _ => D.bl true) st := by
    rw [compS_mapL (f := fun _ => D.bl true)]
    · simp
    · intro k hk
      rw [List.mem_range] at hk
      have i1 : atI xs (k : Int) = some xs[k] := atI_nat (List.getElem?_eq_getElem hk)
      exact ⟨_, rfl, rfl, by simp [e_law_same_0, i1, h xs[k] (List.getElem_mem hk)]⟩
    · exact (by rw [sizeLine_eq]; simp; omega)
  have a1 : fAll [.lst ((List.range xs.length).map fun _ => D.bl true)] st = .ok (.bl true) st := by
    unfold fAll
    rw [x_onBlsF (g := fun _ => true)]
    simp
  obtain ⟨LL, hLL⟩ : ∃ LL, LL = (List.range xs.length).map fun _ => D.bl true := ⟨_, rfl⟩
  rw [← hLL] at k1 a1
  simp [m_law_same, N_law_same, z, range_nD, k1, a1]
theorem same_lD {n : Nat} {l : List Nat} {st : Store} (h : l.length ≤ 4000) : S_law_same A (n + 2) [lD l, lD l] st = .ok (.bl true) st := by
  refine same_tup (fun x hx => ?_) (by simpa using h)
  obtain ⟨k, _, rfl⟩ := List.mem_map.mp hx
  exact same_int
def toldD (v : D) : D := .tup [.str "told", v]
theorem eq_str {s : Str} {st : Store} (h : PyData.strOk s = true) : fEq (.str s) (.str s) st = .ok (.bl true) st := fEq_self (k := 0) (Fl.str h)
theorem is_told_eq {v : D} {st : Store} (h : S_law_same A 4 [v, v] st = .ok (.bl true) st) : S_law_is_told A [toldD v, v] st = .ok (.bl true) st := by
  rw [S_law_is_told_eq]
  refine gc_ok [] (runF_rt ?_) (by simp [WfD])
  have e := eq_str (s := "told") (st := st) (by decide +kernel)
  have i0 : atI [D.str "told", v] 0 = some (.str "told") := rfl
  have i1 : atI [D.str "told", v] 1 = some v := rfl
  simp [m_law_is_told, N_law_is_told, toldD, e, h, i0, i1]
theorem is_raised_eq {st : Store} : S_law_is_raised A [RM, .str "malformed"] st = .ok (.bl true) st := by
  rw [S_law_is_raised_eq]
  refine gc_ok [] (runF_rt ?_) (by simp [WfD])
  have e := eq_str (s := "raised") (st := st) (by decide +kernel)
  have h := same_str (A := A) (n := 3) (s := "malformed") (st := st) (by decide +kernel)
  have i0 : atI [D.str "raised", .str "malformed"] 0 = some (.str "raised") := rfl
  have i1 : atI [D.str "raised", .str "malformed"] 1 = some (.str "malformed") := rfl
  simp [m_law_is_raised, N_law_is_raised, RM, e, h, i0, i1]
theorem told_ok1 {f : Addr} {fs : FS} {x v : D} {st : Store} (ht : tab_law_told A f = some (1, fs)) (h : fs [x] st = .ok v st) (hv : lf v = true) : S_law_told A [.fn f, .tup [x]] st = .ok (toldD v) st := by
  rw [S_law_told_eq]
  refine gc_ok [] (runF_rt ?_) (wf_lf _ (by simp [toldD, hv]))
  simp [m_law_told, N_law_told, mCallV, ht, h, toldD, show atI [x] 0 = some x from rfl]
theorem told_er1 {f : Addr} {fs : FS} {x : D} {st : Store} (ht : tab_law_told A f = some (1, fs)) (h : fs [x] st = .er ⟨A 2, none⟩ st) : S_law_told A [.fn f, .tup [x]] st = .ok RM st := by
  rw [S_law_told_eq]
  refine gc_ok [] (runF_rt ?_) (wf_lf _ (by rfl))
  simp [m_law_told, N_law_told, mCallV, ht, h, RM, show atI [x] 0 = some x from rfl]
theorem same_bl {n : Nat} {b : Bool} {st : Store} : S_law_same A (n + 1) [.bl b, .bl b] st = .ok (.bl true) st := by
  rw [S_law_same_eq]
  refine gc_ok [] (runF_rt ?_) (by simp [WfD])
  have e : fEq (.bl b) (.bl b) st = .ok (.bl true) st := fEq_self (k := 0) Fl.bl
  simp [m_law_same, N_law_same, e]
theorem is_raised_large {st : Store} : S_law_is_raised A [RL, .str "large"] st = .ok (.bl true) st := by
  rw [S_law_is_raised_eq]
  refine gc_ok [] (runF_rt ?_) (by simp [WfD])
  have e := eq_str (s := "raised") (st := st) (by decide +kernel)
  have h := same_str (A := A) (n := 3) (s := "large") (st := st) (by decide +kernel)
  have i0 : atI [D.str "raised", .str "large"] 0 = some (.str "raised") := rfl
  have i1 : atI [D.str "raised", .str "large"] 1 = some (.str "large") := rfl
  simp [m_law_is_raised, N_law_is_raised, RL, e, h, i0, i1]
/-! ### is_partition -/
def posD : D → Bool
  | .int n => decide (0 < n)
  | _ => false
def natOf : D → Nat
  | .int n => n.toNat
  | _ => 0
theorem pos_nats : ∀ {xs : List D}, xs.all posD = true → xs = (xs.map natOf).map nD ∧ ∀ n ∈ xs.map natOf, 0 < n
  | [], _ => ⟨rfl, by simp⟩
  | x :: xs, h => by
    simp only [List.all_cons, Bool.and_eq_true] at h
    obtain ⟨h1, h2⟩ := pos_nats h.2
    cases x with
    | int n =>
      have hn : 0 < n := of_decide_eq_true h.1
      refine ⟨?_, fun m hm => ?_⟩
      · rw [List.map_cons, List.map_cons, ← h1]
        congr 1
        simp only [natOf, nD]
        congr 1; omega
      · rcases List.mem_cons.mp (show m ∈ n.toNat :: xs.map natOf from hm) with rfl | hm
        · omega
        · exact h2 m hm
    | _ => simp [posD] at h
def isPt : D → Bool
  | .tup xs => xs.all posD && descB (xs.map natOf)
  | _ => false
theorem nat_map : ∀ l : List Nat, (l.map nD).map natOf = l
  | [] => rfl
  | a :: l => by
    rw [List.map_cons, List.map_cons, nat_map l]; rfl
theorem pos_all {l : List Nat} (h : ∀ x ∈ l, 0 < x) : (l.map nD).all posD = true := by
  rw [List.all_eq_true]
  intro x hx
  obtain ⟨n, hn, rfl⟩ := List.mem_map.mp hx
  have := h n hn
  exact decide_eq_true (by omega)
theorem isPt_lD {l : List Nat} (h : ∀ x ∈ l, 0 < x) (hd : l.Pairwise (fun a b => b ≤ a)) : isPt (lD l) = true := by
  show ((l.map nD).all posD && descB ((l.map nD).map natOf)) = true
  rw [pos_all h, nat_map, descB_iff.mpr hd]; rfl
theorem isPt_inv {x : D} (h : isPt x = true) : ∃ l : List Nat, x = lD l ∧ (∀ n ∈ l, 0 < n) ∧ l.Pairwise (fun a b => b ≤ a) := by
  cases x with
  | tup xs =>
    rw [isPt, Bool.and_eq_true] at h
    obtain ⟨h1, h2⟩ := pos_nats h.1
    exact ⟨xs.map natOf, by rw [lD, ← h1], h2, descB_iff.mp h.2⟩
  | _ => simp [isPt] at h
/-- values that are judged: data, or an empty dict -/
def okU (st : Store) (x : D) : Prop := okV x ∨ ∃ n, x = .loc n ∧ st[n]? = some (.dk [])
theorem pos_el {x : D} {st : Store} {τ0 τ2 : Option D} (h : pl x = true) : e_is_partition_1 (S_is_integer A) [τ0, some x, τ2] st = .ok (.bl (posD x)) st := by
  have q := is_integer_eq (A := A) (x := x) (st := st) h
  cases x <;> first | (simp [pl] at h; done) | simp [e_is_partition_1, q, isI, posD]
theorem pos_blsF {ys : List D} {st : Store} : fAll [.lst ((ys.map posD).map D.bl)] st = .ok (.bl (ys.all posD)) st := by
  unfold fAll
  rw [x_onBls, List.all_map]; rfl
theorem pos_comp {ys : List D} {st : Store} (h1 : ∀ y ∈ ys, pl y = true) (hl : ys.length ≤ 1000) : compS (gN 1) mYes (e_is_partition_1 (S_is_integer A)) [1] ys [some (.tup ys), none, none] st [] = .ok ((ys.map posD).map D.bl) st := by
  rw [compS_map (f := fun x => .bl (posD x))]
  · simp
  · intro x hy
    exact ⟨_, rfl, rfl, pos_el (h1 x hy)⟩
  · exact small (by simpa using hl)
theorem range1 (n : Nat) : rangeD 1 (n : Int) = (List.range (n - 1)).map fun k => nD (k + 1) := by
  unfold rangeD
  rw [show ((n : Int) - 1).toNat = n - 1 by omega]
  refine List.map_congr_left fun i _ => ?_
  simp only [nD]
  congr 1; omega
theorem desc_comp {l : List Nat} {st : Store} (hl : l.length ≤ 1000) : compS (gN 2) mYes e_is_partition_0 [2] (rangeD 1 (l.length : Int)) [some (lD l), none, none] st [] = .ok ((List.range (l.length - 1)).map fun k => D.bl (decide (l.getD (k + 1) 0 ≤ l.getD k 0))) st := by
  rw [range1, compS_mapL (f := fun k => D.bl (decide (l.getD (k + 1) 0 ≤ l.getD k 0)))]
  · simp
  · intro k hk
    rw [List.mem_range] at hk
    have h1 : l[k]? = some l[k] := List.getElem?_eq_getElem (by omega)
    have h2 : l[k + 1]? = some l[k + 1] := List.getElem?_eq_getElem (by omega)
    have i1 : atI (l.map nD) (k : Int) = some (nD l[k]) := atI_map h1
    have i2 : atI (l.map nD) ((k : Int) + 1) = some (nD l[k + 1]) := by
      have := atI_map (f := nD) h2
      rwa [show ((k + 1 : Nat) : Int) = (k : Int) + 1 by omega] at this
    have g1 : l.getD k 0 = l[k] := by rw [List.getD_eq_getElem?_getD, h1]; rfl
    have g2 : l.getD (k + 1) 0 = l[k + 1] := by rw [List.getD_eq_getElem?_getD, h2]; rfl
    rw [g1, g2]
    obtain ⟨a, ha⟩ : ∃ a, a = l[k] := ⟨_, rfl⟩
    obtain ⟨b, hb⟩ : ∃ b, b = l[k + 1] := ⟨_, rfl⟩
    rw [← ha] at i1 ⊢
    rw [← hb] at i2 ⊢
    obtain ⟨L, hL⟩ : ∃ L, L = l.map nD := ⟨_, rfl⟩
    rw [← hL] at i1 i2
    refine ⟨_, rfl, rfl, ?_⟩
    simp only [nD] at i1 i2 ⊢
    simp [e_is_partition_0, lD, ← hL, i1, i2]
  · exact small (by simp; omega)
theorem desc_blsF {l : List Nat} {st : Store} : fAll [.lst ((List.range (l.length - 1)).map fun k => D.bl (decide (l.getD (k + 1) 0 ≤ l.getD k 0)))] st = .ok (.bl (descB l)) st := by
  unfold fAll
  rw [x_onBlsF (g := fun k => decide (l.getD (k + 1) 0 ≤ l.getD k 0)), List.all_map]
  exact congrArg (fun b => Rs.ok (D.bl b) st) (descB_range l)
theorem is_partU {x : D} {st : Store} (h : okU st x) : S_is_partition A [x] st = .ok (.bl (isPt x)) st := by
  rw [S_is_partition_eq]
  refine gc_ok [] (runF_rt ?_) (by simp [WfD])
  rcases h with ⟨hp, hx⟩ | ⟨n, rfl, hn⟩
  · cases x with
    | tup ys =>
      obtain ⟨h1, h2⟩ := hx ys rfl
      have e1 := pos_comp (A := A) (st := st) h1 h2
      have a1 := pos_blsF (ys := ys) (st := st)
      obtain ⟨L1, hL1⟩ : ∃ L1, L1 = (ys.map posD).map D.bl := ⟨_, rfl⟩
      rw [← hL1] at e1 a1
      rw [isPt]
      cases hb : ys.all posD with
      | false =>
        rw [hb] at a1
        simp [m_is_partition, N_is_partition, e1, a1]
      | true =>
        rw [hb] at a1
        obtain ⟨h3, h4⟩ := pos_nats hb
        obtain ⟨l, hl⟩ : ∃ l, l = ys.map natOf := ⟨_, rfl⟩
        rw [← hl] at h3 h4 ⊢
        have hlen : ys.length = l.length := by rw [hl]; simp
        have e2 := desc_comp (l := l) (st := st) (by omega)
        have a2 := desc_blsF (l := l) (st := st)
        rw [lD, ← h3] at e2
        obtain ⟨L2, hL2⟩ : ∃ L2, L2 = (List.range (l.length - 1)).map fun k => D.bl (decide (l.getD (k + 1) 0 ≤ l.getD k 0)) := ⟨_, rfl⟩
        rw [← hL2] at e2 a2
        have z1 : w62 1 = true := w62_of (by omega) (by omega)
        have z2 : w62 (l.length : Int) = true := w62_of (by omega) (by omega)
        simp [m_is_partition, N_is_partition, e1, a1, hlen, z1, z2, e2, a2]
    | _ => first | (simp [pl] at hp; done) | simp [m_is_partition, N_is_partition, isPt]
  · have t : tyD (.loc n) st = some .dict := by simp [tyD, hn]
    simp [m_is_partition, N_is_partition, t, isPt]
theorem ints_nD (l : List Nat) : l.map nD = (l.map fun n : Nat => (n : Int)).map D.int := by rw [List.map_map]; rfl
theorem okV_lD {l : List Nat} (h : l.length ≤ 1000) : okV (lD l) := by
  refine ⟨rfl, fun ys e => ?_⟩
  have e2 : ys = l.map nD := by injection e with e; exact e.symm
  subst e2
  refine ⟨fun x hx => ?_, by simpa using h⟩
  obtain ⟨n, _, rfl⟩ := List.mem_map.mp hx; rfl
theorem check_partU {x : D} {st : Store} (h : okU st x) : S_check_partition A [x] st = if isPt x = true then .ok .non st else .er ⟨A 2, none⟩ st := by
  have q := is_partU (A := A) h
  rw [S_check_partition_eq]
  cases hb : isPt x with
  | true =>
    rw [hb] at q
    exact gc_ok [] (runF_nx (τ' := [some x]) (by simp [m_check_partition, N_check_partition, q])) (by simp [WfD])
  | false =>
    rw [hb] at q
    exact gc_er [] (runF_er (τ' := [some x]) (by simp [m_check_partition, N_check_partition, q]))
/-! ### counts -/
def qD (q : Nat × Nat) : D := .tup [nD q.1, nD q.2]
theorem atI_end {α : Type} {l : List α} {x : α} : atI (l ++ [x]) (-1) = some x := by
  unfold atI ixN
  rw [if_neg (by omega), if_pos (by simp; omega)]
  simp only [Option.bind_some]
  rw [show ((-1 : Int) + ((l ++ [x]).length : Nat)).toNat = l.length by simp; omega]
  simp
theorem set_end {st : Store} {l : List D} {x v : D} : fSetL (.loc st.length) (.int (-1)) v (st ++ [.lst (l ++ [x])]) = some (st ++ [.lst (l ++ [v])]) := by
  have h : (st ++ [O.lst (l ++ [x])])[st.length]? = some (.lst (l ++ [x])) := by simp
  simp only [fSetL, h]
  have e : ixN (l ++ [x]).length (-1) = some l.length := by
    unfold ixN
    rw [if_neg (by omega), if_pos (by simp; omega)]
    congr 1
    simp; omega
  rw [e]
  simp
theorem cts_len {l : List Nat} : ∀ {acc : List (Nat × Nat)}, (l.foldl cstep acc).length ≤ acc.length + l.length := by
  induction l with
  | nil => simp
  | cons x l ih =>
    intro acc
    rw [List.foldl_cons]
    have h1 := ih (acc := cstep acc x)
    have h2 : (cstep acc x).length ≤ acc.length + 1 := by
      rcases snoc_cases acc with rfl | ⟨i, ⟨p, c⟩, rfl⟩
      · simp [cstep]
      · rw [cstep_snoc]; split <;> simp
    simp only [List.length_cons]; omega
theorem counts_eq {l : List Nat} {st : Store} (hl : l.length ≤ 900) : S_counts_of A [lD l] st = .ok (.tup ((cts l).map qD)) st := by
  have key := forS_ind (g := gN 2) (b := b_counts_of_0)
    (P := fun ds τ st' => ∃ (pre rest : List Nat) (e2 : Option D), τ = [some (lD l), some (.loc st.length), e2] ∧ st' = st ++ [.lst ((pre.foldl cstep []).map qD)] ∧ ds = rest.map nD ∧ pre ++ rest = l)
    (fun y ys τ st' ⟨pre, rest, e2, p1, p2, p3, p4⟩ => by
      subst p1 p2
      cases rest with
      | nil => cases p3
      | cons x rest =>
        rw [List.map_cons, List.cons.injEq] at p3
        obtain ⟨rfl, rfl⟩ := p3
        refine ⟨_, rfl, _, st ++ [.lst (((pre ++ [x]).foldl cstep []).map qD)], .inl ?_, pre ++ [x], rest, some (nD x), rfl, rfl, rfl, by simp [← p4]⟩
        rw [List.foldl_append, List.foldl_cons, List.foldl_nil]
        have hb := cts_len (l := pre) (acc := [])
        have hpl : pre.length ≤ l.length := by rw [← p4]; simp
        obtain ⟨acc, hacc⟩ : ∃ acc, acc = pre.foldl cstep [] := ⟨_, rfl⟩
        rw [← hacc] at hb ⊢
        have hg : (st ++ [O.lst (acc.map qD)])[st.length]? = some (.lst (acc.map qD)) := by simp
        have happ := x_app (d := .tup [.int (x : Int), .int 1]) hg (small1000 (by simp at hb ⊢; omega))
        rw [st_set0] at happ
        have hq : (.tup [.int (x : Int), .int 1] : D) = qD (x, 1) := rfl
        rcases snoc_cases acc with rfl | ⟨i, ⟨p, c⟩, rfl⟩
        · simp only [nD]
          have hn := x_lenLoc hg
          simp at happ hn
          simp [b_counts_of_0, cstep, happ, hn, qD, nD, Fx.listOf]
        · rw [cstep_snoc]
          have hmap : (i ++ [(p, c)]).map qD = i.map qD ++ [qD (p, c)] := by simp
          rw [hmap] at happ hg ⊢
          have f1 := x_ixLoc (k := -1) hg
          have hn := x_lenLoc hg
          rw [atI_end] at f1
          have hL : 0 < (i.map qD ++ [qD (p, c)]).length := by simp
          have g1 : atI [nD p, nD c] 0 = some (nD p) := rfl
          have g2 : atI [nD p, nD c] 1 = some (nD c) := rfl
          simp only [nD] at g1 g2
          by_cases e : p = x
          · subst e
            have hset := set_end (st := st) (l := i.map qD) (x := qD (p, c)) (v := .tup [.int (p : Int), .int ((c : Int) + 1)])
            rw [if_pos rfl]
            have hq2 : (.tup [.int (p : Int), .int ((c : Int) + 1)] : D) = qD (p, c + 1) := rfl
            rw [List.map_append, List.map_cons, List.map_nil, ← hq2]
            obtain ⟨L, hLL⟩ : ∃ L, L = i.map qD ++ [qD (p, c)] := ⟨_, rfl⟩
            rw [← hLL] at f1 hset happ hL hg hn ⊢
            simp only [qD, nD] at f1
            simp only [nD]
            simp [b_counts_of_0, hn, f1, hset, g1, g2, hL, Fx.listOf]
          · rw [if_neg e]
            have e' : ¬ (p : Int) = (x : Int) := by omega
            rw [List.map_append, hmap, List.map_cons, List.map_nil, ← hq]
            obtain ⟨L, hLL⟩ : ∃ L, L = i.map qD ++ [qD (p, c)] := ⟨_, rfl⟩
            rw [← hLL] at f1 happ hL hg hn ⊢
            simp only [qD, nD] at f1
            simp only [nD]
            simp [b_counts_of_0, hn, f1, happ, g1, g2, hL, e, e', Fx.listOf])
    (l.map nD) [some (lD l), some (.loc st.length), none] (st ++ [.lst []]) ⟨[], l, none, rfl, rfl, rfl, rfl⟩
  obtain ⟨τ', st', ee, pre, rest, e2, p1, p2, p3, p4⟩ := key
  subst p1 p2
  have hr : rest = [] := by
    cases rest with
    | nil => rfl
    | cons x r => cases p3
  subst hr
  rw [List.append_nil] at p4
  subst p4
  rw [S_counts_of_eq]
  have hb := cts_len (l := pre) (acc := [])
  simp only [List.length_nil, Nat.zero_add] at hb
  rw [cts]
  obtain ⟨L, hL⟩ : ∃ L, L = (pre.foldl cstep []).map qD := ⟨_, rfl⟩
  have hlf : lf (.tup L) = true := by rw [hL]; simp [qD, List.all_map]
  have hz : L.length ≤ 1000 := by rw [hL]; simp; omega
  rw [← hL] at ee ⊢
  refine gc_ok [.lst L] (runF_rt ?_) (wf_lf _ hlf)
  have q := x_tupleLoc (st := st ++ [O.lst L]) (i := st.length) (xs := L) (by simp)
  simp only [lD] at ee ⊢
  obtain ⟨XL, hXL⟩ : ∃ XL, XL = pre.map nD := ⟨_, rfl⟩
  rw [← hXL] at ee ⊢
  simp [m_counts_of, N_counts_of, ee, q, Fx.listOf, szFits_of hz]
theorem law_partitions_eq : ∀ (n : Nat) {d m : Nat} {st : Store}, d < n → d ≤ 24 → m ≤ 24 → S_law_partitions A n [.int (d : Int), .int (m : Int)] st = .ok (.lst ((pts n d m).map lD)) st
  | 0, d, m, st, h, _, _ => by omega
  | n + 1, d, m, st, h, hd, hm => by
    rw [S_law_partitions_eq]
    by_cases c : d = 0
    · subst c
      refine gc_ok [] (runF_rt ?_) (wf_lf _ (by simp [pts, lf_lD]))
      simp [m_law_partitions, N_law_partitions, pts, lD]
    · obtain ⟨mm, hmm⟩ : ∃ mm, mm = min d m := ⟨_, rfl⟩
      have key := forS_ind (g := gN 3) (b := b_law_partitions_0 (S_law_partitions A n))
        (P := fun ds τ st' => ∃ (j : Nat) (e3 : Option D), τ = [some (.int (d : Int)), some (.int (m : Int)), some (.loc st.length), e3, none] ∧ st' = st ++ [.lst ((ptsTo n d j).map lD)] ∧ j ≤ mm ∧ ds = (List.range' j (mm - j)).map fun (i : Nat) => .int ((i : Int) + 1))
        (fun y ys τ st' ⟨j, e3, p1, p2, hj, hds⟩ => by
          subst p1 p2
          have hlt : j < mm := by
            refine Nat.lt_of_not_le fun z => ?_
            rw [show mm - j = 0 by omega] at hds
            cases hds
          rw [show mm - j = (mm - (j + 1)) + 1 by omega, List.range'_succ, List.map_cons, List.cons.injEq] at hds
          obtain ⟨rfl, rfl⟩ := hds
          refine ⟨_, rfl, _, st ++ [.lst ((ptsTo n d (j + 1)).map lD)], .inl ?_, j + 1, some (.int ((j : Int) + 1)), rfl, rfl, hlt, rfl⟩
          have q := law_partitions_eq n (d := d - (j + 1)) (m := j + 1) (st := st ++ [.lst ((ptsTo n d j).map lD)]) (by omega) (by omega) (by omega)
          rw [show ((d - (j + 1) : Nat) : Int) = (d : Int) - ((j : Int) + 1) by omega, show ((j + 1 : Nat) : Int) = (j : Int) + 1 by omega] at q
          have hpow : 2 ^ d ≤ 16777216 := by
            have : 2 ^ d ≤ 2 ^ 24 := Nat.pow_le_pow_right (by omega) hd
            exact this
          have hs1 := ptsTo_len (n := n) (d := d) (j := j + 1) (by omega)
          have hs2 := pts_len n (d - (j + 1)) (j + 1)
          have hs3 : 2 ^ (d - (j + 1)) ≤ 2 ^ d := Nat.pow_le_pow_right (by omega) (by omega)
          have cc : compS (gN 4) mYes e_law_partitions_0 [4] ((pts n (d - (j + 1)) (j + 1)).map lD) [some (.int (d : Int)), some (.int (m : Int)), some (.loc st.length), some (.int ((j : Int) + 1)), none] (st ++ [.lst ((ptsTo n d j).map lD)]) [] = .ok (((pts n (d - (j + 1)) (j + 1)).map fun r => (j + 1) :: r).map lD) (st ++ [.lst ((ptsTo n d j).map lD)]) := by
            rw [compS_mapL (f := fun r => lD ((j + 1) :: r))]
            · simp
            · intro r hr
              obtain ⟨r1, r2, r3⟩ := pts_mem hr
              have hrl := len_le_sum fun x hx => (r3 x hx).1
              have z : szFits (1 + (r.map nD).length) = true := szFits_of (by simp; omega)
              refine ⟨_, rfl, rfl, ?_⟩
              obtain ⟨R, hR⟩ : ∃ R, R = r.map nD := ⟨_, rfl⟩
              rw [← hR] at z
              simp only [lD, List.map_cons, ← hR]
              simp [e_law_partitions_0, z, nD]
            · rw [sizeLine_eq]; simp; omega
          rw [ptsTo_succ, List.map_append]
          rw [ptsTo_succ, List.length_append, List.length_map] at hs1
          obtain ⟨Z, hZ⟩ : ∃ Z, Z = ((pts n (d - (j + 1)) (j + 1)).map fun r => (j + 1) :: r).map lD := ⟨_, rfl⟩
          have hZl : Z.length = (pts n (d - (j + 1)) (j + 1)).length := by rw [hZ]; simp
          obtain ⟨Y, hY⟩ : ∃ Y, Y = (ptsTo n d j).map lD := ⟨_, rfl⟩
          have hYl : Y.length = (ptsTo n d j).length := by rw [hY]; simp
          obtain ⟨U, hU⟩ : ∃ U, U = (pts n (d - (j + 1)) (j + 1)).map lD := ⟨_, rfl⟩
          rw [← hZ, ← hU, ← hY] at cc
          rw [← hU, ← hY] at q
          rw [← hZ, ← hY]
          have z : szFits (Y.length + Z.length) = true := szFits_iff.mpr (by rw [sizeLine_eq]; omega)
          simp [b_law_partitions_0, q, cc, z, Fx.listOf, onLoc])
        (rangeD 1 ((mm : Int) + 1)) [some (.int (d : Int)), some (.int (m : Int)), some (.loc st.length), none, none] (st ++ [.lst []]) ⟨0, none, rfl, by simp [ptsTo], Nat.zero_le _, by
          rw [rangeD, ← List.range_eq_range']
          rw [show ((mm : Int) + 1 - 1).toNat = mm by omega]
          refine List.map_congr_left fun i _ => ?_
          rw [Int.add_comm]⟩
      obtain ⟨τ', st', ee, j, e3, p1, p2, hj, hds⟩ := key
      subst p1 p2
      have hm2 : j = mm := by
        have := congrArg List.length hds
        simp at this; omega
      subst hm2
      rw [pts_succ c, ← hmm]
      have hg : (st ++ [O.lst ((ptsTo n d j).map lD)])[st.length]? = some (.lst ((ptsTo n d j).map lD)) := by simp
      refine gc_lst [.lst ((ptsTo n d j).map lD)] (runF_rt ?_) (Nat.le_refl _) hg (wf_lfs _ (by simp [lfs_all, List.all_map, lf_lD]))
      have c' : ¬ (d : Int) = 0 := by omega
      have emin : (if (m : Int) < (d : Int) then (m : Int) else (d : Int)) = (j : Int) := by split <;> omega
      have f1 : fMin2 [.int (d : Int), .int (m : Int)] (st ++ [.lst []]) = .ok (.int (j : Int)) (st ++ [.lst []]) := by
        show Rs.ok (D.int (if (m : Int) < (d : Int) then (m : Int) else (d : Int))) _ = _
        rw [emin]
      have z1 : w62 1 = true := w62_of (by omega) (by omega)
      have z2 : w62 ((j : Int) + 1) = true := w62_of (by omega) (by omega)
      simp [m_law_partitions, N_law_partitions, c, c', f1, z1, z2, ee]

end K02

set_option Elab.async false
set_option linter.all false
set_option maxRecDepth 100000
set_option maxHeartbeats 4000000
namespace K02
open PySem L2 Fx
variable {A : Nat → Addr} {d : Nat}
theorem fLen_tp {p : Pm d} {st : Store} : fLen [tp p] st = .ok (.int (d : Int)) st := by simp [tp, lD, p.len]
/-! ### all permutations -/
abbrev extP (d : Nat) (r : List Nat) : List (List Nat) := ((List.range d).filter fun x => !decide (x ∈ r)).map fun x => r ++ [x]
theorem ext_len {r : List Nat} : (extP d r).length ≤ d := by
  rw [List.length_map]
  exact Nat.le_trans (List.length_filter_le _ _) (by simp)
theorem eqD_nD {a b : Nat} : eqD (nD a) (nD b) = decide (a = b) := by
  unfold eqD
  simp only [toPy, PyData.eqv]
  by_cases h : a = b
  · subst h; simp
  · rw [decide_eq_false h]; simp; omega
theorem in_lD {x : Nat} {r : List Nat} {neg : Bool} {st : Store} : fSIn neg (nD x) (lD r) st = .ok (.bl (if neg = true then !decide (x ∈ r) else decide (x ∈ r))) st := by
  unfold fSIn
  have k1 : shD (nD x) = true := (Fl.int (k := 0)).sh
  have k2 : dOks (r.map nD) = true := dOks_all.mpr fun z hz => by
    obtain ⟨n, _, rfl⟩ := List.mem_map.mp hz; simp [dOk]
  have k3 : ((r.map nD).any fun z => eqD z (nD x)) = decide (x ∈ r) := by
    rw [List.any_map]
    by_cases c : x ∈ r
    · rw [decide_eq_true c, List.any_eq_true]
      exact ⟨x, c, by simp only [Function.comp]; rw [eqD_nD]; simp⟩
    · rw [decide_eq_false c, List.any_eq_false]
      intro z hz
      simp only [Function.comp]
      rw [eqD_nD]
      have : ¬ z = x := fun e => c (e ▸ hz)
      simp [this]
  simp only [lD, seqOf, k1, k2, and_self, if_true, k3]
theorem ext_comp {r : List Nat} {st : Store} {τ : En} (hd : d ≤ 900) (hr : r.length ≤ 900) (h4 : ∀ y, (τ.set 5 y)[4]? = some (some (lD r))) (h5 : 5 < τ.length) :
    compS (gN 5) t_law_every_0 e_law_every_0 [5] (rangeD 0 (d : Int)) τ st [] = .ok ((extP d r).map lD) st := by
  rw [range_nD, compS_filt (h := nD) (c := fun x => !decide (x ∈ r)) (f := fun x => lD (r ++ [x]))]
  · simp [extP, Function.comp_def]
  · intro x hx
    have q4 := h4 (some (nD x))
    have q5 : (τ.set 5 (some (nD x)))[5]? = some (some (nD x)) := by rw [List.getElem?_set_self h5]
    have qa : fAdd (lD r) (.tup [nD x]) st = .ok (lD (r ++ [x])) st := by
      rw [lD, lD, x_addT, if_pos (szFits_of (by simp; omega)), List.map_append]; rfl
    have qi : fSIn true (nD x) (lD r) st = .ok (.bl (!decide (x ∈ r))) st := in_lD
    refine ⟨_, rfl, ?_, fun _ => ?_⟩
    · rw [wipeE_cons, wipeE_nil, List.set_set]
      simp only [nD] at q4 q5 qi ⊢
      simp [t_law_every_0, q4, q5, qi]
    · rw [wipeE_cons, wipeE_nil, List.set_set]
      simp only [nD] at q4 q5 qa ⊢
      simp [e_law_every_0, q4, q5, qa]
  · simpa using small (by omega)
theorem lvl_len : ∀ n, (lvlP d n).length ≤ d ^ n
  | 0 => by simp [lvlP]
  | n + 1 => by
    have ih := lvl_len n
    rw [lvlP]
    have : ∀ W : List (List Nat), (W.flatMap (extP d)).length ≤ W.length * d := by
      intro W
      induction W with
      | nil => simp
      | cons w W ihw =>
        have := ext_len (d := d) (r := w)
        rw [List.flatMap_cons, List.length_append, List.length_cons, Nat.add_one_mul W.length d]; omega
    refine Nat.le_trans (this _) ?_
    rw [Nat.pow_succ]
    exact Nat.mul_le_mul ih (Nat.le_refl _)
theorem pow_le (hd : d ≤ 6) {m : Nat} (hm : m ≤ 6) : d ^ m ≤ 46656 := by
  have h1 : d ^ m ≤ 6 ^ m := Nat.pow_le_pow_left hd m
  have h2 := Nat.pow_le_pow_right (n := 6) (by decide) hm
  omega
theorem ev_inner {st g : Store} {e1 e2 : Option D} (hd : d ≤ 6) : ∀ (V Lg : List (List Nat)) (e4 : Option D), (∀ r ∈ V, r.length ≤ 900) → Lg.length + V.length * d ≤ 300000 → ∃ (e4' : Option D),
    forS (gN 4) (B_law_every_0 A) (V.map lD) [some (.int (d : Int)), e1, e2, some (.loc (st ++ g).length), e4, none] (st ++ g ++ [.lst (Lg.map lD)]) =
      .nx [some (.int (d : Int)), e1, e2, some (.loc (st ++ g).length), e4', none] (st ++ g ++ [.lst ((Lg ++ V.flatMap (extP d)).map lD)])
  | [], Lg, e4, _, _ => ⟨e4, by simp [forS]⟩
  | r :: V, Lg, e4, hV, hb => by
    have hr := hV r List.mem_cons_self
    have el := ext_len (d := d) (r := r)
    have hb' : Lg.length + d + V.length * d ≤ 300000 := by
      rw [List.length_cons, Nat.add_one_mul V.length d] at hb; omega
    obtain ⟨e4', ih⟩ := ev_inner (st := st) (g := g) (e1 := e1) (e2 := e2) hd V (Lg ++ extP d r) (some (lD r)) (fun v hv => hV v (List.mem_cons_of_mem _ hv)) (by rw [List.length_append]; omega)
    refine ⟨e4', ?_⟩
    rw [List.map_cons, x_forS_cons, List.flatMap_cons, ← List.append_assoc, ← ih]
    obtain ⟨S0, hS0⟩ : ∃ S0 : Store, S0 = st ++ g := ⟨_, rfl⟩
    rw [← hS0]
    have q4 : ∀ s, compS (gN 5) t_law_every_0 e_law_every_0 [5] (rangeD 0 (d : Int)) [some (.int (d : Int)), e1, e2, some (.loc S0.length), some (lD r), none] s [] = .ok ((extP d r).map lD) s := fun s =>
      ext_comp (by omega) hr (fun _ => rfl) (by simp)
    have zd : w62 (d : Int) = true := w62_of (by omega) (by omega)
    have z : szFits (Lg.length + (extP d r).length) = true := by
      refine szFits_iff.mpr ?_; rw [PySem.sizeLine_eq]; omega
    have hlo : Fx.listOf (.loc S0.length) (S0 ++ [.lst (Lg.map lD)]) = some (Lg.map lD) := by simp [Fx.listOf]
    have hon : onLoc (.loc S0.length) (S0 ++ [.lst (Lg.map lD)]) (fun ys => if szFits (ys.length + ((extP d r).map lD).length) = true then some (.non, ys ++ (extP d r).map lD) else none) = .ok .non (S0 ++ [.lst ((Lg ++ extP d r).map lD)]) := by
      simp only [onLoc, st_get0, List.getElem?_cons_zero]
      rw [if_pos (by rw [List.length_map, List.length_map]; exact z)]
      simp
    obtain ⟨BK, hBK⟩ : ∃ BK, BK = (extP d r).map lD := ⟨_, rfl⟩
    rw [← hBK] at q4 hon
    simp [b_law_every_0, zd, q4, hlo, hon]
theorem law_every_eq {st : Store} (hd : d ≤ 6) : S_law_every A [.int (d : Int)] st = .ok (.lst ((lvlP d d).map lD)) st := by
  have key := forS_ind (g := gN 2) (b := B_law_every_1 A)
    (P := fun ds τ st' => ∃ (m : Nat) (g : Store) (e2 e3 e4 : Option D), τ = [some (.int (d : Int)), some (.lst ((lvlP d m).map lD)), e2, e3, e4, none] ∧ st' = st ++ g ∧ m ≤ d ∧ ds = (List.range' m (d - m)).map nD)
    (fun y ys τ st' ⟨m, g, e2, e3, e4, q1, q2, hm, hds⟩ => by
      subst q1 q2
      have hlt : m < d := by
        refine Nat.lt_of_not_le fun z => ?_
        rw [show d - m = 0 by omega] at hds
        cases hds
      rw [show d - m = (d - (m + 1)) + 1 by omega, List.range'_succ, List.map_cons, List.cons.injEq] at hds
      obtain ⟨rfl, rfl⟩ := hds
      have hlen : (lvlP d m).length ≤ 46656 := Nat.le_trans (lvl_len m) (pow_le hd (by omega))
      have hmul : (lvlP d m).length * d ≤ 46656 * 6 := Nat.mul_le_mul hlen hd
      obtain ⟨e4', h1⟩ := ev_inner (A := A) (st := st) (g := g) (e1 := some (.lst ((lvlP d m).map lD))) (e2 := some (nD m)) hd (lvlP d m) [] e4 (fun r hr => by
        have := (lvlP_mem.mp hr).1; omega) (by simp only [List.length_nil]; omega)
      rw [List.nil_append] at h1
      have h4 := x_listLoc (st := st ++ g ++ [.lst (((lvlP d m).flatMap (extP d)).map lD)]) (i := (st ++ g).length) (xs := ((lvlP d m).flatMap (extP d)).map lD) (by simp only [st_get0, List.getElem?_cons_zero])
      have eS : lvlP d (m + 1) = (lvlP d m).flatMap (extP d) := rfl
      refine ⟨_, rfl, _, st ++ (g ++ [.lst ((lvlP d (m + 1)).map lD)]), .inl ?_, m + 1, g ++ [.lst ((lvlP d (m + 1)).map lD)], some (nD m), some (.loc (st ++ g).length), e4', rfl, rfl, hlt, rfl⟩
      rw [eS, ← List.append_assoc]
      obtain ⟨S0, hS0⟩ : ∃ S0 : Store, S0 = st ++ g := ⟨_, rfl⟩
      rw [← hS0] at h1 h4 ⊢
      obtain ⟨VS, hVS⟩ : ∃ VS, VS = (lvlP d m).map lD := ⟨_, rfl⟩
      obtain ⟨WS, hWS⟩ : ∃ WS, WS = ((lvlP d m).flatMap (extP d)).map lD := ⟨_, rfl⟩
      rw [← hVS, ← hWS] at h1
      rw [← hWS] at h4
      rw [← hVS, ← hWS]
      have em : ([] : List (List Nat)).map lD = [] := rfl
      rw [em] at h1
      simp only [nD] at h1 ⊢
      simp [b_law_every_1, h1, h4])
    (rangeD 0 (d : Int)) [some (.int (d : Int)), some (.lst ((lvlP d 0).map lD)), none, none, none, none] st ⟨0, [], none, none, none, rfl, by simp, Nat.zero_le _, by rw [range_nD, List.range_eq_range']; rfl⟩
  obtain ⟨τ', st', e, m, g, e2, e3, e4, q1, q2, hm, hds⟩ := key
  subst q1 q2
  have hm2 : m = d := by
    have := congrArg List.length hds
    simp at this; omega
  subst hm2
  have z : w62 (m : Int) = true := w62_of (by omega) (by omega)
  rw [S_law_every_eq]
  refine gc_ok g (runF_rt ?_) (wf_lf _ (by simp [List.all_map]))
  have e0 : (lvlP m 0).map lD = [.tup []] := rfl
  rw [e0] at e
  obtain ⟨VS, hVS⟩ : ∃ VS, VS = (lvlP m m).map lD := ⟨_, rfl⟩
  rw [← hVS] at e ⊢
  simp [m_law_every, N_law_every, z, e]
theorem lc_while {p : Pm d} {st : Store} {F : O} {e2 e3 : Option D} (hd : d ≤ 900) : ∀ (n : Nat) (seen done : List Nat) (y : Nat), d ≤ seen.length + n → seen.Nodup → (∀ x ∈ seen, x < d) → (∀ x ∈ done, x ∈ seen) → done.Nodup → y < d → ∃ y' : Nat,
    sWhile c_law_cycles_0 b_law_cycles_0 [some (tp p), some (.loc st.length), e2, e3, some (lD done), some (nD y)] (st ++ [seenK seen, F]) =
      .nx [some (tp p), some (.loc st.length), e2, e3, some (lD (done ++ ring p n seen y)), some (nD y')] (st ++ [seenK (seen ++ ring p n seen y), F])
  | n, seen, done, y, hn, hnd, hlt, hsub, hdn, hy => by
    have q1 := fDIn_not (seenK_in (st := st ++ [seenK seen, F]) (L := st.length) (y := y) (seen := seen) (by simp))
    have stop : y ∈ seen → ∃ y' : Nat,
        sWhile c_law_cycles_0 b_law_cycles_0 [some (tp p), some (.loc st.length), e2, e3, some (lD done), some (nD y)] (st ++ [seenK seen, F]) =
          .nx [some (tp p), some (.loc st.length), e2, e3, some (lD (done ++ ring p n seen y)), some (nD y')] (st ++ [seenK (seen ++ ring p n seen y), F]) := fun h => by
      refine ⟨y, ?_⟩
      rw [ring_nil h, List.append_nil, List.append_nil, sWhile_eq]
      simp [c_law_cycles_0, q1, h]
    by_cases c : y ∈ seen
    · exact stop c
    · cases n with
      | zero => exact absurd (nodup_all (D := List.range d) hnd (fun x hx => List.mem_range.mpr (hlt x hx)) (by simp; omega) y (List.mem_range.mpr hy)) c
      | succ n =>
        have hdl := nodup_len (D := List.range d) hdn fun x hx => List.mem_range.mpr (hlt x (hsub x hx))
        simp at hdl
        have hsl := nodup_len (D := List.range d) hnd fun x hx => List.mem_range.mpr (hlt x hx)
        simp at hsl
        obtain ⟨y', ih⟩ := lc_while (p := p) (st := st) (F := F) (e2 := e2) (e3 := e3) hd n (seen ++ [y]) (done ++ [y]) (p.f y) (by simp; omega) (nodup_snoc hnd c) (fun x hx => by
          rcases List.mem_append.mp hx with hx | hx
          · exact hlt x hx
          · rw [List.mem_singleton] at hx; omega) (fun x hx => by
          rcases List.mem_append.mp hx with hx | hx
          · exact List.mem_append_left _ (hsub x hx)
          · exact List.mem_append_right _ hx) (nodup_snoc hdn fun z => c (hsub _ z)) (p.lt hy)
        refine ⟨y', ?_⟩
        rw [ring_cons c]
        have a1 : seen ++ y :: ring p n (seen ++ [y]) (p.f y) = (seen ++ [y]) ++ ring p n (seen ++ [y]) (p.f y) := by simp
        have a2 : done ++ y :: ring p n (seen ++ [y]) (p.f y) = (done ++ [y]) ++ ring p n (seen ++ [y]) (p.f y) := by simp
        rw [a1, a2, ← ih, sWhile_eq]
        have q2 := seenK_set (st := st ++ [seenK seen, F]) (L := st.length) (y := y) (seen := seen) (by simp) c (by omega)
        simp at q2
        have q3 : ∀ s, fAdd (lD done) (.tup [nD y]) s = .ok (lD (done ++ [y])) s := fun s => by
          rw [lD, x_addT, if_pos (szFits_of (by simp; omega)), lD, List.map_append]; rfl
        have q5 : ∀ s, fIx (tp p) (nD y) s = .ok (nD (p.f y)) s := fun s => by rw [tp, lD, nD, x_ixT, atI_tp _ hy]
        simp [c_law_cycles_0, b_law_cycles_0, q1, c, q2, q3, q5]
theorem lc_outer {p : Pm d} {st : Store} (hd : d ≤ 900) : ∀ (n j : Nat) (t : List Nat × List (List Nat)) (e3 e4 e5 : Option D), j + n = d → t.1.Nodup → (∀ x ∈ t.1, x < d) → t.2.length ≤ j → ∃ (e3' e4' e5' : Option D),
    forS (gN 3) b_law_cycles_1 ((List.range' j n).map nD) [some (tp p), some (.loc st.length), some (.loc (st.length + 1)), e3, e4, e5] (st ++ [seenK t.1, .lst (t.2.map lD)]) =
      .nx [some (tp p), some (.loc st.length), some (.loc (st.length + 1)), e3', e4', e5'] (st ++ [seenK ((List.range' j n).foldl (cyc1 p) t).1, .lst (((List.range' j n).foldl (cyc1 p) t).2.map lD)])
  | 0, j, t, e3, e4, e5, _, _, _, _ => ⟨e3, e4, e5, rfl⟩
  | n + 1, j, t, e3, e4, e5, hj, hn, hlt, htl => by
    have hjd : j < d := by omega
    rw [List.range'_succ, List.map_cons, List.foldl_cons, x_forS_cons]
    obtain ⟨y', qw⟩ := lc_while (p := p) (st := st) (F := .lst (t.2.map lD)) (e2 := some (.loc (st.length + 1))) (e3 := some (nD j)) hd d t.1 [] j (by omega) hn hlt (by simp) .nil hjd
    have e0 : lD [] = .tup [] := rfl
    by_cases c : j ∈ t.1
    · have eo : cyc1 p t j = t := by rw [cyc1, if_pos c]
      obtain ⟨a3, a4, a5, ih⟩ := lc_outer (p := p) (st := st) hd n (j + 1) t (some (nD j)) (some (.tup [])) (some (nD y')) (by omega) hn hlt (by omega)
      refine ⟨a3, a4, a5, ?_⟩
      rw [eo, ← ih]
      rw [ring_nil c, List.append_nil, List.append_nil, e0] at qw
      simp [b_law_cycles_1, qw]
    · have eo : cyc1 p t j = (t.1 ++ ring p d t.1 j, t.2 ++ [ring p d t.1 j]) := by rw [cyc1, if_neg c]
      have hrl := ring_lt (p := p) (n := d) (seen := t.1) hjd
      have hrn := ring_nodup (p := p) (n := d) (seen := t.1) (y := j)
      have hrw := ring_new (p := p) (n := d) (seen := t.1) (y := j)
      have hpos : 0 < (ring p d t.1 j).length := by
        obtain ⟨k, hk⟩ : ∃ k, d = k + 1 := ⟨d - 1, by omega⟩
        have e : ring p d t.1 j = ring p (k + 1) t.1 j := by congr 1
        rw [e, ring_cons c]; simp
      obtain ⟨ρ, hρ⟩ : ∃ ρ, ρ = ring p d t.1 j := ⟨_, rfl⟩
      rw [← hρ] at qw eo hrl hrn hrw hpos
      rw [List.nil_append, e0] at qw
      obtain ⟨a3, a4, a5, ih⟩ := lc_outer (p := p) (st := st) hd n (j + 1) (t.1 ++ ρ, t.2 ++ [ρ]) (some (nD j)) (some (lD ρ)) (some (nD y')) (by omega)
        (List.nodup_append.mpr ⟨hn, hrn, fun a ha b hb e => hrw b hb (e ▸ ha)⟩) (fun x hx => by
          rcases List.mem_append.mp hx with hx | hx
          · exact hlt x hx
          · exact hrl x hx) (by simp; omega)
      refine ⟨a3, a4, a5, ?_⟩
      rw [eo, ← ih]
      have ql : ∀ s, fLen [lD ρ] s = .ok (.int (ρ.length : Int)) s := fun s => by simp [lD]
      have q3 := x_app (st := st ++ [seenK (t.1 ++ ρ), .lst (t.2.map lD)]) (n := st.length + 1) (xs := t.2.map lD) (d := lD ρ) (by simp) (small1000 (by simp; omega))
      simp at q3
      have hp' : (0 : Int) < (ρ.length : Int) := by omega
      simp [b_law_cycles_1, qw, ql, hpos, q3, Fx.listOf]
theorem law_cycles_eq {p : Pm d} {st : Store} (hd : d ≤ 900) : S_law_cycles A [tp p] st = .ok (.tup ((cycs p).map lD)) st := by
  obtain ⟨a3, a4, a5, e⟩ := lc_outer (p := p) (st := st) hd d 0 ([], []) none none none (by omega) .nil (by simp) (by simp)
  rw [← List.range_eq_range', ← range_nD] at e
  have z : w62 (d : Int) = true := w62_of (by omega) (by omega)
  have ek : seenK [] = .dk [] := rfl
  rw [S_law_cycles_eq]
  refine gc_ok [seenK ((List.range d).foldl (cyc1 p) ([], [])).1, .lst ((cycs p).map lD)] (runF_rt ?_) (wf_lf _ (by simp [List.all_map]))
  simp only [List.map_nil, ek] at e
  have ql2 : ∀ s, fLen [tp p] s = .ok (.int (d : Int)) s := fun s => fLen_tp
  have qt := x_tupleLoc (st := st ++ [seenK ((List.range d).foldl (cyc1 p) ([], [])).1, .lst ((cycs p).map lD)]) (i := st.length + 1) (xs := (cycs p).map lD) (by simp)
  obtain ⟨PP, hPP⟩ : ∃ PP, PP = tp p := ⟨_, rfl⟩
  rw [← hPP] at e ql2 ⊢
  rw [cycs] at qt ⊢
  simp [m_law_cycles, N_law_cycles, ql2, z, e, qt]
theorem law_type_eq {p : Pm d} {st : Store} (hd : d ≤ 900) : S_law_type A [tp p] st = .ok (typeD p) st := by
  have q1 := law_cycles_eq (A := A) (p := p) (st := st) hd
  have hcl := cycs_le p
  have k1 : compS (gN 1) mYes e_law_type_0 [1] ((cycs p).map lD) [some (tp p), none] st [] = .ok (((lens p).map fun (k : Nat) => (k : Int)).map D.int) st := by
    rw [compS_mapL (f := fun c => D.int (c.length : Int))]
    · simp [lens]
    · intro c _
      exact ⟨_, rfl, rfl, by simp [e_law_type_0, lD]⟩
    · exact small (by simp; omega)
  have q2 : fSorted [.lst (((lens p).map fun (k : Nat) => (k : Int)).map D.int)] st = .ok ((sortI ((lens p).map fun (k : Nat) => (k : Int))).map D.int) st := x_onInts
  rw [typeD_eq]
  rw [S_law_type_eq]
  refine gc_ok [] (runF_rt ?_) (wf_lf _ (by simp [List.all_map]))
  obtain ⟨L1, h1⟩ : ∃ L1, L1 = (cycs p).map lD := ⟨_, rfl⟩
  obtain ⟨L2, h2⟩ : ∃ L2, L2 = ((lens p).map fun (k : Nat) => (k : Int)).map D.int := ⟨_, rfl⟩
  rw [← h1] at q1 k1
  rw [← h2] at k1 q2
  simp [m_law_type, N_law_type, q1, k1, q2, List.map_reverse, Fx.listOf]
end K02

set_option Elab.async false
set_option linter.all false
set_option maxRecDepth 100000
set_option maxHeartbeats 4000000
set_option exponentiation.threshold 20000
namespace K02
open PySem L2 Fx
variable {A : Nat → Addr}
theorem range2 (n : Nat) : rangeD 2 ((n : Int) + 1) = (List.range' 2 (n - 1)).map nD := by
  unfold rangeD
  rw [show ((n : Int) + 1 - 2).toNat = n - 1 by omega, List.range'_eq_map_range, List.map_map]
  refine List.map_congr_left fun i _ => ?_
  simp only [nD, Function.comp_apply]
  congr 1
theorem factorial_eq {n : Nat} {st : Store} (h : n ≤ 1000) : S_factorial_of A [.int (n : Int)] st = .ok (.int (facN n : Nat)) st := by
  have key := forS_ind (g := gN 2) (b := b_factorial_of_0)
    (P := fun ds τ st' => ∃ (j : Nat) (e2 : Option D), 1 ≤ j ∧ j ≤ max n 1 ∧ τ = [some (.int (n : Int)), some (.int (facN j : Nat)), e2] ∧ st' = st ∧ ds = (List.range' (j + 1) (n - j)).map nD)
    (fun y ys τ st' ⟨j, e2, h1, h2, p1, p2, hds⟩ => by
      subst p1 p2
      have hlt : j < n := by
        refine Nat.lt_of_not_le fun z => ?_
        rw [show n - j = 0 by omega] at hds
        cases hds
      rw [show n - j = (n - (j + 1)) + 1 by omega, List.range'_succ, List.map_cons, List.cons.injEq] at hds
      obtain ⟨rfl, rfl⟩ := hds
      refine ⟨_, rfl, _, st', .inl ?_, j + 1, some (nD (j + 1)), by omega, by omega, rfl, rfl, rfl⟩
      have e : ((facN (j + 1) : Nat) : Int) = (facN j : Int) * ((j : Int) + 1) := by
        rw [facN, Int.natCast_mul, Int.mul_comm]; rfl
      have m : mulFits (facN j : Int) ((j : Int) + 1) = true := mulFits_r (by omega) (by omega)
      rw [e]
      obtain ⟨F, hF⟩ : ∃ F : Int, F = (facN j : Int) := ⟨_, rfl⟩
      rw [← hF] at m ⊢
      simp [b_factorial_of_0, m, nD])
    (rangeD 2 ((n : Int) + 1)) [some (.int (n : Int)), some (.int 1), none] st ⟨1, none, by omega, by omega, rfl, rfl, range2 n⟩
  obtain ⟨τ', st', ee, j, e2, h1, h2, p1, p2, hds⟩ := key
  subst p1 p2
  have hj : facN j = facN n := by
    have := congrArg List.length hds
    simp at this
    by_cases c : n = 0
    · subst c
      rw [show j = 1 by omega]; rfl
    · rw [show j = n by omega]
  rw [hj] at ee
  rw [S_factorial_of_eq]
  refine gc_ok [] (runF_rt ?_) (by simp [WfD])
  have z1 : w62 2 = true := w62_of (by omega) (by omega)
  have z2 : w62 ((n : Int) + 1) = true := w62_of (by omega) (by omega)
  obtain ⟨F, hF⟩ : ∃ F : Int, F = ((facN n : Nat) : Int) := ⟨_, rfl⟩
  rw [← hF] at ee ⊢
  simp [m_factorial_of, N_factorial_of, z1, z2, ee]
theorem law_factorial_eq {n : Nat} {st : Store} (h : n ≤ 1000) : S_law_factorial A [.int (n : Int)] st = .ok (.int (facN n : Nat)) st := by
  have e : S_law_factorial A = S_factorial_of A := by
    rw [S_law_factorial_eq, S_factorial_of_eq]; rfl
  rw [e]
  exact factorial_eq h
theorem raised_eq {a e : Nat} {st : Store} (ha : 0 < a) (hT : a ^ e ≤ 2 ^ 800) : S_raised_to A [.int (a : Int), .int (e : Int)] st = .ok (.int (a ^ e : Nat)) st := by
  obtain ⟨T, hTT⟩ : ∃ T, T = a ^ e := ⟨_, rfl⟩
  rw [← hTT] at hT ⊢
  have key := sWhile_lt (t := c_raised_to_0) (b := b_raised_to_0)
    (P := fun u τ st' => ∃ (f b : Nat), 0 < f ∧ 0 < b ∧ (0 < u → f * b ^ u = T) ∧ (u = 0 → f = T) ∧ τ = [some (.int (a : Int)), some (.int (u : Int)), some (.int (f : Int)), some (.int (b : Int))] ∧ st' = st)
    (R := fun τ st' => ∃ (x : Option D), τ = [some (.int (a : Int)), some (.int 0), some (.int (T : Int)), x] ∧ st' = st)
    (fun u τ st' ⟨f, b, hf, hb, h1, h2, e1, e2⟩ => by
      subst e1 e2
      by_cases c : u = 0
      · subst c
        rw [h2 rfl]
        exact .inl ⟨_, by simp [c_raised_to_0], _, rfl, rfl⟩
      · have hT1 := h1 (by omega)
        have hbu : b ≤ b ^ u := Nat.le_self_pow c b
        have hfT : f ≤ T := by rw [← hT1]; exact Nat.le_mul_of_pos_right _ (Nat.pow_pos hb)
        have hbT : b ≤ T := by rw [← hT1]; exact Nat.le_trans hbu (Nat.le_mul_of_pos_left _ hf)
        have m1 : mulFits (f : Int) (b : Int) = true := mulFits_big (lt_big (by omega)) (lt_big (by omega))
        have m2 : mulFits (b : Int) (b : Int) = true := mulFits_big (lt_big (by omega)) (lt_big (by omega))
        have zd : divFits (u : Int) 2 = true := divFits_of (by omega) (by omega)
        have d1 : (u : Int) / 2 = ((u / 2 : Nat) : Int) := by omega
        have d2 : (u : Int) % 2 = ((u % 2 : Nat) : Int) := by omega
        have hpos : (0 : Int) < (u : Int) := by omega
        have hdm : u = 2 * (u / 2) + u % 2 := by omega
        obtain ⟨v, hv⟩ : ∃ v, v = u / 2 := ⟨_, rfl⟩
        rw [← hv] at d1 hdm
        have hpw : (b * b) ^ v = b ^ (2 * v) := by rw [Nat.pow_mul, Nat.pow_two]
        have ct : c_raised_to_0 [some (.int (a : Int)), some (.int (u : Int)), some (.int (f : Int)), some (.int (b : Int))] st' = .ok true st' := by
          simp [c_raised_to_0, hpos, c]; omega
        rcases Nat.mod_two_eq_zero_or_one u with hm | hm
        · rw [hm] at hdm d2
          have hv0 : 0 < v := by omega
          have hv0' : (0 : Int) < (v : Int) := by omega
          refine .inr ⟨st', [some (.int (a : Int)), some (.int (v : Int)), some (.int (f : Int)), some (.int ((b * b : Nat) : Int))], st', v, ct, .inl ?_, by omega, f, b * b, hf, Nat.mul_pos hb hb, fun _ => ?_, fun z => by omega, rfl, rfl⟩
          · rw [Int.natCast_mul]
            obtain ⟨F, hF⟩ : ∃ F : Int, F = (f : Int) := ⟨_, rfl⟩
            obtain ⟨B, hB⟩ : ∃ B : Int, B = (b : Int) := ⟨_, rfl⟩
            rw [← hF, ← hB] at m1
            rw [← hB] at m2
            rw [← hF, ← hB]
            have d2' : (u : Int) % 2 = 0 := d2
            simp [b_raised_to_0, sAug, onIIc, d1, d2', zd, m2, hv0, hv0']
          · rw [hpw, ← hT1]
            rw [show u = 2 * v by omega]
        · rw [hm] at hdm d2
          have d2' : (u : Int) % 2 = 1 := d2
          by_cases hv0 : 0 < v
          · have hv0' : (0 : Int) < (v : Int) := by omega
            refine .inr ⟨st', [some (.int (a : Int)), some (.int (v : Int)), some (.int ((f * b : Nat) : Int)), some (.int ((b * b : Nat) : Int))], st', v, ct, .inl ?_, by omega, f * b, b * b, Nat.mul_pos hf hb, Nat.mul_pos hb hb, fun _ => ?_, fun z => by omega, rfl, rfl⟩
            · rw [Int.natCast_mul, Int.natCast_mul]
              obtain ⟨F, hF⟩ : ∃ F : Int, F = (f : Int) := ⟨_, rfl⟩
              obtain ⟨B, hB⟩ : ∃ B : Int, B = (b : Int) := ⟨_, rfl⟩
              rw [← hF, ← hB] at m1
              rw [← hB] at m2
              rw [← hF, ← hB]
              simp [b_raised_to_0, sAug, onIIc, d1, d2', zd, m1, m2, hv0, hv0']
            · rw [hpw, ← hT1, hdm, Nat.pow_succ, Nat.mul_assoc, Nat.mul_comm b]
          · have hv1 : v = 0 := by omega
            subst hv1
            refine .inr ⟨st', [some (.int (a : Int)), some (.int ((0 : Nat) : Int)), some (.int ((f * b : Nat) : Int)), some (.int (b : Int))], st', 0, ct, .inl ?_, by omega, f * b, b, Nat.mul_pos hf hb, hb, fun z => by omega, fun _ => ?_, rfl, rfl⟩
            · rw [Int.natCast_mul]
              obtain ⟨F, hF⟩ : ∃ F : Int, F = (f : Int) := ⟨_, rfl⟩
              obtain ⟨B, hB⟩ : ∃ B : Int, B = (b : Int) := ⟨_, rfl⟩
              rw [← hF, ← hB] at m1
              rw [← hF, ← hB]
              simp [b_raised_to_0, sAug, onIIc, d1, d2', zd, m1]
            · rw [← hT1, hdm]; simp)
    e [some (.int (a : Int)), some (.int (e : Int)), some (.int 1), some (.int (a : Int))] st ⟨1, a, by omega, ha, fun _ => by rw [hTT, Nat.one_mul], fun z => by rw [hTT, z]; rfl, rfl, rfl⟩
  obtain ⟨τ', st', ee, x, p1, p2⟩ := key
  subst p1 p2
  rw [S_raised_to_eq]
  refine gc_ok [] (runF_rt ?_) (by simp [WfD])
  simp [m_raised_to, N_raised_to, ee]
end K02

set_option Elab.async false
set_option linter.all false
set_option maxRecDepth 100000
set_option maxHeartbeats 4000000
set_option exponentiation.threshold 20000
namespace K02
open PySem L2 Fx
variable {A : Nat → Addr}
structure Good (l : List Nat) : Prop where
  sum : l.sum ≤ 720
  len : l.length ≤ 80
  pos : ∀ x ∈ l, 0 < x
  desc : l.Pairwise (fun a b => b ≤ a)
theorem pre_le {F : Nat × Nat → Nat} {c pre rest : List (Nat × Nat)} {q : Nat × Nat} (hp : ∀ x ∈ c, 0 < F x) (e : c = pre ++ q :: rest) : prodN (pre.map F) * F q ≤ prodN (c.map F) := by
  subst e
  rw [List.map_append, prodN_append, List.map_cons, prodN, ← Nat.mul_assoc]
  exact Nat.le_mul_of_pos_right _ (prodN_pos fun x hx => by
    obtain ⟨y, hy, rfl⟩ := List.mem_map.mp hx
    exact hp y (by simp [hy]))
theorem prodN_snoc {F : Nat × Nat → Nat} {pre : List (Nat × Nat)} {q : Nat × Nat} : prodN ((pre ++ [q]).map F) = prodN (pre.map F) * F q := by
  rw [List.map_append, prodN_append, List.map_cons, List.map_nil, prodN, prodN, Nat.mul_one]
theorem prodN_le {F G : Nat × Nat → Nat} : ∀ {c : List (Nat × Nat)}, (∀ q ∈ c, F q ≤ G q) → prodN (c.map F) ≤ prodN (c.map G)
  | [], _ => Nat.le_refl _
  | q :: c, h => Nat.mul_le_mul (h q List.mem_cons_self) (prodN_le fun x hx => h x (List.mem_cons_of_mem _ hx))
section
variable {l : List Nat}
theorem Good.z (h : Good l) : zN l ≤ 2 ^ 800 := zN_few h.sum h.len
theorem Good.r (h : Good l) : rN l ≤ 2 ^ 800 := Nat.le_trans (prodN_le fun q hq => by
  have := cts_mem h.desc h.pos q hq
  exact Nat.le_mul_of_pos_left _ (Nat.pow_pos this.1)) h.z
theorem Good.cl (h : Good l) : (cts l).length ≤ 80 := by
  have := cts_len (l := l) (acc := [])
  have h2 := h.len
  simp [cts] at this ⊢
  omega
theorem check_good {st : Store} (h : Good l) : S_check_partition A [lD l] st = .ok .non st := by
  have hl := h.len
  have q := check_partU (A := A) (x := lD l) (st := st) (.inl (okV_lD (by omega)))
  rw [isPt_lD h.pos h.desc, if_pos rfl] at q
  exact q
theorem repeat_eq {st : Store} (h : Good l) : S_repeat_number A [lD l] st = .ok (.int (rN l : Nat)) st := by
  have hl := h.len
  have hr := h.r
  have q0 := check_good (A := A) (st := st) h
  have q1 := counts_eq (A := A) (l := l) (st := st) (by omega)
  have key := forS_ind (g := gT (gsCons (gN 2) (gsCons (gN 3) gsNil))) (b := B_repeat_number_0 A)
    (P := fun ds τ st' => ∃ (pre rest : List (Nat × Nat)) (e2 e3 : Option D), cts l = pre ++ rest ∧ τ = [some (lD l), some (.int (prodN (pre.map fun q => facN q.2) : Nat)), e2, e3] ∧ st' = st ∧ ds = rest.map qD)
    (fun y ys τ st' ⟨pre, rest, e2, e3, h1, p1, p2, hds⟩ => by
      subst p1 p2
      cases rest with
      | nil => cases hds
      | cons q rest =>
        rw [List.map_cons, List.cons.injEq] at hds
        obtain ⟨rfl, rfl⟩ := hds
        have hq := cts_mem h.desc h.pos q (by rw [h1]; simp)
        refine ⟨[some (lD l), some (.int (prodN (pre.map fun q => facN q.2) : Nat)), some (nD q.1), some (nD q.2)], rfl, _, st', .inl ?_, pre ++ [q], rest, some (nD q.1), some (nD q.2), by simp [h1], rfl, rfl, rfl⟩
        have hb := pre_le (F := fun q => facN q.2) (fun _ _ => facN_pos _) h1
        have hb' : prodN (pre.map fun q => facN q.2) * facN q.2 ≤ 2 ^ 800 := Nat.le_trans hb hr
        have b1 : prodN (pre.map fun q => facN q.2) ≤ 2 ^ 800 := Nat.le_trans (Nat.le_mul_of_pos_right _ (facN_pos _)) hb'
        have b2 : facN q.2 ≤ 2 ^ 800 := fac_big (by omega)
        have f := factorial_eq (A := A) (n := q.2) (st := st') (by omega)
        have m := mulFits_big (lt_big b1) (lt_big b2)
        rw [prodN_snoc, Int.natCast_mul]
        obtain ⟨X, hX⟩ : ∃ X : Int, X = ((prodN (pre.map fun q => facN q.2) : Nat) : Int) := ⟨_, rfl⟩
        obtain ⟨Y, hY⟩ : ∃ Y : Int, Y = ((facN q.2 : Nat) : Int) := ⟨_, rfl⟩
        rw [← hX, ← hY] at m
        rw [← hY] at f
        rw [← hX, ← hY]
        simp [b_repeat_number_0, nD, f, m])
    ((cts l).map qD) [some (lD l), some (.int 1), none, none] st ⟨[], cts l, none, none, rfl, rfl, rfl, rfl⟩
  obtain ⟨τ', st', ee, pre, rest, e2, e3, h1, p1, p2, hds⟩ := key
  subst p1 p2
  have hr : rest = [] := by
    cases rest with
    | nil => rfl
    | cons x r => cases hds
  subst hr
  rw [List.append_nil] at h1
  rw [← h1] at ee
  have er : rN l = prodN ((cts l).map fun q => facN q.2) := rfl
  rw [← er] at ee
  rw [S_repeat_number_eq]
  refine gc_ok [] (runF_rt ?_) (by simp [WfD])
  obtain ⟨X, hX⟩ : ∃ X : Int, X = ((rN l : Nat) : Int) := ⟨_, rfl⟩
  obtain ⟨LL, hLL⟩ : ∃ LL, LL = lD l := ⟨_, rfl⟩
  obtain ⟨CQ, hCQ⟩ : ∃ CQ, CQ = (cts l).map qD := ⟨_, rfl⟩
  rw [← hX, ← hLL, ← hCQ] at ee
  rw [← hLL, ← hCQ] at q1
  rw [← hLL] at q0
  rw [← hX, ← hLL]
  simp [m_repeat_number, N_repeat_number, q0, q1, ee]
theorem central_eq {st : Store} (h : Good l) : S_centralizer_order A [lD l] st = .ok (.int (zN l : Nat)) st := by
  have hl := h.len
  have hr := h.z
  have q0 := check_good (A := A) (st := st) h
  have q1 := counts_eq (A := A) (l := l) (st := st) (by omega)
  have key := forS_ind (g := gT (gsCons (gN 2) (gsCons (gN 3) gsNil))) (b := B_centralizer_order_0 A)
    (P := fun ds τ st' => ∃ (pre rest : List (Nat × Nat)) (e2 e3 : Option D), cts l = pre ++ rest ∧ τ = [some (lD l), some (.int (prodN (pre.map zf) : Nat)), e2, e3] ∧ st' = st ∧ ds = rest.map qD)
    (fun y ys τ st' ⟨pre, rest, e2, e3, h1, p1, p2, hds⟩ => by
      subst p1 p2
      cases rest with
      | nil => cases hds
      | cons q rest =>
        rw [List.map_cons, List.cons.injEq] at hds
        obtain ⟨rfl, rfl⟩ := hds
        have hq := cts_mem h.desc h.pos q (by rw [h1]; simp)
        refine ⟨[some (lD l), some (.int (prodN (pre.map zf) : Nat)), some (nD q.1), some (nD q.2)], rfl, _, st', .inl ?_, pre ++ [q], rest, some (nD q.1), some (nD q.2), by simp [h1], rfl, rfl, rfl⟩
        have hb := pre_le (F := zf) (fun x hx => zf_pos (cts_mem h.desc h.pos x hx).1) h1
        have hb' : prodN (pre.map zf) * zf q ≤ 2 ^ 800 := Nat.le_trans hb hr
        have hzf : zf q = q.1 ^ q.2 * facN q.2 := rfl
        have hpp : 0 < q.1 ^ q.2 := Nat.pow_pos hq.1
        rw [hzf, ← Nat.mul_assoc] at hb'
        have b12 : prodN (pre.map zf) * q.1 ^ q.2 ≤ 2 ^ 800 := Nat.le_trans (Nat.le_mul_of_pos_right _ (facN_pos _)) hb'
        have b1 : prodN (pre.map zf) ≤ 2 ^ 800 := Nat.le_trans (Nat.le_mul_of_pos_right _ hpp) b12
        have hp1 : 0 < prodN (pre.map zf) := prodN_pos fun x hx => by
          obtain ⟨y, hy, rfl⟩ := List.mem_map.mp hx
          exact zf_pos (cts_mem h.desc h.pos y (by rw [h1]; simp [hy])).1
        have b3 : q.1 ^ q.2 ≤ 2 ^ 800 := Nat.le_trans (Nat.le_mul_of_pos_left _ hp1) b12
        have b2 : facN q.2 ≤ 2 ^ 800 := fac_big (by omega)
        have f := factorial_eq (A := A) (n := q.2) (st := st') (by omega)
        have f2 := raised_eq (A := A) (a := q.1) (e := q.2) (st := st') hq.1 b3
        have m1 := mulFits_big (lt_big b1) (lt_big b3)
        have m2 := mulFits_big (lt_big b12) (lt_big b2)
        rw [Int.natCast_mul] at m2
        rw [prodN_snoc, hzf, ← Nat.mul_assoc, Int.natCast_mul, Int.natCast_mul]
        obtain ⟨X, hX⟩ : ∃ X : Int, X = ((prodN (pre.map zf) : Nat) : Int) := ⟨_, rfl⟩
        obtain ⟨Y, hY⟩ : ∃ Y : Int, Y = ((facN q.2 : Nat) : Int) := ⟨_, rfl⟩
        obtain ⟨Z, hZ⟩ : ∃ Z : Int, Z = ((q.1 ^ q.2 : Nat) : Int) := ⟨_, rfl⟩
        rw [← hX, ← hZ] at m1
        rw [← hX, ← hZ, ← hY] at m2
        rw [← hY] at f
        rw [← hZ] at f2
        rw [← hX, ← hZ, ← hY]
        simp [b_centralizer_order_0, nD, f, f2, m1, m2])
    ((cts l).map qD) [some (lD l), some (.int 1), none, none] st ⟨[], cts l, none, none, rfl, rfl, rfl, rfl⟩
  obtain ⟨τ', st', ee, pre, rest, e2, e3, h1, p1, p2, hds⟩ := key
  subst p1 p2
  have hr : rest = [] := by
    cases rest with
    | nil => rfl
    | cons x r => cases hds
  subst hr
  rw [List.append_nil] at h1
  rw [← h1] at ee
  have er : zN l = prodN ((cts l).map zf) := rfl
  rw [← er] at ee
  rw [S_centralizer_order_eq]
  refine gc_ok [] (runF_rt ?_) (by simp [WfD])
  obtain ⟨X, hX⟩ : ∃ X : Int, X = ((zN l : Nat) : Int) := ⟨_, rfl⟩
  obtain ⟨LL, hLL⟩ : ∃ LL, LL = lD l := ⟨_, rfl⟩
  obtain ⟨CQ, hCQ⟩ : ∃ CQ, CQ = (cts l).map qD := ⟨_, rfl⟩
  rw [← hX, ← hLL, ← hCQ] at ee
  rw [← hLL, ← hCQ] at q1
  rw [← hLL] at q0
  rw [← hX, ← hLL]
  simp [m_centralizer_order, N_centralizer_order, q0, q1, ee]
theorem sum_lD {st : Store} : fSumA [lD l] st = .ok (.int ((l.sum : Nat) : Int)) st := by
  rw [lD, ints_nDF, x_sumT]
  congr 2
  induction l with
  | nil => rfl
  | cons a l ih => simp only [List.map_cons, List.sum_cons, ih]; omega
theorem size_eq {st : Store} (h : Good l) : S_class_size A [lD l] st = .ok (.int (csize l : Nat)) st := by
  have hs := h.sum
  have q0 := check_good (A := A) (st := st) h
  have q1 := central_eq (A := A) (st := st) h
  have q2 := sum_lD (l := l) (st := st)
  have q3 := factorial_eq (A := A) (n := l.sum) (st := st) (by omega)
  have zd : divFits ((facN l.sum : Nat) : Int) ((zN l : Nat) : Int) = true := divFits_big (zN_pos h.desc h.pos) h.z
  rw [S_class_size_eq]
  refine gc_ok [] (runF_rt ?_) (by simp [WfD])
  rw [csize, Int.natCast_ediv]
  obtain ⟨X, hX⟩ : ∃ X : Int, X = ((zN l : Nat) : Int) := ⟨_, rfl⟩
  obtain ⟨Y, hY⟩ : ∃ Y : Int, Y = ((facN l.sum : Nat) : Int) := ⟨_, rfl⟩
  obtain ⟨LL, hLL⟩ : ∃ LL, LL = lD l := ⟨_, rfl⟩
  obtain ⟨SS, hSS⟩ : ∃ SS : Int, SS = ((l.sum : Nat) : Int) := ⟨_, rfl⟩
  rw [← hLL] at q0 q1 q2
  rw [← hX] at q1 zd
  rw [← hY] at q3 zd
  rw [← hSS] at q2 q3
  rw [← hX, ← hY, ← hLL]
  simp [m_class_size, N_class_size, q0, q1, q2, q3, zd]
/-! ### what is due -/
def pw (q : Nat × Nat) : Nat := q.1 ^ q.2
theorem due_inner {st : Store} {c p O : Nat} {a0 a1 a4 a5 : Option D} (hp : p ≤ 1000) (hc : c ≤ 1000) : ∃ a5', forS (gN 5) b_law_due_0 (rangeD 0 (c : Int)) [a0, a1, some (.int (O : Int)), some (nD p), a4, a5] st = .nx [a0, a1, some (.int ((O * p ^ c : Nat) : Int)), some (nD p), a4, a5'] st := by
  have key := forS_ind (g := gN 5) (b := b_law_due_0)
    (P := fun ds τ st' => ∃ (j : Nat) (e5 : Option D), j ≤ c ∧ τ = [a0, a1, some (.int ((O * p ^ j : Nat) : Int)), some (nD p), a4, e5] ∧ st' = st ∧ ds = (List.range' j (c - j)).map nD)
    (fun y ys τ st' ⟨j, e5, hj, p1, p2, hds⟩ => by
      subst p1 p2
      have hlt : j < c := by
        refine Nat.lt_of_not_le fun z => ?_
        rw [show c - j = 0 by omega] at hds
        cases hds
      rw [show c - j = (c - (j + 1)) + 1 by omega, List.range'_succ, List.map_cons, List.cons.injEq] at hds
      obtain ⟨rfl, rfl⟩ := hds
      refine ⟨_, rfl, _, st', .inl ?_, j + 1, some (nD j), hlt, rfl, rfl, rfl⟩
      have m : mulFits ((O * p ^ j : Nat) : Int) (p : Int) = true := mulFits_r (by omega) (by omega)
      rw [Nat.pow_succ, ← Nat.mul_assoc, Int.natCast_mul (O * p ^ j)]
      obtain ⟨X, hX⟩ : ∃ X : Int, X = ((O * p ^ j : Nat) : Int) := ⟨_, rfl⟩
      rw [← hX] at m ⊢
      simp [b_law_due_0, nD, m])
    (rangeD 0 (c : Int)) [a0, a1, some (.int (O : Int)), some (nD p), a4, a5] st ⟨0, a5, Nat.zero_le _, by simp, rfl, by rw [range_nD, List.range_eq_range']; rfl⟩
  obtain ⟨τ', st', ee, j, e5, hj, p1, p2, hds⟩ := key
  subst p1 p2
  have hm2 : j = c := by
    have := congrArg List.length hds
    simp at this; omega
  subst hm2
  exact ⟨e5, ee⟩
theorem due_eq {st : Store} (h : Good l) : S_law_due A [lD l] st = .ok (.tup [.int (rN l : Nat), .int (zN l : Nat)]) st := by
  have hl := h.len
  have hs := h.sum
  have hz := h.z
  have hrr := h.r
  have hmemr : ∀ q ∈ (cts l).reverse, 0 < q.1 ∧ 0 < q.2 ∧ q.2 ≤ l.length ∧ q.1 ∈ l ∧ q.2 = l.count q.1 := fun q hq => cts_mem h.desc h.pos q (List.mem_reverse.mp hq)
  have hR : prodN ((cts l).reverse.map fun q => facN q.2) = rN l := by rw [List.map_reverse, prodN_reverse]; rfl
  have hO : prodN ((cts l).reverse.map pw) * rN l = zN l := by
    rw [List.map_reverse, prodN_reverse]
    exact (prodN_mul (f := pw) (g := fun q : Nat × Nat => facN q.2) (cts l)).symm
  have key := forS_ind (g := gN 3) (b := B_law_due_1 A)
    (P := fun ds τ st' => ∃ (pre rest : List (Nat × Nat)) (e3 e4 e5 : Option D), (cts l).reverse = pre ++ rest ∧ τ = [some (lD l), some (.int (prodN (pre.map fun q => facN q.2) : Nat)), some (.int (prodN (pre.map pw) : Nat)), e3, e4, e5] ∧ st' = st ∧ ds = rest.map fun q => nD q.1)
    (fun y ys τ st' ⟨pre, rest, e3, e4, e5, h1, p1, p2, hds⟩ => by
      subst p1 p2
      cases rest with
      | nil => cases hds
      | cons q rest =>
        rw [List.map_cons, List.cons.injEq] at hds
        obtain ⟨rfl, rfl⟩ := hds
        have hq := hmemr q (by rw [h1]; simp)
        have hp720 : q.1 ≤ 720 := Nat.le_trans (le_sum hq.2.2.2.1) hs
        obtain ⟨a5', fi⟩ := due_inner (st := st') (c := q.2) (p := q.1) (O := prodN (pre.map pw)) (a0 := some (lD l)) (a1 := some (.int (prodN ((pre ++ [q]).map fun q => facN q.2) : Nat))) (a4 := some (nD q.2)) (a5 := e5) (by omega) (by omega)
        refine ⟨[some (lD l), some (.int (prodN (pre.map fun q => facN q.2) : Nat)), some (.int (prodN (pre.map pw) : Nat)), some (nD q.1), e4, e5], rfl, _, st', .inl ?_, pre ++ [q], rest, some (nD q.1), some (nD q.2), a5', by simp [h1], rfl, rfl, rfl⟩
        have hb := pre_le (F := fun q => facN q.2) (fun _ _ => facN_pos _) h1
        rw [hR] at hb
        have hb' : prodN (pre.map fun q => facN q.2) * facN q.2 ≤ 2 ^ 800 := Nat.le_trans hb hrr
        have b1 : prodN (pre.map fun q => facN q.2) ≤ 2 ^ 800 := Nat.le_trans (Nat.le_mul_of_pos_right _ (facN_pos _)) hb'
        have b2 : facN q.2 ≤ 2 ^ 800 := fac_big (by omega)
        have f := law_factorial_eq (A := A) (n := q.2) (st := st') (by omega)
        have m := mulFits_big (lt_big b1) (lt_big b2)
        have tc := tcnt (l := l) (a := q.1) (st := st')
        rw [← hq.2.2.2.2] at tc
        have zw : w62 ((q.2 : Nat) : Int) = true := w62_of (by omega) (by omega)
        have es : prodN ((pre ++ [q]).map pw) = prodN (pre.map pw) * q.1 ^ q.2 := prodN_snoc
        rw [es]
        rw [prodN_snoc, Int.natCast_mul] at fi ⊢
        simp only [lD] at fi ⊢
        obtain ⟨LL, hLL⟩ : ∃ LL, LL = l.map nD := ⟨_, rfl⟩
        obtain ⟨X, hX⟩ : ∃ X : Int, X = ((prodN (pre.map fun q => facN q.2) : Nat) : Int) := ⟨_, rfl⟩
        obtain ⟨Y, hY⟩ : ∃ Y : Int, Y = ((facN q.2 : Nat) : Int) := ⟨_, rfl⟩
        obtain ⟨Z, hZ⟩ : ∃ Z : Int, Z = ((prodN (pre.map pw) : Nat) : Int) := ⟨_, rfl⟩
        obtain ⟨U, hU⟩ : ∃ U : Int, U = ((prodN (pre.map pw) * q.1 ^ q.2 : Nat) : Int) := ⟨_, rfl⟩
        rw [← hX, ← hY] at m
        rw [← hY] at f
        rw [← hLL] at tc
        rw [← hX, ← hY, ← hZ, ← hU, ← hLL] at fi
        rw [← hX, ← hY, ← hZ, ← hU, ← hLL]
        simp only [nD] at fi ⊢
        simp [b_law_due_1, tc, f, m, zw, fi])
    ((cts l).reverse.map fun q => nD q.1) [some (lD l), some (.int 1), some (.int 1), none, none, none] st ⟨[], (cts l).reverse, none, none, none, rfl, rfl, rfl, rfl⟩
  obtain ⟨τ', st', ee, pre, rest, e3, e4, e5, h1, p1, p2, hds⟩ := key
  subst p1 p2
  have hr : rest = [] := by
    cases rest with
    | nil => rfl
    | cons x r => cases hds
  subst hr
  rw [List.append_nil] at h1
  rw [← h1, hR] at ee
  have q1 : intsOf (l.map nD) = some (l.map fun n : Nat => (n : Int)) := by rw [ints_nDF]; exact intsOf_map _
  have q2 : (l.map fun n : Nat => (n : Int)).length ≤ 4000 ∧ (dd (l.map fun n : Nat => (n : Int))).length < 64 := ⟨by simp; omega, by rw [dd_len_eq h.desc]; exact cts_few h.pos h.desc hs⟩
  have q3 : (sortI (dd (l.map fun n : Nat => (n : Int)))).map D.int = (cts l).reverse.map fun q => nD q.1 := by
    have := congrArg List.reverse (dist_eq h.desc)
    rw [List.reverse_reverse] at this
    rw [this, List.map_reverse, List.map_reverse, List.map_map, List.map_map]; rfl
  have bO : prodN ((cts l).reverse.map pw) ≤ 2 ^ 800 := by
    refine Nat.le_trans (Nat.le_mul_of_pos_right _ ?_) (Nat.le_trans (Nat.le_of_eq hO) hz)
    exact prodN_pos fun x hx => by
      obtain ⟨y, hy, rfl⟩ := List.mem_map.mp hx
      exact facN_pos _
  have m := mulFits_big (lt_big bO) (lt_big hrr)
  rw [S_law_due_eq]
  refine gc_ok [] (runF_rt ?_) (wf_lf _ (by rfl))
  rw [← hO, Int.natCast_mul]
  simp only [lD] at ee ⊢
  obtain ⟨LL, hLL⟩ : ∃ LL, LL = l.map nD := ⟨_, rfl⟩
  obtain ⟨NS, hNS⟩ : ∃ NS, NS = l.map fun n : Nat => (n : Int) := ⟨_, rfl⟩
  obtain ⟨CF, hCF⟩ : ∃ CF, CF = (cts l).reverse.map fun q => nD q.1 := ⟨_, rfl⟩
  obtain ⟨SD, hSD⟩ : ∃ SD, SD = (sortI (dd NS)).map D.int := ⟨_, rfl⟩
  obtain ⟨X, hX⟩ : ∃ X : Int, X = ((rN l : Nat) : Int) := ⟨_, rfl⟩
  obtain ⟨Y, hY⟩ : ∃ Y : Int, Y = ((prodN ((cts l).reverse.map pw) : Nat) : Int) := ⟨_, rfl⟩
  rw [← hLL, ← hNS] at q1
  rw [← hNS] at q2 q3
  rw [← hSD, ← hCF] at q3
  rw [← hLL, ← hCF, ← hX, ← hY] at ee
  rw [← hX, ← hY] at m
  rw [← hX, ← hY, ← hLL]
  rw [← q3] at ee
  simp [m_law_due, N_law_due, q1, q2, ← hSD, ee, m]
end
end K02

set_option Elab.async false
set_option linter.all false
set_option maxRecDepth 100000
set_option maxHeartbeats 4000000
set_option exponentiation.threshold 20000
namespace K02
open PySem L2 Fx
variable {A : Nat → Addr} {l : List Nat}
abbrev Dist (A : Nat → Addr) : Prop := A 2 ≠ A 3 ∧ A 12 ≠ A 13 ∧ A 12 ≠ A 14 ∧ A 13 ≠ A 14
theorem tabs (hA : Dist A) : tab_law_told A (A 12) = some (1, S_repeat_number A) ∧ tab_law_told A (A 13) = some (1, S_centralizer_order A) ∧ tab_law_told A (A 14) = some (1, S_class_size A) := by
  obtain ⟨_, h1, h2, h3⟩ := hA
  refine ⟨?_, ?_, ?_⟩
  · simp [tab_law_told]
  · simp [tab_law_told, Ne.symm h1]
  · simp [tab_law_told, Ne.symm h2, Ne.symm h3]
theorem holds_eq (hA : Dist A) {st : Store} (h : Good l) : S_law_holds A [lD l] st = .ok (.bl true) st := by
  obtain ⟨t1, t2, t3⟩ := tabs hA
  have hs := h.sum
  have q0 := due_eq (A := A) (st := st) h
  have q1 := told_ok1 t1 (repeat_eq (A := A) (st := st) h) rfl
  have q2 := told_ok1 t2 (central_eq (A := A) (st := st) h) rfl
  have q3 := told_ok1 t3 (size_eq (A := A) (st := st) h) rfl
  have s1 := is_told_eq (A := A) (v := .int (rN l : Nat)) (st := st) same_int
  have s2 := is_told_eq (A := A) (v := .int (zN l : Nat)) (st := st) same_int
  have s3 := is_told_eq (A := A) (v := .int (csize l : Nat)) (st := st) same_int
  have q4 := sum_lD (l := l) (st := st)
  have q5 := law_factorial_eq (A := A) (n := l.sum) (st := st) (by omega)
  have zd : divFits ((facN l.sum : Nat) : Int) ((zN l : Nat) : Int) = true := divFits_big (zN_pos h.desc h.pos) h.z
  have ed : ((csize l : Nat) : Int) = ((facN l.sum : Nat) : Int) / ((zN l : Nat) : Int) := by rw [csize, Int.natCast_ediv]
  rw [ed] at q3 s3
  rw [S_law_holds_eq]
  refine gc_ok [] (runF_rt ?_) (by simp [WfD])
  obtain ⟨X, hX⟩ : ∃ X : Int, X = ((zN l : Nat) : Int) := ⟨_, rfl⟩
  obtain ⟨Y, hY⟩ : ∃ Y : Int, Y = ((facN l.sum : Nat) : Int) := ⟨_, rfl⟩
  obtain ⟨Z, hZ⟩ : ∃ Z : Int, Z = ((rN l : Nat) : Int) := ⟨_, rfl⟩
  obtain ⟨LL, hLL⟩ : ∃ LL, LL = lD l := ⟨_, rfl⟩
  obtain ⟨SS, hSS⟩ : ∃ SS : Int, SS = ((l.sum : Nat) : Int) := ⟨_, rfl⟩
  rw [← hLL, ← hX, ← hZ] at q0
  rw [← hLL, ← hZ] at q1
  rw [← hLL, ← hX] at q2
  rw [← hLL, ← hX, ← hY] at q3
  rw [← hZ] at s1
  rw [← hX] at s2
  rw [← hX, ← hY] at s3
  rw [← hLL, ← hSS] at q4
  rw [← hSS, ← hY] at q5
  rw [← hX, ← hY] at zd
  rw [← hLL]
  obtain ⟨T1, hT1⟩ : ∃ T1, T1 = toldD (.int Z) := ⟨_, rfl⟩
  obtain ⟨T2, hT2⟩ : ∃ T2, T2 = toldD (.int X) := ⟨_, rfl⟩
  obtain ⟨T3, hT3⟩ : ∃ T3, T3 = toldD (.int (Y / X)) := ⟨_, rfl⟩
  rw [← hT1] at q1 s1
  rw [← hT2] at q2 s2
  rw [← hT3] at q3 s3
  have i0 : atI [T1, T2, T3] 0 = some T1 := rfl
  have i1 : atI [T1, T2, T3] 1 = some T2 := rfl
  have i2 : atI [T1, T2, T3] 2 = some T3 := rfl
  have g : gT (gsCons (gN 1) (gsCons (gN 2) gsNil)) (.tup [.int Z, .int X]) [some LL, none, none, none] = some [some LL, some (.int Z), some (.int X), none] := rfl
  simp [m_law_holds, N_law_holds, q0, g, q1, q2, q3, s1, s2, s3, q4, q5, zd, i0, i1, i2]
theorem bad_check {x : D} {st : Store} (h : okV x) (hb : isPt x = false) : S_check_partition A [x] st = .er ⟨A 2, none⟩ st := by
  have q1 := check_partU (A := A) (x := x) (st := st) (.inl h)
  rw [hb, if_neg (by decide)] at q1
  exact q1
theorem bad_repeat {x : D} {st : Store} (h : okV x) (hb : isPt x = false) : S_repeat_number A [x] st = .er ⟨A 2, none⟩ st := by
  have q1 := bad_check (A := A) (st := st) h hb
  rw [S_repeat_number_eq]
  exact gc_er [] (runF_er (τ' := [some x, none, none, none]) (by simp [m_repeat_number, N_repeat_number, q1]))
theorem bad_central {x : D} {st : Store} (h : okV x) (hb : isPt x = false) : S_centralizer_order A [x] st = .er ⟨A 2, none⟩ st := by
  have q1 := bad_check (A := A) (st := st) h hb
  rw [S_centralizer_order_eq]
  exact gc_er [] (runF_er (τ' := [some x, none, none, none]) (by simp [m_centralizer_order, N_centralizer_order, q1]))
theorem bad_size {x : D} {st : Store} (h : okV x) (hb : isPt x = false) : S_class_size A [x] st = .er ⟨A 2, none⟩ st := by
  have q1 := bad_check (A := A) (st := st) h hb
  rw [S_class_size_eq]
  exact gc_er [] (runF_er (τ' := [some x]) (by simp [m_class_size, N_class_size, q1]))
theorem okV_tup {xs : List D} (h : ∀ x ∈ xs, pl x = true) (hl : xs.length ≤ 1000) : okV (.tup xs) := by
  refine ⟨rfl, fun ys e => ?_⟩
  have e2 : ys = xs := by injection e with e; exact e.symm
  subst e2
  exact ⟨h, hl⟩
theorem good_pts {n : Nat} {mu : List Nat} (hn : n < 17) (h : mu ∈ pts 18 n n) : Good mu := by
  obtain ⟨h1, h2, h3⟩ := pts_mem h
  have h4 := len_le_sum fun x hx => (h3 x hx).1
  exact ⟨by omega, by omega, fun x hx => (h3 x hx).1, h2⟩
/-! ### the table of types -/
theorem type_lD {d : Nat} {r : List Nat} {st : Store} (hd : d ≤ 900) (h : r ∈ lvlP d d) : S_law_type A [lD r] st = .ok (lD (typeF d r)) st := by
  obtain ⟨g, rfl⟩ := lvlP_get h
  have q := law_type_eq (A := A) (p := g) (st := st) hd
  rw [typeF_eq]
  exact q
theorem dget_at {st : Store} {n : Nat} {kvs : List (NestedKey × D)} {mu : List Nat} (h : st[n]? = some (.dt kvs)) : dGet (.loc n) (lD mu) st = some (valD kvs (kk mu)) := by
  simp only [dGet, h, keyN_lD]
theorem table_eq {d : Nat} {s t : Int} {a0 a1 a2 a4 a5 a6 a7 a8 a9 a10 a11 a12 : Option D} (hd : d ≤ 6) : ∃ kvs a4' a5', forS (gN 4) (B_law_4 A) ((lvlP d d).map lD) [a0, a1, a2, some (.loc 1), a4, a5, a6, a7, a8, a9, a10, a11, a12] [stt s t, .dt []] = .nx [a0, a1, a2, some (.loc 1), a4', a5', a6, a7, a8, a9, a10, a11, a12] [stt s t, .dt kvs] ∧ DI ((lvlP d d).map (typeF d)) kvs := by
  have hlen : (lvlP d d).length ≤ 46656 := Nat.le_trans (lvl_len d) (pow_le hd hd)
  have key := forS_ind (g := gN 4) (b := B_law_4 A)
    (P := fun ds τ st' => ∃ (pre rest : List (List Nat)) (kvs : List (NestedKey × D)) (e4 e5 : Option D), lvlP d d = pre ++ rest ∧ τ = [a0, a1, a2, some (.loc 1), e4, e5, a6, a7, a8, a9, a10, a11, a12] ∧ st' = [stt s t, .dt kvs] ∧ DI (pre.map (typeF d)) kvs ∧ ds = rest.map lD)
    (fun y ys τ st' ⟨pre, rest, kvs, e4, e5, h1, p1, p2, hI, hds⟩ => by
      subst p1 p2
      cases rest with
      | nil => cases hds
      | cons r rest =>
        rw [List.map_cons, List.cons.injEq] at hds
        obtain ⟨rfl, rfl⟩ := hds
        have hr : r ∈ lvlP d d := by rw [h1]; simp
        have q1 := type_lD (A := A) (st := [stt s t, .dt kvs]) (by omega) hr
        have hI' := hI.put (mu := typeF d r)
        have hpl : pre.length ≤ 46656 := by
          have := congrArg List.length h1
          rw [List.length_append] at this; omega
        have hkl := hI.len
        rw [List.length_map] at hkl
        have g0 : ([stt s t, .dt kvs] : Store)[1]? = some (.dt kvs) := rfl
        obtain ⟨c, hc⟩ : ∃ c : Int, c = (((pre.map (typeF d)).count (typeF d r) : Nat) : Int) := ⟨_, rfl⟩
        have q2 : fDGetOr (.loc 1) (lD (typeF d r)) (.int 0) [stt s t, .dt kvs] = .ok (.int c) [stt s t, .dt kvs] := by
          simp only [fDGetOr, dget_at g0, hI.val]
          split
          · rename_i z
            split at z
            · cases z
            · cases z; rw [hc]
          · rename_i z
            split at z
            · rename_i z0
              rw [hc, z0]; rfl
            · cases z
          · rename_i z
            cases z
        have zz : szFits (kvs.length + 1) = true := szFits_iff.mpr (by rw [sizeLine_eq]; omega)
        have q3 : fSetD (.loc 1) (lD (typeF d r)) (.int (c + 1)) [stt s t, .dt kvs] = some [stt s t, .dt (putD kvs (kk (typeF d r)) (.int (c + 1)))] := by
          simp only [fSetD, g0, keyN_lD, zz, if_true]
          rfl
        have hdt : isDt (.loc 1) [stt s t, .dt kvs] = true := rfl
        rw [← hc] at hI'
        refine ⟨_, rfl, [a0, a1, a2, some (.loc 1), some (lD r), some (lD (typeF d r)), a6, a7, a8, a9, a10, a11, a12], [stt s t, .dt (putD kvs (kk (typeF d r)) (.int (c + 1)))], .inl ?_, pre ++ [r], rest, _, some (lD r), some (lD (typeF d r)), by simp [h1], rfl, rfl, by simpa using hI', rfl⟩
        obtain ⟨R, hR⟩ : ∃ R, R = lD r := ⟨_, rfl⟩
        obtain ⟨TR, hTR⟩ : ∃ TR, TR = lD (typeF d r) := ⟨_, rfl⟩
        rw [← hR, ← hTR] at q1
        rw [← hTR] at q2 q3
        rw [← hR, ← hTR]
        simp [b_law_4, q1, q2, q3, hdt])
    ((lvlP d d).map lD) [a0, a1, a2, some (.loc 1), a4, a5, a6, a7, a8, a9, a10, a11, a12] [stt s t, .dt []] ⟨[], lvlP d d, [], a4, a5, rfl, rfl, rfl, DI.nil, rfl⟩
  obtain ⟨τ', st', ee, pre, rest, kvs, e4, e5, h1, p1, p2, hI, hds⟩ := key
  subst p1 p2
  have hr : rest = [] := by
    cases rest with
    | nil => rfl
    | cons x r => cases hds
  subst hr
  rw [List.append_nil] at h1
  rw [← h1] at hI
  exact ⟨kvs, e4, e5, ee, hI⟩
end K02

set_option Elab.async false
set_option linter.all false
set_option maxRecDepth 100000
set_option maxHeartbeats 4000000
set_option exponentiation.threshold 20000
namespace K02
open PySem L2 Fx
variable {A : Nat → Addr} {l : List Nat}
theorem good_great {l : List Nat} (h1 : l.length ≤ 12) (h2 : ∀ x ∈ l, 0 < x ∧ x ≤ 60) : Good (srtN l) := by
  have hp := srtN_perm l
  have hs : l.sum ≤ 60 * l.length := by
    clear h1 hp
    induction l with
    | nil => simp
    | cons a l ih =>
      have := ih fun x hx => h2 x (List.mem_cons_of_mem _ hx)
      have := h2 a List.mem_cons_self
      simp only [List.sum_cons, List.length_cons]; omega
  exact ⟨by rw [hp.sum_nat]; omega, by rw [hp.length_eq]; omega, fun x hx => (h2 x (hp.mem_iff.mp hx)).1, srtN_desc l⟩
theorem good_ones {k : Nat} (h : k ≤ 80) : Good (List.replicate k 1) := by
  refine ⟨?_, by simpa using h, fun x hx => ?_, ?_⟩
  · rw [List.sum_replicate_nat]; omega
  · rw [List.mem_replicate] at hx; omega
  · rw [List.pairwise_iff_getElem]
    intro i j hi hj _
    simp
theorem great_comp {s t : Int} {kvs : List (NestedKey × D)} {m : Nat} {a0 a2 a3 a4 a5 a6 a7 a8 a9 a10 a11 a12 : Option D} (hs : 0 ≤ s) (hm : m ≤ 12) : ∃ (l : List Nat) (s' t' : Int), compS (gN 9) mYes (E_law_0 A) [9] (rangeD 0 (m : Int)) [a0, some (.loc 0), a2, a3, a4, a5, a6, a7, a8, a9, a10, a11, a12] [stt s t, .dt kvs] [] = .ok (l.map nD) [stt s' t', .dt kvs] ∧ 0 ≤ s' ∧ l.length ≤ 12 ∧ ∀ x ∈ l, 0 < x ∧ x ≤ 60 := by
  obtain ⟨st', acc, e, l, s', t', rfl, rfl, h1, h2, h3⟩ := compS_ind (g := gN 9) (t := mYes) (m := E_law_0 A) (vs := [9]) (τ := [a0, some (.loc 0), a2, a3, a4, a5, a6, a7, a8, a9, a10, a11, a12])
    (P := fun ds st acc => ∃ (l : List Nat) (s t : Int), acc = l.map nD ∧ st = [stt s t, .dt kvs] ∧ 0 ≤ s ∧ l.length + ds.length ≤ 12 ∧ ∀ x ∈ l, 0 < x ∧ x ≤ 60)
    (fun y ds st acc ⟨l, s, t, e1, e2, h1, h2, h3⟩ => by
      subst e1 e2
      simp only [List.length_cons] at h2
      obtain ⟨v, s2, t2, q, hv, hs2⟩ := take_nat (A := A) (s := s) (t := t) (n := 60) (r := [.dt kvs]) h1 (by omega) (by omega)
      simp at q
      refine ⟨_, rfl, .inl ⟨[stt s t, .dt kvs], nD (1 + v), [stt s2 t2, .dt kvs], rfl, ?_, by rw [sizeLine_eq]; simp; omega, l ++ [1 + v], s2, t2, by simp, rfl, hs2, by simp; omega, fun x hx => ?_⟩⟩
      · simp [e_law_0, q, nD]
      · rcases List.mem_append.mp hx with hx | hx
        · exact h3 x hx
        · rw [List.mem_singleton] at hx; omega)
    (rangeD 0 (m : Int)) [stt s t, .dt kvs] [] ⟨[], s, t, rfl, rfl, hs, by simp; omega, by simp⟩
  exact ⟨l, s', t', e, h1, by simpa using h2, h3⟩
theorem law_run (A : Nat → Addr) (hA : Dist A) (sc : D) {s0 t0 : Int} (hstate : S_law_state A [sc] [] = .ok (.loc 0) [stt s0 t0]) (hs0 : 0 ≤ s0) : ∃ st', S_law A [sc] [] = .ok (.bl true) st' := by
  suffices h : RT (m_law A (S_law_state A) (S_law_take A) (S_law_every A) (S_law_partitions A 18) (S_law_same A 4) (S_law_type A) (S_law_factorial A) (S_class_size A) (S_law_holds A) (S_law_is_told A) (S_law_is_raised A) (S_law_told A) [some sc, none, none, none, none, none, none, none, none, none, none, none, none] []) by
    obtain ⟨st', e⟩ := h
    rw [S_law_eq]
    have e2 : runF N_law (m_law A (S_law_state A) (S_law_take A) (S_law_every A) (S_law_partitions A 18) (S_law_same A 4) (S_law_type A) (S_law_factorial A) (S_class_size A) (S_law_holds A) (S_law_is_told A) (S_law_is_raised A) (S_law_told A)) [sc] [] = .ok (.bl true) st' := runF_rt e
    exact ⟨[], gc_ok st' (by rw [e2]; rfl) (by simp [WfD])⟩
  obtain ⟨t1, t2, t3⟩ := tabs hA
  unfold m_law
  refine RT_post (fun τ st => ∃ s t, τ = [some sc, some (.loc 0), none, none, none, none, none, none, none, none, none, none, none] ∧ st = [stt s t] ∧ 0 ≤ s) ⟨_, _, by first | (simp [hstate]; done) | (simp [hstate]; exact ⟨rfl, rfl⟩) | (simp [hstate]; rfl), s0, t0, rfl, rfl, hs0⟩ ?_
  rintro _ _ ⟨s, t, rfl, rfl, hs⟩
  refine RT_post (fun τ st => ∃ (s t : Int) (d : Nat), τ = [some sc, some (.loc 0), some (.int (d : Int)), none, none, none, none, none, none, none, none, none, none] ∧ st = [stt s t] ∧ 0 ≤ s ∧ d < 7) ?_ ?_
  · obtain ⟨v, s1, u1, q1, hv, hs1⟩ := take_nat (A := A) (s := s) (t := t) (n := 7) (r := []) hs (by omega) (by omega)
    simp at q1
    exact ⟨_, _, by first | (simp [q1]; done) | (simp [q1]; exact ⟨rfl, rfl⟩) | (simp [q1]; rfl), s1, u1, v, rfl, rfl, hs1, hv⟩
  clear hs
  rintro _ _ ⟨s, t, d, rfl, rfl, hs, hd⟩
  refine RT_post (fun τ st => τ = [some sc, some (.loc 0), some (.int (d : Int)), some (.loc 1), none, none, none, none, none, none, none, none, none] ∧ st = [stt s t, .dt []]) ⟨_, _, by first | (simp; done) | (simp; exact ⟨rfl, rfl⟩) | (simp; rfl), rfl, rfl⟩ ?_
  rintro _ _ ⟨rfl, rfl⟩
  -- the table
  refine RT_post (fun τ st => ∃ kvs o4 o5, τ = [some sc, some (.loc 0), some (.int (d : Int)), some (.loc 1), o4, o5, none, none, none, none, none, none, none] ∧ st = [stt s t, .dt kvs] ∧ DI ((lvlP d d).map (typeF d)) kvs) ?_ ?_
  · have q1 := law_every_eq (A := A) (d := d) (st := [stt s t, .dt []]) (by omega)
    obtain ⟨kvs, o4, o5, q2, hI⟩ := table_eq (A := A) (d := d) (s := s) (t := t) (a0 := some sc) (a1 := some (.loc 0)) (a2 := some (.int (d : Int))) (a4 := none) (a5 := none) (a6 := none) (a7 := none) (a8 := none) (a9 := none) (a10 := none) (a11 := none) (a12 := none) (by omega)
    obtain ⟨LV, hLV⟩ : ∃ LV, LV = (lvlP d d).map lD := ⟨_, rfl⟩
    rw [← hLV] at q1 q2
    exact ⟨_, _, by first | (simp [q1, q2]; done) | (simp [q1, q2]; exact ⟨rfl, rfl⟩) | (simp [q1, q2]; rfl), kvs, o4, o5, rfl, rfl, hI⟩
  rintro _ _ ⟨kvs, o4, o5, rfl, rfl, hI⟩
  have g0 : ∀ s t : Int, ([stt s t, .dt kvs] : Store)[1]? = some (.dt kvs) := fun _ _ => rfl
  refine RT_post (fun τ st => ∃ o6, τ = [some sc, some (.loc 0), some (.int (d : Int)), some (.loc 1), o4, o5, o6, none, none, none, none, none, none] ∧ st = [stt s t, .dt kvs]) ?_ ?_
  · have q1 := law_partitions_eq (A := A) 18 (d := d) (m := d) (st := [stt s t, .dt kvs]) (by omega) (by omega) (by omega)
    obtain ⟨τ', st', e, o6, e1, e2, _⟩ := forS_ind (g := gN 6) (b := B_law_3 A)
      (P := fun ds τ st => ∃ (o6 : Option D), τ = [some sc, some (.loc 0), some (.int (d : Int)), some (.loc 1), o4, o5, o6, none, none, none, none, none, none] ∧ st = [stt s t, .dt kvs] ∧ ∀ x ∈ ds, ∃ mu ∈ pts 18 d d, x = lD mu)
      (fun y ys τ st ⟨o6, e1, e2, e3⟩ => by
        subst e1 e2
        obtain ⟨mu, hm, rfl⟩ := e3 y List.mem_cons_self
        have hg := good_pts (by omega) hm
        obtain ⟨c1, c2⟩ := cnt_mu hd hm
        have q2 := told_ok1 t3 (size_eq (A := A) (st := [stt s t, .dt kvs]) hg) rfl
        have q3 : fDGet (.loc 1) (lD mu) [stt s t, .dt kvs] = .ok (.int (csize mu : Nat)) [stt s t, .dt kvs] := by
          simp only [fDGet, dget_at (g0 s t), hI.val, c1]
          rw [if_neg (by omega)]
        have q4 := is_told_eq (A := A) (v := .int (csize mu : Nat)) (st := [stt s t, .dt kvs]) same_int
        have q5 := holds_eq (A := A) hA (st := [stt s t, .dt kvs]) hg
        refine ⟨_, rfl, [some sc, some (.loc 0), some (.int (d : Int)), some (.loc 1), o4, o5, some (lD mu), none, none, none, none, none, none], [stt s t, .dt kvs], .inl ?_, some (lD mu), rfl, rfl, fun x hx => e3 x (List.mem_cons_of_mem _ hx)⟩
        obtain ⟨M, hM⟩ : ∃ M, M = lD mu := ⟨_, rfl⟩
        obtain ⟨C, hC⟩ : ∃ C : Int, C = ((csize mu : Nat) : Int) := ⟨_, rfl⟩
        rw [← hM] at q2 q3 q5 ⊢
        rw [← hC] at q2 q3 q4
        simp [b_law_3, q2, q3, q4, q5])
      ((pts 18 d d).map lD) [some sc, some (.loc 0), some (.int (d : Int)), some (.loc 1), o4, o5, none, none, none, none, none, none, none] [stt s t, .dt kvs] ⟨none, rfl, rfl, fun x hx => by
        obtain ⟨mu, hm, rfl⟩ := List.mem_map.mp hx
        exact ⟨mu, hm, rfl⟩⟩
    subst e1 e2
    obtain ⟨PS, hPS⟩ : ∃ PS, PS = (pts 18 d d).map lD := ⟨_, rfl⟩
    rw [← hPS] at q1 e
    exact ⟨_, _, by first | (simp [q1, e]; done) | (simp [q1, e]; exact ⟨rfl, rfl⟩) | (simp [q1, e]; rfl), o6, rfl, rfl⟩
  rintro _ _ ⟨o6, rfl, rfl⟩
  -- all shapes
  refine RT_post (fun τ st => ∃ (s t : Int) (n : Nat), τ = [some sc, some (.loc 0), some (.int (d : Int)), some (.loc 1), o4, o5, o6, some (.int (n : Int)), none, none, none, none, none] ∧ st = [stt s t, .dt kvs] ∧ 0 ≤ s ∧ n < 17) ?_ ?_
  · obtain ⟨v, s1, u1, q1, hv, hs1⟩ := take_nat (A := A) (s := s) (t := t) (n := 10) (r := [.dt kvs]) hs (by omega) (by omega)
    simp at q1
    refine ⟨[some sc, some (.loc 0), some (.int (d : Int)), some (.loc 1), o4, o5, o6, some (.int ((7 + v : Nat) : Int)), none, none, none, none, none], [stt s1 u1, .dt kvs], ?_, s1, u1, 7 + v, rfl, rfl, hs1, by omega⟩
    simp [q1]
  clear hs
  rintro _ _ ⟨s, t, n, rfl, rfl, hs, hn⟩
  obtain ⟨PS, hPS⟩ : ∃ PS, PS = (pts 18 n n).map lD := ⟨_, rfl⟩
  refine RT_post (fun τ st => τ = [some sc, some (.loc 0), some (.int (d : Int)), some (.loc 1), o4, o5, o6, some (.int (n : Int)), some (.lst PS), none, none, none, none] ∧ st = [stt s t, .dt kvs]) ?_ ?_
  · have q1 := law_partitions_eq (A := A) 18 (d := n) (m := n) (st := [stt s t, .dt kvs]) (by omega) (by omega) (by omega)
    rw [← hPS] at q1
    exact ⟨_, _, by first | (simp [q1]; done) | (simp [q1]; exact ⟨rfl, rfl⟩) | (simp [q1]; rfl), rfl, rfl⟩
  rintro _ _ ⟨rfl, rfl⟩
  obtain ⟨hf1, hf2⟩ := pts_fewI hn
  refine RT_post (fun τ st => τ = [some sc, some (.loc 0), some (.int (d : Int)), some (.loc 1), o4, o5, o6, some (.int (n : Int)), some (.lst PS), none, none, none, none] ∧ st = [stt s t, .dt kvs]) ?_ ?_
  · have c : compS (gN 6) mYes (E_law_1 A) [6] PS [some sc, some (.loc 0), some (.int (d : Int)), some (.loc 1), o4, o5, o6, some (.int (n : Int)), some (.lst PS), none, none, none, none] [stt s t, .dt kvs] [] = .ok (((pts 18 n n).map fun mu => ((csize mu : Nat) : Int)).map D.int) [stt s t, .dt kvs] := by
      have gen : ∀ (τ : En) (PS' : List D), PS' = (pts 18 n n).map lD → τ = [some sc, some (.loc 0), some (.int (d : Int)), some (.loc 1), o4, o5, o6, some (.int (n : Int)), some (.lst PS), none, none, none, none] → compS (gN 6) mYes (E_law_1 A) [6] PS' τ [stt s t, .dt kvs] [] = .ok (((pts 18 n n).map fun mu => ((csize mu : Nat) : Int)).map D.int) [stt s t, .dt kvs] := by
        rintro τ PS' rfl rfl
        rw [compS_mapL (f := fun mu => D.int (csize mu : Nat))]
        · simp
        · intro mu hm
          have q := size_eq (A := A) (st := [stt s t, .dt kvs]) (good_pts hn hm)
          obtain ⟨M, hM⟩ : ∃ M, M = lD mu := ⟨_, rfl⟩
          rw [← hM] at q ⊢
          exact ⟨_, rfl, rfl, by simp [e_law_1, q]⟩
        · rw [sizeLine_eq]; simp; omega
      exact gen _ PS hPS rfl
    have q2 := x_sumL (ns := (pts 18 n n).map fun mu => ((csize mu : Nat) : Int)) (st := [stt s t, .dt kvs])
    have q3 := law_factorial_eq (A := A) (n := n) (st := [stt s t, .dt kvs]) (by omega)
    have es : ((pts 18 n n).map fun mu => ((csize mu : Nat) : Int)).sum = ((facN n : Nat) : Int) := by
      rw [← sum_pts hn]
      generalize pts 18 n n = L
      induction L with
      | nil => rfl
      | cons a L ih => simp only [List.map_cons, List.sum_cons, ih]; omega
    rw [es] at q2
    obtain ⟨CS, hCS⟩ : ∃ CS, CS = ((pts 18 n n).map fun mu => ((csize mu : Nat) : Int)).map D.int := ⟨_, rfl⟩
    rw [← hCS] at c q2
    obtain ⟨F, hF⟩ : ∃ F : Int, F = ((facN n : Nat) : Int) := ⟨_, rfl⟩
    rw [← hF] at q2 q3
    exact ⟨_, _, by first | (simp [c, q2, q3]; done) | (simp [c, q2, q3]; exact ⟨rfl, rfl⟩) | (simp [c, q2, q3]; rfl), rfl, rfl⟩
  rintro _ _ ⟨rfl, rfl⟩
  refine RT_post (fun τ st => ∃ (s t : Int) (o9 : Option D), τ = [some sc, some (.loc 0), some (.int (d : Int)), some (.loc 1), o4, o5, o6, some (.int (n : Int)), some (.lst PS), o9, none, none, none] ∧ st = [stt s t, .dt kvs] ∧ 0 ≤ s) ?_ ?_
  · obtain ⟨τ', st', e, s', t', o9, e1, e2, e3⟩ := forS_ind (g := gN 9) (b := B_law_2 A)
      (P := fun ds τ st => ∃ (s t : Int) (o9 : Option D), τ = [some sc, some (.loc 0), some (.int (d : Int)), some (.loc 1), o4, o5, o6, some (.int (n : Int)), some (.lst PS), o9, none, none, none] ∧ st = [stt s t, .dt kvs] ∧ 0 ≤ s)
      (fun y ys τ st ⟨s, t, o9, e1, e2, e3⟩ => by
        subst e1 e2
        have hPl : PS.length = (pts 18 n n).length := by rw [hPS]; simp
        obtain ⟨v, s1, u1, q1, hv, hs1⟩ := take_nat (A := A) (s := s) (t := t) (n := PS.length) (r := [.dt kvs]) e3 (by omega) (by omega)
        have hv' : v < (pts 18 n n).length := by omega
        have q2 : atI PS (v : Int) = some (lD (pts 18 n n)[v]) := by
          rw [hPS]; exact atI_map (f := lD) (List.getElem?_eq_getElem hv')
        have q3 := holds_eq (A := A) hA (st := [stt s1 u1, .dt kvs]) (good_pts hn (List.getElem_mem hv'))
        obtain ⟨M, hM⟩ : ∃ M, M = lD (pts 18 n n)[v] := ⟨_, rfl⟩
        rw [← hM] at q2 q3
        exact ⟨_, rfl, _, [stt s1 u1, .dt kvs], .inl (by simp [b_law_2, q1, q2, q3]), s1, u1, some y, rfl, rfl, hs1⟩)
      (rangeD 0 6) [some sc, some (.loc 0), some (.int (d : Int)), some (.loc 1), o4, o5, o6, some (.int (n : Int)), some (.lst PS), none, none, none, none] [stt s t, .dt kvs] ⟨s, t, none, rfl, rfl, hs⟩
    subst e1 e2
    have z6 : w62 6 = true := w62_of (by omega) (by omega)
    exact ⟨_, _, by first | (simp [z6, e]; done) | (simp [z6, e]; exact ⟨rfl, rfl⟩) | (simp [z6, e]; rfl), s', t', o9, rfl, rfl, e3⟩
  clear hs
  rintro _ _ ⟨s, t, o9, rfl, rfl, hs⟩
  -- a great one
  refine RT_post (fun τ st => ∃ (s t : Int) (l : List Nat), τ = [some sc, some (.loc 0), some (.int (d : Int)), some (.loc 1), o4, o5, o6, some (.int (n : Int)), some (.lst PS), o9, some (lD l), none, none] ∧ st = [stt s t, .dt kvs] ∧ 0 ≤ s ∧ Good l) ?_ ?_
  · obtain ⟨v, s1, u1, q1, hv, hs1⟩ := take_nat (A := A) (s := s) (t := t) (n := 12) (r := [.dt kvs]) hs (by omega) (by omega)
    obtain ⟨l, s2, u2, q2, hs2, hl, hx⟩ := great_comp (A := A) (s := s1) (t := u1) (kvs := kvs) (m := 1 + v) (a0 := some sc) (a2 := some (.int (d : Int))) (a3 := some (.loc 1)) (a4 := o4) (a5 := o5) (a6 := o6) (a7 := some (.int (n : Int))) (a8 := some (.lst PS)) (a9 := o9) (a10 := none) (a11 := none) (a12 := none) hs1 (by omega)
    have hg := good_great hl hx
    have hlen := hg.len
    simp at q1
    rw [show ((1 + v : Nat) : Int) = 1 + (v : Int) by omega] at q2
    have z1 : w62 (1 + (v : Int)) = true := w62_of (by omega) (by omega)
    have qs : fSorted [.lst (l.map nD)] [stt s2 u2, .dt kvs] = .ok ((sortI (l.map fun n : Nat => (n : Int))).map D.int) [stt s2 u2, .dt kvs] := by
      rw [ints_nDF]
      exact x_onInts
    have z : szFits ((srtN l).map nD).length = true := szFits_of (by rw [List.length_map]; omega)
    have er := srtN_cast l
    have et : lD (srtN l) = .tup ((srtN l).map nD) := rfl
    refine ⟨[some sc, some (.loc 0), some (.int (d : Int)), some (.loc 1), o4, o5, o6, some (.int (n : Int)), some (.lst PS), o9, some (lD (srtN l)), none, none], [stt s2 u2, .dt kvs], ?_, s2, u2, srtN l, rfl, rfl, hs2, hg⟩
    rw [et]
    rw [er] at z ⊢
    obtain ⟨S, hS⟩ : ∃ S, S = (sortI (l.map fun n : Nat => (n : Int))).map D.int := ⟨_, rfl⟩
    obtain ⟨F, hF⟩ : ∃ F, F = l.map nD := ⟨_, rfl⟩
    rw [← hF] at q2
    rw [← hF, ← hS] at qs
    rw [← hS] at z ⊢
    simp at z
    simp [q1, z1, q2, qs, z, Fx.listOf]
  clear hs
  rintro _ _ ⟨s, t, l, rfl, rfl, hs, hg⟩
  refine RT_post (fun τ st => ∃ (s t : Int), τ = [some sc, some (.loc 0), some (.int (d : Int)), some (.loc 1), o4, o5, o6, some (.int (n : Int)), some (.lst PS), o9, some (lD l), none, none] ∧ st = [stt s t, .dt kvs]) ?_ ?_
  · obtain ⟨v, s1, u1, q1, hv, hs1⟩ := take_nat (A := A) (s := s) (t := t) (n := 60) (r := [.dt kvs]) hs (by omega) (by omega)
    simp at q1
    have q2 := holds_eq (A := A) hA (st := [stt s t, .dt kvs]) hg
    have q3 := holds_eq (A := A) hA (st := [stt s1 u1, .dt kvs]) (good_ones (k := 20 + v) (by omega))
    have eo : lD (List.replicate (20 + v) 1) = .tup (List.replicate (20 + v) (D.int 1)) := by rw [lD, List.map_replicate]; rfl
    have q4 : fMulG (.tup [.int 1]) (.int (20 + (v : Int))) [stt s1 u1, .dt kvs] = .ok (lD (List.replicate (20 + v) 1)) [stt s1 u1, .dt kvs] := by
      rw [x_mulGT (by omega) (by omega) (by simp; omega), eo]
      rw [show (20 + (v : Int)).toNat = 20 + v by omega]
      congr 2
      induction (20 + v) with
      | zero => rfl
      | succ k ih => rw [List.replicate_succ, List.flatten_cons, ih]; rfl
    obtain ⟨M, hM⟩ : ∃ M, M = lD l := ⟨_, rfl⟩
    obtain ⟨O1, hO1⟩ : ∃ O1, O1 = lD (List.replicate (20 + v) 1) := ⟨_, rfl⟩
    rw [← hM] at q2 ⊢
    rw [← hO1] at q3 q4
    exact ⟨_, _, by first | (simp [q1, q2, q3, q4]; done) | (simp [q1, q2, q3, q4]; exact ⟨rfl, rfl⟩) | (simp [q1, q2, q3, q4]; rfl), s1, u1, rfl, rfl⟩
  clear hs s t
  rintro _ _ ⟨s, t, rfl, rfl⟩
  obtain ⟨M, hM⟩ : ∃ M, M = lD l := ⟨_, rfl⟩
  rw [← hM]
  -- other values
  refine RT_post (fun τ st => ∃ o11 o12, τ = [some sc, some (.loc 0), some (.int (d : Int)), some (.loc 1), o4, o5, o6, some (.int (n : Int)), some (.lst PS), o9, some M, o11, o12] ∧ st = [stt s t, .dt kvs]) ?_ ?_
  · obtain ⟨τ', st', e, o11, o12, e1, e2, _⟩ := forS_ind (g := gN 11) (b := B_law_1 A)
      (P := fun ds τ st => ∃ (o11 o12 : Option D), τ = [some sc, some (.loc 0), some (.int (d : Int)), some (.loc 1), o4, o5, o6, some (.int (n : Int)), some (.lst PS), o9, some M, o11, o12] ∧ st = [stt s t, .dt kvs] ∧ ∀ x ∈ ds, okV x ∧ isPt x = false)
      (fun y ys τ st ⟨o11, o12, e1, e2, e3⟩ => by
        subst e1 e2
        obtain ⟨h1, h2⟩ := e3 y List.mem_cons_self
        have c1 := told_er1 t1 (bad_repeat (A := A) (st := [stt s t, .dt kvs]) h1 h2)
        have c2 := told_er1 t2 (bad_central (A := A) (st := [stt s t, .dt kvs]) h1 h2)
        have c3 := told_er1 t3 (bad_size (A := A) (st := [stt s t, .dt kvs]) h1 h2)
        have ir := is_raised_eq (A := A) (st := [stt s t, .dt kvs])
        exact ⟨_, rfl, [some sc, some (.loc 0), some (.int (d : Int)), some (.loc 1), o4, o5, o6, some (.int (n : Int)), some (.lst PS), o9, some M, some y, some (.fn (A 12))], [stt s t, .dt kvs], .inl (by simp [b_law_1, x_forS_cons, b_law_0, c1, c2, c3, ir]), some y, some (.fn (A 12)), rfl, rfl, fun x hx => e3 x (List.mem_cons_of_mem _ hx)⟩)
      [.non, .int 3, .lst [.int 2, .int 1], .tup [.int 1, .int 2], .tup [.int 0], .tup [.bl true], .tup [.str "2"], .tup [.int 2, .int (-1)]] [some sc, some (.loc 0), some (.int (d : Int)), some (.loc 1), o4, o5, o6, some (.int (n : Int)), some (.lst PS), o9, some M, none, none] [stt s t, .dt kvs] ⟨none, none, rfl, rfl, fun x hx => by
        simp only [List.mem_cons, List.not_mem_nil, or_false] at hx
        rcases hx with rfl | rfl | rfl | rfl | rfl | rfl | rfl | rfl
        · exact ⟨okV_of rfl (fun _ e => by cases e), rfl⟩
        · exact ⟨okV_of rfl (fun _ e => by cases e), rfl⟩
        · exact ⟨okV_of rfl (fun _ e => by cases e), rfl⟩
        · exact ⟨okV_tup (by simp [pl]) (by simp), by decide⟩
        · exact ⟨okV_tup (by simp [pl]) (by simp), by decide⟩
        · exact ⟨okV_tup (by simp [pl]) (by simp), by rfl⟩
        · exact ⟨okV_tup (by simp [pl]) (by simp), by rfl⟩
        · exact ⟨okV_tup (by simp [pl]) (by simp), by decide⟩⟩
    subst e1 e2
    exact ⟨_, _, by first | (simp [e]; done) | (simp [e]; exact ⟨rfl, rfl⟩) | (simp [e]; rfl), o11, o12, rfl, rfl⟩
  rintro _ _ ⟨o11, o12, rfl, rfl⟩
  have hg0 : Good [] := ⟨by simp, by simp, by simp, by simp⟩
  have q1 := size_eq (A := A) (st := [stt s t, .dt kvs]) hg0
  have e1 : csize [] = 1 := by decide
  rw [e1] at q1
  have q2 := same_int (A := A) (n := 3) (i := 1) (st := [stt s t, .dt kvs])
  have q1' : S_class_size A [.tup []] [stt s t, .dt kvs] = .ok (.int 1) [stt s t, .dt kvs] := q1
  exact ⟨[stt s t, .dt kvs], by simp [q1', q2]⟩
theorem law_true (A : Nat → Addr) (hA : Dist A) (ns : List Int) (h : ns.length ≤ 63) : ∃ st', S_law A [.lst (ns.map D.int)] [] = .ok (.bl true) st' := by
  obtain ⟨s, t, e, hs⟩ := state_eq (A := A) ns
  exact law_run A hA _ e hs
end K02

open PySem PySem.W PyProof.Rows
set_option maxRecDepth 100000 in
set_option maxHeartbeats 0 in
theorem PySem.Challenge.cw_branchsheets_k02_whole_sizes_of_classes_holds : PySem.Challenge.rw_branchsheets_k02_whole_sizes_of_classes.Holds := by
  w_on; o_law; k_head; (case hw => w_witness2)
  k_fill
  refine Fx.walkF (l := PySem.Challenge.rw_branchsheets_k02_whole_sizes_of_classes) (k := 19) rfl rfl ⟨rfl, by decide, by decide⟩ (fun w h Y => PySem.W.kIn_of Y) ?F
  case F =>
    intro w mg fa h KX G hmg
    refine' K02.all_mk KX G hmg ?a16 ?l16 ?c16 ?k16 ?a17 ?l17 ?c17 ?k17 ?a23 ?l23 ?c23 ?k23 ?a22 ?l22 ?c22 ?k22 ?a18 ?l18 ?c18 ?k18 ?a24 ?l24 ?c24 ?k24 ?a25 ?l25 ?c25 ?k25 ?a26 ?l26 ?c26 ?k26 ?a5 ?l5 ?c5 ?k5 ?a9 ?l9 ?c9 ?k9 ?a10 ?l10 ?c10 ?k10 ?a7 ?l7 ?c7 ?k7 ?a11 ?l11 ?c11 ?k11 ?a6 ?l6 ?c6 ?k6 ?a13 ?l13 ?c13 ?k13 ?a14 ?l14 ?c14 ?k14 ?a27 ?l27 ?c27 ?k27 ?a12 ?l12 ?c12 ?k12 ?a19 ?l19 ?c19 ?k19 ?a20 ?l20 ?c20 ?k20 ?a28 ?l28 ?c28 ?k28 ?a21 ?l21 ?c21 ?k21 ?a29 ?l29 ?c29 ?k29 ?z_abs ?z_all ?z_bool ?z_int ?z_isinstance ?z_len ?z_list ?z_min ?z_range ?z_set ?z_sorted ?z_str ?z_sum ?z_tuple ?a2 ?q2 ?k2 ?b2 ?t2 ?a3 ?k3 ?b3 ?t3 ?i2 ?s2_2 ?s2_3 ?i3 ?s3_2 ?s3_3 K02.law_true ?hne
    (case a16 => k_is); (case l16 => k_is); (case c16 => k_is); (case k16 => k_is); (case a17 => k_is); (case l17 => k_is)
    (case c17 => k_is); (case k17 => k_is); (case a23 => k_is); (case l23 => k_is); (case c23 => k_is); (case k23 => k_is)
    (case a22 => k_is); (case l22 => k_is); (case c22 => k_is); (case k22 => k_is); (case a18 => k_is); (case l18 => k_is)
    (case c18 => k_is); (case k18 => k_is); (case a24 => k_is); (case l24 => k_is); (case c24 => k_is); (case k24 => k_is)
    (case a25 => k_is); (case l25 => k_is); (case c25 => k_is); (case k25 => k_is); (case a26 => k_is); (case l26 => k_is)
    (case c26 => k_is); (case k26 => k_is); (case a5 => k_is); (case l5 => k_is); (case c5 => k_is); (case k5 => k_is)
    (case a9 => k_is); (case l9 => k_is); (case c9 => k_is); (case k9 => k_is); (case a10 => k_is); (case l10 => k_is)
    (case c10 => k_is); (case k10 => k_is); (case a7 => k_is); (case l7 => k_is); (case c7 => k_is); (case k7 => k_is)
    (case a11 => k_is); (case l11 => k_is); (case c11 => k_is); (case k11 => k_is); (case a6 => k_is); (case l6 => k_is)
    (case c6 => k_is); (case k6 => k_is); (case a13 => k_is); (case l13 => k_is); (case c13 => k_is); (case k13 => k_is)
    (case a14 => k_is); (case l14 => k_is); (case c14 => k_is); (case k14 => k_is); (case a27 => k_is); (case l27 => k_is)
    (case c27 => k_is); (case k27 => k_is); (case a12 => k_is); (case l12 => k_is); (case c12 => k_is); (case k12 => k_is)
    (case a19 => k_is); (case l19 => k_is); (case c19 => k_is); (case k19 => k_is); (case a20 => k_is); (case l20 => k_is)
    (case c20 => k_is); (case k20 => k_is); (case a28 => k_is); (case l28 => k_is); (case c28 => k_is); (case k28 => k_is)
    (case a21 => k_is); (case l21 => k_is); (case c21 => k_is); (case k21 => k_is); (case a29 => k_is); (case l29 => k_is)
    (case c29 => k_is); (case k29 => k_is); (case z_abs => k_is); (case z_all => k_is); (case z_bool => k_is); (case z_int => k_is)
    (case z_isinstance => k_is); (case z_len => k_is); (case z_list => k_is); (case z_min => k_is); (case z_range => k_is); (case z_set => k_is)
    (case z_sorted => k_is); (case z_str => k_is); (case z_sum => k_is); (case z_tuple => k_is); (case a2 => k_is); (case q2 => k_exc)
    (case k2 => k_is); (case b2 => k_is); (case t2 => k_is); (case a3 => k_is); (case k3 => k_is); (case b3 => k_is)
    (case t3 => k_is); (case i2 => k_is); (case s2_2 => first | rfl | k_is); (case s2_3 => first | rfl | k_is); (case i3 => k_is); (case s3_2 => first | rfl | k_is)
    (case s3_3 => first | rfl | k_is)
    (case hne => decide)

