import PyProof.Rows.All
import Wide.All
import OpenK.AllK
import Wide.FinOn
import HandS.ForMost
import HandS.Exc
import HandS.TryOnly
import HandS.ExcOwn
import HandS.WordsExc
import HandS.IsInst
import HandS.TupLe
import HandS.Walk
import PyProof.Draws
import PyProof.EnumMake
import PyProof.Rows.ListStrD
import PyProof.Rows.SortShellAny
import HandS.SortInts
import KE.BitLaws
import PySem.Challenge.RW_fewterms_k01_terms
set_option Elab.async false
set_option linter.all false
set_option maxRecDepth 100000
set_option maxHeartbeats 4000000
/-! The pure layer, part A: data, what represents it, the two heaps, the slots, the judgements. -/
namespace Pu
open PySem L2

/-! ### two lists side by side -/
inductive All2 {α β : Type} (R : α → β → Prop) : List α → List β → Prop
  | nil : All2 R [] []
  | cons {a : α} {b : β} {as : List α} {bs : List β} : R a b → All2 R as bs → All2 R (a :: as) (b :: bs)
namespace All2
variable {α β : Type} {R S : α → β → Prop}
theorem len {as : List α} {bs : List β} (h : All2 R as bs) : as.length = bs.length := by
  induction h with
  | nil => rfl
  | cons _ _ ih => simp [ih]
theorem imp {as : List α} {bs : List β} (h : All2 R as bs) (f : ∀ a b, R a b → S a b) : All2 S as bs := by
  induction h with
  | nil => exact .nil
  | cons r _ ih => exact .cons (f _ _ r) ih
theorem app {as as' : List α} {bs bs' : List β} (h : All2 R as bs) (h' : All2 R as' bs') : All2 R (as ++ as') (bs ++ bs') := by
  induction h with
  | nil => exact h'
  | cons r _ ih => exact .cons r ih
theorem get {as : List α} {bs : List β} (h : All2 R as bs) : ∀ {i : Nat} {a : α}, as[i]? = some a → ∃ b, bs[i]? = some b ∧ R a b := by
  induction h with
  | nil => intro i a e; simp at e
  | cons r _ ih =>
    intro i a e
    cases i with
    | zero => simp at e; subst e; exact ⟨_, rfl, r⟩
    | succ i => simp at e; obtain ⟨b, h1, h2⟩ := ih e; exact ⟨b, by simpa using h1, h2⟩
theorem get' {as : List α} {bs : List β} (h : All2 R as bs) : ∀ {i : Nat} {b : β}, bs[i]? = some b → ∃ a, as[i]? = some a ∧ R a b := by
  induction h with
  | nil => intro i a e; simp at e
  | cons r _ ih =>
    intro i a e
    cases i with
    | zero => simp at e; subst e; exact ⟨_, rfl, r⟩
    | succ i => simp at e; obtain ⟨b, h1, h2⟩ := ih e; exact ⟨b, by simpa using h1, h2⟩
theorem tk {as : List α} {bs : List β} (h : All2 R as bs) : ∀ n : Nat, All2 R (as.take n) (bs.take n) := by
  induction h with
  | nil => intro n; simp; exact .nil
  | cons r _ ih =>
    intro n
    cases n with
    | zero => exact .nil
    | succ n => exact .cons r (ih n)
theorem dr {as : List α} {bs : List β} (h : All2 R as bs) : ∀ n : Nat, All2 R (as.drop n) (bs.drop n) := by
  induction h with
  | nil => intro n; simp; exact .nil
  | cons r t ih =>
    intro n
    cases n with
    | zero => exact .cons r t
    | succ n => exact ih n
theorem st {as : List α} {bs : List β} (h : All2 R as bs) {a : α} {b : β} (r : R a b) : ∀ n : Nat, All2 R (as.set n a) (bs.set n b) := by
  induction h with
  | nil => intro n; exact .nil
  | cons q t ih =>
    intro n
    cases n with
    | zero => exact .cons r t
    | succ n => exact .cons q (ih n)
theorem rev {as : List α} {bs : List β} (h : All2 R as bs) : All2 R as.reverse bs.reverse := by
  induction h with
  | nil => exact .nil
  | cons r _ ih => rw [List.reverse_cons, List.reverse_cons]; exact ih.app (.cons r .nil)
theorem er {as : List α} {bs : List β} (h : All2 R as bs) : ∀ n : Nat, All2 R (as.eraseIdx n) (bs.eraseIdx n) := by
  induction h with
  | nil => intro n; exact .nil
  | cons q t ih =>
    intro n
    cases n with
    | zero => exact t
    | succ n => exact .cons q (ih n)
theorem maps {γ : Type} {f : γ → α} {g : γ → β} : ∀ {l : List γ}, (∀ c ∈ l, R (f c) (g c)) → All2 R (l.map f) (l.map g)
  | [], _ => .nil
  | c :: l, h => .cons (h c List.mem_cons_self) (maps fun d hd => h d (List.mem_cons_of_mem _ hd))
/-- from a function on the left -/
theorem eqMap {γ : Type} {f : γ → α} {g : γ → β} (hR : ∀ c b, R (f c) b → b = g c) : ∀ {l : List γ} {bs : List β}, All2 R (l.map f) bs → bs = l.map g
  | [], _, .nil => rfl
  | c :: l, _, .cons r t => by rw [hR c _ r, eqMap hR t]; rfl
end All2

/-! ### data -/
inductive D where
  | non | bl (b : Bool) | int (i : Int) | str (z : List Nat) | lst (xs : List D) | tup (xs : List D)
  | dct (kvs : List (Key × D)) | obj (C : Addr) (fs : List (Str × D))

inductive Rep (K : PySem.W.Frag) (F : Hp) : D → V → Prop
  | non : Rep K F .non .non
  | bl (b : Bool) : Rep K F (.bl b) (.bl b)
  | int (i : Int) : Rep K F (.int i) (.int i)
  | str (z : List Nat) : Rep K F (.str z) (.str ⟨z.toArray⟩)
  | lst {a : Addr} {vs : List V} {ds : List D} (h : Rd F a (.lst vs)) (r : All2 (Rep K F) ds vs) : Rep K F (.lst ds) (.ref a)
  | tup {a : Addr} {vs : List V} {ds : List D} (h : SqT K F a vs) (r : All2 (Rep K F) ds vs) : Rep K F (.tup ds) (.ref a)
  | dct {a : Addr} {us : List (Key × V)} {kvs : List (Key × D)} (h : F a = some (.dK us)) (e : us.map (·.1) = kvs.map (·.1)) (r : All2 (Rep K F) (kvs.map (·.2)) (us.map (·.2))) : Rep K F (.dct kvs) (.ref a)
  | obj {a C dx : Addr} {us : List (Str × V)} {fs : List (Str × D)} (h : F a = some (.ins C dx us)) (e : us.map (·.1) = fs.map (·.1)) (r : All2 (Rep K F) (fs.map (·.2)) (us.map (·.2))) : Rep K F (.obj C fs) (.ref a)

abbrev Reps (K : PySem.W.Frag) (F : Hp) : List D → List V → Prop := All2 (Rep K F)

section
variable {K : PySem.W.Frag} {F F' H H' H0 : Hp}
theorem sq_mono {a : Addr} {u : HO} (e : Same F F') (h : Rd F a u) : Rd F' a u := by
  rcases h with h | ⟨o, h⟩
  · exact .inl (e _ _ h)
  · exact .inr ⟨o, e _ _ h⟩
theorem st_mono {a : Addr} {xs : List V} (e : Same F F') (h : SqT K F a xs) : SqT K F' a xs := by
  rcases h with (h | ⟨o, h⟩) | h
  · exact .inl (.inl (e _ _ h))
  · exact .inl (.inr ⟨o, e _ _ h⟩)
  · exact .inr h
mutual
theorem Rep.mono (e : Same F F') : ∀ (d : D) (v : V), Rep K F d v → Rep K F' d v
  | _, _, .non => .non
  | _, _, .bl b => .bl b
  | _, _, .int i => .int i
  | _, _, .str z => .str z
  | .lst ds, _, .lst h r => .lst (sq_mono e h) (Reps.mono e ds _ r)
  | .tup ds, _, .tup h r => .tup (st_mono e h) (Reps.mono e ds _ r)
  | .dct kvs, _, .dct h q r => .dct (e _ _ h) q (RepsK.mono e kvs _ r)
  | .obj _ fs, _, .obj h q r => .obj (e _ _ h) q (RepsF.mono e fs _ r)
theorem Reps.mono (e : Same F F') : ∀ (ds : List D) (vs : List V), Reps K F ds vs → Reps K F' ds vs
  | [], _, .nil => .nil
  | d :: ds, _, .cons r t => .cons (Rep.mono e d _ r) (Reps.mono e ds _ t)
theorem RepsK.mono (e : Same F F') : ∀ (kvs : List (Key × D)) (vs : List V), Reps K F (kvs.map (·.2)) vs → Reps K F' (kvs.map (·.2)) vs
  | [], _, .nil => .nil
  | (_, d) :: ds, _, .cons r t => .cons (Rep.mono e d _ r) (RepsK.mono e ds _ t)
theorem RepsF.mono (e : Same F F') : ∀ (kvs : List (Str × D)) (vs : List V), Reps K F (kvs.map (·.2)) vs → Reps K F' (kvs.map (·.2)) vs
  | [], _, .nil => .nil
  | (_, d) :: ds, _, .cons r t => .cons (Rep.mono e d _ r) (RepsF.mono e ds _ t)
end

/-! ### data as the library's data -/
mutual
def D.py : D → PyData
  | .non => .none
  | .bl b => .bool b
  | .int i => .int i
  | .str z => .str ⟨z.toArray⟩
  | .lst ds => .list (D.pys ds)
  | .tup ds => .tuple (D.pys ds)
  | .dct _ => .none
  | .obj _ _ => .none
def D.pys : List D → List PyData
  | [] => []
  | d :: ds => d.py :: D.pys ds
end
mutual
/-- no dict, no instance within; at most so deep; texts within bounds -/
def D.flat : Nat → D → Prop
  | _, .non => True
  | _, .bl _ => True
  | _, .int _ => True
  | _, .str z => z.length ≤ 100000 ∧ ∀ c ∈ z, c < 1114112
  | n + 1, .lst ds => D.flats n ds
  | n + 1, .tup ds => D.flats n ds
  | 0, .lst _ => False
  | 0, .tup _ => False
  | _, .dct _ => False
  | _, .obj _ _ => False
def D.flats : Nat → List D → Prop
  | _, [] => True
  | n, d :: ds => D.flat n d ∧ D.flats n ds
end

mutual
theorem dp_of {n : Nat} : ∀ (d : D) (v : V), Rep K F d v → D.flat n d → Dp K F v d.py
  | _, _, .non, _ => .non
  | _, _, .bl b, _ => .bl b
  | _, _, .int i, _ => .int i
  | _, _, .str z, _ => .str _
  | .lst ds, _, .lst h r, f => by
    cases n with
    | zero => exact absurd f (by simp [D.flat])
    | succ n => exact .lst (.inl h) (dps_of ds _ r (show D.flats n ds from f))
  | .tup ds, _, .tup h r, f => by
    cases n with
    | zero => exact absurd f (by simp [D.flat])
    | succ n => exact .tup h (dps_of ds _ r (show D.flats n ds from f))
  | .dct kvs, _, .dct h q r, f => absurd f (by simp [D.flat])
  | .obj _ fs, _, .obj h q r, f => absurd f (by simp [D.flat])
theorem dps_of {n : Nat} : ∀ (ds : List D) (vs : List V), Reps K F ds vs → D.flats n ds → DpAll K F vs (D.pys ds)
  | [], _, .nil, _ => .nil
  | d :: ds, _, .cons r t, f => .cons (dp_of d _ r f.1) (dps_of ds _ t f.2)
end
mutual
theorem lay_of {n : Nat} : ∀ (d : D), D.flat n d → d.py.canLay0 = true ∧ d.py.depth ≤ n
  | .non, _ => ⟨rfl, Nat.zero_le _⟩
  | .bl b, _ => ⟨rfl, Nat.zero_le _⟩
  | .int i, _ => ⟨rfl, Nat.zero_le _⟩
  | .str z, f => ⟨by
      show PySem.PyData.strOk ⟨z.toArray⟩ = true
      unfold PySem.PyData.strOk
      rw [Array.all_eq_true]
      intro i hi
      have := f.2 (z.toArray[i]) (by simp)
      simpa using this, Nat.zero_le _⟩
  | .lst ds, f => by
    cases n with
    | zero => exact absurd f (by simp [D.flat])
    | succ n =>
      have q := lays_of ds (show D.flats n ds from f)
      exact ⟨q.1, Nat.succ_le_succ q.2⟩
  | .tup ds, f => by
    cases n with
    | zero => exact absurd f (by simp [D.flat])
    | succ n =>
      have q := lays_of ds (show D.flats n ds from f)
      exact ⟨q.1, Nat.succ_le_succ q.2⟩
  | .dct kvs, f => absurd f (by simp [D.flat])
  | .obj _ fs, f => absurd f (by simp [D.flat])
theorem lays_of {n : Nat} : ∀ (ds : List D), D.flats n ds → PySem.PyData.canLayAll0 (D.pys ds) = true ∧ PySem.PyData.depthAll (D.pys ds) ≤ n
  | [], _ => ⟨rfl, Nat.zero_le _⟩
  | d :: ds, f => by
    have a := lay_of d f.1
    have b := lays_of ds f.2
    refine ⟨?_, Nat.max_le.mpr ⟨a.2, b.2⟩⟩
    show (PySem.PyData.canLay0 d.py && PySem.PyData.canLayAll0 (D.pys ds)) = true
    rw [a.1, b.1]
    rfl
end
theorem shaped_of {d : D} (f : D.flat 60 d) : SeqAt.shaped d.py = true := by
  have q := lay_of d f
  show (d.py.canLay0 && decide (d.py.depth ≤ 64)) = true
  rw [q.1, decide_eq_true (Nat.le_trans q.2 (by decide))]
  rfl

/-! ### the two heaps: F holds the data, H all that is tracked -/
structure Wld (F0 H0 F H : Hp) : Prop where
  ff : Same F0 F
  hh : Same H0 H
  fh : Same F H
  nw : ∀ a o, F a = some o → F0 a = some o ∨ H0 a = none
theorem Wld.refl (e : Same F H) : Wld F H F H := ⟨Same.refl _, Same.refl _, e, fun _ _ h => .inl h⟩
theorem same_none {a : Addr} (e : Same H H') (h : H' a = none) : H a = none := e.free h
theorem Wld.trans {F0 H0 F1 H1 F2 H2 : Hp} (a : Wld F0 H0 F1 H1) (b : Wld F1 H1 F2 H2) : Wld F0 H0 F2 H2 :=
  ⟨a.ff.trans b.ff, a.hh.trans b.hh, b.fh, fun x o h => by
    rcases b.nw x o h with h | h
    · exact a.nw x o h
    · exact .inr (same_none a.hh h)⟩
/-- an address that is tracked but is no data stays so -/
theorem Wld.stay {F0 H0 F H : Hp} (w : Wld F0 H0 F H) {a : Addr} {o : HO} (f : F0 a = none) (h : H0 a = some o) : F a = none := by
  cases e : F a with
  | none => rfl
  | some u =>
    rcases w.nw a u e with z | z
    · rw [f] at z; cases z
    · rw [h] at z; cases z
/-- a new object that nobody holds as data -/
theorem Wld.new {F0 H0 F H : Hp} (w : Wld F0 H0 F H) {p : Addr} {o : HO} (n : H p = none) : Wld F0 H0 F (upd H p o) :=
  ⟨w.ff, fun a u e => by rw [upd_ne (ne_of_none (w.hh a u e) n)]; exact w.hh a u e, fun a u e => by rw [upd_ne (ne_of_none (w.fh a u e) n)]; exact w.fh a u e, w.nw⟩
/-- an owned object becomes data -/
theorem Wld.freeze {F0 H0 F H : Hp} (w : Wld F0 H0 F H) {p : Addr} {o : HO} (f : F p = none) (h : H p = some o) (n : H0 p = none) : Wld F0 H0 (upd F p o) H := by
  have e1 : Same F (upd F p o) := fun a u e => by rw [upd_ne (ne_of_none e f)]; exact e
  refine ⟨w.ff.trans e1, w.hh, fun a u e => ?_, fun a u e => ?_⟩
  · by_cases z : a = p
    · subst z; rw [upd_same] at e; cases e; exact h
    · rw [upd_ne z] at e; exact w.fh a u e
  · by_cases z : a = p
    · subst z; exact .inr n
    · rw [upd_ne z] at e; exact w.nw a u e
/-- an owned object changes -/
theorem Wld.write {F0 H0 F H : Hp} (w : Wld F0 H0 F H) {p : Addr} {o : HO} (f : F p = none) (n : H0 p = none) : Wld F0 H0 F (upd H p o) :=
  ⟨w.ff, fun a u e => by rw [upd_ne (ne_of_none e n)]; exact w.hh a u e, fun a u e => by rw [upd_ne (ne_of_none e f)]; exact w.fh a u e, w.nw⟩
theorem same_upd {p : Addr} {o : HO} (n : F p = none) : Same F (upd F p o) := fun a u e => by rw [upd_ne (ne_of_none e n)]; exact e

/-! ### the slots -/
/-- what a name holds: data, or a list, a dict of its own that may change -/
inductive SV where
  | dat (d : D) | own (ds : List D) | ownK (kvs : List (Key × D))
def SV.d : SV → D
  | .dat d => d
  | .own ds => .lst ds
  | .ownK kvs => .dct kvs
abbrev DS := List (Option SV)

/-- v is s, owned things standing at an address that N doesn't know -/
def RepS (K : PySem.W.Frag) (N F H : Hp) : SV → V → Prop
  | .dat d, v => Rep K F d v
  | .own ds, v => ∃ l vs, v = .ref l ∧ H l = some (.lst vs) ∧ F l = none ∧ N l = none ∧ Reps K F ds vs
  | .ownK kvs, v => ∃ l us, v = .ref l ∧ H l = some (.dK us) ∧ F l = none ∧ N l = none ∧ us.map (·.1) = kvs.map (·.1) ∧ Reps K F (kvs.map (·.2)) (us.map (·.2))
def SV.mut : SV → Bool
  | .dat _ => false
  | _ => true
structure StOk (K : PySem.W.Frag) (H0 F H : Hp) (σ : L2.St) (st : DS) : Prop where
  len : st.length = σ.length
  at_ : ∀ (i : Nat) (s : SV), st[i]? = some (some s) → ∃ v, σ[i]? = some (some v) ∧ RepS K H0 F H s v
  apart : ∀ (i j : Nat) (s t : SV) (v : V), i ≠ j → st[i]? = some (some s) → st[j]? = some (some t) → s.mut = true → t.mut = true → σ[i]? = some (some v) → σ[j]? = some (some v) → False
theorem RepS.mono {N : Hp} {s : SV} {v : V} (w : Wld F H F' H') (h : RepS K N F H s v) : RepS K N F' H' s v := by
  cases s with
  | dat d => exact Rep.mono w.ff d v h
  | own ds =>
    obtain ⟨l, vs, e, h1, h2, h3, h4⟩ := h
    exact ⟨l, vs, e, w.hh _ _ h1, w.stay h2 h1, h3, Reps.mono w.ff ds vs h4⟩
  | ownK kvs =>
    obtain ⟨l, us, e, h1, h2, h3, h4, h5⟩ := h
    exact ⟨l, us, e, w.hh _ _ h1, w.stay h2 h1, h3, h4, Reps.mono w.ff _ _ h5⟩
theorem StOk.mono {σ : L2.St} {st : DS} (w : Wld F H F' H') (h : StOk K H0 F H σ st) : StOk K H0 F' H' σ st :=
  ⟨h.len, fun i s e => by
    obtain ⟨v, e1, r⟩ := h.at_ i s e
    exact ⟨v, e1, r.mono w⟩, h.apart⟩
/-- to be read: a list's, a dict's own object is looked up among all that is tracked -/
def RepR (K : PySem.W.Frag) (F H : Hp) : D → V → Prop
  | .lst ds, v => ∃ a vs, v = .ref a ∧ Rd H a (.lst vs) ∧ Reps K F ds vs
  | .dct kvs, v => ∃ a us, v = .ref a ∧ H a = some (.dK us) ∧ us.map (·.1) = kvs.map (·.1) ∧ Reps K F (kvs.map (·.2)) (us.map (·.2))
  | d, v => Rep K F d v
theorem RepR.of {d : D} {v : V} (e : Same F H) (h : Rep K F d v) : RepR K F H d v := by
  cases h with
  | non => exact .non
  | bl b => exact .bl b
  | int i => exact .int i
  | str z => exact .str z
  | lst h r => exact ⟨_, _, rfl, sq_mono e h, r⟩
  | tup h r => exact .tup h r
  | dct h q r => exact ⟨_, _, rfl, e _ _ h, q, r⟩
  | obj h q r => exact .obj h q r
theorem RepR.ofS {N : Hp} {s : SV} {v : V} (e : Same F H) (h : RepS K N F H s v) : RepR K F H s.d v := by
  cases s with
  | dat d => exact .of e h
  | own ds =>
    obtain ⟨l, vs, rfl, h1, h2, h3, h4⟩ := h
    exact ⟨l, vs, rfl, .of h1, h4⟩
  | ownK kvs =>
    obtain ⟨l, us, rfl, h1, h2, h3, h4, h5⟩ := h
    exact ⟨l, us, rfl, h1, h4, h5⟩
theorem RepR.up {d : D} {v : V} (e : Same F H) (h : RepR K F H d v) : Rep K H d v := by
  cases d with
  | lst ds => obtain ⟨a, vs, rfl, h1, h2⟩ := h; exact .lst h1 (Reps.mono e _ _ h2)
  | dct kvs => obtain ⟨a, us, rfl, h1, h2, h3⟩ := h; exact .dct h1 h2 (Reps.mono e _ _ h3)
  | non => exact Rep.mono e _ _ h
  | bl b => exact Rep.mono e _ _ h
  | int b => exact Rep.mono e _ _ h
  | str b => exact Rep.mono e _ _ h
  | tup b => exact Rep.mono e _ _ h
  | obj C b => exact Rep.mono e _ _ h
/-- it becomes data -/
theorem RepS.fix {F0 H0 : Hp} {s : SV} {v : V} (w : Wld F0 H0 F H) (h : RepS K H0 F H s v) : ∃ F', Wld F0 H0 F' H ∧ Rep K F' s.d v := by
  cases s with
  | dat d => exact ⟨F, w, h⟩
  | own ds =>
    obtain ⟨l, vs, rfl, h1, h2, h3, h4⟩ := h
    exact ⟨upd F l (.lst vs), w.freeze h2 h1 h3, .lst (.of upd_same) (Reps.mono (same_upd h2) _ _ h4)⟩
  | ownK kvs =>
    obtain ⟨l, us, rfl, h1, h2, h3, h4, h5⟩ := h
    exact ⟨upd F l (.dK us), w.freeze h2 h1 h3, .dct upd_same h4 (Reps.mono (same_upd h2) _ _ h5)⟩
theorem RepS.back {N N' : Hp} {s : SV} {v : V} (e : ∀ a, N a = none → N' a = none) (h : RepS K N F H s v) : RepS K N' F H s v := by
  cases s with
  | dat d => exact h
  | own ds => obtain ⟨l, vs, e1, h1, h2, h3, h4⟩ := h; exact ⟨l, vs, e1, h1, h2, e l h3, h4⟩
  | ownK kvs => obtain ⟨l, us, e1, h1, h2, h3, h4⟩ := h; exact ⟨l, us, e1, h1, h2, e l h3, h4⟩

/-- a name is given a value -/
theorem StOk.put {σ : L2.St} {st : DS} {i : Nat} {s : SV} {v : V} (h : StOk K H0 F H σ st) (r : RepS K H0 F H s v) (new : s.mut = true → ∀ (j : Nat) (t : SV), st[j]? = some (some t) → t.mut = true → σ[j]? ≠ some (some v)) : StOk K H0 F H (σ.set i (some v)) (st.set i (some s)) := by
  refine ⟨by simp [h.len], fun j t e => ?_, fun j k t u x hjk e1 e2 m1 m2 f1 f2 => ?_⟩
  · by_cases z : i = j
    · subst z
      have hi : i < st.length := by
        have := (List.getElem?_eq_some_iff.mp e).1
        simpa using this
      rw [List.getElem?_set_self hi] at e
      cases e
      exact ⟨v, by rw [List.getElem?_set_self (by rw [← h.len]; exact hi)], r⟩
    · rw [List.getElem?_set_ne z] at e
      obtain ⟨x, e1, r1⟩ := h.at_ j t e
      exact ⟨x, by rw [List.getElem?_set_ne z]; exact e1, r1⟩
  · by_cases z : i = j
    · subst z
      have hi : i < st.length := by simpa using (List.getElem?_eq_some_iff.mp e1).1
      rw [List.getElem?_set_self hi] at e1
      cases e1
      rw [List.getElem?_set_self (by rw [← h.len]; exact hi)] at f1
      cases f1
      rw [List.getElem?_set_ne hjk] at f2 e2
      exact new m1 k u e2 m2 f2
    · rw [List.getElem?_set_ne z] at e1 f1
      by_cases y : i = k
      · subst y
        have hi : i < st.length := by simpa using (List.getElem?_eq_some_iff.mp e2).1
        rw [List.getElem?_set_self hi] at e2
        cases e2
        rw [List.getElem?_set_self (by rw [← h.len]; exact hi)] at f2
        cases f2
        exact new m2 j t e1 m1 f1
      · rw [List.getElem?_set_ne y] at e2 f2
        exact h.apart j k t u x hjk e1 e2 m1 m2 f1 f2
/-- a name is forgotten -/
theorem StOk.drop {σ σ' : L2.St} {st : DS} {i : Nat} (h : StOk K H0 F H σ st) (hl : σ'.length = σ.length) (hs : ∀ j : Nat, j ≠ i → σ'[j]? = σ[j]?) : StOk K H0 F H σ' (st.set i none) := by
  refine ⟨by simp [h.len, hl], fun j t e => ?_, fun j k t u x hjk e1 e2 m1 m2 f1 f2 => ?_⟩
  · by_cases z : i = j
    · subst z
      have hi : i < st.length := by simpa using (List.getElem?_eq_some_iff.mp e).1
      rw [List.getElem?_set_self hi] at e
      cases e
    · rw [List.getElem?_set_ne z] at e
      rw [hs j (Ne.symm z)]
      exact h.at_ j t e
  · have a : ∀ (m : Nat) (t : SV), (st.set i none)[m]? = some (some t) → m ≠ i ∧ st[m]? = some (some t) := fun m t e => by
      by_cases z : i = m
      · subst z
        have hi : i < st.length := by simpa using (List.getElem?_eq_some_iff.mp e).1
        rw [List.getElem?_set_self hi] at e
        cases e
      · rw [List.getElem?_set_ne z] at e
        exact ⟨Ne.symm z, e⟩
    obtain ⟨n1, e1⟩ := a _ _ e1
    obtain ⟨n2, e2⟩ := a _ _ e2
    rw [hs j n1] at f1
    rw [hs k n2] at f2
    exact h.apart j k t u x hjk e1 e2 m1 m2 f1 f2
end

/-! ### the pure readings -/
/-- where a def was entered: the data, all that was tracked -/
structure Ax where
  F0 : Hp
  N : Hp
  K : PySem.W.Frag
abbrev PR := DS → (D → Prop) → Prop
abbrev PS_ := DS → (SV → Prop) → Prop
abbrev PB := DS → (Bool → Prop) → Prop
abbrev PAs := DS → (List D → Prop) → Prop
/-- what is wanted of a reading t of HandS, so that p may stand for it: the value to be read | as data | as data or a new owned thing | a test | arguments | a slice's part -/
def RdR (A : Ax) (t : TE) (p : PR) : Prop := ∀ (F H : Hp) (σ : L2.St) (st : DS) (DQ : D → Prop) (Q : VK), StOk A.K A.N F H σ st → Wld A.F0 A.N F H → p st DQ → (∀ d v F' H', Wld F H F' H' → RepR A.K F' H' d v → DQ d → Q v H') → t σ H Q
def RdD (A : Ax) (t : TE) (p : PR) : Prop := ∀ (F H : Hp) (σ : L2.St) (st : DS) (DQ : D → Prop) (Q : VK), StOk A.K A.N F H σ st → Wld A.F0 A.N F H → p st DQ → (∀ d v F' H', Wld F H F' H' → Rep A.K F' d v → DQ d → Q v H') → t σ H Q
def RdS (A : Ax) (t : TE) (p : PS_) : Prop := ∀ (F H : Hp) (σ : L2.St) (st : DS) (DQ : SV → Prop) (Q : VK), StOk A.K A.N F H σ st → Wld A.F0 A.N F H → p st DQ → (∀ s v F' H', Wld F H F' H' → RepS A.K H F' H' s v → DQ s → Q v H') → t σ H Q
def RdT (A : Ax) (t : TT) (p : PB) : Prop := ∀ (F H : Hp) (σ : L2.St) (st : DS) (DQ : Bool → Prop) (Q : Bool → Hp → Prop), StOk A.K A.N F H σ st → Wld A.F0 A.N F H → p st DQ → (∀ b F' H', Wld F H F' H' → DQ b → Q b H') → t σ H Q
def RdA (A : Ax) (t : TA) (p : PAs) : Prop := ∀ (F H : Hp) (σ : L2.St) (st : DS) (DQ : List D → Prop) (Q : List V → Hp → Prop), StOk A.K A.N F H σ st → Wld A.F0 A.N F H → p st DQ → (∀ ds vs F' H', Wld F H F' H' → Reps A.K F' ds vs → DQ ds → Q vs H') → t σ H Q
structure SimR (A : Ax) (X : Cx) (e : Expr) (t : TE) (p : PR) : Prop where
  hK : X.K = A.K
  pe : PE X e t
  rd : RdR A t p
structure SimD (A : Ax) (X : Cx) (e : Expr) (t : TE) (p : PR) : Prop where
  hK : X.K = A.K
  pe : PE X e t
  rd : RdD A t p
structure SimS (A : Ax) (X : Cx) (e : Expr) (t : TE) (p : PS_) : Prop where
  hK : X.K = A.K
  pe : PE X e t
  rd : RdS A t p
structure SimT (A : Ax) (X : Cx) (e : Expr) (t : TT) (p : PB) : Prop where
  hK : X.K = A.K
  pt : PT X e t
  rd : RdT A t p
structure SimW (A : Ax) (X : Cx) (e : Expr) (t : TT) (p : PB) : Prop where
  hK : X.K = A.K
  pw : PW X e t
  rd : RdT A t p
structure SimA (A : Ax) (X : Cx) (es : List Expr) (t : TA) (p : PAs) : Prop where
  hK : X.K = A.K
  pa : PA X es t
  rd : RdA A t p

/-! ### from one kind to another -/
section
variable {A : Ax} {X : Cx} {e a b : Expr} {es : List Expr} {t ta tb : TE} {p q : PR} {ps : PS_} {pos : Pos}
def pSD (ps : PS_) : PR := fun st Q => ps st fun s => Q s.d
def pDS (p : PR) : PS_ := fun st Q => p st fun d => Q (.dat d)
theorem SimD.r (h : SimD A X e t p) : SimR A X e t p := ⟨h.hK, h.pe, fun F H σ st DQ Q ok e hp k => h.rd F H σ st DQ Q ok e hp fun d v F' H' w r q => k d v F' H' w (.of w.fh r) q⟩
theorem SimD.s (h : SimD A X e t p) : SimS A X e t (pDS p) := ⟨h.hK, h.pe, fun F H σ st DQ Q ok e hp k => h.rd F H σ st _ Q ok e hp fun d v F' H' w r q => k (.dat d) v F' H' w r q⟩
theorem SimS.r (h : SimS A X e t ps) : SimR A X e t (pSD ps) := ⟨h.hK, h.pe, fun F H σ st DQ Q ok e hp k => h.rd F H σ st _ Q ok e hp fun s v F' H' w r q => k s.d v F' H' w (.ofS w.fh r) q⟩
theorem SimS.D (h : SimS A X e t ps) : SimD A X e t (pSD ps) := ⟨h.hK, h.pe, fun F H σ st DQ Q ok e hp k => h.rd F H σ st _ Q ok e hp fun s v F' H' w r q => by
  obtain ⟨F2, w2, r2⟩ := r.fix w
  exact k s.d v F2 H' w2 r2 q⟩
end
end Pu
/-! The pure layer, part B: expressions. -/
namespace Pu
open PySem L2

/-! ### equality of data -/
def okEq : D → D → Prop
  | .int _, .int _ => True
  | .str _, .str _ => True
  | .bl _, .bl _ => True
  | .non, .non => True
  | .non, .str _ => True
  | .str _, .non => True
  | .non, .int _ => True
  | .int _, .non => True
  | x, y => D.flat 60 x ∧ D.flat 60 y
def D.eqv : D → D → Bool
  | .int i, .int j => decide (i = j)
  | .str x, .str y => decide (x = y)
  | .bl a, .bl b => decide (a = b)
  | .non, .non => true
  | .non, .str _ => false
  | .str _, .non => false
  | .non, .int _ => false
  | .int _, .non => false
  | x, y => PyData.eqv x.py y.py
def pEq (x y : D) (Q : D → Prop) : Prop := okEq x y ∧ Q (.bl (D.eqv x y))
def pNe (x y : D) (Q : D → Prop) : Prop := okEq x y ∧ Q (.bl (!D.eqv x y))

section
variable {X : Cx} {K : PySem.W.Frag} {F F' H H' : Hp}
theorem str_inj {x y : List Nat} : ((⟨x.toArray⟩ : Str) = ⟨y.toArray⟩) ↔ x = y := by
  constructor
  · intro h
    have := congrArg (fun s : Str => s.cps.toList) h
    simpa using this
  · rintro rfl; rfl
/-- two values, an answer that makes nothing new -/
def Op2 (K : PySem.W.Frag) (rH : R2) (r : D → D → (D → Prop) → Prop) : Prop := ∀ (F H : Hp) (x y : D) (v u : V) (DQ : D → Prop) (Q : VK), Same F H → RepR K F H x v → RepR K F H y u → r x y DQ → (∀ d w, Rep K F d w → DQ d → Q w H) → rH v u H Q
/-- .. an answer that is new -/
def Op2S (K : PySem.W.Frag) (rH : R2) (r : D → D → (SV → Prop) → Prop) : Prop := ∀ (F H : Hp) (x y : D) (v u : V) (DQ : SV → Prop) (Q : VK), Same F H → RepR K F H x v → RepR K F H y u → r x y DQ → (∀ s w F' H', Wld F H F' H' → RepS K H F' H' s w → DQ s → Q w H') → rH v u H Q
def rEqA (K : PySem.W.Frag) : R2 := fun x y H Q => rEq x y H Q ∨ rEqD K x y H Q
def rNeA (K : PySem.W.Frag) : R2 := fun x y H Q => rNe x y H Q ∨ rNeD K x y H Q
/-- an operator of two values: HandS's reading, ours -/
structure OpB (f : Value → Value → Sem Value) (rH : PySem.W.Frag → R2) (r : D → D → (D → Prop) → Prop) : Prop where
  op : ∀ X : Cx, X.A.units + 64 < cLine → OpR X f (rH X.K)
  two : ∀ K, Op2 K (rH K) r
structure OpBS (f : Value → Value → Sem Value) (rH : PySem.W.Frag → R2) (r : D → D → (SV → Prop) → Prop) : Prop where
  op : ∀ X : Cx, X.A.units + 64 < cLine → OpR X f (rH X.K)
  two : ∀ K, Op2S K (rH K) r
theorem dec_vstr {x y : List Nat} : decide (V.str ⟨x.toArray⟩ = V.str ⟨y.toArray⟩) = decide (x = y) := by
  by_cases h : x = y
  · subst h; simp
  · rw [decide_eq_false h, decide_eq_false]
    intro z
    injection z with z
    exact h (str_inj.mp z)
theorem eq_split {x y : D} (h : okEq x y) :
    (∀ (F H : Hp) (v u : V), Same F H → RepR K F H x v → RepR K F H y u → (scal v u = true ∧ decide (v = u) = D.eqv x y) ∨ ∃ d e, Dp K H v d ∧ Dp K H u e ∧ SeqAt.shaped d = true ∧ SeqAt.shaped e = true ∧ PyData.eqv d e = D.eqv x y) := by
  intro F H v u e rv ru
  have gen : D.eqv x y = PyData.eqv x.py y.py → D.flat 60 x → D.flat 60 y → ∃ d e, Dp K H v d ∧ Dp K H u e ∧ SeqAt.shaped d = true ∧ SeqAt.shaped e = true ∧ PyData.eqv d e = D.eqv x y := fun ee fx fy =>
    ⟨x.py, y.py, dp_of x v (rv.up e) fx, dp_of y u (ru.up e) fy, shaped_of fx, shaped_of fy, ee.symm⟩
  have rv' := rv.up e
  have ru' := ru.up e
  cases x <;> cases y <;>
    first
    | exact .inr (gen rfl h.1 h.2)
    | (cases rv'; cases ru'; refine .inl ⟨rfl, ?_⟩; first | exact dec_vstr | rfl | (exact decide_eq_decide.mpr ⟨fun z => by injection z, fun z => by rw [z]⟩))
theorem op2_eq : Op2 K (rEqA K) pEq := fun F H x y v u DQ Q e rx ry h k => by
  rcases eq_split (K := K) h.1 F H v u e rx ry with ⟨a, b⟩ | ⟨d, f, a1, a2, a3, a4, a5⟩
  · exact .inl ⟨a, by rw [b]; exact k _ _ (.bl _) h.2⟩
  · exact .inr ⟨d, f, a1, a2, a3, a4, by rw [a5]; exact k _ _ (.bl _) h.2⟩
theorem op2_ne : Op2 K (rNeA K) pNe := fun F H x y v u DQ Q e rx ry h k => by
  rcases eq_split (K := K) h.1 F H v u e rx ry with ⟨a, b⟩ | ⟨d, f, a1, a2, a3, a4, a5⟩
  · exact .inl ⟨a, by rw [b]; exact k _ _ (.bl _) h.2⟩
  · exact .inr ⟨d, f, a1, a2, a3, a4, by rw [a5]; exact k _ _ (.bl _) h.2⟩

/-! ### numbers and texts -/
def pAdd : D → D → (D → Prop) → Prop
  | .int i, .int j, Q => Q (.int (i + j))
  | .str x, .str y, Q => x.length + y.length ≤ 100000 ∧ Q (.str (x ++ y))
  | _, _, _ => False
def rAddA : R2 := fun x y H Q => rI0 (fun i j => .int (i + j)) x y H Q ∨ ∃ i j, x = .str i ∧ y = .str j ∧ i.length + j.length ≤ sizeLine ∧ Q (.str (i ++ j)) H
theorem op_addA : OpR X (binaryOp .Add) rAddA := op_add.or op_add_str
theorem line_of {n : Nat} (h : n ≤ 100000) : n ≤ sizeLine := Nat.le_trans h (by rw [sizeLine_eq]; decide)
theorem line_lt {n : Nat} (h : n < 100000) : n < sizeLine := Nat.lt_of_lt_of_le h (by rw [sizeLine_eq]; decide)
theorem str_app (x y : List Nat) : (⟨x.toArray⟩ : Str) ++ ⟨y.toArray⟩ = ⟨(x ++ y).toArray⟩ := by
  show (⟨x.toArray ++ y.toArray⟩ : Str) = _
  rw [List.append_toArray]
theorem str_len (x : List Nat) : (⟨x.toArray⟩ : Str).length = x.length := by
  show x.toArray.size = _
  simp
theorem op2_add : Op2 K rAddA pAdd := fun F H x y v u DQ Q e rx ry h k => by
  cases x <;> cases y <;> first | exact h.elim | skip
  · cases rx; cases ry
    exact .inl ⟨_, _, rfl, rfl, k _ _ (.int _) h⟩
  · cases rx; cases ry
    refine .inr ⟨_, _, rfl, rfl, ?_, ?_⟩
    · rw [str_len, str_len]; exact line_of h.1
    · rw [str_app]; exact k _ _ (.str _) h.2
/-- two whole numbers, with what is asked of them -/
def pI (C : Int → Int → Prop) (g : Int → Int → Int) : D → D → (D → Prop) → Prop
  | .int i, .int j, Q => C i j ∧ Q (.int (g i j))
  | _, _, _ => False
theorem op2_I {C : Int → Int → Prop} {g : Int → Int → Int} : Op2 K (rI C fun i j => .int (g i j)) (pI C g) := fun F H x y v u DQ Q e rx ry h k => by
  cases x <;> cases y <;> first | exact h.elim | skip
  cases rx; cases ry
  exact ⟨_, _, rfl, rfl, h.1, k _ _ (.int _) h.2⟩
def pI0 (g : Int → Int → Int) : D → D → (D → Prop) → Prop
  | .int i, .int j, Q => Q (.int (g i j))
  | _, _, _ => False
theorem op2_I0 {g : Int → Int → Int} : Op2 K (rI0 fun i j => .int (g i j)) (pI0 g) := fun F H x y v u DQ Q e rx ry h k => by
  cases x <;> cases y <;> first | exact h.elim | skip
  cases rx; cases ry
  exact ⟨_, _, rfl, rfl, k _ _ (.int _) h⟩
def pB0 (g : Int → Int → Bool) : D → D → (D → Prop) → Prop
  | .int i, .int j, Q => Q (.bl (g i j))
  | _, _, _ => False
theorem op2_B0 {g : Int → Int → Bool} : Op2 K (rI0 fun i j => .bl (g i j)) (pB0 g) := fun F H x y v u DQ Q e rx ry h k => by
  cases x <;> cases y <;> first | exact h.elim | skip
  cases rx; cases ry
  exact ⟨_, _, rfl, rfl, k _ _ (.bl _) h⟩
/-- is, is not: None, a truth -/
def pIs (neg : Bool) : D → D → (D → Prop) → Prop
  | .non, .non, Q => Q (.bl (!neg))
  | .bl a, .bl b, Q => Q (.bl (if neg then !decide (a = b) else decide (a = b)))
  | _, .non, Q => Q (.bl neg)
  | _, _, _ => False
def rIsA : R2 := fun x y H Q => (y = .non ∧ Q (.bl (decide (x = .non))) H) ∨ ∃ a b, x = .bl a ∧ y = .bl b ∧ Q (.bl (decide (a = b))) H
def rIsNotA : R2 := fun x y H Q => (y = .non ∧ Q (.bl (!decide (x = .non))) H) ∨ ∃ a b, x = .bl a ∧ y = .bl b ∧ Q (.bl (!decide (a = b))) H
theorem op_isA : OpR X (compareOp .Is) rIsA := op_isN.or op_is_bl
theorem op_isnotA : OpR X (compareOp .IsNot) rIsNotA := op_notN.or op_isnot_bl
theorem op2_is : Op2 K rIsA (pIs false) := fun F H x y v u DQ Q e rx ry h k => by
  have rx' := rx.up e
  have ry' := ry.up e
  cases y <;> cases x <;> first | exact h.elim | (cases ry'; cases rx'; first | exact .inl ⟨rfl, k _ _ (.bl _) h⟩ | exact .inr ⟨_, _, rfl, rfl, k _ _ (.bl _) h⟩)
theorem op2_isnot : Op2 K rIsNotA (pIs true) := fun F H x y v u DQ Q e rx ry h k => by
  have rx' := rx.up e
  have ry' := ry.up e
  cases y <;> cases x <;> first | exact h.elim | (cases ry'; cases rx'; first | exact .inl ⟨rfl, k _ _ (.bl _) h⟩ | exact .inr ⟨_, _, rfl, rfl, k _ _ (.bl _) h⟩)
theorem O_eq : OpB (compareOp .Eq) rEqA pEq := ⟨fun X hu => op_eq.or (op_eqD hu), fun K => op2_eq⟩
theorem O_ne : OpB (compareOp .NotEq) rNeA pNe := ⟨fun X hu => op_ne.or (op_neD hu), fun K => op2_ne⟩
theorem O_add : OpB (binaryOp .Add) (fun _ => rAddA) pAdd := ⟨fun X hu => op_addA, fun K => op2_add⟩
theorem O_is : OpB (compareOp .Is) (fun _ => rIsA) (pIs false) := ⟨fun X hu => op_isA, fun K => op2_is⟩
theorem O_isnot : OpB (compareOp .IsNot) (fun _ => rIsNotA) (pIs true) := ⟨fun X hu => op_isnotA, fun K => op2_isnot⟩
def oSub := pI0 fun i j => i - j
def oMul := pI CMul fun i j => i * j
def oMod := pI (fun _ j => 0 < j) fun i j => i % j
def oDiv := pI CDiv fun i j => i / j
def oShl := pI CPow fun i j => i * 2 ^ j.toNat
def oShr := pI (fun _ j => 0 ≤ j) fun i j => i / 2 ^ j.toNat
def oPow := pI CPow fun i j => i ^ j.toNat
def oAnd := pI0 fun i j => Builtin.bitAnd i j
def oOr := pI0 fun i j => Builtin.bitOr i j
def oXor := pI0 fun i j => Builtin.bitXor i j
def oLt := pB0 fun i j => decide (i < j)
def oLe := pB0 fun i j => decide (i ≤ j)
def oGt := pB0 fun i j => decide (j < i)
def oGe := pB0 fun i j => decide (j ≤ i)
theorem O_sub : OpB (binaryOp .Sub) (fun _ => rI0 fun i j => .int (i - j)) oSub := ⟨fun X hu => op_sub, fun K => op2_I0⟩
theorem O_mul : OpB (binaryOp .Mult) (fun _ => rI CMul fun i j => .int (i * j)) oMul := ⟨fun X hu => op_mul, fun K => op2_I⟩
theorem O_mod : OpB (binaryOp .Mod) (fun _ => rI (fun _ j => 0 < j) fun i j => .int (i % j)) oMod := ⟨fun X hu => op_mod, fun K => op2_I⟩
theorem O_div : OpB (binaryOp .FloorDiv) (fun _ => rI CDiv fun i j => .int (i / j)) oDiv := ⟨fun X hu => op_fdiv, fun K => op2_I⟩
theorem O_shl : OpB (binaryOp .LShift) (fun _ => rI CPow fun i j => .int (i * 2 ^ j.toNat)) oShl := ⟨fun X hu => op_shl, fun K => op2_I⟩
theorem O_shr : OpB (binaryOp .RShift) (fun _ => rI (fun _ j => 0 ≤ j) fun i j => .int (i / 2 ^ j.toNat)) oShr := ⟨fun X hu => op_shr, fun K => op2_I⟩
theorem O_pow : OpB (binaryOp .Pow) (fun _ => rI CPow fun i j => .int (i ^ j.toNat)) oPow := ⟨fun X hu => op_pow, fun K => op2_I⟩
theorem O_and : OpB (binaryOp .BitAnd) (fun _ => rI0 fun i j => .int (Builtin.bitAnd i j)) oAnd := ⟨fun X hu => op_and, fun K => op2_I0⟩
theorem O_or : OpB (binaryOp .BitOr) (fun _ => rI0 fun i j => .int (Builtin.bitOr i j)) oOr := ⟨fun X hu => op_or, fun K => op2_I0⟩
theorem O_xor : OpB (binaryOp .BitXor) (fun _ => rI0 fun i j => .int (Builtin.bitXor i j)) oXor := ⟨fun X hu => op_xor, fun K => op2_I0⟩
theorem O_lt : OpB (compareOp .Lt) (fun _ => rI0 fun i j => .bl (decide (i < j))) oLt := ⟨fun X hu => op_lt, fun K => op2_B0⟩
theorem O_le : OpB (compareOp .LtE) (fun _ => rI0 fun i j => .bl (decide (i ≤ j))) oLe := ⟨fun X hu => op_le, fun K => op2_B0⟩
theorem O_gt : OpB (compareOp .Gt) (fun _ => rI0 fun i j => .bl (decide (j < i))) oGt := ⟨fun X hu => op_gt, fun K => op2_B0⟩
theorem O_ge : OpB (compareOp .GtE) (fun _ => rI0 fun i j => .bl (decide (j ≤ i))) oGe := ⟨fun X hu => op_ge, fun K => op2_B0⟩
end

/-! ### the rules -/
section
variable {A : Ax} {X : Cx} {e a b c : Expr} {es : List Expr} {t ta tb tc : TE} {p q r : PR} {ps : PS_} {pos : Pos}
def pVar (i : Nat) : PR := fun st Q => match st[i]? with | some (some s) => Q s.d | _ => False
def pVarD (i : Nat) : PR := fun st Q => match st[i]? with | some (some (.dat d)) => Q d | _ => False
def pC (d : D) : PR := fun _ Q => Q d
theorem simR_var (i : Nat) {x : Str} (hN : X.N[i]? = some x := by rfl) (hv : Vis X.env.scope x := by first | exact Or.inl rfl | exact Or.inr (Or.inl rfl) | exact Or.inr (Or.inr rfl)) (hd : (x == ("__debug__" : Str)) = false := by decide)
    (hcd : (x == ("__classdict__" : Str)) = false := by decide) (hK : X.K = A.K := by rfl) : SimR A X (.Name x pos) (tVar i) (pVar i) := ⟨hK, pe_var hN hv hd hcd, fun F H σ st DQ Q ok e hp k => by
  unfold pVar at hp
  split at hp
  · rename_i s hs
    obtain ⟨v, hv, r⟩ := ok.at_ i s hs
    exact ⟨v, hv, k _ _ F H (Wld.refl e.fh) (.ofS e.fh r) hp⟩
  · exact hp.elim⟩
theorem simD_var (i : Nat) {x : Str} (hN : X.N[i]? = some x := by rfl) (hv : Vis X.env.scope x := by first | exact Or.inl rfl | exact Or.inr (Or.inl rfl) | exact Or.inr (Or.inr rfl)) (hd : (x == ("__debug__" : Str)) = false := by decide)
    (hcd : (x == ("__classdict__" : Str)) = false := by decide) (hK : X.K = A.K := by rfl) : SimD A X (.Name x pos) (tVar i) (pVarD i) := ⟨hK, pe_var hN hv hd hcd, fun F H σ st DQ Q ok e hp k => by
  unfold pVarD at hp
  split at hp
  · rename_i s hs
    obtain ⟨v, hv, r⟩ := ok.at_ i _ hs
    exact ⟨v, hv, k _ _ F H (Wld.refl e.fh) r hp⟩
  · exact hp.elim⟩
theorem rd_c {v : V} {d : D} (r : ∀ F, Rep A.K F d v) : RdD A (tC v) (pC d) := fun F H σ st DQ Q ok e hp k => k d v F H (Wld.refl e.fh) (r F) hp
theorem simD_int {i j} (hK : X.K = A.K := by rfl) : SimD A X (.Constant (.int i) j pos) (tC (.int i)) (pC (.int i)) := ⟨hK, pe_int, rd_c fun _ => .int i⟩
theorem simD_bl {i j} (hK : X.K = A.K := by rfl) : SimD A X (.Constant (.bool i) j pos) (tC (.bl i)) (pC (.bl i)) := ⟨hK, pe_bl, rd_c fun _ => .bl i⟩
theorem simD_non {j} (hK : X.K = A.K := by rfl) : SimD A X (.Constant .none j pos) (tC .non) (pC .non) := ⟨hK, pe_non, rd_c fun _ => .non⟩
theorem simD_str (l : List Nat) {x j} (h : x = ⟨l.toArray⟩ := by first | rfl | decide +kernel) (hK : X.K = A.K := by rfl) : SimD A X (.Constant (.str x) j pos) (tC (.str x)) (pC (.str l)) := ⟨hK, pe_str, rd_c fun _ => h ▸ .str l⟩
theorem simD_gstr (l : List Nat) {x z : Str} (hm : ∃ tk, X.mg x = some (.str z tk)) (hg : Gl X x := by rfl) (h : z = ⟨l.toArray⟩ := by first | rfl | decide +kernel) (hd : (x == ("__debug__" : Str)) = false := by decide) (hK : X.K = A.K := by rfl) : SimD A X (.Name x pos) (tC (.str z)) (pC (.str l)) := by
  obtain ⟨tk, hm⟩ := hm
  exact ⟨hK, pe_glob hg hm ⟨tk, rfl⟩ hd, rd_c fun _ => h ▸ .str l⟩
theorem simD_gint {x : Str} {i : Int} (hm : ∃ tk, X.mg x = some (.int i tk)) (hg : Gl X x := by rfl) (hd : (x == ("__debug__" : Str)) = false := by decide) (hK : X.K = A.K := by rfl) : SimD A X (.Name x pos) (tC (.int i)) (pC (.int i)) := by
  obtain ⟨tk, hm⟩ := hm
  exact ⟨hK, pe_glob hg hm ⟨tk, rfl⟩ hd, rd_c fun _ => .int i⟩

def p2 (r : D → D → (D → Prop) → Prop) (p q : PR) : PR := fun st Q => p st fun x => q st fun y => r x y Q
def p2S (r : D → D → (SV → Prop) → Prop) (p q : PR) : PS_ := fun st Q => p st fun x => q st fun y => r x y Q
theorem RepR.mono {K : PySem.W.Frag} {F H F' H' : Hp} {d : D} {v : V} (w : Wld F H F' H') (h : RepR K F H d v) : RepR K F' H' d v := by
  cases d with
  | lst ds => obtain ⟨a, vs, e, h1, h2⟩ := h; exact ⟨a, vs, e, sq_mono w.hh h1, Reps.mono w.ff _ _ h2⟩
  | dct kvs => obtain ⟨a, us, e, h1, h2, h3⟩ := h; exact ⟨a, us, e, w.hh _ _ h1, h2, Reps.mono w.ff _ _ h3⟩
  | non => exact Rep.mono w.ff _ _ h
  | bl b => exact Rep.mono w.ff _ _ h
  | int b => exact Rep.mono w.ff _ _ h
  | str b => exact Rep.mono w.ff _ _ h
  | tup b => exact Rep.mono w.ff _ _ h
  | obj C b => exact Rep.mono w.ff _ _ h
theorem rd_2 {rH : R2} {r : D → D → (D → Prop) → Prop} (ho : Op2 A.K rH r) (ha : RdR A ta p) (hb : RdR A tb q) : RdD A (tOp rH ta tb) (p2 r p q) := fun F H σ st DQ Q ok e hp k =>
  ha F H σ st _ _ ok e hp fun x v F1 H1 w1 rx hq => hb F1 H1 σ st _ _ (ok.mono w1) (e.trans w1) hq fun y u F2 H2 w2 ry hr =>
    ho F2 H2 x y v u DQ Q w2.fh (rx.mono w2) ry hr fun d z rz hd => k d z F2 H2 (w1.trans w2) rz hd
theorem rd_2S {rH : R2} {r : D → D → (SV → Prop) → Prop} (ho : Op2S A.K rH r) (ha : RdR A ta p) (hb : RdR A tb q) : RdS A (tOp rH ta tb) (p2S r p q) := fun F H σ st DQ Q ok e hp k =>
  ha F H σ st _ _ ok e hp fun x v F1 H1 w1 rx hq => hb F1 H1 σ st _ _ (ok.mono w1) (e.trans w1) hq fun y u F2 H2 w2 ry hr =>
    ho F2 H2 x y v u DQ Q w2.fh (rx.mono w2) ry hr fun s z F3 H3 w3 rz hd => k s z F3 H3 ((w1.trans w2).trans w3) (rz.back fun a h => same_none (w1.trans w2).hh h) hd
theorem simD_op {op : Operator} {rH : PySem.W.Frag → R2} {r : D → D → (D → Prop) → Prop} (O : OpB (binaryOp op) rH r) (hu : X.A.units + 64 < cLine) (ha : SimR A X a ta p) (hb : SimR A X b tb q) : SimD A X (.BinOp a op b pos) (tOp (rH A.K) ta tb) (p2 r p q) :=
  ⟨ha.hK, ha.hK ▸ pe_op (O.op X hu) ha.pe hb.pe, rd_2 (O.two _) ha.rd hb.rd⟩
theorem simS_op {op : Operator} {rH : PySem.W.Frag → R2} {r : D → D → (SV → Prop) → Prop} (O : OpBS (binaryOp op) rH r) (hu : X.A.units + 64 < cLine) (ha : SimR A X a ta p) (hb : SimR A X b tb q) : SimS A X (.BinOp a op b pos) (tOp (rH A.K) ta tb) (p2S r p q) :=
  ⟨ha.hK, ha.hK ▸ pe_op (O.op X hu) ha.pe hb.pe, rd_2S (O.two _) ha.rd hb.rd⟩
theorem simD_cmp {op : CmpOp} {rH : PySem.W.Frag → R2} {r : D → D → (D → Prop) → Prop} (O : OpB (compareOp op) rH r) (hu : X.A.units + 64 < cLine) (ha : SimR A X a ta p) (hb : SimR A X b tb q) (hm : behindInMarks op b = false := by rfl) : SimD A X (.Compare a [op] [b] pos) (tOp (rH A.K) ta tb) (p2 r p q) :=
  ⟨ha.hK, ha.hK ▸ pe_cmpR (O.op X hu) ha.pe hb.pe hm, rd_2 (O.two _) ha.rd hb.rd⟩

/-! tests -/
def pT (p : PR) : PB := fun st Q => p st fun d => match d with | .bl b => Q b | _ => False
theorem rd_T (ha : RdR A ta p) : RdT A (tTest ta) (pT p) := fun F H σ st DQ Q ok e hp k =>
  ha F H σ st _ _ ok e hp fun x v F1 H1 w1 rx hq => by
    cases x <;> first | exact hq.elim | skip
    cases rx
    exact ⟨_, rfl, k _ F1 H1 w1 hq⟩
theorem rd_B (ha : RdR A ta p) : RdT A (tB ta) (pT p) := rd_T ha
theorem simT_cmp {op : CmpOp} {rH : PySem.W.Frag → R2} {r : D → D → (D → Prop) → Prop} (O : OpB (compareOp op) rH r) (hu : X.A.units + 64 < cLine) (ha : SimR A X a ta p) (hb : SimR A X b tb q) (hm : behindInMarks op b = false := by rfl) : SimT A X (.Compare a [op] [b] pos) (tTest (tOp (rH A.K) ta tb)) (pT (p2 r p q)) :=
  ⟨ha.hK, ha.hK ▸ pt_cmpR (O.op X hu) ha.pe hb.pe hm, rd_T fun F H σ st DQ Q ok e hp k => (rd_2 (O.two _) ha.rd hb.rd) F H σ st DQ Q ok e hp fun d v F' H' w r q => k d v F' H' w (.of w.fh r) q⟩
theorem simT_val (h : SimR A X e t p) (he : ∀ whole, isTrue e X.env whole = (do let v ← whole; standAt e.pos; holding [v] (truthy v)) := by intro _; rfl) : SimT A X e (tB t) (pT p) := ⟨h.hK, pt_val h.pe he, rd_B h.rd⟩
variable {tA tB' : TT} {pA pB : PB} {rest : List Expr}
def pAnd (p q : PB) : PB := fun st Q => p st fun c => if c = true then q st Q else Q false
def pOr (p q : PB) : PB := fun st Q => p st fun c => if c = true then Q true else q st Q
def pNot (p : PB) : PB := fun st Q => p st fun c => Q (!c)
theorem simW_and1 (h : SimT A X a tA pA) : SimW A X (.BoolOp .And [a] pos) tA pA := ⟨h.hK, pw_and1 h.pt, h.rd⟩
theorem simW_or1 (h : SimT A X a tA pA) : SimW A X (.BoolOp .Or [a] pos) tA pA := ⟨h.hK, pw_or1 h.pt, h.rd⟩
theorem simW_and (h : SimT A X a tA pA) (g : SimW A X (.BoolOp .And (b :: rest) pos) tB' pB) : SimW A X (.BoolOp .And (a :: b :: rest) pos) (tAnd tA tB') (pAnd pA pB) := ⟨h.hK, pw_and h.pt g.pw, fun F H σ st DQ Q ok e hp k =>
  h.rd F H σ st _ _ ok e hp fun c F1 H1 w1 hq => by
    cases c with
    | true => exact g.rd F1 H1 σ st DQ Q (ok.mono w1) (e.trans w1) hq fun b F2 H2 w2 z => k b F2 H2 (w1.trans w2) z
    | false => exact k _ F1 H1 w1 hq⟩
theorem simW_or (h : SimT A X a tA pA) (g : SimW A X (.BoolOp .Or (b :: rest) pos) tB' pB) : SimW A X (.BoolOp .Or (a :: b :: rest) pos) (tOr tA tB') (pOr pA pB) := ⟨h.hK, pw_or h.pt g.pw, fun F H σ st DQ Q ok e hp k =>
  h.rd F H σ st _ _ ok e hp fun c F1 H1 w1 hq => by
    cases c with
    | false => exact g.rd F1 H1 σ st DQ Q (ok.mono w1) (e.trans w1) hq fun b F2 H2 w2 z => k b F2 H2 (w1.trans w2) z
    | true => exact k _ F1 H1 w1 hq⟩
theorem simT_w (h : SimW A X e tA pA) : SimT A X e tA pA := ⟨h.hK, h.pw.pt, h.rd⟩
theorem simT_not (h : SimT A X a tA pA) : SimT A X (.UnaryOp .Not a pos) (tNot tA) (pNot pA) := ⟨h.hK, pt_not h.pt, fun F H σ st DQ Q ok e hp k => h.rd F H σ st _ _ ok e hp fun c F1 H1 w1 hq => k _ F1 H1 w1 hq⟩
/-! the same as values -/
def pAndV (p q : PR) : PR := fun st Q => p st fun d => match d with | .bl c => if c = true then q st Q else Q (.bl false) | _ => False
def pOrV (p q : PR) : PR := fun st Q => p st fun d => match d with | .bl c => if c = true then Q (.bl true) else q st Q | _ => False
def pNotV (p : PR) : PR := fun st Q => p st fun d => match d with | .bl c => Q (.bl (!c)) | _ => False
theorem simD_one {op} (h : SimD A X a ta p) : SimD A X (.BoolOp op [a] pos) ta p := ⟨h.hK, pe_one h.pe, h.rd⟩
theorem simD_and (h : SimR A X a ta p) (g : SimD A X (.BoolOp .And (b :: rest) pos) tb q) : SimD A X (.BoolOp .And (a :: b :: rest) pos) (tAndV ta tb) (pAndV p q) := ⟨h.hK, pe_and h.pe g.pe, fun F H σ st DQ Q ok e hp k =>
  h.rd F H σ st _ _ ok e hp fun x v F1 H1 w1 rx hq => by
    cases x <;> first | exact hq.elim | skip
    rename_i c
    cases rx
    refine ⟨c, rfl, ?_⟩
    cases c with
    | true => exact g.rd F1 H1 σ st DQ Q (ok.mono w1) (e.trans w1) hq fun d z F2 H2 w2 rz hz => k d z F2 H2 (w1.trans w2) rz hz
    | false => exact k _ _ F1 H1 w1 (.bl _) hq⟩
theorem simD_or (h : SimR A X a ta p) (g : SimD A X (.BoolOp .Or (b :: rest) pos) tb q) : SimD A X (.BoolOp .Or (a :: b :: rest) pos) (tOrV ta tb) (pOrV p q) := ⟨h.hK, pe_or h.pe g.pe, fun F H σ st DQ Q ok e hp k =>
  h.rd F H σ st _ _ ok e hp fun x v F1 H1 w1 rx hq => by
    cases x <;> first | exact hq.elim | skip
    rename_i c
    cases rx
    refine ⟨c, rfl, ?_⟩
    cases c with
    | false => exact g.rd F1 H1 σ st DQ Q (ok.mono w1) (e.trans w1) hq fun d z F2 H2 w2 rz hz => k d z F2 H2 (w1.trans w2) rz hz
    | true => exact k _ _ F1 H1 w1 (.bl _) hq⟩
theorem simD_not (h : SimR A X a ta p) : SimD A X (.UnaryOp .Not a pos) (tNotV ta) (pNotV p) := ⟨h.hK, pe_not h.pe, fun F H σ st DQ Q ok e hp k =>
  h.rd F H σ st _ _ ok e hp fun x v F1 H1 w1 rx hq => by
    cases x <;> first | exact hq.elim | skip
    cases rx
    exact ⟨_, rfl, k _ _ F1 H1 w1 (.bl _) hq⟩⟩
/-! a if t else b -/
def pIf (c : PB) (p q : PR) : PR := fun st Q => c st fun k => if k = true then p st Q else q st Q
def pIfS (c : PB) (p q : PS_) : PS_ := fun st Q => c st fun k => if k = true then p st Q else q st Q
theorem simD_if (h : SimT A X c tA pA) (ha : SimD A X a ta p) (hb : SimD A X b tb q) : SimD A X (.IfExp c a b pos) (tIf tA ta tb) (pIf pA p q) := ⟨h.hK, pe_ifExp h.pt ha.pe hb.pe, fun F H σ st DQ Q ok e hp k =>
  h.rd F H σ st _ _ ok e hp fun c F1 H1 w1 hq => by
    cases c with
    | true => exact ha.rd F1 H1 σ st DQ Q (ok.mono w1) (e.trans w1) hq fun d z F2 H2 w2 rz hz => k d z F2 H2 (w1.trans w2) rz hz
    | false => exact hb.rd F1 H1 σ st DQ Q (ok.mono w1) (e.trans w1) hq fun d z F2 H2 w2 rz hz => k d z F2 H2 (w1.trans w2) rz hz⟩
theorem simS_if {p q : PS_} (h : SimT A X c tA pA) (ha : SimS A X a ta p) (hb : SimS A X b tb q) : SimS A X (.IfExp c a b pos) (tIf tA ta tb) (pIfS pA p q) := ⟨h.hK, pe_ifExp h.pt ha.pe hb.pe, fun F H σ st DQ Q ok e hp k =>
  h.rd F H σ st _ _ ok e hp fun c F1 H1 w1 hq => by
    cases c with
    | true => exact ha.rd F1 H1 σ st DQ Q (ok.mono w1) (e.trans w1) hq fun d z F2 H2 w2 rz hz => k d z F2 H2 (w1.trans w2) (rz.back fun a h => same_none w1.hh h) hz
    | false => exact hb.rd F1 H1 σ st DQ Q (ok.mono w1) (e.trans w1) hq fun d z F2 H2 w2 rz hz => k d z F2 H2 (w1.trans w2) (rz.back fun a h => same_none w1.hh h) hz⟩
/-! arguments, displays -/
def pNil : PAs := fun _ Q => Q []
def pCons (p : PR) (q : PAs) : PAs := fun st Q => p st fun d => q st fun ds => Q (d :: ds)
variable {tas : TA} {pas : PAs}
theorem simA_nil (hK : X.K = A.K := by rfl) : SimA A X [] tNil pNil := ⟨hK, pa_nil, fun F H σ st DQ Q ok e hp k => k [] [] F H (Wld.refl e.fh) .nil hp⟩
theorem simA_cons (h : SimD A X e t p) (g : SimA A X es tas pas) (hs : starEach (e :: es) X.env = (false, eval e X.env) :: starEach es X.env := by rfl) : SimA A X (e :: es) (tCons t tas) (pCons p pas) := ⟨h.hK, pa_cons h.pe g.pa hs, fun F H σ st DQ Q ok e hp k =>
  h.rd F H σ st _ _ ok e hp fun x v F1 H1 w1 rx hq => g.rd F1 H1 σ st _ _ (ok.mono w1) (e.trans w1) hq fun ds vs F2 H2 w2 rs hr => k _ _ F2 H2 (w1.trans w2) (.cons (Rep.mono w2.ff _ _ rx) rs) hr⟩
def pLst (q : PAs) : PS_ := fun st Q => q st fun ds => ds.length ≤ 100000 ∧ Q (.own ds)
def pTup (q : PAs) : PR := fun st Q => q st fun ds => ds.length ≤ 100000 ∧ Q (.tup ds)
theorem new_lst {K : PySem.W.Frag} {F H : Hp} {p : Addr} {vs : List V} {ds : List D} (e : Same F H) (n : H p = none) (r : Reps K F ds vs) : RepS K H F (upd H p (.lst vs)) (.own ds) (.ref p) :=
  ⟨p, vs, rfl, upd_same, e.free n, n, r⟩
theorem simS_lst (g : SimA A X es tas pas) : SimS A X (.List es pos) (tLst tas) (pLst pas) := ⟨g.hK, pe_lst g.pa, fun F H σ st DQ Q ok e hp k =>
  g.rd F H σ st _ _ ok e hp fun ds vs F1 H1 w1 rs hq => ⟨by rw [← rs.len]; exact line_of hq.1, fun p hp => k _ _ F1 _ (w1.new hp) ((new_lst w1.fh hp rs).back fun a h => same_none w1.hh h) hq.2⟩⟩
theorem simD_tup {x1} (g : SimA A X es tas pas) : SimD A X (.Tuple es x1 pos) (tTup tas) (pTup pas) := ⟨g.hK, pe_tup g.pa, fun F H σ st DQ Q ok e hp k =>
  g.rd F H σ st _ _ ok e hp fun ds vs F1 H1 w1 rs hq => ⟨by rw [← rs.len]; exact line_of hq.1, fun p hp => by
    have f : F1 p = none := w1.fh.free hp
    exact k _ _ (upd F1 p (.tup vs)) _ ((w1.new hp).freeze f upd_same (same_none w1.hh hp)) (.tup (.of upd_same) (Reps.mono (same_upd f) _ _ rs)) hq.2⟩⟩
end
end Pu
/-! The pure layer, part C: what is walked, targets, comprehensions. -/
namespace L2
open PySem PySem.Spec PyProof.Rows
/-- the signs of a text with their numbers, in new pairs -/
def Ites (z : Str) : It :=
  ⟨fun i _ => i < z.cps.size, fun i H v H' => ∃ T c, v = .ref T ∧ H T = none ∧ H' = upd H T (.tup [.int (i : Nat), .str ⟨#[c]⟩]) ∧ z.cps[i]? = some c, fun i _ => z.cps.size ≤ i⟩
theorem turn_enums {P : Program} {w : World} {K : PySem.W.Frag} {elts : List Expr} {kk : Nat} {tpos : Pos} (z : Str) (t : Tok) (e it : Addr) :
    Turn P w K (.Tuple elts kk tpos) (Ites z) [e, it] e (fun i h => (∃ old, IsEnum h e it ((i : Nat) : Int) old) ∧ h.IsStrIter it (strIterType z) z t i ∧ e ≠ it) where
  mem := List.mem_cons_self
  obj := fun i h st b hb => by
    obtain ⟨⟨old, he⟩, ⟨o, ho, hc, hd⟩, _⟩ := st
    rcases (show b = e ∨ b = it by simpa using hb) with q | q
    · subst q; exact ⟨_, he, fun v q => nomatch q⟩
    · subst q; exact ⟨o, ho, fun v q => by rw [hd] at q; cases q⟩
  keep := fun i h h' st k => by
    obtain ⟨⟨old, he⟩, ⟨o, ho, r⟩, hne⟩ := st
    exact ⟨⟨old, k e (by simp) _ he⟩, ⟨o, k it (by simp) o ho, r⟩, hne⟩
  item := by
    intro X hP hw hK hc i pins s σ H E I hf st hg
    subst hP hw hK
    obtain ⟨⟨old, he⟩, hit, hne⟩ := st
    have hel : e < s.heap.objs.size := Heap.lt_size he
    have hil : it < s.heap.objs.size := by obtain ⟨_, q, _⟩ := hit; exact Heap.lt_size q
    have DD : Draws X.prog X.w X.A.in1 it [it] z.cps.size (fun i v => ∃ c u, z.cps[i]? = some c ∧ v = .str ⟨#[c]⟩ u) (fun i h => h.IsStrIter it (strIterType z) z t i) := by
      have hh : X.A.in1.handled = none := I.ok.hd hc
      unfold strIterType
      split
      · exact Draws.strAscii hh it z t
      · exact Draws.strWide hh it z t
    refine wpAny_pyNext_enum_itemD DD he hit hg hne (by simpa using hne) fun x h' tk hx ho hit' hT hsz hk => ?_
    obtain ⟨c, u, hcx, rfl⟩ := hx
    refine ⟨_, rfl, wpAny_letOwnedTupleGo_enum (s := { s with heap := h', toks := tk + 1 }) ho fun h'' he' sb => ?_⟩
    have hT2 : h''.get? s.heap.objs.size = some { cls := .type "tuple", data := .seq #[.int i tk, .str ⟨#[c]⟩ u] } := (sb.2 _ (Nat.ne_of_gt hel)).trans hT
    have new : ObjOk X.prog X.w (upd H s.heap.objs.size (.tup [.int (i : Nat), .str ⟨#[c]⟩])) h'' s.heap.objs.size (.tup [.int (i : Nat), .str ⟨#[c]⟩]) :=
      ⟨by show 2 ≤ sizeLine; decide, [.int i tk, .str ⟨#[c]⟩ u], .cons ⟨_, rfl⟩ (.cons ⟨_, rfl⟩ .nil), ⟨_, hT2, rfl, _, rfl⟩⟩
    have I1 : Inv X pins σ (upd H s.heap.objs.size (.tup [.int (i : Nat), .str ⟨#[c]⟩])) { s with heap := h'', toks := tk + 1 } :=
      I.turnedNew (ch := [e, it]) (fun b ob hb q => (sb.2 b (fun y => hb (by simp [y]))).trans (hk b ob (fun y => hb (by simp [y])) (fun y => hb (by simp [y])) q)) hf (Nat.le_refl _) new
    refine ⟨.ref s.heap.objs.size, _, I1, rfl, ⟨_, c, rfl, I.hok.fresh (Nat.le_refl _), rfl, hcx⟩, ⟨⟨.str ⟨#[c]⟩ u, ?_⟩, ?_, hne⟩, fun b hb => ?_⟩
    · have e1 : ((i + 1 : Nat) : Int) = (i : Int) + 1 := by omega
      rw [e1]; exact he'
    · obtain ⟨o, q, r⟩ := hit'
      exact ⟨o, (sb.2 it (Ne.symm hne)).trans q, r⟩
    · have hb' : b < s.heap.objs.size := by
        rcases (show b = e ∨ b = it by simpa using hb) with q | q
        · subst q; exact hel
        · subst q; exact hil
      rw [upd_ne (Nat.ne_of_lt hb')]
      exact (hf b hb).1
  done := by
    intro X hP hw hK hc i pins s σ H E I hf st hg
    subst hP hw hK
    obtain ⟨⟨old, he⟩, hit, hne⟩ := st
    obtain ⟨f0, f1, f2, f3, f4, f5⟩ := hf it (by simp)
    have hh : X.A.in1.handled = none := I.ok.hd hc
    have fin : ∀ h', Heap.ExtBut it s.heap h' → (none : Option Value) = none ∧ Inv X pins σ H { s with heap := h' } := fun h' eb => ⟨rfl, I.turned (t' := s.toks) (fun b o hb q => eb b o hb q) f0 f1 f3 f4 f5⟩
    have hx : z.cps[i]? = none := Array.getElem?_eq_none hg
    have DD : Draws X.prog X.w X.A.in1 it [it] i (fun _ _ => False) (fun j h => j = i ∧ h.IsStrIter it (strIterType z) z t i) := by
      refine ⟨fun _ _ q => let ⟨o, ho, _⟩ := q.2; ⟨o, ho⟩, fun j h h' q k => ⟨q.1, let ⟨o, ho, r⟩ := q.2; ⟨o, k it (by simp) o ho, r⟩⟩, fun j s Q E hj q => absurd hj (by rw [q.1]; exact Nat.lt_irrefl _), fun s Q E q hE => ?_⟩
      have q2 := q.2
      unfold strIterType at q2
      split at q2
      · exact wpAny_nextOf_ascii_end hh q2 hx hE
      · exact wpAny_nextOf_wide_end hh q2 hx hE
    exact wpAny_pyNext_enum_endD DD he ⟨rfl, hit⟩ fin
  self := fun A i s Q E st h => let ⟨⟨_, he⟩, _⟩ := st; wpAny_pyIter_enum he h
def iEnumS (ta : TA) : TI := fun σ H R => ta σ H fun vs H1 => ∃ z, vs = [.str z] ∧ R (Ites z) H1
theorem pi_enums {X : Cx} {e : Expr} {ta : TA} {p pos tpos : Pos} {elts : List Expr} {kk : Nat} (hg : Gl X "enumerate") (hm : X.mg "enumerate" = none) (ha : PA X [e] ta) (hs : starEach [e] X.env = [(false, eval e X.env)] := by rfl) :
    PI X (.Tuple elts kk tpos) (.Call (.Name "enumerate" p) [e] [] pos) (iEnumS ta) := by
  refine ⟨fun pins s σ H R I h => ?_⟩
  refine Call_ (ld_blt I hg hm boot_enumerate (PyProof.Rows.callWith_type1 (thn (ha.run pos pins s σ H _ I h) fun us s1 ⟨vs, H1, I1, r1, q1⟩ => ?_) hs rfl))
  obtain ⟨z, ex, q⟩ := q1
  subst ex
  cases r1 with
  | cons r rr =>
    cases rr
    obtain ⟨t, rfl⟩ := r
    refine call_enumerate_str fun h' he hit hsz hk => wpAny_pyIter_enum he ?_
    have I2 : Inv X pins σ H1 { s1 with heap := h' } := I1.kept (t' := s1.toks) hk
    refine ⟨s1.heap.objs.size + 1, [s1.heap.objs.size + 1, s1.heap.objs.size], _, _, H1, rfl, I2, turn_enums z t (s1.heap.objs.size + 1) s1.heap.objs.size, ⟨⟨.none, he⟩, hit, Nat.succ_ne_self _⟩, fun b hb => ?_, q⟩
    have hle : s1.heap.objs.size ≤ b := by
      rcases (show b = s1.heap.objs.size + 1 ∨ b = s1.heap.objs.size by simpa using hb) with y | y
      · rw [y]; exact Nat.le_add_right _ _
      · rw [y]; exact Nat.le_refl _
    exact I1.fpOk hle (I1.hok.fresh hle)
end L2

namespace Pu
open PySem L2
/-- a walk gives the data ds, one after another -/
structure ItW (K : PySem.W.Frag) (J : It) (G : Hp → Prop) (F : Hp) (ds : List D) : Prop where
  go : ∀ i H, i < ds.length → G H → J.go i H
  stop : ∀ H, G H → J.stop ds.length H
  yld : ∀ (i : Nat) (d : D) (H : Hp) (x : V) (H' F1 : Hp), ds[i]? = some d → G H → Same F F1 → Same F1 H → J.yld i H x H' → ∃ F', Wld F1 H F' H' ∧ Rep K F' d x
/-- an iterable in a comprehension | in a for -/
def RdIc (A : Ax) (wi : TI) (p : PAs) : Prop := ∀ (F H : Hp) (σ : L2.St) (st : DS) (DQ : List D → Prop) (R : It → Hp → Prop), StOk A.K A.N F H σ st → Wld A.F0 A.N F H → p st DQ →
  (∀ ds J G F' H', Wld F H F' H' → ItW A.K J G F' ds → G H' → (∀ H1 H2, Same H1 H2 → G H1 → G H2) → DQ ds → R J H') → wi σ H R
def RdIf (A : Ax) (wi : TI) (p : PAs) : Prop := ∀ (F H : Hp) (σ : L2.St) (st : DS) (DQ : List D → Prop) (R : It → Hp → Prop), StOk A.K A.N F H σ st → Wld A.F0 A.N F H → p st DQ →
  (∀ ds J G F' H', Wld F H F' H' → ItW A.K J G F' ds → (∀ F1 H1, Same F' F1 → Same F1 H1 → G H1) → DQ ds → R J H') → wi σ H R
structure SimIc (A : Ax) (X : Cx) (tg iter : Expr) (wi : TI) (p : PAs) : Prop where
  hK : X.K = A.K
  pi : PI X tg iter wi
  rd : RdIc A wi p
structure SimIf (A : Ax) (X : Cx) (tg iter : Expr) (wi : TI) (p : PAs) : Prop where
  hK : X.K = A.K
  pi : PI X tg iter wi
  rd : RdIf A wi p
section
variable {A : Ax} {X : Cx} {tg e a b : Expr} {es : List Expr} {t ta tb : TE} {tas : TA} {p q : PR} {pas : PAs} {pos : Pos} {K : PySem.W.Frag} {F H : Hp}
theorem itw_list {c : Addr} {vs : List V} {ds : List D} (r : Reps K F ds vs) : ItW K (Itl K c) (fun H => SqL K H c vs) F ds :=
  ⟨fun i H hi g => by
    rw [r.len] at hi
    exact ⟨vs, vs[i], g, by simp [hi]⟩, fun H g => ⟨vs, g, by rw [r.len]; exact Nat.le_refl _⟩, fun i d H x H' F1 hd g s1 s2 y => by
    obtain ⟨rfl, y⟩ := y
    obtain ⟨v, hv, rv⟩ := r.get hd
    have := y vs g
    rw [hv] at this
    cases this
    exact ⟨F1, Wld.refl s2, Rep.mono s1 _ _ rv⟩⟩
theorem itw_tup {c : Addr} {vs : List V} {ds : List D} (r : Reps K F ds vs) : ItW K (Itt K c) (fun H => SqT K H c vs) F ds :=
  ⟨fun i H hi g => by
    rw [r.len] at hi
    exact ⟨vs, vs[i], g, by simp [hi]⟩, fun H g => ⟨vs, g, by rw [r.len]; exact Nat.le_refl _⟩, fun i d H x H' F1 hd g s1 s2 y => by
    obtain ⟨rfl, y⟩ := y
    obtain ⟨v, hv, rv⟩ := r.get hd
    have := y vs g
    rw [hv] at this
    cases this
    exact ⟨F1, Wld.refl s2, Rep.mono s1 _ _ rv⟩⟩
/-- a new pair -/
theorem pair_new {F1 H1 : Hp} {T : Addr} {x y : V} {d f : D} (s : Same F1 H1) (n : H1 T = none) (r1 : Rep K F1 d x) (r2 : Rep K F1 f y) : ∃ F', Wld F1 H1 F' (upd H1 T (.tup [x, y])) ∧ Rep K F' (.tup [d, f]) (.ref T) := by
  have n1 := s.free n
  refine ⟨upd F1 T (.tup [x, y]), ((Wld.refl s).new n).freeze n1 upd_same n, .tup (.of upd_same) (.cons (Rep.mono (same_upd n1) _ _ r1) (.cons (Rep.mono (same_upd n1) _ _ r2) .nil))⟩
def numbered (ds : List D) : List D := ds.mapIdx fun i d => .tup [.int (i : Nat), d]
theorem itw_enum {c : Addr} {vs : List V} {ds : List D} (r : Reps K F ds vs) : ItW K (Ite K c) (fun H => SqL K H c vs) F (numbered ds) :=
  ⟨fun i H hi g => by
    unfold numbered at hi
    rw [List.length_mapIdx, r.len] at hi
    exact ⟨vs, vs[i], g, by simp [hi]⟩, fun H g => ⟨vs, g, by unfold numbered; rw [List.length_mapIdx, r.len]; exact Nat.le_refl _⟩, fun i d H x H' F1 hd g s1 s2 y => by
    unfold numbered at hd
    rw [List.getElem?_mapIdx] at hd
    obtain ⟨T, z, rfl, n, rfl, y⟩ := y
    cases e : ds[i]? with
    | none => rw [e] at hd; cases hd
    | some f =>
      rw [e] at hd
      cases hd
      obtain ⟨v, hv, rv⟩ := r.get e
      have := y vs g
      rw [hv] at this
      cases this
      exact pair_new s2 n (.int _) (Rep.mono s1 _ _ rv)⟩
def signs (z : List Nat) : List D := z.map fun c => .str [c]
theorem itw_enums {z : List Nat} : ItW K (Ites ⟨z.toArray⟩) (fun _ => True) F (numbered (signs z)) :=
  ⟨fun i H hi _ => by
    unfold numbered signs at hi
    rw [List.length_mapIdx, List.length_map] at hi
    simpa [Ites] using hi, fun H _ => by unfold numbered signs; simp [Ites], fun i d H x H' F1 hd _ s1 s2 y => by
    unfold numbered signs at hd
    rw [List.getElem?_mapIdx, List.getElem?_map] at hd
    obtain ⟨T, c, rfl, n, rfl, y⟩ := y
    have y' : z[i]? = some c := by simpa using y
    rw [y'] at hd
    cases hd
    exact pair_new s2 n (.int _) (.str [c])⟩
theorem itw_str {z : List Nat} : ItW K (Its ⟨z.toArray⟩) (fun _ => True) F (signs z) :=
  ⟨fun i H hi _ => by
    unfold signs at hi
    rw [List.length_map] at hi
    simpa [Its] using hi, fun H _ => by unfold signs; simp [Its], fun i d H x H' F1 hd _ s1 s2 y => by
    unfold signs at hd
    rw [List.getElem?_map] at hd
    obtain ⟨rfl, c, y, rfl⟩ := y
    have y' : z[i]? = some c := by simpa using y
    rw [y'] at hd
    cases hd
    exact ⟨F1, Wld.refl s2, .str [c]⟩⟩
def upto (lo : Int) (n : Nat) : List D := (List.range n).map fun (i : Nat) => .int (lo + (i : Int))
theorem itw_range {lo : Int} {n : Nat} : ItW K (Itr lo n) (fun _ => True) F (upto lo n) :=
  ⟨fun i H hi _ => by
    unfold upto at hi
    rw [List.length_map, List.length_range] at hi
    exact hi, fun H _ => by show n ≤ _; simp [upto], fun i d H x H' F1 hd _ s1 s2 y => by
    unfold upto at hd
    rw [List.getElem?_map] at hd
    obtain ⟨rfl, rfl⟩ := y
    by_cases hi : i < n
    · rw [List.getElem?_range hi] at hd
      cases hd
      exact ⟨F1, Wld.refl s2, .int _⟩
    · rw [List.getElem?_eq_none (by simpa using hi)] at hd
      cases hd⟩

def pItL (p : PR) : PAs := fun st Q => p st fun d => match d with | .lst ds => Q ds | _ => False
def pItT (p : PR) : PAs := fun st Q => p st fun d => match d with | .tup ds => Q ds | _ => False
def pItS (p : PR) : PAs := fun st Q => p st fun d => match d with | .str z => Q (signs z) | _ => False
def pItE (p : PR) : PAs := fun st Q => p st fun d => match d with | .lst ds => Q (numbered ds) | _ => False
def pItES (p : PR) : PAs := fun st Q => p st fun d => match d with | .str z => Q (numbered (signs z)) | _ => False
def small (i : Int) : Prop := -(2 ^ 62) ≤ i ∧ i < 2 ^ 62
def pRng1 (p : PR) : PAs := fun st Q => p st fun d => match d with | .int n => small n ∧ Q (upto 0 n.toNat) | _ => False
def pRng2 (p q : PR) : PAs := fun st Q => p st fun d => q st fun f => match d, f with | .int lo, .int hi => small lo ∧ small hi ∧ Q (upto lo (hi - lo).toNat) | _, _ => False
theorem simIc_list (h : SimR A X e t p) : SimIc A X tg e (iList A.K t) (pItL p) := ⟨h.hK, h.hK ▸ pi_list h.pe, fun F H σ st DQ R ok s hp k => h.rd F H σ st _ _ ok s hp fun x v F1 H1 w1 rx hq => by
  cases x <;> first | exact hq.elim | skip
  obtain ⟨c, vs, rfl, h1, h2⟩ := rx
  exact ⟨c, rfl, ⟨vs, .inl h1⟩, k _ _ _ F1 H1 w1 (itw_list h2) (.inl h1) (fun H1 H2 s g => s.seq g) hq⟩⟩
theorem simIf_list (h : SimD A X e t p) : SimIf A X tg e (iList A.K t) (pItL p) := ⟨h.hK, h.hK ▸ pi_list h.pe, fun F H σ st DQ R ok s hp k => h.rd F H σ st _ _ ok s hp fun x v F1 H1 w1 rx hq => by
  cases x <;> first | exact hq.elim | skip
  cases rx with
  | lst h1 h2 => exact ⟨_, rfl, ⟨_, .inl (sq_mono w1.fh h1)⟩, k _ _ _ F1 H1 w1 (itw_list h2) (fun F2 H2 s1 s2 => .inl (sq_mono (s1.trans s2) h1)) hq⟩⟩
theorem simIf_tup (h : SimD A X e t p) : SimIf A X tg e (iTup A.K t) (pItT p) := ⟨h.hK, h.hK ▸ pi_tup h.pe, fun F H σ st DQ R ok s hp k => h.rd F H σ st _ _ ok s hp fun x v F1 H1 w1 rx hq => by
  cases x <;> first | exact hq.elim | skip
  cases rx with
  | tup h1 h2 => exact ⟨_, rfl, ⟨_, st_mono w1.fh h1⟩, k _ _ _ F1 H1 w1 (itw_tup h2) (fun F2 H2 s1 s2 => st_mono (s1.trans s2) h1) hq⟩⟩
theorem simIc_tup (h : SimD A X e t p) : SimIc A X tg e (iTup A.K t) (pItT p) := ⟨h.hK, h.hK ▸ pi_tup h.pe, fun F H σ st DQ R ok s hp k => h.rd F H σ st _ _ ok s hp fun x v F1 H1 w1 rx hq => by
  cases x <;> first | exact hq.elim | skip
  cases rx with
  | tup h1 h2 => exact ⟨_, rfl, ⟨_, st_mono w1.fh h1⟩, k _ _ _ F1 H1 w1 (itw_tup h2) (st_mono w1.fh h1) (fun H1 H2 s g => st_mono s g) hq⟩⟩
theorem rd_str (h : RdR A t p) : RdIc A (iStr t) (pItS p) := fun F H σ st DQ R ok s hp k => h F H σ st _ _ ok s hp fun x v F1 H1 w1 rx hq => by
  cases x <;> first | exact hq.elim | skip
  cases rx
  exact ⟨_, rfl, k _ _ _ F1 H1 w1 itw_str trivial (fun _ _ _ _ => trivial) hq⟩
theorem simIc_str (h : SimR A X e t p) : SimIc A X tg e (iStr t) (pItS p) := ⟨h.hK, pi_str h.pe, rd_str h.rd⟩
theorem rd_one (h : RdR A t p) : ∀ (F H : Hp) (σ : L2.St) (st : DS) (DQ : D → Prop) (Q : List V → Hp → Prop), StOk A.K A.N F H σ st → Wld A.F0 A.N F H → p st DQ → (∀ d v F' H', Wld F H F' H' → RepR A.K F' H' d v → DQ d → Q [v] H') → tCons t tNil σ H Q :=
  fun F H σ st DQ Q ok s hp k => h F H σ st DQ _ ok s hp fun d v F' H' w r q => k d v F' H' w r q
theorem simIc_enum {pp tpos : Pos} {elts : List Expr} {kk : Nat} (h : SimR A X e t p) (hm : X.mg "enumerate" = none) (hg : Gl X "enumerate" := by rfl) (hs : starEach [e] X.env = [(false, eval e X.env)] := by rfl) :
    SimIc A X (.Tuple elts kk tpos) (.Call (.Name "enumerate" pp) [e] [] pos) (iEnum A.K (tCons t tNil)) (pItE p) := ⟨h.hK, h.hK ▸ pi_enum hg hm (pa_cons h.pe pa_nil hs) hs, fun F H σ st DQ R ok s hp k => rd_one h.rd F H σ st _ _ ok s hp fun x v F1 H1 w1 rx hq => by
  cases x <;> first | exact hq.elim | skip
  obtain ⟨c, vs, rfl, h1, h2⟩ := rx
  exact ⟨c, vs, rfl, .inl h1, k _ _ _ F1 H1 w1 (itw_enum h2) (.inl h1) (fun H1 H2 s g => s.seq g) hq⟩⟩
theorem simIf_enum {pp tpos : Pos} {elts : List Expr} {kk : Nat} (h : SimD A X e t p) (hm : X.mg "enumerate" = none) (hg : Gl X "enumerate" := by rfl) (hs : starEach [e] X.env = [(false, eval e X.env)] := by rfl) :
    SimIf A X (.Tuple elts kk tpos) (.Call (.Name "enumerate" pp) [e] [] pos) (iEnum A.K (tCons t tNil)) (pItE p) := ⟨h.hK, h.hK ▸ pi_enum hg hm (pa_cons h.pe pa_nil hs) hs, fun F H σ st DQ R ok s hp k => h.rd F H σ st _ _ ok s hp fun x v F1 H1 w1 rx hq => by
  cases x <;> first | exact hq.elim | skip
  cases rx with
  | lst h1 h2 => exact ⟨_, _, rfl, .inl (sq_mono w1.fh h1), k _ _ _ F1 H1 w1 (itw_enum h2) (fun F2 H2 s1 s2 => .inl (sq_mono (s1.trans s2) h1)) hq⟩⟩
theorem simIc_enums {pp tpos : Pos} {elts : List Expr} {kk : Nat} (h : SimR A X e t p) (hm : X.mg "enumerate" = none) (hg : Gl X "enumerate" := by rfl) (hs : starEach [e] X.env = [(false, eval e X.env)] := by rfl) :
    SimIc A X (.Tuple elts kk tpos) (.Call (.Name "enumerate" pp) [e] [] pos) (iEnumS (tCons t tNil)) (pItES p) := ⟨h.hK, pi_enums hg hm (pa_cons h.pe pa_nil hs) hs, fun F H σ st DQ R ok s hp k => rd_one h.rd F H σ st _ _ ok s hp fun x v F1 H1 w1 rx hq => by
  cases x <;> first | exact hq.elim | skip
  cases rx
  exact ⟨_, rfl, k _ _ _ F1 H1 w1 itw_enums trivial (fun _ _ _ _ => trivial) hq⟩⟩
theorem simIf_enums {pp tpos : Pos} {elts : List Expr} {kk : Nat} (h : SimR A X e t p) (hm : X.mg "enumerate" = none) (hg : Gl X "enumerate" := by rfl) (hs : starEach [e] X.env = [(false, eval e X.env)] := by rfl) :
    SimIf A X (.Tuple elts kk tpos) (.Call (.Name "enumerate" pp) [e] [] pos) (iEnumS (tCons t tNil)) (pItES p) := ⟨h.hK, pi_enums hg hm (pa_cons h.pe pa_nil hs) hs, fun F H σ st DQ R ok s hp k => rd_one h.rd F H σ st _ _ ok s hp fun x v F1 H1 w1 rx hq => by
  cases x <;> first | exact hq.elim | skip
  cases rx
  exact ⟨_, rfl, k _ _ _ F1 H1 w1 itw_enums (fun _ _ _ _ => trivial) hq⟩⟩
theorem rd_rng1 (h : RdR A t p) : ∀ (F H : Hp) (σ : L2.St) (st : DS) (DQ : List D → Prop) (R : It → Hp → Prop), StOk A.K A.N F H σ st → Wld A.F0 A.N F H → pRng1 p st DQ →
  (∀ ds J F' H', Wld F H F' H' → ItW A.K J (fun _ => True) F' ds → DQ ds → R J H') → iRng1 (tCons t tNil) σ H R := fun F H σ st DQ R ok s hp k => rd_one h F H σ st _ _ ok s hp fun x v F1 H1 w1 rx hq => by
  cases x <;> first | exact hq.elim | skip
  cases rx
  exact ⟨_, rfl, hq.1.1, hq.1.2, k _ _ F1 H1 w1 itw_range hq.2⟩
theorem simIc_rng1 {pp : Pos} (h : SimR A X e t p) (hm : X.mg "range" = none) (hg : Gl X "range" := by rfl) (hs : starEach [e] X.env = (false, eval e X.env) :: starEach [] X.env := by rfl) : SimIc A X tg (.Call (.Name "range" pp) [e] [] pos) (iRng1 (tCons t tNil)) (pRng1 p) :=
  ⟨h.hK, pi_range1 hg hm (pa_cons h.pe pa_nil hs) hs, fun F H σ st DQ R ok s hp k => rd_rng1 h.rd F H σ st DQ R ok s hp fun ds J F' H' w i q => k ds J _ F' H' w i trivial (fun _ _ _ _ => trivial) q⟩
theorem simIf_rng1 {pp : Pos} (h : SimR A X e t p) (hm : X.mg "range" = none) (hg : Gl X "range" := by rfl) (hs : starEach [e] X.env = (false, eval e X.env) :: starEach [] X.env := by rfl) : SimIf A X tg (.Call (.Name "range" pp) [e] [] pos) (iRng1 (tCons t tNil)) (pRng1 p) :=
  ⟨h.hK, pi_range1 hg hm (pa_cons h.pe pa_nil hs) hs, fun F H σ st DQ R ok s hp k => rd_rng1 h.rd F H σ st DQ R ok s hp fun ds J F' H' w i q => k ds J _ F' H' w i (fun _ _ _ _ => trivial) q⟩
end
end Pu
/-! The pure layer, part D: targets, comprehensions, statements, defs and their calls. -/
namespace Pu
open PySem L2

/-! ### targets -/
abbrev Bnd := D → DS → (DS → Prop) → Prop
def bN (j : Nat) : Bnd := fun d st Q => Q (st.set j (some (.dat d)))
def b2 (j k : Nat) : Bnd := fun d st Q => match d with | .tup [a, b] => Q ((st.set j (some (.dat a))).set k (some (.dat b))) | _ => False
def b3 (i j k : Nat) : Bnd := fun d st Q => match d with | .tup [a, b, c] => Q (((st.set i (some (.dat a))).set j (some (.dat b))).set k (some (.dat c))) | _ => False
/-- g binds the slots js as b says -/
def RdG (A : Ax) (g : TG) (b : Bnd) (js : List Nat) : Prop := ∀ (F H : Hp) (σ : L2.St) (st : DS) (d : D) (x : V) (DQ : DS → Prop) (Q : L2.St → Hp → Prop), StOk A.K A.N F H σ st → Wld A.F0 A.N F H → Rep A.K F d x → b d st DQ →
  (∀ σ' st', StOk A.K A.N F H σ' st' → σ'.length = σ.length → (∀ i : Nat, i ∉ js → σ'[i]? = σ[i]?) → DQ st' → Q σ' H) → g x σ H Q
structure SimG (A : Ax) (X : Cx) (tg : Expr) (g : TG) (b : Bnd) (js : List Nat) : Prop where
  hK : X.K = A.K
  pg : PG X tg g
  rd : RdG A g b js
section
variable {A : Ax} {K : PySem.W.Frag} {N F H : Hp}
theorem put_dat {σ : L2.St} {st : DS} {j : Nat} {d : D} {x : V} (ok : StOk K N F H σ st) (r : Rep K F d x) : StOk K N F H (σ.set j (some x)) (st.set j (some (.dat d))) := ok.put (s := .dat d) r fun z => by cases z
theorem rdg_N {j : Nat} : RdG A (gName j) (bN j) [j] := fun F H σ st d x DQ Q ok s r hb k =>
  k _ _ (put_dat ok r) (by simp) (fun i hi => List.getElem?_set_ne (by simpa [eq_comm] using hi)) hb
theorem rdg_2 {j k : Nat} : RdG A (gTup A.K 2 (gCons (gName j) (gCons (gName k) gNil))) (b2 j k) [j, k] := fun F H σ st d x DQ Q ok s r hb kk => by
  cases r <;> first | exact hb.elim | skip
  rename_i h1 h2
  cases h2 with
  | nil => exact hb.elim
  | cons r1 t =>
    cases t with
    | nil => exact hb.elim
    | cons r2 t =>
      cases t with
      | cons r3 t => exact hb.elim
      | nil =>
        refine ⟨_, _, rfl, st_mono s.fh h1, rfl, _, _, rfl, _, _, rfl, rfl, ?_⟩
        refine kk _ _ (put_dat (put_dat ok r1) r2) (by simp) (fun i hi => ?_) hb
        simp only [List.mem_cons, List.not_mem_nil, or_false, not_or] at hi
        rw [List.getElem?_set_ne (Ne.symm hi.2), List.getElem?_set_ne (Ne.symm hi.1)]
theorem rdg_3 {i j k : Nat} : RdG A (gTup A.K 3 (gCons (gName i) (gCons (gName j) (gCons (gName k) gNil)))) (b3 i j k) [i, j, k] := fun F H σ st d x DQ Q ok s r hb kk => by
  cases r <;> first | exact hb.elim | skip
  rename_i h1 h2
  cases h2 with
  | nil => exact hb.elim
  | cons r1 t =>
    cases t with
    | nil => exact hb.elim
    | cons r2 t =>
      cases t with
      | nil => exact hb.elim
      | cons r3 t =>
        cases t with
        | cons r4 t => exact hb.elim
        | nil =>
          refine ⟨_, _, rfl, st_mono s.fh h1, rfl, _, _, rfl, _, _, rfl, _, _, rfl, rfl, ?_⟩
          refine kk _ _ (put_dat (put_dat (put_dat ok r1) r2) r3) (by simp) (fun i hi => ?_) hb
          simp only [List.mem_cons, List.not_mem_nil, or_false, not_or] at hi
          rw [List.getElem?_set_ne (Ne.symm hi.2.2), List.getElem?_set_ne (Ne.symm hi.2.1), List.getElem?_set_ne (Ne.symm hi.1)]
end
section
variable {A : Ax} {X : Cx} {x y z : Str} {p1 p2 p3 pos : Pos}
theorem simG_N (j : Nat) (nd : X.N.Nodup) (hi : X.N[j]? = some x := by rfl) (hx : Loc X.env.scope x := by first | exact Or.inl rfl | exact Or.inr rfl) (hf : X.fn x = true ∨ X.env.scope.names.lookup x = some .local := by first | exact .inl rfl | exact .inr rfl) (hK : X.K = A.K := by rfl) : SimG A X (.Name x pos) (gName j) (bN j) [j] :=
  ⟨hK, pg_name nd hi hx hf, rdg_N⟩
theorem simG_2 {n : Nat} (j k : Nat) (nd : X.N.Nodup) (hc : X.calm = true) (g1 : SimG A X (.Name x p1) (gName j) (bN j) [j]) (g2 : SimG A X (.Name y p2) (gName k) (bN k) [k]) : SimG A X (.Tuple [.Name x p1, .Name y p2] n pos) (gTup A.K 2 (gCons (gName j) (gCons (gName k) gNil))) (b2 j k) [j, k] :=
  ⟨g1.hK, g1.hK ▸ pg_tup hc (pgs_cons g1.pg (pgs_cons g2.pg pgs_nil)), rdg_2⟩
theorem simG_3 {n : Nat} (i j k : Nat) (nd : X.N.Nodup) (hc : X.calm = true) (g1 : SimG A X (.Name x p1) (gName i) (bN i) [i]) (g2 : SimG A X (.Name y p2) (gName j) (bN j) [j]) (g3 : SimG A X (.Name z p3) (gName k) (bN k) [k]) : SimG A X (.Tuple [.Name x p1, .Name y p2, .Name z p3] n pos) (gTup A.K 3 (gCons (gName i) (gCons (gName j) (gCons (gName k) gNil)))) (b3 i j k) [i, j, k] :=
  ⟨g1.hK, g1.hK ▸ pg_tup hc (pgs_cons g1.pg (pgs_cons g2.pg (pgs_cons g3.pg pgs_nil))), rdg_3⟩
end

/-! ### comprehensions -/
def dwipe (st : DS) : List Nat → DS
  | [] => st
  | v :: vs => (dwipe st vs).set v none
theorem wipe_at (σ : L2.St) (i : Nat) : ∀ vs : List Nat, (wipe σ vs)[i]? = if i ∈ vs ∧ i < σ.length then some none else σ[i]?
  | [] => by simp [wipe]
  | v :: vs => by
    unfold wipe
    by_cases h : v = i
    · subst h
      by_cases hv : v < σ.length
      · rw [List.getElem?_set_self (by rw [wipe_length]; exact hv), if_pos ⟨List.mem_cons_self, hv⟩]
      · rw [List.getElem?_eq_none (by rw [List.length_set, wipe_length]; omega), if_neg (fun q => hv q.2), List.getElem?_eq_none (by omega)]
    · rw [List.getElem?_set_ne h, wipe_at σ i vs]
      by_cases hm : i ∈ vs ∧ i < σ.length
      · rw [if_pos hm, if_pos ⟨List.mem_cons_of_mem _ hm.1, hm.2⟩]
      · rw [if_neg hm, if_neg (fun q => hm ⟨by
          rcases List.mem_cons.mp q.1 with e | e
          · exact absurd e.symm h
          · exact e, q.2⟩)]
theorem wipe_back {σ σ' : L2.St} {vs : List Nat} (hl : σ'.length = σ.length) (h : ∀ i : Nat, i ∉ vs → σ'[i]? = (wipe σ vs)[i]?) : wipe σ' vs = wipe σ vs := by
  apply List.ext_getElem?
  intro i
  rw [wipe_at, wipe_at]
  by_cases hm : i ∈ vs
  · by_cases hi : i < σ.length
    · rw [if_pos ⟨hm, by omega⟩, if_pos ⟨hm, hi⟩]
    · rw [if_neg (fun q => hi (by omega)), if_neg (fun q => hi q.2), List.getElem?_eq_none (by omega), List.getElem?_eq_none (by omega)]
  · rw [if_neg (fun q => hm q.1), if_neg (fun q => hm q.1), h i hm, wipe_at, if_neg (fun q => hm q.1)]
theorem stok_wipe {K : PySem.W.Frag} {N F H : Hp} {σ : L2.St} {st : DS} (ok : StOk K N F H σ st) : ∀ vs : List Nat, StOk K N F H (wipe σ vs) (dwipe st vs)
  | [] => ok
  | v :: vs => (stok_wipe ok vs).drop (i := v) (show ((wipe σ vs).set v none).length = _ by rw [List.length_set]) (fun j hj => show ((wipe σ vs).set v none)[j]? = _ by rw [List.getElem?_set_ne (Ne.symm hj)])
def pGo (b : Bnd) (c : PB) (p : PR) (st : DS) : List D → List D → (List D → Prop) → Prop
  | [], acc, Q => Q acc
  | d :: r, acc, Q => b d st fun st1 => c st1 fun k => if k = true then p st1 fun y => acc.length < 100000 ∧ pGo b c p st r (acc ++ [y]) Q else pGo b c p st r acc Q
def pLc (it : PAs) (b : Bnd) (vs : List Nat) (c : PB) (p : PR) : PS_ := fun st Q => it st fun ds => pGo b c p (dwipe st vs) ds [] fun acc => Q (.own acc)
def pYes : PB := fun _ Q => Q true
theorem rd_yes {A : Ax} : RdT A tYes pYes := fun F H σ st DQ Q ok s hp k => k true F H (Wld.refl s.fh) hp
theorem rd_lc {A : Ax} {wi : TI} {g : TG} {tt : TT} {te : TE} {vs js : List Nat} {it : PAs} {b : Bnd} {c : PB} {p : PR} (hi : RdIc A wi it) (hg : RdG A g b js) (hj : ∀ j ∈ js, j ∈ vs) (hc : RdT A tt c) (he : RdD A te p) : RdS A (tLc wi g tt te vs) (pLc it b vs c p) :=
  fun F H σ st DQ Q ok s hp k => hi F H σ st _ _ ok s hp fun ds J G F1 H1 w1 W g1 gm hgo Dl hD => by
    have hF1 : F1 Dl = none := w1.fh.free hD
    refine lc_it (w := (⟨W.go, W.stop, fun _ _ _ _ _ _ y => y⟩ : Walk J ds.length G J.yld))
      (fun i H' => ∃ F' acc vs', Wld F1 H1 F' H' ∧ H' Dl = some (.lst vs') ∧ F' Dl = none ∧ Reps A.K F' acc vs' ∧ pGo b c p (dwipe st vs) (ds.drop i) acc fun acc => DQ (.own acc)) ?_ ?_ ?_ ?_
    · exact ⟨F1, [], [], (Wld.refl w1.fh).new hD, upd_same, hF1, .nil, hgo⟩
    · rintro i H' _ ⟨F', acc, vs', w', -⟩
      exact gm _ _ w'.hh g1
    · rintro i x H2 H3 hi ⟨F2, acc, vs', w2, hl, hf, hr, go⟩ y
      have hd : ds[i]? = some ds[i] := by simp [hi]
      rw [List.drop_eq_getElem_cons hi] at go
      obtain ⟨F3, w3, r3⟩ := W.yld i _ H2 x H3 F2 hd (gm _ _ w2.hh g1) w2.ff w2.fh y
      have w13 := w2.trans w3
      have ok3 := stok_wipe (ok.mono (w1.trans w13)) vs
      refine hg F3 H3 _ _ _ x _ _ ok3 (s.trans (w1.trans w13)) r3 go fun σ' st' ok' hlen hsame hgo2 => ⟨wipe_back (by rw [hlen, wipe_length]) (fun i hi => hsame i fun z => hi (hj i z)), ?_⟩
      refine hc F3 H3 _ _ _ _ ok' (s.trans (w1.trans w13)) hgo2 fun kb F4 H4 w4 hgo3 => ?_
      have w14 := w13.trans w4
      have l4 : H4 Dl = some (.lst vs') := (w3.trans w4).hh _ _ hl
      have f4 : F4 Dl = none := (w3.trans w4).stay hf hl
      cases kb with
      | false => exact ⟨F4, acc, vs', w14, l4, f4, Reps.mono (w3.trans w4).ff _ _ hr, hgo3⟩
      | true =>
        refine he F4 H4 _ _ _ _ (ok'.mono w4) (s.trans (w1.trans w14)) hgo3 fun d v F5 H5 w5 rd hgo4 => ?_
        have l5 : H5 Dl = some (.lst vs') := w5.hh _ _ l4
        have f5 : F5 Dl = none := w5.stay f4 l4
        have rr := Reps.mono ((w3.trans w4).trans w5).ff _ _ hr
        exact ⟨vs', l5, by rw [← rr.len]; exact line_lt hgo4.1, F5, acc ++ [d], vs' ++ [v], (w14.trans w5).write f5 hD, upd_same, f5, rr.app (.cons rd .nil), hgo4.2⟩
    · rintro H' ⟨F', acc, vs', w', hl, hf, hr, go⟩
      rw [List.drop_length] at go
      exact k (.own acc) _ F' H' (w1.trans w') ⟨Dl, vs', rfl, hl, hf, same_none w1.hh hD, hr⟩ go
section
variable {A : Ax} {X : Cx} {elt tg iter : Expr} {ifs : List Expr} {scope : Scope} {own : List (Str × Nat)} {pos : Pos} {wi : TI} {g : TG} {tt : TT} {te : TE} {js : List Nat} {it : PAs} {b : Bnd} {c : PB} {p : PR}
structure SimC (A : Ax) (X : Cx) (ifs : List Expr) (tt : TT) (c : PB) : Prop where
  hK : X.K = A.K
  pt : PTs X ifs tt
  rd : RdT A tt c
theorem simC_nil (hK : X.K = A.K := by rfl) : SimC A X [] tYes pYes := ⟨hK, pts_nil, rd_yes⟩
theorem simC_one {e : Expr} (h : SimT A X e tt c) : SimC A X [e] tt c := ⟨h.hK, pts_one h.pt, h.rd⟩
theorem simS_lc (hc : X.calm = true) (hN : X.N.Nodup) (ok : BlkOk X.N X.env.scope scope own) (hi : SimIc A X tg iter wi it)
    (hg : ∀ (s : Shared) (H : Hp) (C : Addr) (cl : List (Str × Addr)) (fp : List Addr), SimG A (X.blk s H scope (compEnvC scope cl C X.env) fp) tg g b js) (hj : ∀ j ∈ js, j ∈ own.map (·.2))
    (ht : ∀ (s : Shared) (H : Hp) (C : Addr) (cl : List (Str × Addr)) (fp : List Addr), SimC A (X.blk s H scope (compEnvC scope cl C X.env) fp) ifs tt c)
    (he : ∀ (s : Shared) (H : Hp) (C : Addr) (cl : List (Str × Addr)) (fp : List Addr), SimD A (X.blk s H scope (compEnvC scope cl C X.env) fp) elt te p) (hs : ∀ x, foldedSetIterable iter X.env x = pure x := by intro _; rfl) :
    SimS A X (.ListComp elt [⟨tg, iter, ifs, 0⟩] scope pos) (tLc wi g tt te (own.map (·.2))) (pLc it b (own.map (·.2)) c p) := by
  have s0 : Shared := {}
  exact ⟨hi.hK, pe_lc hc hN hi.pi ok (fun s H C cl fp => (hg s H C cl fp).pg) (fun s H C cl fp => (ht s H C cl fp).pt) (fun s H C cl fp => (he s H C cl fp).pe) hs,
    rd_lc hi.rd (hg s0 (fun _ => none) 0 [] []).rd hj (ht s0 (fun _ => none) 0 [] []).rd (he s0 (fun _ => none) 0 [] []).rd⟩
end
end Pu
/-! The pure layer, part E: statements, defs, calls. -/
namespace Pu
open PySem L2

structure DEnds where
  nx : DS → Prop
  rt : SV → Prop
  bk : DS → Prop := fun _ => False
  ct : DS → Prop := fun _ => False
abbrev PSt := DEnds → DS → Prop
/-- the ends, wherever the data of Fb still stand -/
structure Cmp (A : Ax) (Fb : Hp) (DD : DEnds) (E : Ends) : Prop where
  nx : ∀ F H σ st, Same Fb F → StOk A.K A.N F H σ st → Wld A.F0 A.N F H → DD.nx st → E.nx σ H
  bk : ∀ F H σ st, Same Fb F → StOk A.K A.N F H σ st → Wld A.F0 A.N F H → DD.bk st → E.bk σ H
  ct : ∀ F H σ st, Same Fb F → StOk A.K A.N F H σ st → Wld A.F0 A.N F H → DD.ct st → E.ct σ H
  rt : ∀ F H s v, Same Fb F → Wld A.F0 A.N F H → RepS A.K A.N F H s v → DD.rt s → E.rt v H
theorem Cmp.mono {A : Ax} {F F' : Hp} {DD : DEnds} {E : Ends} (c : Cmp A F DD E) (e : Same F F') : Cmp A F' DD E :=
  ⟨fun F H σ st s => c.nx F H σ st (e.trans s), fun F H σ st s => c.bk F H σ st (e.trans s), fun F H σ st s => c.ct F H σ st (e.trans s), fun F H s v q => c.rt F H s v (e.trans q)⟩
def RdSt (A : Ax) (t : TS) (p : PSt) : Prop := ∀ (F H : Hp) (σ : L2.St) (st : DS) (DD : DEnds) (E : Ends), StOk A.K A.N F H σ st → Wld A.F0 A.N F H → Cmp A F DD E → p DD st → t E σ H
structure SimSt (A : Ax) (X : Cx) (s : Stmt) (t : TS) (p : PSt) : Prop where
  hK : X.K = A.K
  ps : PS X s t
  rd : RdSt A t p
structure SimB (A : Ax) (X : Cx) (ss : List Stmt) (t : TS) (p : PSt) : Prop where
  hK : X.K = A.K
  ps : PSs X ss t
  rd : RdSt A t p
section
variable {A : Ax} {X : Cx} {s : Stmt} {rest ss ss' : List Stmt} {t u : TS} {p q : PSt} {e c : Expr} {te : TE} {tc : TT} {pe : PR} {pes : PS_} {pc : PB} {pos : Pos}
def pNext : PSt := fun E st => E.nx st
def pSeq (p q : PSt) : PSt := fun E st => p { E with nx := q E } st
theorem simB_nil (hK : X.K = A.K := by rfl) : SimB A X [] tNext pNext := ⟨hK, pss_nil, fun F H σ st DD E ok w c hp => c.nx F H σ st (Same.refl _) ok w hp⟩
theorem simB_cons (h : SimSt A X s t p) (g : SimB A X rest u q) : SimB A X (s :: rest) (tSeq t u) (pSeq p q) := ⟨h.hK, pss_cons h.ps g.ps, fun F H σ st DD E ok w c hp =>
  h.rd F H σ st { DD with nx := q DD } { E with nx := u E } ok w ⟨fun F1 H1 σ1 st1 s1 ok1 w1 z => g.rd F1 H1 σ1 st1 DD E ok1 w1 (c.mono s1) z, c.bk, c.ct, c.rt⟩ hp⟩
theorem simB_one (h : SimSt A X s t p) : SimB A X [s] t p := ⟨h.hK, pss_one h.ps, h.rd⟩
theorem sim_pass (hK : X.K = A.K := by rfl) : SimSt A X (.Pass pos) tNext pNext := ⟨hK, ps_pass, fun F H σ st DD E ok w c hp => c.nx F H σ st (Same.refl _) ok w hp⟩
def pBreak : PSt := fun E st => E.bk st
def pCont : PSt := fun E st => E.ct st
theorem sim_break (hK : X.K = A.K := by rfl) : SimSt A X (.Break pos) tBreak pBreak := ⟨hK, ps_break, fun F H σ st DD E ok w c hp => c.bk F H σ st (Same.refl _) ok w hp⟩
theorem sim_continue (hK : X.K = A.K := by rfl) : SimSt A X (.Continue pos) tCont pCont := ⟨hK, ps_continue, fun F H σ st DD E ok w c hp => c.ct F H σ st (Same.refl _) ok w hp⟩
/-- code that is never come to -/
def pNever : PSt := fun _ _ => False
theorem sim_never (hK : X.K = A.K := by rfl) : SimSt A X s tNever pNever := ⟨hK, ps_never, fun _ _ _ _ _ _ _ _ _ hp => hp.elim⟩
def pRet (p : PS_) : PSt := fun E st => p st E.rt
theorem sim_ret (h : SimS A X e te pes) : SimSt A X (.Return (some e) pos) (tRet te) (pRet pes) := ⟨h.hK, ps_ret h.pe, fun F H σ st DD E ok w c hp =>
  h.rd F H σ st _ _ ok w hp fun s v F' H' w' r z => c.rt F' H' s v w'.ff (w.trans w') (r.back fun a h => same_none w.hh h) z⟩
/-- a name's value leaves, even if it was its own -/
def pRetV (i : Nat) : PSt := fun E st => match st[i]? with | some (some s) => E.rt s | _ => False
theorem sim_retV (i : Nat) {x : Str} {p0 : Pos} (hN : X.N[i]? = some x := by rfl) (hv : Vis X.env.scope x := by first | exact Or.inl rfl | exact Or.inr (Or.inl rfl) | exact Or.inr (Or.inr rfl)) (hd : (x == ("__debug__" : Str)) = false := by decide)
    (hcd : (x == ("__classdict__" : Str)) = false := by decide) (hK : X.K = A.K := by rfl) : SimSt A X (.Return (some (.Name x p0)) pos) (tRet (tVar i)) (pRetV i) := ⟨hK, ps_ret (pe_var hN hv hd hcd), fun F H σ st DD E ok w c hp => by
  unfold pRetV at hp
  split at hp
  · rename_i s hs
    obtain ⟨v, hv, r⟩ := ok.at_ i s hs
    exact ⟨v, hv, c.rt F H s v (Same.refl _) w r hp⟩
  · exact hp.elim⟩
def pIfSt (c : PB) (p q : PSt) : PSt := fun E st => c st fun b => if b = true then p E st else q E st
theorem sim_if (hc : SimT A X c tc pc) (ha : SimB A X ss t p) (hb : SimB A X ss' u q) : SimSt A X (.If c ss ss' pos) (tIfS tc t u) (pIfSt pc p q) := ⟨hc.hK, ps_if hc.pt ha.ps hb.ps, fun F H σ st DD E ok w c hp =>
  hc.rd F H σ st _ _ ok w hp fun b F1 H1 w1 z => by
    cases b with
    | true => exact ha.rd F1 H1 σ st DD E (ok.mono w1) (w.trans w1) (c.mono w1.ff) z
    | false => exact hb.rd F1 H1 σ st DD E (ok.mono w1) (w.trans w1) (c.mono w1.ff) z⟩
/-- a name is given a value just made -/
theorem put_new {K : PySem.W.Frag} {F H F' H' : Hp} {σ : L2.St} {st : DS} {i : Nat} {s : SV} {v : V} (ok : StOk K A.N F H σ st) (w : Wld A.F0 A.N F H) (w' : Wld F H F' H') (r : RepS K H F' H' s v) : StOk K A.N F' H' (σ.set i (some v)) (st.set i (some s)) :=
  (ok.mono w').put (r.back fun a h => same_none w.hh h) fun m j t e1 m1 e2 => by
    obtain ⟨x, f1, q⟩ := ok.at_ j t e1
    rw [e2] at f1
    cases f1
    cases s <;> cases t <;> first | (cases m; done) | (cases m1; done) | skip
    all_goals
      obtain ⟨l, _, rfl, h1, _⟩ := q
      obtain ⟨l', _, e, _, _, h2, _⟩ := r
      cases e
      rw [h1] at h2
      cases h2
def pSet (i : Nat) (p : PS_) : PSt := fun E st => p st fun s => E.nx (st.set i (some s))
theorem rd_set {i : Nat} (h : RdS A te pes) : RdSt A (tAsg te (gName i)) (pSet i pes) := fun F H σ st DD E ok w c hp =>
  h F H σ st _ _ ok w hp fun s v F' H' w' r z => c.nx F' H' _ _ w'.ff (put_new ok w w' r) (w.trans w') z
theorem sim_set (i : Nat) {x : Str} {pos' : Pos} (hN : X.N.Nodup) (h : SimS A X e te pes) (hi : X.N[i]? = some x := by rfl) (hx : Loc X.env.scope x := by first | exact Or.inl rfl | exact Or.inr rfl) (hs : swapsWith e (some (.Name x pos')) pos.line X.env = pure false := by rfl)
    (hf : X.fn x = true ∨ X.env.scope.names.lookup x = some .local := by first | exact .inl rfl | exact .inr rfl) : SimSt A X (.Assign [.Name x pos'] e pos) (tAsg te (gName i)) (pSet i pes) := ⟨h.hK, ps_set hN hi hx h.pe hs hf, rd_set h.rd⟩
theorem sim_setLc (i : Nat) {y : Str} {py : Pos} {elt tg iter : Expr} {ifs : List Expr} {scope : Scope} {own : List (Str × Nat)} {pos spos : Pos} {wi : TI} {g : TG} {tt : TT} {te : TE} {js : List Nat} {it : PAs} {b : Bnd} {c : PB} {p : PR} (hc : X.calm = true) (hN : X.N.Nodup)
    (ok : BlkOk X.N X.env.scope scope own) (hi : SimIc A X tg iter wi it)
    (hg : ∀ (s : Shared) (H : Hp) (C : Addr) (cl : List (Str × Addr)) (fp : List Addr), SimG A (X.blk s H scope (compEnvC scope cl C X.env) fp) tg g b js) (hj : ∀ j ∈ js, j ∈ own.map (·.2))
    (ht : ∀ (s : Shared) (H : Hp) (C : Addr) (cl : List (Str × Addr)) (fp : List Addr), SimC A (X.blk s H scope (compEnvC scope cl C X.env) fp) ifs tt c)
    (he : ∀ (s : Shared) (H : Hp) (C : Addr) (cl : List (Str × Addr)) (fp : List Addr), SimD A (X.blk s H scope (compEnvC scope cl C X.env) fp) elt te p)
    (hsw : swapsWith (.ListComp elt [⟨tg, iter, ifs, 0⟩] scope pos) (some (.Name y py)) spos.line X.env = pure true) (hy : X.N[i]? = some y := by rfl) (hyl : X.env.scope.names.lookup y = some .local := by rfl) (hs : ∀ x, foldedSetIterable iter X.env x = pure x := by intro _; rfl) :
    SimSt A X (.Assign [.Name y py] (.ListComp elt [⟨tg, iter, ifs, 0⟩] scope pos) spos) (tAsg (tLc wi g tt te (own.map (·.2))) (gName i)) (pSet i (pLc it b (own.map (·.2)) c p)) := by
  have s0 : Shared := {}
  exact ⟨hi.hK, ps_setLc hc hN hy hyl hsw hi.pi ok (fun s H C cl fp => (hg s H C cl fp).pg) (fun s H C cl fp => (ht s H C cl fp).pt) (fun s H C cl fp => (he s H C cl fp).pe) hs,
    rd_set (rd_lc hi.rd (hg s0 (fun _ => none) 0 [] []).rd hj (ht s0 (fun _ => none) 0 [] []).rd (he s0 (fun _ => none) 0 [] []).rd)⟩
def pAsg (p : PR) (b : Bnd) : PSt := fun E st => p st fun d => b d st E.nx
theorem sim_asg {tg : Expr} {g : TG} {b : Bnd} {js : List Nat} (h : SimD A X e te pe) (hg : SimG A X tg g b js) (hs : swapsWithSole [tg] e pos.line X.env = pure false := by rfl) (hw : swappedStores [tg] e X.env = pure none := by rfl) (h1 : (assignEach [tg] X.env).map (·.2) = [assign tg X.env] := by rfl) : SimSt A X (.Assign [tg] e pos) (tAsg te g) (pAsg pe b) :=
  ⟨h.hK, ps_asg h.pe hg.pg hs hw h1, fun F H σ st DD E ok w c hp => h.rd F H σ st _ _ ok w hp fun d v F1 H1 w1 r z =>
    hg.rd F1 H1 σ st d v _ _ (ok.mono w1) (w.trans w1) r z fun σ' st' ok' _ _ y => c.nx F1 H1 σ' st' w1.ff ok' (w.trans w1) y⟩
def pDrop (p : PS_) : PSt := fun E st => p st fun _ => E.nx st
theorem sim_expr (h : SimS A X e te pes) (hs : swapsWith e none pos.line X.env = pure false := by rfl) : SimSt A X (.Expr e pos) (tDrop te) (pDrop pes) := ⟨h.hK, ps_expr h.pe hs, fun F H σ st DD E ok w c hp =>
  h.rd F H σ st _ _ ok w hp fun s v F1 H1 w1 r z => c.nx F1 H1 σ st w1.ff (ok.mono w1) (w.trans w1) z⟩
/-- a ghost: what a name owns becomes data -/
def pFix (i : Nat) (p : PSt) : PSt := fun E st => match st[i]? with | some (some s) => p E (st.set i (some (.dat s.d))) | _ => False
theorem stok_fix {K : PySem.W.Frag} {F H : Hp} {σ : L2.St} {st : DS} {i : Nat} {s : SV} (ok : StOk K A.N F H σ st) (w : Wld A.F0 A.N F H) (e : st[i]? = some (some s)) : ∃ F', Same F F' ∧ Wld A.F0 A.N F' H ∧ StOk K A.N F' H σ (st.set i (some (.dat s.d))) := by
  obtain ⟨v, hv, r⟩ := ok.at_ i s e
  have hi : i < st.length := (List.getElem?_eq_some_iff.mp e).1
  have same : σ.set i (some v) = σ := by
    apply List.ext_getElem?
    intro j
    by_cases z : i = j
    · subst z; rw [List.getElem?_set_self (by rw [← ok.len]; exact hi), hv]
    · rw [List.getElem?_set_ne z]
  -- all others stay when the object at l is put among the data
  have step : ∀ (l : Addr) (o : HO), v = .ref l → s.mut = true → H l = some o → F l = none → A.N l = none → Rep K (upd F l o) s.d v → ∃ F', Same F F' ∧ Wld A.F0 A.N F' H ∧ StOk K A.N F' H σ (st.set i (some (.dat s.d))) := fun l o hl hm h1 h2 h3 hr => by
    subst hl
    refine ⟨upd F l o, same_upd h2, w.freeze h2 h1 h3, ?_, ?_, ?_⟩
    · simpa using ok.len
    · intro j t et
      by_cases z : i = j
      · subst z
        rw [List.getElem?_set_self hi] at et
        cases et
        exact ⟨_, hv, hr⟩
      · rw [List.getElem?_set_ne z] at et
        obtain ⟨x, e1, r1⟩ := ok.at_ j t et
        refine ⟨x, e1, ?_⟩
        cases t with
        | dat d => exact Rep.mono (same_upd h2) _ _ r1
        | own ds =>
          obtain ⟨l', vs, rfl, a1, a2, a3, a4⟩ := r1
          have ne : l' ≠ l := fun q => by subst q; exact ok.apart i j s _ _ z e et hm rfl hv e1
          exact ⟨l', vs, rfl, a1, by rw [upd_ne ne]; exact a2, a3, Reps.mono (same_upd h2) _ _ a4⟩
        | ownK kvs =>
          obtain ⟨l', vs, rfl, a1, a2, a3, a4, a5⟩ := r1
          have ne : l' ≠ l := fun q => by subst q; exact ok.apart i j s _ _ z e et hm rfl hv e1
          exact ⟨l', vs, rfl, a1, by rw [upd_ne ne]; exact a2, a3, a4, Reps.mono (same_upd h2) _ _ a5⟩
    · intro j k t u x hjk e1 e2 m1 m2 f1 f2
      have a : ∀ (m : Nat) (t : SV), (st.set i (some (.dat s.d)))[m]? = some (some t) → t.mut = true → st[m]? = some (some t) := fun m t e m1 => by
        by_cases z : i = m
        · subst z
          rw [List.getElem?_set_self hi] at e
          cases e
          cases m1
        · rw [List.getElem?_set_ne z] at e
          exact e
      exact ok.apart j k t u x hjk (a _ _ e1 m1) (a _ _ e2 m2) m1 m2 f1 f2
  cases s with
  | dat d =>
    refine ⟨F, Same.refl _, w, ?_⟩
    have q := put_dat (j := i) ok (show Rep K F d v from r)
    rw [same] at q
    exact q
  | own ds =>
    obtain ⟨l, vs, hl, h1, h2, h3, h4⟩ := r
    exact step l _ hl rfl h1 h2 h3 (hl ▸ .lst (.inl upd_same) (Reps.mono (same_upd h2) _ _ h4))
  | ownK kvs =>
    obtain ⟨l, vs, hl, h1, h2, h3, h4, h5⟩ := r
    exact step l _ hl rfl h1 h2 h3 (hl ▸ .dct upd_same h4 (Reps.mono (same_upd h2) _ _ h5))
theorem simB_fix (i : Nat) (h : SimB A X ss t p) : SimB A X ss t (pFix i p) := ⟨h.hK, h.ps, fun F H σ st DD E ok w c hp => by
  unfold pFix at hp
  split at hp
  · rename_i s hs
    obtain ⟨F', s1, w1, ok1⟩ := stok_fix ok w hs
    exact h.rd F' H σ _ DD E ok1 w1 (c.mono s1) hp
  · exact hp.elim⟩
theorem simSt_fix (i : Nat) (h : SimSt A X s t p) : SimSt A X s t (pFix i p) := ⟨h.hK, h.ps, fun F H σ st DD E ok w c hp => by
  unfold pFix at hp
  split at hp
  · rename_i s hs
    obtain ⟨F', s1, w1, ok1⟩ := stok_fix ok w hs
    exact h.rd F' H σ _ DD E ok1 w1 (c.mono s1) hp
  · exact hp.elim⟩
/-- an owned object changes in place -/
theorem stok_write {K : PySem.W.Frag} {F H : Hp} {σ : L2.St} {st : DS} {i : Nat} {s s' : SV} {l : Addr} {o : HO} (ok : StOk K A.N F H σ st) (e : st[i]? = some (some s)) (m : s.mut = true) (hv : σ[i]? = some (some (.ref l)))
    (new : RepS K A.N F (upd H l o) s' (.ref l)) : StOk K A.N F (upd H l o) σ (st.set i (some s')) := by
  have hi : i < st.length := (List.getElem?_eq_some_iff.mp e).1
  have ne : ∀ (j : Nat) (t : SV) (l' : Addr), i ≠ j → st[j]? = some (some t) → t.mut = true → σ[j]? = some (some (.ref l')) → l' ≠ l := fun j t l' z et mt ev q => by
    subst q
    exact ok.apart i j s t _ z e et m mt hv ev
  refine ⟨by simpa using ok.len, fun j t et => ?_, fun j k t u x hjk e1 e2 m1 m2 f1 f2 => ?_⟩
  · by_cases z : i = j
    · subst z
      rw [List.getElem?_set_self hi] at et
      cases et
      exact ⟨_, hv, new⟩
    · rw [List.getElem?_set_ne z] at et
      obtain ⟨x, e1, r1⟩ := ok.at_ j t et
      refine ⟨x, e1, ?_⟩
      cases t with
      | dat d => exact r1
      | own ds =>
        obtain ⟨l', vs, rfl, a1, a2, a3, a4⟩ := r1
        exact ⟨l', vs, rfl, by rw [upd_ne (ne j _ l' z et rfl e1)]; exact a1, a2, a3, a4⟩
      | ownK kvs =>
        obtain ⟨l', vs, rfl, a1, a2, a3, a4, a5⟩ := r1
        exact ⟨l', vs, rfl, by rw [upd_ne (ne j _ l' z et rfl e1)]; exact a1, a2, a3, a4, a5⟩
  · have old : ∀ (k : Nat) (t : SV), (st.set i (some s'))[k]? = some (some t) → t.mut = true → ∃ t', st[k]? = some (some t') ∧ t'.mut = true := fun k t ek mk => by
      by_cases z : i = k
      · subst z; exact ⟨s, e, m⟩
      · rw [List.getElem?_set_ne z] at ek; exact ⟨t, ek, mk⟩
    obtain ⟨t', a1, a2⟩ := old j t e1 m1
    obtain ⟨u', b1, b2⟩ := old k u e2 m2
    exact ok.apart j k t' u' x hjk a1 b1 a2 b2 f1 f2
def pApp (i : Nat) (p : PR) : PSt := fun E st => match st[i]? with | some (some (.own ds)) => p st (fun d => ds.length < 100000 ∧ E.nx (st.set i (some (.own (ds ++ [d]))))) | _ => False
theorem rd_app {i : Nat} (h : RdD A te pe) : RdSt A (tDrop (tBM A.K "list" rAppend (tVar i) (tCons te tNil))) (pApp i pe) := fun F H σ st DD E ok w c hp => by
  unfold pApp at hp
  split at hp
  · rename_i ds hs
    obtain ⟨v, hv, l, vs, rfl, h1, h2, h3, h4⟩ := ok.at_ i _ hs
    refine ⟨_, hv, .inl ⟨rfl, vs, .of h1⟩, ?_⟩
    refine h F H σ st _ _ ok w hp fun d x F1 H1 w1 rx z => ?_
    have a1 := w1.hh _ _ h1
    have a2 := w1.stay h2 h1
    refine ⟨l, vs, x, rfl, rfl, a1, by rw [← h4.len]; exact line_lt z.1, ?_⟩
    refine c.nx F1 _ σ _ w1.ff (stok_write (ok.mono w1) hs rfl hv ?_) ((w.trans w1).write a2 h3) z.2
    exact ⟨l, _, rfl, upd_same, a2, h3, (Reps.mono w1.ff _ _ h4).app (.cons rx .nil)⟩
  · exact hp.elim
theorem sim_app (i : Nat) {x : Str} {p0 apos cpos : Pos} (h : SimD A X e te pe) (hN : X.N[i]? = some x := by rfl) (hv : Vis X.env.scope x := by first | exact Or.inl rfl | exact Or.inr (Or.inl rfl) | exact Or.inr (Or.inr rfl)) (hd : (x == ("__debug__" : Str)) = false := by decide)
    (hcd : (x == ("__classdict__" : Str)) = false := by decide) (hsw : swapsWith (.Call (.Attribute (.Name x p0) "append" apos) [e] [] cpos) none pos.line X.env = pure false := by rfl) (hbase : attributeBase (.Name x p0) "append" X.env (eval (.Name x p0) X.env) = eval (.Name x p0) X.env := by rfl)
    (hfew : ((backTo cpos (starEach [e] X.env)).all (fun x => !x.1) && (backToKw cpos (keywordEach [] X.env)).all (fun x => x.1.isSome) && decide ([e].length + ([] : List Keyword).length + (if ([] : List Keyword).isEmpty then 0 else 1) < 30)) = true := by rfl)
    (hline : (apos.endLine == cpos.line) = true := by rfl) (hs : starEach [e] X.env = (false, eval e X.env) :: starEach [] X.env := by rfl) (hplain : (backTo cpos (starEach [] X.env)).any (·.1) = false := by rfl) :
    SimSt A X (.Expr (.Call (.Attribute (.Name x p0) "append" apos) [e] [] cpos) pos) (tDrop (tBM A.K "list" rAppend (tVar i) (tCons te tNil))) (pApp i pe) :=
  ⟨h.hK, h.hK ▸ ps_expr (pe_bm PySem.F.plainAttrs_list PySem.F.slot_list_append PySem.F.type_list_append mt_append (pe_var hN hv hd hcd) (pa_cons h.pe pa_nil hs) hbase hfew hline hs hplain) hsw, rd_app h.rd⟩
end
end Pu
/-! The pure layer, part F: loops, exceptions, defs and their calls. -/
namespace Pu
open PySem L2
section
variable {A : Ax} {X : Cx} {s : Stmt} {rest ss ss' body : List Stmt} {t u tb : TS} {p q pb : PSt} {e c tg iter : Expr} {te : TE} {tc : TT} {pe : PR} {pes : PS_} {pc : PB} {pos : Pos} {wi : TI} {g : TG} {b : Bnd} {js : List Nat} {it : PAs}
/-! ### loops -/
def pForGo (b : Bnd) (body : PSt) (E : DEnds) : List D → DS → Prop
  | [], st => E.nx st
  | d :: r, st => b d st fun st1 => body { nx := pForGo b body E r, rt := E.rt, bk := E.nx, ct := pForGo b body E r } st1
def pFor (it : PAs) (b : Bnd) (body : PSt) : PSt := fun E st => it st fun ds => pForGo b body E ds st
theorem rd_for (hi : RdIf A wi it) (hg : RdG A g b js) (hb : RdSt A tb pb) : RdSt A (tFor wi g tb) (pFor it b pb) := fun F H σ st DD E ok w c hp =>
  hi F H σ st _ _ ok w hp fun ds J G F1 H1 w1 W gg hgo => by
    refine for_it (w := (⟨W.go, W.stop, fun _ _ _ _ _ _ y => y⟩ : Walk J ds.length G J.yld))
      (fun i σ' H' => ∃ F' st', StOk A.K A.N F' H' σ' st' ∧ Wld A.F0 A.N F' H' ∧ Same F1 F' ∧ pForGo b pb DD (ds.drop i) st') ?_ ?_ ?_ ?_
    · exact ⟨F1, st, ok.mono w1, w.trans w1, Same.refl _, hgo⟩
    · rintro i σ' H' _ ⟨F', st', ok', w', s', -⟩
      exact gg _ _ s' w'.fh
    · rintro i x σ' H2 H3 hi ⟨F2, st2, ok2, w2, s2, go⟩ y
      have hd : ds[i]? = some ds[i] := by simp [hi]
      rw [List.drop_eq_getElem_cons hi] at go
      obtain ⟨F3, w3, r3⟩ := W.yld i _ H2 x H3 F2 hd (gg _ _ s2 w2.fh) s2 w2.fh y
      refine hg F3 H3 σ' st2 _ x _ _ (ok2.mono w3) (w2.trans w3) r3 go fun σ4 st4 ok4 _ _ go4 => ?_
      refine hb F3 H3 σ4 st4 _ _ ok4 (w2.trans w3) ⟨?_, ?_, ?_, ?_⟩ go4
      · exact fun F5 H5 σ5 st5 s5 ok5 w5 z => ⟨F5, st5, ok5, w5, (s2.trans w3.ff).trans s5, z⟩
      · exact fun F5 H5 σ5 st5 s5 ok5 w5 z => c.nx F5 H5 σ5 st5 (((w1.ff.trans s2).trans w3.ff).trans s5) ok5 w5 z
      · exact fun F5 H5 σ5 st5 s5 ok5 w5 z => ⟨F5, st5, ok5, w5, (s2.trans w3.ff).trans s5, z⟩
      · exact fun F5 H5 r v s5 w5 rr z => c.rt F5 H5 r v (((w1.ff.trans s2).trans w3.ff).trans s5) w5 rr z
    · rintro σ' H' ⟨F', st', ok', w', s', go⟩
      rw [List.drop_length] at go
      exact c.nx F' H' σ' st' (w1.ff.trans s') ok' w' go
theorem sim_for (hp : PassesOwn (model X.prog X.w) X.A X.env X.xe) (hc : X.calm = true) (hi : SimIf A X tg iter wi it) (hg : SimG A X tg g b js) (hb : SimB A X body tb pb) (hs : ∀ x, foldedSetIterable iter X.env x = pure x := by intro _; rfl) :
    SimSt A X (.For tg iter body [] pos) (tFor wi g tb) (pFor it b pb) := ⟨hi.hK, ps_for hp hc hi.pi hg.pg hb.ps hs, rd_for hi.rd hg.rd hb.rd⟩
def pWhile (c : PB) (body : PSt) : PSt := fun E st => ∃ I : Nat → DS → Prop, (∃ m, I m st) ∧ ∀ m st, I m st → c st fun b => if b = true then body { nx := fun st' => ∃ m', m' < m ∧ I m' st', rt := E.rt, bk := E.nx, ct := fun st' => ∃ m', m' < m ∧ I m' st' } st else E.nx st
theorem sim_while (hp : PassesOwn (model X.prog X.w) X.A X.env X.xe) (hc : SimT A X c tc pc) (hb : SimB A X body tb pb) : SimSt A X (.While c body [] pos) (tWhile tc tb) (pWhile pc pb) := ⟨hc.hK, ps_while hp hc.pt hb.ps, fun F H σ st DD E ok w c hp => by
  obtain ⟨I, ⟨m0, h0⟩, hs⟩ := hp
  refine ⟨fun m σ' H' => ∃ F' st', StOk A.K A.N F' H' σ' st' ∧ Wld A.F0 A.N F' H' ∧ Same F F' ∧ I m st', ⟨m0, F, st, ok, w, Same.refl _, h0⟩, ?_⟩
  rintro m σ' H' ⟨F', st', ok', w', s', hI⟩
  refine hc.rd F' H' σ' st' _ _ ok' w' (hs m st' hI) fun b F1 H1 w1 z => ?_
  cases b with
  | false => exact c.nx F1 H1 σ' st' (s'.trans w1.ff) (ok'.mono w1) (w'.trans w1) z
  | true =>
    refine ⟨fun σ2 H2 => ∃ F2 st2, StOk A.K A.N F2 H2 σ2 st2 ∧ Wld A.F0 A.N F2 H2 ∧ Same F F2 ∧ ∃ m', m' < m ∧ I m' st2, fun σ2 H2 ⟨F2, st2, a1, a2, a3, m', a4, a5⟩ => ⟨m', a4, F2, st2, a1, a2, a3, a5⟩, ?_⟩
    refine hb.rd F1 H1 σ' st' _ _ (ok'.mono w1) (w'.trans w1) ⟨?_, ?_, ?_, ?_⟩ z
    · exact fun F5 H5 σ5 st5 s5 ok5 w5 z => ⟨F5, st5, ok5, w5, (s'.trans w1.ff).trans s5, z⟩
    · exact fun F5 H5 σ5 st5 s5 ok5 w5 z => c.nx F5 H5 σ5 st5 ((s'.trans w1.ff).trans s5) ok5 w5 z
    · exact fun F5 H5 σ5 st5 s5 ok5 w5 z => ⟨F5, st5, ok5, w5, (s'.trans w1.ff).trans s5, z⟩
    · exact fun F5 H5 r v s5 w5 rr z => c.rt F5 H5 r v ((s'.trans w1.ff).trans s5) w5 rr z⟩
/-- x += e of whole numbers -/
def pInc (i : Nat) (p : PR) : PSt := fun E st => match st[i]? with | some (some (.dat (.int a))) => p st fun d => (match d with | .int z => E.nx (st.set i (some (.dat (.int (a + z))))) | _ => False) | _ => False
theorem sim_inc (i : Nat) {x : Str} {pos' : Pos} (hN : X.N.Nodup) (h : SimR A X e te pe) (hi : X.N[i]? = some x := by rfl) (hx : Loc X.env.scope x := by first | exact Or.inl rfl | exact Or.inr rfl) (hf : X.fn x = true ∨ X.env.scope.names.lookup x = some .local := by first | exact .inl rfl | exact .inr rfl) :
    SimSt A X (.AugAssign (.Name x pos') .Add e pos) (tAug i te (ipI fun i j => i + j)) (pInc i pe) := ⟨h.hK, ps_aug hN hi hx h.pe ip_add hf, fun F H σ st DD E ok w c hp => by
  unfold pInc at hp
  split at hp
  · rename_i a hs
    obtain ⟨v, hv, r⟩ := ok.at_ i _ hs
    cases (show Rep A.K F (.int a) v from r)
    refine ⟨_, hv, h.rd F H σ st _ _ ok w hp fun d x F1 H1 w1 rx z => ?_⟩
    cases d <;> first | exact z.elim | skip
    cases rx
    exact ⟨_, _, rfl, rfl, c.nx F1 H1 _ _ w1.ff (put_dat (ok.mono w1) (.int _)) (w.trans w1) z⟩
  · exact hp.elim⟩

/-! ### exceptions -/
inductive XD where
  | own (C : Addr) | row (C : Addr) (n : Int)
def RepX (H : Hp) : XD → Value → Option Addr → Prop
  | .own C, cls, d => cls = .ref C ∧ d = none
  | .row C n, cls, d => cls = .ref C ∧ ∃ (dd : Addr) (fs : List (Str × V)), d = some dd ∧ H dd = some (.xd fs) ∧ fs.lookup ("row" : Str) = some (V.int n)
/-- what is wanted of exceptions here -/
structure XC (A : Ax) (X : Cx) (XQ : XD → Prop) (E : XK) : Prop where
  pass : Passes (CX X.prog X.w) X E
  takes : ∀ x cls d F H, Wld A.F0 A.N F H → RepX H x cls d → XQ x → E cls d H
abbrev X0 : XD → Prop := fun _ => False
theorem xc0 : XC A X X0 E0 := ⟨passL, fun _ _ _ _ _ _ _ z => z.elim⟩

/-! ### what a def promises -/
abbrev FSpec := List D → (SV → Prop) → (XD → Prop) → Prop
def spP (K : PySem.W.Frag) (φ : FSpec) : Sp := fun vs H Q E => ∃ F ds DQ XQ, Same F H ∧ Reps K F ds vs ∧ φ ds DQ XQ ∧ (∀ s v F' H', Wld F H F' H' → RepS K H F' H' s v → DQ s → Q v H') ∧ ∀ x cls d F' H', Wld F H F' H' → RepX H' x cls d → XQ x → E cls d H'
def dstart (N : List Str) (ds : List D) : DS := ds.map (fun d => some (.dat d)) ++ List.replicate (N.length - ds.length) none
theorem stok_start {K : PySem.W.Frag} {N : List Str} {F H : Hp} {ds : List D} {vs : List V} (r : Reps K F ds vs) : StOk K H F H (L2.start N vs) (dstart N ds) := by
  have hl := r.len
  refine ⟨by simp [L2.start, dstart, hl], fun i s e => ?_, fun i j s t v hij e1 e2 m1 m2 f1 f2 => ?_⟩
  all_goals
    have key : ∀ (i : Nat) (s : SV), (dstart N ds)[i]? = some (some s) → ∃ d, ds[i]? = some d ∧ s = .dat d := fun i s e => by
      unfold dstart at e
      by_cases hi : i < ds.length
      · rw [List.getElem?_append_left (by simpa using hi), List.getElem?_map] at e
        cases q : ds[i]? with
        | none => rw [q] at e; cases e
        | some d => rw [q] at e; cases e; exact ⟨d, rfl, rfl⟩
      · rw [List.getElem?_append_right (by simpa using hi), List.getElem?_replicate] at e
        split at e <;> cases e
  · obtain ⟨d, hd, rfl⟩ := key i s e
    obtain ⟨v, hv, rv⟩ := r.get hd
    refine ⟨v, ?_, rv⟩
    unfold L2.start
    have hi : i < vs.length := (List.getElem?_eq_some_iff.mp hv).1
    rw [List.getElem?_append_left (by simpa using hi), List.getElem?_map, hv]
    rfl
  · obtain ⟨d, _, rfl⟩ := key i s e1
    cases m1
section
variable {P : Program} {w : World} {K : PySem.W.Frag} {mg : Str → Option Value} {base : Heap}
abbrev ctx (P : Program) (w : World) (K : PySem.W.Frag) (mg : Str → Option Value) (base : Heap) (N : List Str) (qual : Str) (sc : Scope) (f : Addr) (cdv : Value) (B : Around) (outer : List Env) (s : Shared) (H : Hp) (E : XK) : Cx := cxOf (L2.CX P w) P w K mg base N qual sc f cdv B outer s H E
/-- THE RULE for a def: its body read as p, and p shown from the promise -/
theorem okP {x qual : Str} {st : Stmt} {f : Addr} {fd : FuncData} {N ps : List Str} {k : Nat} {φ : FSpec} (Fn : Fun K x qual st f fd) (S : FnScope N ps (defScope st)) (hl : ∀ ds Q XQ, φ ds Q XQ → ds.length = ps.length) (p : (XD → Prop) → PSt)
    (hb : ∀ (cdv : Value) (B : Around) (outer : List Env) (s : Shared) (H : Hp) (E : XK) (A : Ax) (XQ : XD → Prop), A.K = K → Room k (B.deeper (PyProof.Rows.envOfC qual (defScope st) s.heap.objs.size f cdv)) →
      (∀ x cls d F H, Wld A.F0 A.N F H → RepX H x cls d → XQ x → E cls d H) → ∃ t, SimB A (ctx P w K mg base N qual (defScope st) f cdv B outer s H E) (defBody st) t (p XQ))
    (hp : ∀ ds Q XQ, φ ds Q XQ → p XQ { nx := fun _ => Q (.dat .non), rt := Q } (dstart N ds)) : FnOk P w K mg base (L2.CX P w) (k + 1) f fd ps (spP K φ) := by
  refine Fn.okX S (fun vs H Q E h => ?_) fun cdv B outer s H vs Q E hr h => ?_
  · obtain ⟨F, ds, DQ, XQ, e, r, hφ, _⟩ := h
    rw [← r.len]
    exact hl _ _ _ hφ
  · obtain ⟨F, ds, DQ, XQ, e, r, hφ, k1, k2⟩ := h
    obtain ⟨t, ht⟩ := hb cdv B outer s H E ⟨F, H, K⟩ XQ rfl hr k2
    refine ⟨t, ht.ps, ht.rd F H _ _ _ _ (stok_start r) (Wld.refl e) ⟨?_, ?_, ?_, ?_⟩ (hp ds DQ XQ hφ)⟩
    · exact fun F1 H1 σ st s1 ok w1 z => k1 (.dat .non) .non F1 H1 w1 .non z
    · exact fun F1 H1 σ st s1 ok w1 z => z.elim
    · exact fun F1 H1 σ st s1 ok w1 z => z.elim
    · exact fun F1 H1 r v s1 w1 rr z => k1 r v F1 H1 w1 rr z
end
/-- in a def's body: what may be let out -/
theorem xcE {P : Program} {w : World} {K : PySem.W.Frag} {mg : Str → Option Value} {base : Heap} {N : List Str} {qual : Str} {sc : Scope} {f : Addr} {cdv : Value} {B : Around} {outer : List Env} {s : Shared} {H : Hp} {E : XK} {XQ : XD → Prop}
    (h : ∀ x cls d F H, Wld A.F0 A.N F H → RepX H x cls d → XQ x → E cls d H) : XC A (ctx P w K mg base N qual sc f cdv B outer s H E) XQ E :=
  ⟨passes_call (takes_of rfl rfl rfl rfl) fun _ _ _ _ z => z, h⟩

/-! ### calls -/
def pCall (φ : FSpec) (XQ : XD → Prop) (as : PAs) : PS_ := fun st Q => as st fun ds => φ ds Q XQ
theorem rd_call {ta : TA} {as : PAs} {φ : FSpec} {XQ : XD → Prop} {E : XK} (h : RdA A ta as) (hx : ∀ x cls d F H, Wld A.F0 A.N F H → RepX H x cls d → XQ x → E cls d H) : RdS A (tCall (spP A.K φ) [] E ta) (pCall φ XQ as) := fun F H σ st DQ Q ok w hp k =>
  h F H σ st _ _ ok w hp fun ds vs F1 H1 w1 r z => by
    show spP A.K φ (vs ++ []) H1 Q E
    rw [List.append_nil]
    exact ⟨F1, ds, DQ, XQ, w1.fh, r, z, fun s v F' H' w' rs q => k s v F' H' (w1.trans w') (rs.back fun a h => same_none w1.hh h) q, fun x cls d F' H' w' rx q => hx x cls d F' H' ((w.trans w1).trans w') rx q⟩
theorem sim_call {k : Nat} {f : Addr} {fd : FuncData} {ps : List Str} {φ : FSpec} {XQ : XD → Prop} {E : XK} {x : Str} {p0 : Pos} {es : List Expr} {ta : TA} {as : PAs} (Fn : FnOk X.prog X.w X.K X.mg X.base (CX X.prog X.w) k f fd ps (spP X.K φ)) (hr : Room k X.A) (hm : X.mg x = some (.ref f)) (hk : PySem.W.keepIn X.K (.ref f) = true) (hb : Binds X.K fd ps []) (hx : XC A X XQ E)
    (ha : SimA A X (e :: es) ta as) (hg : Gl X x := by rfl) (hdb : (x == ("__debug__" : Str)) = false := by decide) (he : starEach (e :: es) X.env = (false, eval e X.env) :: starEach es X.env := by rfl) (hpl : (backTo pos (starEach es X.env)).any (·.1) = false := by rfl) :
    SimS A X (.Call (.Name x p0) (e :: es) [] pos) (tCall (spP A.K φ) [] E ta) (pCall φ XQ as) := ⟨ha.hK, ha.hK ▸ pe_call Fn hr hg hm hk hb .nil hx.pass ha.pa hdb he hpl, rd_call ha.rd hx.takes⟩
/-- a def of the module that keeps the promise, to be called by its name -/
def CallOk (P : Program) (w : World) (K : PySem.W.Frag) (mg : Str → Option Value) (base : Heap) (x : Str) (k : Nat) (φ : FSpec) : Prop :=
  ∃ (f : Addr) (fd : FuncData) (ps : List Str), FnOk P w K mg base (L2.CX P w) k f fd ps (spP K φ) ∧ mg x = some (.ref f) ∧ PySem.W.keepIn K (.ref f) = true ∧ Binds K fd ps []
theorem sim_callC {k : Nat} {φ : FSpec} {XQ : XD → Prop} {E : XK} {x : Str} {p0 : Pos} {es : List Expr} {ta : TA} {as : PAs} (C : CallOk X.prog X.w X.K X.mg X.base x k φ) (hr : Room k X.A) (hx : XC A X XQ E)
    (ha : SimA A X (e :: es) ta as) (hg : Gl X x := by rfl) (hdb : (x == ("__debug__" : Str)) = false := by decide) (he : starEach (e :: es) X.env = (false, eval e X.env) :: starEach es X.env := by rfl) (hpl : (backTo pos (starEach es X.env)).any (·.1) = false := by rfl) :
    SimS A X (.Call (.Name x p0) (e :: es) [] pos) (tCall (spP A.K φ) [] E ta) (pCall φ XQ as) := by
  obtain ⟨f, fd, ps, h1, h2, h3, h4⟩ := C
  exact sim_call h1 hr h2 h3 h4 hx ha hg hdb he hpl
theorem callOk {P : Program} {w : World} {K : PySem.W.Frag} {mg : Str → Option Value} {base : Heap} {x qual : Str} {st : Stmt} {f : Addr} {fd : FuncData} {N ps : List Str} {k : Nat} {φ : FSpec} (Fn : Fun K x qual st f fd) (hm : mg x = some (.ref f)) (S : FnScope N ps (defScope st))
    (hl : ∀ ds Q XQ, φ ds Q XQ → ds.length = ps.length) (p : (XD → Prop) → PSt)
    (hb : ∀ (cdv : Value) (B : Around) (outer : List Env) (s : Shared) (H : Hp) (E : XK) (A : Ax) (XQ : XD → Prop), A.K = K → Room k (B.deeper (PyProof.Rows.envOfC qual (defScope st) s.heap.objs.size f cdv)) →
      (∀ x cls d F H, Wld A.F0 A.N F H → RepX H x cls d → XQ x → E cls d H) → ∃ t, SimB A (ctx P w K mg base N qual (defScope st) f cdv B outer s H E) (defBody st) t (p XQ))
    (hp : ∀ ds Q XQ, φ ds Q XQ → p XQ { nx := fun _ => Q (.dat .non), rt := Q } (dstart N ds))
    (hbd : ∀ (kV doc pm : Value) (an : Option Addr) (cdv ct : Value) (us : List Value), us.length = ps.length → bindArgs (PySem.W.fnOf x qual (defArgs st) (defBody st) (defScope st) .none kV doc pm an cdv ct) ⟨us, []⟩ = pure (ps.zip us)) : CallOk P w K mg base x (k + 1) φ :=
  ⟨f, fd, ps, okP Fn S hl p hb hp, hm, Fn.kp, Fn.binds hbd⟩
end
end Pu
/-! The pure layer, part G: built-ins. -/
namespace Pu
open PySem L2
section
variable {A : Ax} {X : Cx} {K : PySem.W.Frag} {e a b c : Expr} {es : List Expr} {t ta tb : TE} {p q : PR} {ps : PS_} {pos : Pos}
/-! ### one argument -/
def Op1 (K : PySem.W.Frag) (rH : List V → Hp → VK → Prop) (r : D → (D → Prop) → Prop) : Prop := ∀ (F H : Hp) (x : D) (v : V) (DQ : D → Prop) (Q : VK), Same F H → RepR K F H x v → r x DQ → (∀ d w, Rep K F d w → DQ d → Q w H) → rH [v] H Q
def Op1S (K : PySem.W.Frag) (rH : List V → Hp → VK → Prop) (r : D → (SV → Prop) → Prop) : Prop := ∀ (F H : Hp) (x : D) (v : V) (DQ : SV → Prop) (Q : VK), Same F H → RepR K F H x v → r x DQ → (∀ s w F' H', Wld F H F' H' → RepS K H F' H' s w → DQ s → Q w H') → rH [v] H Q
def p1 (r : D → (D → Prop) → Prop) (p : PR) : PR := fun st Q => p st fun x => r x Q
def p1S (r : D → (SV → Prop) → Prop) (p : PR) : PS_ := fun st Q => p st fun x => r x Q
theorem rd_1 {rH : List V → Hp → VK → Prop} {r : D → (D → Prop) → Prop} (ho : Op1 A.K rH r) (h : RdR A t p) : RdD A (tCB rH (tCons t tNil)) (p1 r p) := fun F H σ st DQ Q ok w hp k =>
  h F H σ st _ _ ok w hp fun d v F1 H1 w1 rx z => ho F1 H1 d v DQ Q w1.fh rx z fun d' x r' q => k d' x F1 H1 w1 r' q
theorem rd_1S {rH : List V → Hp → VK → Prop} {r : D → (SV → Prop) → Prop} (ho : Op1S A.K rH r) (h : RdR A t p) : RdS A (tCB rH (tCons t tNil)) (p1S r p) := fun F H σ st DQ Q ok w hp k =>
  h F H σ st _ _ ok w hp fun d v F1 H1 w1 rx z => ho F1 H1 d v DQ Q w1.fh rx z fun s x F2 H2 w2 r' q => k s x F2 H2 (w1.trans w2) (r'.back fun a h => same_none w1.hh h) q
/-- a built-in function of one value: HandS's reading, ours -/
structure FnB (f : Value) (rH : PySem.W.Frag → List V → Hp → VK → Prop) (r : D → (D → Prop) → Prop) : Prop where
  fn : ∀ X : Cx, X.calm = true → CallR X f (rH X.K)
  one : ∀ K, Op1 K (rH K) r
structure FnBS (f : Value) (rH : PySem.W.Frag → List V → Hp → VK → Prop) (r : D → (SV → Prop) → Prop) : Prop where
  fn : ∀ X : Cx, X.calm = true → CallR X f (rH X.K)
  one : ∀ K, Op1S K (rH K) r
theorem simD_fn {id : String} {x : Str} {p0 : Pos} {rH : PySem.W.Frag → List V → Hp → VK → Prop} {r : D → (D → Prop) → Prop} (O : FnB (.builtin id) rH r) (hc : X.calm = true) (hm : X.mg x = none) (h : SimR A X e t p) (hv : bootBuiltins x = some (.builtin id) := by decide +kernel) (hg : Gl X x := by rfl) (hn : x ≠ "__name__" := by decide) (hdb : (x == ("__debug__" : Str)) = false := by decide)
    (he : starEach [e] X.env = (false, eval e X.env) :: starEach [] X.env := by rfl) (hpl : (backTo pos (starEach [] X.env)).any (·.1) = false := by rfl) : SimD A X (.Call (.Name x p0) [e] [] pos) (tCB (rH A.K) (tCons t tNil)) (p1 r p) :=
  ⟨h.hK, h.hK ▸ pe_callB (O.fn X hc) hg hm hv (pa_cons h.pe pa_nil he) hn hdb he hpl, rd_1 (O.one _) h.rd⟩
theorem simS_fn {id : String} {x : Str} {p0 : Pos} {rH : PySem.W.Frag → List V → Hp → VK → Prop} {r : D → (SV → Prop) → Prop} (O : FnBS (.builtin id) rH r) (hc : X.calm = true) (hm : X.mg x = none) (h : SimR A X e t p) (hv : bootBuiltins x = some (.builtin id) := by decide +kernel) (hg : Gl X x := by rfl) (hn : x ≠ "__name__" := by decide) (hdb : (x == ("__debug__" : Str)) = false := by decide)
    (he : starEach [e] X.env = (false, eval e X.env) :: starEach [] X.env := by rfl) (hpl : (backTo pos (starEach [] X.env)).any (·.1) = false := by rfl) : SimS A X (.Call (.Name x p0) [e] [] pos) (tCB (rH A.K) (tCons t tNil)) (p1S r p) :=
  ⟨h.hK, h.hK ▸ pe_callB (O.fn X hc) hg hm hv (pa_cons h.pe pa_nil he) hn hdb he hpl, rd_1S (O.one _) h.rd⟩
theorem simD_ty {id : String} {x : Str} {p0 : Pos} {rH : PySem.W.Frag → List V → Hp → VK → Prop} {r : D → (D → Prop) → Prop} (O : FnB (.type id) rH r) (hc : X.calm = true) (hm : X.mg x = none) (h : SimR A X e t p) (hv : bootBuiltins x = some (.type id) := by decide +kernel) (hg : Gl X x := by rfl) (hn : x ≠ "__name__" := by decide) (hdb : (x == ("__debug__" : Str)) = false := by decide)
    (he : starEach [e] X.env = (false, eval e X.env) :: starEach [] X.env := by rfl) (hpl : (backTo pos (starEach [] X.env)).any (·.1) = false := by rfl) : SimD A X (.Call (.Name x p0) [e] [] pos) (tCB (rH A.K) (tCons t tNil)) (p1 r p) :=
  ⟨h.hK, h.hK ▸ pe_callTy (O.fn X hc) hg hm hv (pa_cons h.pe pa_nil he) hn hdb he hpl, rd_1 (O.one _) h.rd⟩
theorem simS_ty {id : String} {x : Str} {p0 : Pos} {rH : PySem.W.Frag → List V → Hp → VK → Prop} {r : D → (SV → Prop) → Prop} (O : FnBS (.type id) rH r) (hc : X.calm = true) (hm : X.mg x = none) (h : SimR A X e t p) (hv : bootBuiltins x = some (.type id) := by decide +kernel) (hg : Gl X x := by rfl) (hn : x ≠ "__name__" := by decide) (hdb : (x == ("__debug__" : Str)) = false := by decide)
    (he : starEach [e] X.env = (false, eval e X.env) :: starEach [] X.env := by rfl) (hpl : (backTo pos (starEach [] X.env)).any (·.1) = false := by rfl) : SimS A X (.Call (.Name x p0) [e] [] pos) (tCB (rH A.K) (tCons t tNil)) (p1S r p) :=
  ⟨h.hK, h.hK ▸ pe_callTy (O.fn X hc) hg hm hv (pa_cons h.pe pa_nil he) hn hdb he hpl, rd_1S (O.one _) h.rd⟩

/-! len -/
def pLen : D → (D → Prop) → Prop
  | .str z, Q => z.length ≤ 100000 ∧ Q (.int (z.length : Nat))
  | .lst ds, Q => Q (.int (ds.length : Nat))
  | .tup ds, Q => Q (.int (ds.length : Nat))
  | _, _ => False
def rLenA (K : PySem.W.Frag) : List V → Hp → VK → Prop := fun xs H Q => (∃ p ys, xs = [.ref p] ∧ (SqL K H p ys ∨ SqT K H p ys) ∧ Q (.int ys.length) H) ∨ ∃ z, xs = [.str z] ∧ z.length ≤ sizeLine ∧ Q (.int z.length) H
theorem cr_lenA : CallR X (.builtin "len") (rLenA X.K) := call_len_seq.or call_len_str
theorem op1_len : Op1 K (rLenA K) pLen := fun F H x v DQ Q e rx h k => by
  cases x <;> first | exact h.elim | skip
  · cases rx
    exact .inr ⟨_, rfl, by rw [str_len]; exact line_of h.1, by rw [str_len]; exact k _ _ (.int _) h.2⟩
  · obtain ⟨c, vs, rfl, h1, h2⟩ := rx
    refine .inl ⟨_, _, rfl, .inl (.inl h1), ?_⟩
    rw [← h2.len]
    exact k _ _ (.int _) h
  · cases rx with
    | tup h1 h2 =>
      refine .inl ⟨_, _, rfl, .inr (st_mono e h1), ?_⟩
      rw [← h2.len]
      exact k _ _ (.int _) h

/-! lists of one kind -/
def bolL : List D → Option (List Bool)
  | [] => some []
  | .bl b :: r => (bolL r).map (b :: ·)
  | _ :: _ => none
def intL : List D → Option (List Int)
  | [] => some []
  | .int b :: r => (intL r).map (b :: ·)
  | _ :: _ => none
def strL : List D → Option (List (List Nat))
  | [] => some []
  | .str b :: r => (strL r).map (b :: ·)
  | _ :: _ => none
theorem bools_map : ∀ bs : List Bool, bolL (bs.map .bl) = some bs
  | [] => rfl
  | b :: r => by simp [bolL, bools_map r]
theorem ints_map : ∀ bs : List Int, intL (bs.map .int) = some bs
  | [] => rfl
  | b :: r => by simp [intL, ints_map r]
theorem strs_map : ∀ bs : List (List Nat), strL (bs.map .str) = some bs
  | [] => rfl
  | b :: r => by simp [strL, strs_map r]
theorem bools_of : ∀ {ds : List D} {bs : List Bool}, bolL ds = some bs → ds = bs.map .bl
  | [], _, h => by cases h; rfl
  | d :: r, bs, h => by
    cases d <;> first | (simp [bolL] at h; done) | skip
    simp only [bolL, Option.map_eq_some_iff] at h
    obtain ⟨l, h1, rfl⟩ := h
    rw [List.map_cons, ← bools_of h1]
theorem ints_of : ∀ {ds : List D} {bs : List Int}, intL ds = some bs → ds = bs.map .int
  | [], _, h => by cases h; rfl
  | d :: r, bs, h => by
    cases d <;> first | (simp [intL] at h; done) | skip
    simp only [intL, Option.map_eq_some_iff] at h
    obtain ⟨l, h1, rfl⟩ := h
    rw [List.map_cons, ← ints_of h1]
theorem strs_of : ∀ {ds : List D} {bs : List (List Nat)}, strL ds = some bs → ds = bs.map .str
  | [], _, h => by cases h; rfl
  | d :: r, bs, h => by
    cases d <;> first | (simp [strL] at h; done) | skip
    simp only [strL, Option.map_eq_some_iff] at h
    obtain ⟨l, h1, rfl⟩ := h
    rw [List.map_cons, ← strs_of h1]
theorem reps_ints {F : Hp} {ns : List Int} {vs : List V} (r : Reps K F (ns.map .int) vs) : vs = ns.map V.int := All2.eqMap (fun c b h => by cases h; rfl) r
theorem reps_bools {F : Hp} {ns : List Bool} {vs : List V} (r : Reps K F (ns.map .bl) vs) : vs = ns.map V.bl := All2.eqMap (fun c b h => by cases h; rfl) r
abbrev S (z : List Nat) : Str := ⟨z.toArray⟩
theorem reps_strs {F : Hp} {ns : List (List Nat)} {vs : List V} (r : Reps K F (ns.map .str) vs) : vs = ns.map fun z => V.str (S z) := All2.eqMap (fun c b h => by cases h; rfl) r
theorem ints_reps {F : Hp} (ns : List Int) : Reps K F (ns.map .int) (ns.map V.int) := All2.maps fun c _ => .int c
theorem strs_reps {F : Hp} (ns : List (List Nat)) : Reps K F (ns.map .str) (ns.map fun z => V.str (S z)) := All2.maps fun c _ => .str c

def pAny : D → (D → Prop) → Prop
  | .lst ds, Q => match bolL ds with | some bs => Q (.bl (bs.any id)) | none => False
  | _, _ => False
def pAll : D → (D → Prop) → Prop
  | .lst ds, Q => match bolL ds with | some bs => Q (.bl (bs.all id)) | none => False
  | _, _ => False
def pSum : D → (D → Prop) → Prop
  | .lst ds, Q => match intL ds with | some bs => Q (.int bs.sum) | none => False
  | _, _ => False
theorem op1_any : Op1 K (rAny K) pAny := fun F H x v DQ Q e rx h k => by
  cases x <;> first | exact h.elim | skip
  dsimp only [pAny] at h
  split at h
  · rename_i bs hb
    obtain ⟨c, vs, rfl, h1, h2⟩ := rx
    rw [bools_of hb] at h2
    have := reps_bools h2
    subst this
    exact ⟨c, bs, rfl, .inl h1, k _ _ (.bl _) h⟩
  · exact h.elim
theorem op1_all : Op1 K (rAll K) pAll := fun F H x v DQ Q e rx h k => by
  cases x <;> first | exact h.elim | skip
  dsimp only [pAll] at h
  split at h
  · rename_i bs hb
    obtain ⟨c, vs, rfl, h1, h2⟩ := rx
    rw [bools_of hb] at h2
    have := reps_bools h2
    subst this
    exact ⟨c, bs, rfl, .inl h1, k _ _ (.bl _) h⟩
  · exact h.elim
theorem op1_sum : Op1 K (rSum K) pSum := fun F H x v DQ Q e rx h k => by
  cases x <;> first | exact h.elim | skip
  dsimp only [pSum] at h
  split at h
  · rename_i bs hb
    obtain ⟨c, vs, rfl, h1, h2⟩ := rx
    rw [ints_of hb] at h2
    have := reps_ints h2
    subst this
    exact ⟨c, bs, rfl, .inl h1, k _ _ (.int _) h⟩
  · exact h.elim

/-! sorted: whole numbers, texts, of any number -/
def pSorted : D → (SV → Prop) → Prop
  | .lst ds, Q => match intL ds with
    | some ns => ∀ ns' : List Int, ns'.Perm ns → ns'.Pairwise (· ≤ ·) → Q (.own (ns'.map .int))
    | none => match strL ds with
      | some zs => ds.length ≤ 100000 ∧ ∀ zs' : List (List Nat), zs'.Perm zs → PyProof.Rows.sortedS (zs'.map S) = true → Q (.own (zs'.map .str))
      | none => False
  | _, _ => False
def rSortedSA (K : PySem.W.Frag) : List V → Hp → VK → Prop := fun vs H Q => ∃ (a : Addr) (xs : List Str), vs = [V.ref a] ∧ SqL K H a (xs.map V.str) ∧
  ∀ (ys : List Str) (p : Addr), ys.Perm xs → PyProof.Rows.sortedS ys = true → H p = none → Q (.ref p) (upd H p (.lst (ys.map V.str)))
theorem cr_sortedSA : CallR X (.builtin "sorted") (rSortedSA X.K) := by
  intro pins s σ H vs us Q I r h
  obtain ⟨l, xs, rfl, hs, q⟩ := h
  obtain ⟨its, rv, hl, hz⟩ := I.list hs
  rw [Vals.ref1 r]
  have hlen0 := rv.length
  refine PyProof.Rows.sorted_strsAny hl.isList rv.strs (by rw [← hlen0]; exact hz) fun out ys h1 h2 h3 => ?_
  obtain ⟨ep, he'⟩ := PyProof.Rows.sortedAll_at s.heap its out
  have hlen : (ys.map V.str).length ≤ sizeLine := by rw [List.length_map, h2.length_eq]; rw [List.length_map] at hz; exact hz
  exact ⟨.ref _, upd H (s.heap.objs.size + 1) (.lst (ys.map V.str)), I.laid (t' := s.toks) (fun _ _ => PyProof.Rows.sortedAll_old) (Nat.le_succ _) ⟨hlen, out.toList, ep, vals_of_strs h1, he'⟩, rfl, q ys _ h2 h3 (I.hok.fresh (Nat.le_succ _))⟩
def rSortedA (K : PySem.W.Frag) : List V → Hp → VK → Prop := fun xs H Q => rSortedI K xs H Q ∨ rSortedSA K xs H Q
theorem cr_sortedA : CallR X (.builtin "sorted") (rSortedA X.K) := cr_sortedI.or cr_sortedSA
theorem map_S {ys : List Str} : (ys.map fun y => y.cps.toList).map S = ys := by
  rw [List.map_map]
  conv => rhs; rw [← List.map_id ys]
  apply List.map_congr_left
  intro y _
  show (⟨y.cps.toList.toArray⟩ : Str) = y
  simp
theorem op1s_sorted : Op1S K (rSortedA K) pSorted := fun F H x v DQ Q e rx h k => by
  cases x <;> first | exact h.elim | skip
  dsimp only [pSorted] at h
  obtain ⟨c, vs, rfl, h1, h2⟩ := rx
  split at h
  · rename_i ns hb
    rw [ints_of hb] at h2
    have := reps_ints h2
    subst this
    exact .inl ⟨c, ns, rfl, .inl h1, fun ns' p hp hs hn => k _ _ F _ ((Wld.refl e).new hn) (new_lst e hn (ints_reps ns')) (h ns' hp hs)⟩
  · split at h
    · rename_i zs hb
      rw [strs_of hb] at h2
      have := reps_strs h2
      subst this
      refine .inr ⟨c, zs.map S, rfl, ?_, fun ys p hp hs hn => ?_⟩
      · rw [List.map_map]; exact .inl h1
      · have hy := map_S (ys := ys)
        have hp' : (ys.map fun y => y.cps.toList).Perm zs := by
          have := hp.map (fun y : Str => y.cps.toList)
          rw [List.map_map] at this
          have e2 : (zs.map ((fun y : Str => y.cps.toList) ∘ S)) = zs := by
            conv => rhs; rw [← List.map_id zs]
            apply List.map_congr_left
            intro z _
            simp
          rw [e2] at this
          exact this
        have q := h.2 (ys.map fun y => y.cps.toList) hp' (by rw [hy]; exact hs)
        refine k (.own _) _ F _ ((Wld.refl e).new hn) (new_lst e hn ?_) q
        have e3 : ys.map V.str = (ys.map fun y => y.cps.toList).map fun z => V.str (S z) := by
          rw [List.map_map]
          apply List.map_congr_left
          intro y _
          simp [S]
        rw [e3]
        exact strs_reps _
    · exact h.elim

/-! list(x), int(x), str(n) -/
def pListOf : D → (SV → Prop) → Prop
  | .lst ds, Q => Q (.own ds)
  | .tup ds, Q => Q (.own ds)
  | .str z, Q => z.length ≤ 100000 ∧ Q (.own (signs z))
  | _, _ => False
def rListOfS : List V → Hp → VK → Prop := fun xs H Q => ∃ z : Str, xs = [.str z] ∧ z.length ≤ sizeLine ∧ ∀ l, H l = none → Q (.ref l) (upd H l (.lst (z.cps.toList.map fun c => V.str ⟨#[c]⟩)))
theorem call_list_txt (hc : X.calm = true) : CallR X (.type "list") rListOfS := by
  intro pins s σ H xs us Q I r h
  obtain ⟨z, rfl, hz, q⟩ := h
  obtain ⟨u, rfl, t, rfl⟩ := vals1 r
  refine call_list_str (I.ok.hd hc) z t (hn := hz) fun h' tk acc c' hk hS hacc => ?_
  have hv : Vals (z.cps.toList.map fun c => V.str ⟨#[c]⟩) acc.toList := by
    have key : ∀ (l : List Nat) (us : List Value), us.length = l.length → (∀ (j : Nat) (v : Value), us[j]? = some v → ∃ (c : Nat) (u : Tok), l[j]? = some c ∧ v = Value.str ⟨#[c]⟩ u) → Vals (l.map fun c => V.str ⟨#[c]⟩) us := by
      intro l
      induction l with
      | nil =>
        intro us hl _
        cases us with
        | nil => exact .nil
        | cons u us => simp at hl
      | cons c l ih =>
        intro us hl hu
        cases us with
        | nil => simp at hl
        | cons u us =>
          obtain ⟨c', t', h1, h2⟩ := hu 0 u rfl
          simp at h1
          subst h1
          exact .cons ⟨t', h2⟩ (ih us (by simpa using hl) fun j v hj => hu (j + 1) v (by simpa using hj))
    refine key _ _ (by simp [hacc.1]) fun j v hj => ?_
    obtain ⟨c, u, h1, h2⟩ := hacc.2 j v (by simpa using hj)
    exact ⟨c, u, by simpa using h1, h2⟩
  have hlen : (z.cps.toList.map fun c => V.str ⟨#[c]⟩).length ≤ sizeLine := by rw [List.length_map, Array.length_toList]; exact hz
  exact ⟨.ref s.heap.objs.size, upd H s.heap.objs.size (.lst (z.cps.toList.map fun c => V.str ⟨#[c]⟩)), I.laid (t' := tk) hk (Nat.le_refl _) ⟨hlen, acc.toList, c', hv, by simpa using hS⟩, rfl, q _ (I.hok.fresh (Nat.le_refl _))⟩
def rListA (K : PySem.W.Frag) : List V → Hp → VK → Prop := fun xs H Q => (∃ p ys, xs = [.ref p] ∧ (SqL K H p ys ∨ SqT K H p ys) ∧ ∀ l, H l = none → Q (.ref l) (upd H l (.lst ys))) ∨ rListOfS xs H Q
theorem cr_listA (hc : X.calm = true) : CallR X (.type "list") (rListA X.K) := call_list_of.or (call_list_txt hc)
theorem op1s_list : Op1S K (rListA K) pListOf := fun F H x v DQ Q e rx h k => by
  cases x <;> first | exact h.elim | skip
  · cases rx
    refine .inr ⟨_, rfl, by rw [str_len]; exact line_of h.1, fun l hl => k _ _ F _ ((Wld.refl e).new hl) (new_lst e hl ?_) h.2⟩
    exact All2.maps fun c _ => .str [c]
  · obtain ⟨c, vs, rfl, h1, h2⟩ := rx
    exact .inl ⟨c, vs, rfl, .inl (.inl h1), fun l hl => k _ _ F _ ((Wld.refl e).new hl) (new_lst e hl h2) h⟩
  · cases rx with
    | tup h1 h2 => exact .inl ⟨_, _, rfl, .inr (st_mono e h1), fun l hl => k _ _ F _ ((Wld.refl e).new hl) (new_lst e hl h2) h⟩
def pInt : D → (D → Prop) → Prop
  | .int i, Q => Q (.int i)
  | .bl b, Q => Q (.int (if b then 1 else 0))
  | .str z, Q => z.length ≤ 640 ∧ ∃ n, PySem.intText? (S z) = some n ∧ Q (.int n)
  | _, _ => False
def rIntA : List V → Hp → VK → Prop := fun xs H Q => ((∃ i, xs = [.int i] ∧ Q (.int i) H) ∨ ∃ k, xs = [.bl k] ∧ Q (.int (if k then 1 else 0)) H) ∨ ∃ a n, xs = [.str a] ∧ PySem.intText? a = some n ∧ a.length ≤ 640 ∧ Q (.int n) H
theorem cr_intA : CallR X (.type "int") rIntA := call_int1.or call_int_str
theorem op1_int : Op1 K rIntA pInt := fun F H x v DQ Q e rx h k => by
  cases x <;> first | exact h.elim | skip
  · cases rx; exact .inl (.inr ⟨_, rfl, k _ _ (.int _) h⟩)
  · cases rx; exact .inl (.inl ⟨_, rfl, k _ _ (.int _) h⟩)
  · cases rx
    obtain ⟨hz, n, hn, h⟩ := h
    exact .inr ⟨_, n, rfl, hn, by rw [str_len]; exact hz, k _ _ (.int _) h⟩

/-! ### isinstance of a built-in class -/
def isTy (T : String) : D → Option Bool
  | .non => some (T == "NoneType")
  | .bl _ => some (T == "bool" || T == "int")
  | .int _ => some (T == "int")
  | .str _ => some (T == "str")
  | .lst _ => some (T == "list")
  | .tup _ => some (T == "tuple")
  | .dct _ => some (T == "dict")
  | .obj _ _ => none
def tyN : D → String
  | .non => "NoneType"
  | .bl _ => "bool"
  | .int _ => "int"
  | .str _ => "str"
  | .lst _ => "list"
  | .tup _ => "tuple"
  | .dct _ => "dict"
  | .obj _ _ => ""
def pIsi (T : String) (p : PR) : PR := fun st Q => p st fun d => match isTy T d with | some b => Q (.bl b) | none => False
/-- T is one of the classes that are asked for here -/
def TyOk (T : String) : Prop := kitB "NoneType" T = some (T == "NoneType") ∧ kitB "bool" T = some (T == "bool" || T == "int") ∧ kitB "int" T = some (T == "int") ∧ kitB "str" T = some (T == "str") ∧ kitB "list" T = some (T == "list") ∧ kitB "tuple" T = some (T == "tuple") ∧ kitB "dict" T = some (T == "dict")
theorem simD_isi {T : String} {x : Str} {p0 p1 : Pos} (ht : TyOk T) (hm : X.mg "isinstance" = none) (hx : X.mg x = none) (h : SimR A X e t p) (hv : bootBuiltins x = some (.type T) := by decide +kernel) (hg : Gl X "isinstance" := by rfl) (hgx : Gl X x := by rfl) (hn : x ≠ "__name__" := by decide) (hdb : (x == ("__debug__" : Str)) = false := by decide)
    (h1 : starEach [e, .Name x p1] X.env = (false, eval e X.env) :: starEach [.Name x p1] X.env := by rfl) (h2 : starEach [.Name x p1] X.env = (false, eval (.Name x p1) X.env) :: starEach [] X.env := by rfl) (hpl : (backTo pos (starEach [.Name x p1] X.env)).any (·.1) = false := by rfl) :
    SimD A X (.Call (.Name "isinstance" p0) [e, .Name x p1] [] pos) (tCB (rIsi A.K) (tCons t (tCons (tC (.ty T)) tNil))) (pIsi T p) :=
  ⟨h.hK, h.hK ▸ pe_callB call_isi hg hm (by decide +kernel) (pa_cons h.pe (pa_cons (pe_bltn hgx hx hv rfl hn hdb) pa_nil h2) h1) (by decide) (by decide) h1 hpl, fun F H σ st DQ Q ok w hp k =>
    h.rd F H σ st _ _ ok w hp fun d v F1 H1 w1 rx z => by
      obtain ⟨k0, k1, k2, k3, k4, k5, k6⟩ := ht
      cases d <;> simp only [isTy] at z
      · cases rx; exact ⟨_, _, _, _, _, rfl, .ty T, .base .non, kit_ty k0, k _ _ F1 H1 w1 (.bl _) z⟩
      · cases rx; exact ⟨_, _, _, _, _, rfl, .ty T, .base (.bl _), kit_ty k1, k _ _ F1 H1 w1 (.bl _) z⟩
      · cases rx; exact ⟨_, _, _, _, _, rfl, .ty T, .base (.int _), kit_ty k2, k _ _ F1 H1 w1 (.bl _) z⟩
      · cases rx; exact ⟨_, _, _, _, _, rfl, .ty T, .base (.str _), kit_ty k3, k _ _ F1 H1 w1 (.bl _) z⟩
      · obtain ⟨c, vs, rfl, h1, h2⟩ := rx
        rcases h1 with h1 | ⟨o, h1⟩
        · exact ⟨_, _, _, _, _, rfl, .ty T, .base (.lst h1), kit_ty k4, k _ _ F1 H1 w1 (.bl _) z⟩
        · exact ⟨_, _, _, _, _, rfl, .ty T, .base (.frz h1), kit_ty k4, k _ _ F1 H1 w1 (.bl _) z⟩
      · cases rx with
        | tup h1 h2 =>
          rcases st_mono w1.fh h1 with (h1 | ⟨o, h1⟩) | ⟨o, its, n, h1, h2, _⟩
          · exact ⟨_, _, _, _, _, rfl, .ty T, .base (.tup h1), kit_ty k5, k _ _ F1 H1 w1 (.bl _) z⟩
          · exact ⟨_, _, _, _, _, rfl, .ty T, .fTuple h1, kit_ty k5, k _ _ F1 H1 w1 (.bl _) z⟩
          · exact ⟨_, _, _, _, _, rfl, .ty T, .kTuple h1 h2, kit_ty k5, k _ _ F1 H1 w1 (.bl _) z⟩
      · obtain ⟨c, us, rfl, h1, h2⟩ := rx
        exact ⟨_, _, _, _, _, rfl, .ty T, .base (.dK h1), kit_ty k6, k _ _ F1 H1 w1 (.bl _) z⟩⟩
theorem ty_str : TyOk "str" := by refine ⟨?_, ?_, ?_, ?_, ?_, ?_, ?_⟩ <;> decide +kernel
theorem ty_bool : TyOk "bool" := by refine ⟨?_, ?_, ?_, ?_, ?_, ?_, ?_⟩ <;> decide +kernel
theorem ty_int : TyOk "int" := by refine ⟨?_, ?_, ?_, ?_, ?_, ?_, ?_⟩ <;> decide +kernel
theorem ty_list : TyOk "list" := by refine ⟨?_, ?_, ?_, ?_, ?_, ?_, ?_⟩ <;> decide +kernel
theorem ty_tuple : TyOk "tuple" := by refine ⟨?_, ?_, ?_, ?_, ?_, ?_, ?_⟩ <;> decide +kernel
theorem B_len : FnB (.builtin "len") rLenA pLen := ⟨fun X hc => cr_lenA, fun K => op1_len⟩
theorem B_any : FnB (.builtin "any") rAny pAny := ⟨fun X hc => cr_any hc, fun K => op1_any⟩
theorem B_all : FnB (.builtin "all") rAll pAll := ⟨fun X hc => cr_all hc, fun K => op1_all⟩
theorem B_sum : FnB (.builtin "sum") rSum pSum := ⟨fun X hc => cr_sum hc, fun K => op1_sum⟩
theorem B_sorted : FnBS (.builtin "sorted") rSortedA pSorted := ⟨fun X hc => cr_sortedA, fun K => op1s_sorted⟩
theorem B_list : FnBS (.type "list") rListA pListOf := ⟨fun X hc => cr_listA hc, fun K => op1s_list⟩
theorem B_int : FnB (.type "int") (fun _ => rIntA) pInt := ⟨fun X hc => cr_intA, fun K => op1_int⟩
end
end Pu
/-! The pure layer, part H: lists, texts: +, in, [i], [i:j], join. -/
namespace Pu
open PySem L2
section
variable {A : Ax} {X : Cx} {K : PySem.W.Frag} {F H : Hp} {e a b c : Expr} {es : List Expr} {t ta tb : TE} {p q : PR} {ps : PS_} {pos : Pos}
/-! list + list, for lists that are read -/
theorem rd_obj {pins : List (Addr × Obj)} {σ : L2.St} {H : Hp} {s : Shared} {l : Addr} {xs : List V} (I : Inv X pins σ H s) (h : Rd H l (.lst xs)) : xs.length ≤ sizeLine ∧ ∃ (its : List Value) (n : Nat), Vals xs its ∧ s.heap.get? l = some { cls := .type "list", data := .seq its.toArray n } := h.ok I.hok
def rCatR : R2 := fun x y H Q => ∃ l b xs zs, x = .ref l ∧ y = .ref b ∧ Rd H l (.lst xs) ∧ Rd H b (.lst zs) ∧ xs.length + zs.length ≤ sizeLine ∧ ∀ p, H p = none → Q (.ref p) (upd H p (.lst (xs ++ zs)))
theorem op_catR : OpR X (binaryOp .Add) rCatR := by
  intro pins s σ H x y v u Q I rx ry h
  obtain ⟨l, b, xs, zs, rfl, rfl, hl, hb, hz, q⟩ := h
  cases rx
  cases ry
  obtain ⟨z1, its, n, r1, e1⟩ := rd_obj I hl
  obtain ⟨z2, its2, n2, r2, e2⟩ := rd_obj I hb
  refine PySem.P.add_list e1 e2 ?_ (by rw [List.size_toArray, List.size_toArray, ← r1.length, ← r2.length]; exact hz)
  rw [show its.toArray ++ its2.toArray = (its ++ its2).toArray from by simp]
  exact ⟨.ref _, _, I.lnew (t' := s.toks) (r1.append r2) (by rw [List.length_append]; exact hz), rfl, q _ I.fresh⟩
def pCat : D → D → (SV → Prop) → Prop
  | .lst xs, .lst ys, Q => xs.length + ys.length ≤ 100000 ∧ Q (.own (xs ++ ys))
  | _, _, _ => False
theorem op2s_cat : Op2S K rCatR pCat := fun F H x y v u DQ Q e rx ry h k => by
  cases x <;> first | exact h.elim | skip
  cases y <;> first | exact h.elim | skip
  obtain ⟨l, vs, rfl, h1, h2⟩ := rx
  obtain ⟨l', vs', rfl, h3, h4⟩ := ry
  refine ⟨l, l', vs, vs', rfl, rfl, h1, h3, by rw [← h2.len, ← h4.len]; exact line_of h.1, fun p hp => ?_⟩
  exact k _ _ F _ ((Wld.refl e).new hp) (new_lst e hp (h2.app h4)) h.2
theorem O_cat : OpBS (binaryOp .Add) (fun _ => rCatR) pCat := ⟨fun X hu => op_catR, fun K => op2s_cat⟩

/-! in, not in: a list or tuple of flat things -/
def flatD : D → Bool
  | .non => true
  | .bl _ => true
  | .int _ => true
  | .str _ => true
  | _ => false
def eqS : D → D → Bool
  | .non, .non => true
  | .bl a, .bl b => a == b
  | .bl a, .int b => (if a then 1 else 0) == b
  | .int a, .bl b => a == (if b then 1 else 0)
  | .int a, .int b => a == b
  | .str a, .str b => a == b
  | _, _ => false
def hasD (ds : List D) (x : D) : Bool := ds.any fun y => eqS y x
theorem flat_rep {d : D} {v : V} (r : Rep K F d v) (h : flatD d = true) : flatV v = true := by cases r <;> first | rfl | exact h
theorem S_beq {x y : List Nat} : ((S x : Str) == S y) = (x == y) := by
  by_cases h : x = y
  · subst h; simp
  · rw [beq_eq_false_iff_ne.mpr h, beq_eq_false_iff_ne.mpr fun z => h (str_inj.mp z)]
theorem eqS_rep {d f : D} {v u : V} (r : Rep K F d v) (q : Rep K F f u) (h1 : flatD d = true) (h2 : flatD f = true) : eqV v u = eqS d f := by
  cases r <;> cases q <;> first | rfl | exact S_beq | (cases h1; done) | (cases h2; done)
theorem hasD_rep {x : D} {v : V} (rx : Rep K F x v) (hx : flatD x = true) {ds : List D} {vs : List V} (r : Reps K F ds vs) (h : ds.all flatD = true) : vs.all flatV = true ∧ inV v vs = hasD ds x := by
  induction r with
  | nil => exact ⟨rfl, rfl⟩
  | cons r t ih =>
    rw [List.all_cons, Bool.and_eq_true] at h
    obtain ⟨i1, i2⟩ := ih h.2
    refine ⟨by rw [List.all_cons, flat_rep r h.1, i1]; rfl, ?_⟩
    show (List.any (_ :: _) _) = _
    unfold hasD
    rw [List.any_cons, List.any_cons, eqS_rep r rx h.1 hx]
    have i2' : (List.any _ fun y => eqV y v) = (List.any _ fun y => eqS y x) := i2
    rw [i2']
def pIn (neg : Bool) : D → D → (D → Prop) → Prop
  | .str [c], .str z, Q => Q (.bl (if neg then !decide (c ∈ z) else decide (c ∈ z)))
  | x, .lst ds, Q => flatD x = true ∧ ds.all flatD = true ∧ Q (.bl (if neg then !hasD ds x else hasD ds x))
  | x, .tup ds, Q => flatD x = true ∧ ds.all flatD = true ∧ Q (.bl (if neg then !hasD ds x else hasD ds x))
  | _, _, _ => False
def rInA (K : PySem.W.Frag) : R2 := fun x y H Q => (∃ (c : Nat) (z : Str), x = .str ⟨#[c]⟩ ∧ y = .str z ∧ Q (.bl (decide (c ∈ z.cps.toList))) H) ∨ rIn K false x y H Q
def rNotInA (K : PySem.W.Frag) : R2 := fun x y H Q => (∃ (c : Nat) (z : Str), x = .str ⟨#[c]⟩ ∧ y = .str z ∧ Q (.bl (!decide (c ∈ z.cps.toList))) H) ∨ rIn K true x y H Q
theorem op_inA : OpR X (compareOp .In) (rInA X.K) := op_in_sign.or op_in_seq
theorem op_notinA : OpR X (compareOp .NotIn) (rNotInA X.K) := op_notIn_sign.or op_notIn_seq
theorem in_core {neg : Bool} {F H : Hp} {x y : D} {v u : V} {DQ : D → Prop} {Q : VK} (e : Same F H) (rx : RepR K F H x v) (ry : RepR K F H y u) (h : pIn neg x y DQ) (k : ∀ d w, Rep K F d w → DQ d → Q w H) :
    (∃ (c : Nat) (z : Str), v = .str ⟨#[c]⟩ ∧ u = .str z ∧ Q (.bl (if neg then !decide (c ∈ z.cps.toList) else decide (c ∈ z.cps.toList))) H) ∨ rIn K neg v u H Q := by
  have seq : ∀ (xs : List D) (p : Addr) (vs : List V), u = .ref p → (SqL K H p vs ∨ SqT K H p vs) → Reps K F xs vs → flatD x = true ∧ xs.all flatD = true ∧ DQ (.bl (if neg then !hasD xs x else hasD xs x)) → rIn K neg v u H Q := fun xs p vs hu hq hr hh => by
    have hxv : Rep K H x v := rx.up e
    have g := hasD_rep hxv hh.1 (Reps.mono e _ _ hr) hh.2.1
    refine ⟨p, vs, hu, hq, flat_rep hxv hh.1, g.1, ?_⟩
    rw [g.2]
    exact k _ _ (.bl _) hh.2.2
  unfold pIn at h
  split at h
  · cases rx; cases ry
    exact .inl ⟨_, _, rfl, rfl, by simpa using k _ _ (.bl _) h⟩
  · obtain ⟨l, vs, rfl, h1, h2⟩ := ry
    exact .inr (seq _ l vs rfl (.inl (.inl h1)) h2 h)
  · cases ry with
    | tup h1 h2 => exact .inr (seq _ _ _ rfl (.inr (st_mono e h1)) h2 h)
  · exact h.elim
theorem op2_in : Op2 K (rInA K) (pIn false) := fun F H x y v u DQ Q e rx ry h k => in_core e rx ry h k
theorem op2_notin : Op2 K (rNotInA K) (pIn true) := fun F H x y v u DQ Q e rx ry h k => in_core e rx ry h k
theorem O_in : OpB (compareOp .In) rInA (pIn false) := ⟨fun X hu => op_inA, fun K => op2_in⟩
theorem O_notin : OpB (compareOp .NotIn) rNotInA (pIn true) := ⟨fun X hu => op_notinA, fun K => op2_notin⟩

/-! x[i] -/
def pIx : D → D → (D → Prop) → Prop
  | .lst ds, .int i, Q => ∃ d, atI ds i = some d ∧ Q d
  | .tup ds, .int i, Q => ∃ d, atI ds i = some d ∧ Q d
  | .str z, .int i, Q => z.length ≤ 100000 ∧ ∃ c, atI z i = some c ∧ Q (.str [c])
  | _, _, _ => False
theorem atI_rep {ds : List D} {vs : List V} {i : Int} {d : D} (r : Reps K F ds vs) (h : atI ds i = some d) : ∃ v, atI vs i = some v ∧ Rep K F d v := by
  unfold atI at h ⊢
  rw [← r.len]
  cases q : ixN ds.length i with
  | none => rw [q] at h; cases h
  | some j =>
    rw [q] at h
    exact r.get h
theorem op2_ix : Op2 K (rIx K) pIx := fun F H x y v u DQ Q e rx ry h k => by
  cases x <;> first | exact h.elim | skip
  all_goals
    cases y <;> first | exact h.elim | skip
    cases ry
  · cases rx
    obtain ⟨hz, c, hc, h⟩ := h
    exact .inr (.inr ⟨_, _, c, rfl, rfl, by rw [str_len]; exact line_of hz, by simpa using hc, k _ _ (.str [c]) h⟩)
  · obtain ⟨l, vs, rfl, h1, h2⟩ := rx
    obtain ⟨d, hd, h⟩ := h
    obtain ⟨v, hv, r⟩ := atI_rep h2 hd
    exact .inl ⟨l, vs, _, v, rfl, rfl, .inl h1, hv, k _ _ r h⟩
  · cases rx with
    | tup h1 h2 =>
      obtain ⟨d, hd, h⟩ := h
      obtain ⟨v, hv, r⟩ := atI_rep h2 hd
      exact .inr (.inl ⟨_, _, _, v, rfl, rfl, st_mono e h1, hv, k _ _ r h⟩)
theorem simD_at (ha : SimR A X a ta p) (hb : SimR A X b tb q) (hs : PlainIx b := by intro _ _; rfl) : SimD A X (.Subscript a b pos) (tOp (rIx A.K) ta tb) (p2 pIx p q) := ⟨ha.hK, ha.hK ▸ pe_ix ix_seq ha.pe hb.pe hs, rd_2 op2_ix ha.rd hb.rd⟩

/-! x[i:j] -/
def cut {α : Type} (xs : List α) (lo hi : Option Int) : List α := (xs.drop (HT.sIx xs.length 0 lo)).take (HT.sIx xs.length xs.length hi - HT.sIx xs.length 0 lo)
abbrev POs := DS → (Option Int → Prop) → Prop
def RdO (A : Ax) (t : TO) (p : POs) : Prop := ∀ (F H : Hp) (σ : L2.St) (st : DS) (DQ : Option Int → Prop) (Q : Option Int → Hp → Prop), StOk A.K A.N F H σ st → Wld A.F0 A.N F H → p st DQ → (∀ o F' H', Wld F H F' H' → DQ o → Q o H') → t σ H Q
structure SimO (A : Ax) (X : Cx) (e : Option Expr) (t : TO) (p : POs) : Prop where
  hK : X.K = A.K
  po : PO X e t
  rd : RdO A t p
def pNo : POs := fun _ Q => Q none
def pPart (p : PR) : POs := fun st Q => p st fun d => match d with | .int i => Q (some i) | _ => False
theorem simO_none (hK : X.K = A.K := by rfl) : SimO A X none tNoPart pNo := ⟨hK, po_none, fun F H σ st DQ Q ok w hp k => k none F H (Wld.refl w.fh) hp⟩
theorem simO_some (h : SimR A X e t p) : SimO A X (some e) (tPart t) (pPart p) := ⟨h.hK, po_some h.pe, fun F H σ st DQ Q ok w hp k => h.rd F H σ st _ _ ok w hp fun d v F1 H1 w1 rx z => by
  cases d <;> first | exact z.elim | skip
  cases rx
  exact ⟨_, rfl, k _ F1 H1 w1 z⟩⟩
variable {lo hi : Option Expr} {tl th : TO} {pl ph : POs} {p2' : Pos}
/-- of a text -/
def pCutS (p : PR) (l h : POs) : PR := fun st Q => p st fun d => l st fun i => h st fun j => match d with | .str z => z.length ≤ 100000 ∧ Q (.str (cut z i j)) | _ => False
/-- of a list -/
def pCutL (p : PR) (l h : POs) : PS_ := fun st Q => p st fun d => l st fun i => h st fun j => match d with | .lst ds => Q (.own (cut ds i j)) | _ => False
theorem cutS_S {z : List Nat} {i j : Option Int} : cutS (S z) i j = S (cut z i j) := by
  unfold cutS cut
  rw [str_len]
theorem simD_cut (h : SimR A X e t p) (hl : SimO A X lo tl pl) (hh : SimO A X hi th ph) : SimD A X (.Subscript e (.Slice lo hi none p2') pos) (tSl rSlS t tl th) (pCutS p pl ph) := ⟨h.hK, pe_slice sl_str h.pe hl.po hh.po, fun F H σ st DQ Q ok w hp k =>
  h.rd F H σ st _ _ ok w hp fun d v F1 H1 w1 rx z => hl.rd F1 H1 σ st _ _ (ok.mono w1) (w.trans w1) z fun i F2 H2 w2 z => hh.rd F2 H2 σ st _ _ (ok.mono (w1.trans w2)) (w.trans (w1.trans w2)) z fun j F3 H3 w3 z => by
    cases d <;> first | exact z.elim | skip
    cases rx
    refine ⟨_, rfl, by rw [str_len]; exact line_of z.1, ?_⟩
    rw [cutS_S]
    exact k _ _ F3 H3 (w1.trans (w2.trans w3)) (.str _) z.2⟩
theorem cutV_rep {ds : List D} {vs : List V} {i j : Option Int} (r : Reps K F ds vs) : Reps K F (cut ds i j) (cutV vs i j) := by
  unfold cut cutV
  rw [r.len]
  exact (r.dr _).tk _
theorem simS_cut (h : SimR A X e t p) (hl : SimO A X lo tl pl) (hh : SimO A X hi th ph) : SimS A X (.Subscript e (.Slice lo hi none p2') pos) (tSl (rSlL A.K) t tl th) (pCutL p pl ph) := ⟨h.hK, h.hK ▸ pe_slice sl_list h.pe hl.po hh.po, fun F H σ st DQ Q ok w hp k =>
  h.rd F H σ st _ _ ok w hp fun d v F1 H1 w1 rx z => hl.rd F1 H1 σ st _ _ (ok.mono w1) (w.trans w1) z fun i F2 H2 w2 z => hh.rd F2 H2 σ st _ _ (ok.mono (w1.trans w2)) (w.trans (w1.trans w2)) z fun j F3 H3 w3 z => by
    cases d <;> first | exact z.elim | skip
    obtain ⟨l, vs, rfl, h1, h2⟩ := rx.mono (w2.trans w3)
    refine ⟨l, vs, rfl, .inl h1, fun p hp => ?_⟩
    have w13 := w1.trans (w2.trans w3)
    exact k _ _ F3 _ (w13.new hp) ((new_lst w13.fh hp (cutV_rep h2)).back fun a h => same_none w13.hh h) z⟩

/-! sep.join(list of texts) -/
def joinD (s : List Nat) : List (List Nat) → List Nat
  | [] => []
  | [x] => x
  | x :: y :: r => x ++ (s ++ joinD s (y :: r))
theorem join_S (s : List Nat) (ys : List (List Nat)) : Txt.join (S s) (ys.map S) = S (joinD s ys) := by
  rw [TL.join_eq]
  have e := TL.tl_join (S s) (ys.map S)
  have e2 : ∀ l : List (List Nat), TL.joinL s l = joinD s l := by
    intro l
    induction l with
    | nil => rfl
    | cons x r ih => cases r with
      | nil => rfl
      | cons y r => show x ++ (s ++ TL.joinL s (y :: r)) = x ++ (s ++ joinD s (y :: r)); rw [ih]
  have e3 : (ys.map S).map TL.tl = ys := by
    rw [List.map_map]
    conv => rhs; rw [← List.map_id ys]
    apply List.map_congr_left
    intro z _
    simp
  rw [e3, show TL.tl (S s) = s by simp, e2] at e
  have : ∀ z : Str, z = S (TL.tl z) := fun z => by show z = ⟨z.cps.toList.toArray⟩; simp
  rw [this (Str.join (S s) (ys.map S)), e]
def pJoin (p q : PR) : PR := fun st Q => p st fun x => match x with
  | .str s => q st fun y => (match y with | .lst ds => (match strL ds with | some zs => (zs.map (·.length)).sum + zs.length * s.length ≤ 100000 ∧ Q (.str (joinD s zs)) | none => False) | _ => False)
  | _ => False
theorem simD_join {apos : Pos} (ha : SimR A X a ta p) (hb : SimR A X b tb q) (hs : starEach [b] X.env = [(false, eval b X.env)] := by rfl) (hbase : attributeBase a "join" X.env (eval a X.env) = eval a X.env := by rfl) (hline : (apos.endLine == pos.line) = true := by rfl) :
    SimD A X (.Call (.Attribute a "join" apos) [b] [] pos) (tM1 (fun x xs H Q => ∃ a p, ∃ ys : List Str, x = .str a ∧ xs = [.ref p] ∧ (SqL A.K H p (ys.map V.str) ∨ SqT A.K H p (ys.map V.str)) ∧ (ys.map (·.length)).sum + ys.length * a.length ≤ 16777216 ∧ Q (.str (Txt.join a ys)) H) ta tb) (pJoin p q) :=
  ⟨ha.hK, ha.hK ▸ pe_join ha.pe hb.pe hs hbase hline, fun F H σ st DQ Q ok w hp k => ha.rd F H σ st _ _ ok w hp fun x v F1 H1 w1 rx z => by
    cases x <;> first | exact z.elim | skip
    cases rx
    refine ⟨⟨_, rfl⟩, hb.rd F1 H1 σ st _ _ (ok.mono w1) (w.trans w1) z fun y u F2 H2 w2 ry z => ?_⟩
    cases y <;> first | exact z.elim | skip
    dsimp only at z
    split at z
    · rename_i zs hzs
      obtain ⟨l, vs, rfl, h1, h2⟩ := ry
      rw [strs_of hzs] at h2
      have := reps_strs h2
      subst this
      refine ⟨_, l, zs.map S, rfl, rfl, .inl (.inl ?_), ?_, ?_⟩
      · rw [List.map_map]; exact h1
      · rw [List.map_map, List.length_map, str_len]
        have e : (zs.map ((·.length) ∘ S)) = zs.map (·.length) := List.map_congr_left fun z _ => str_len z
        rw [e]
        omega
      · rw [join_S]; exact k _ _ F2 H2 (w1.trans w2) (.str _) z.2
    · exact z.elim⟩
end
end Pu
/-! The pure layer, part I: how pure readings are shown. -/
namespace Pu
open PySem L2

/-! ### comprehensions and loops over a known list -/
theorem pGo_of {α : Type} (f : α → D) (keep : α → Bool) (g : α → D) {b : Bnd} {c : PB} {p : PR} {st : DS} {Q : List D → Prop} :
    ∀ (xs : List α) (acc : List D), (∀ a ∈ xs, ∀ (R0 : Prop) (R1 : D → Prop), (keep a = true → R1 (g a)) → (keep a = false → R0) → b (f a) st (fun st1 => c st1 fun k => if k = true then p st1 R1 else R0)) →
    acc.length + xs.length ≤ 100000 → Q (acc ++ (xs.filter keep).map g) → pGo b c p st (xs.map f) acc Q
  | [], acc, _, _, h => by simpa [pGo] using h
  | a :: xs, acc, hs, hl, h => by
    simp only [List.map_cons, pGo]
    simp only [List.length_cons] at hl
    refine hs a List.mem_cons_self _ _ (fun k => ⟨by omega, ?_⟩) fun k => ?_
    · refine pGo_of f keep g xs _ (fun a ha => hs a (List.mem_cons_of_mem _ ha)) (by simp; omega) ?_
      simpa [List.filter_cons, k] using h
    · refine pGo_of f keep g xs _ (fun a ha => hs a (List.mem_cons_of_mem _ ha)) (by omega) ?_
      simpa [List.filter_cons, k] using h
theorem pGo_map {α : Type} (f : α → D) (g : α → D) {b : Bnd} {p : PR} {st : DS} {Q : List D → Prop} (xs : List α) (hs : ∀ a ∈ xs, ∀ R : D → Prop, R (g a) → b (f a) st (fun st1 => p st1 R)) (hl : xs.length ≤ 100000) (h : Q (xs.map g)) : pGo b pYes p st (xs.map f) [] Q :=
  pGo_of f (fun _ => true) g xs [] (fun a ha R0 R1 h1 _ => by simpa [pYes] using hs a ha R1 (h1 rfl)) (by simpa using hl) (by rw [List.filter_eq_self.mpr fun _ _ => rfl]; simpa using h)
theorem pGo_fil {α : Type} (f : α → D) (keep : α → Bool) {b : Bnd} {c : PB} {p : PR} {st : DS} {Q : List D → Prop} (g : α → D) (xs : List α) (hs : ∀ a ∈ xs, ∀ (R0 : Prop) (R1 : D → Prop), (keep a = true → R1 (g a)) → (keep a = false → R0) → b (f a) st (fun st1 => c st1 fun k => if k = true then p st1 R1 else R0))
    (hl : xs.length ≤ 100000) (h : Q ((xs.filter keep).map g)) : pGo b c p st (xs.map f) [] Q :=
  pGo_of f keep g xs [] hs (by simpa using hl) (by simpa using h)
theorem for_of {α : Type} (f : α → D) (I : Nat → DS → Prop) {b : Bnd} {body : PSt} {E : DEnds} : ∀ (xs : List α) (i0 : Nat),
    (∀ i a st, xs[i]? = some a → I (i0 + i) st → ∀ G : DS → Prop, (∀ st', I (i0 + i + 1) st' → G st') → b (f a) st fun st1 => body { nx := G, rt := E.rt, bk := E.nx, ct := G } st1) →
    (∀ st, I (i0 + xs.length) st → E.nx st) → ∀ st, I i0 st → pForGo b body E (xs.map f) st
  | [], i0, _, he, st, h => he st h
  | a :: xs, i0, hs, he, st, h => by
    show b (f a) st fun st1 => body { nx := pForGo b body E (xs.map f), rt := E.rt, bk := E.nx, ct := pForGo b body E (xs.map f) } st1
    refine hs 0 a st rfl h _ fun st' h' => ?_
    refine for_of f I xs (i0 + 1) (fun i a st e h G hG => hs (i + 1) a st (by simpa using e) (by rw [show i0 + (i + 1) = i0 + 1 + i by omega]; exact h) G fun st' h' => hG st' (by rw [show i0 + 1 + i + 1 = i0 + (i + 1) + 1 by omega]; exact h')) (fun st h => he st (by rw [List.length_cons, show i0 + (xs.length + 1) = i0 + 1 + xs.length by omega]; exact h)) st' h'
/-- with an invariant that counts -/
theorem for_idx {α : Type} (f : α → D) (I : Nat → DS → Prop) {b : Bnd} {body : PSt} {E : DEnds} (xs : List α) (st : DS) (h0 : I 0 st)
    (hs : ∀ i a st, xs[i]? = some a → I i st → ∀ G : DS → Prop, (∀ st', I (i + 1) st' → G st') → b (f a) st fun st1 => body { nx := G, rt := E.rt, bk := E.nx, ct := G } st1)
    (he : ∀ st, I xs.length st → E.nx st) : pForGo b body E (xs.map f) st :=
  for_of f I xs 0 (fun i a st e h G hG => hs i a st e (by simpa using h) G fun st' h' => hG st' (by simpa using h')) (fun st h => he st (by simpa using h)) st h0
/-- with one that doesn't -/
theorem for_inv {α : Type} (f : α → D) (I : DS → Prop) {b : Bnd} {body : PSt} {E : DEnds} (xs : List α) (st : DS) (h0 : I st)
    (hs : ∀ a ∈ xs, ∀ st, I st → ∀ G : DS → Prop, (∀ st', I st' → G st') → b (f a) st fun st1 => body { nx := G, rt := E.rt, bk := E.nx, ct := G } st1)
    (he : ∀ st, I st → E.nx st) : pForGo b body E (xs.map f) st :=
  for_idx f (fun _ => I) xs st h0 (fun i a st e h G hG => hs a (List.mem_of_getElem? e) st h G hG) he
theorem upto0 (n : Nat) : upto 0 n = (List.range n).map fun i => D.int (i : Nat) := by
  unfold upto
  apply List.map_congr_left
  intro i _
  rw [Int.zero_add]
theorem numbered_map {α : Type} (f : α → D) (xs : List α) : numbered (xs.map f) = xs.zipIdx.map fun p => D.tup [.int (p.2 : Nat), f p.1] := by
  unfold numbered
  apply List.ext_getElem?
  intro i
  simp only [List.getElem?_mapIdx, List.getElem?_map, List.getElem?_zipIdx]
  cases xs[i]? <;> simp
theorem numbered_signs (z : List Nat) : numbered (signs z) = z.zipIdx.map fun p => D.tup [.int (p.2 : Nat), .str [p.1]] := numbered_map _ z
theorem pRng1_nat {p : PR} {st : DS} {Q : List D → Prop} {n : Nat} (hn : n < 2 ^ 40) (h : Q ((List.range n).map fun i => D.int (i : Nat))) (hp : ∀ R : D → Prop, R (.int (n : Int)) → p st R) : pRng1 p st Q := by
  unfold pRng1
  refine hp _ ⟨⟨by omega, by omega⟩, ?_⟩
  rw [Int.toNat_natCast, upto0]
  exact h
/-! ### parts of texts and lists -/
theorem cut_to {α : Type} (z : List α) (l : Nat) : cut z none (some (l : Int)) = z.take l := by
  unfold cut
  rw [HT.sIx_none, HT.sIx_nat, List.drop_zero, Nat.sub_zero]
  by_cases h : l ≤ z.length
  · rw [Nat.min_eq_left h]
  · rw [Nat.min_eq_right (by omega), List.take_length, List.take_of_length_le (by omega)]
theorem cut_from {α : Type} (z : List α) (l : Nat) : cut z (some (l : Int)) none = z.drop l := by
  unfold cut
  rw [HT.sIx_nat, HT.sIx_none]
  by_cases h : l ≤ z.length
  · rw [Nat.min_eq_left h, List.take_of_length_le (by simp)]
  · rw [Nat.min_eq_right (by omega), List.drop_length, List.drop_of_length_le (by omega)]
    simp
theorem atI_nat {α : Type} (z : List α) (l : Nat) : atI z (l : Int) = z[l]? := by
  unfold atI ixN
  rw [if_pos (by omega)]
  by_cases h : l < z.length
  · rw [if_pos (by omega)]; simp
  · rw [if_neg (by omega)]
    simp [List.getElem?_eq_none (Nat.le_of_not_lt h)]
theorem atI_0 {α : Type} (x : α) (z : List α) : atI (x :: z) 0 = some x := atI_nat (x :: z) 0
/-! ### equal data -/
mutual
/-- no truths, dicts, instances within -/
def D.pln : D → Prop
  | .non => True
  | .bl _ => False
  | .int _ => True
  | .str _ => True
  | .lst ds => D.plns ds
  | .tup ds => D.plns ds
  | .dct _ => False
  | .obj _ _ => False
def D.plns : List D → Prop
  | [] => True
  | d :: ds => D.pln d ∧ D.plns ds
end
mutual
theorem py_eq : ∀ (x y : D), x.pln → y.pln → (PyData.eqv x.py y.py = true ↔ x = y)
  | .non, y, _, hy => by cases y <;> simp [D.py, PyData.eqv, D.pln] at hy ⊢
  | .int i, y, _, hy => by cases y <;> simp [D.py, PyData.eqv, D.pln] at hy ⊢
  | .str z, y, _, hy => by cases y <;> simp [D.py, PyData.eqv, D.pln] at hy ⊢
  | .lst ds, y, hx, hy => by
    cases y with
    | lst es => simpa [D.py, PyData.eqv] using pys_eq ds es (by simpa [D.pln] using hx) (by simpa [D.pln] using hy)
    | _ => simp [D.py, PyData.eqv, D.pln] at hy ⊢
  | .tup ds, y, hx, hy => by
    cases y with
    | tup es => simpa [D.py, PyData.eqv] using pys_eq ds es (by simpa [D.pln] using hx) (by simpa [D.pln] using hy)
    | _ => simp [D.py, PyData.eqv, D.pln] at hy ⊢
  | .bl _, _, hx, _ => by simp [D.pln] at hx
  | .dct _, _, hx, _ => by simp [D.pln] at hx
  | .obj _ _, _, hx, _ => by simp [D.pln] at hx
theorem pys_eq : ∀ (xs ys : List D), D.plns xs → D.plns ys → (PyData.eqvAll (D.pys xs) (D.pys ys) = true ↔ xs = ys)
  | [], [], _, _ => by simp [D.pys, PyData.eqvAll]
  | [], y :: ys, _, _ => by simp [D.pys, PyData.eqvAll]
  | x :: xs, [], _, _ => by simp [D.pys, PyData.eqvAll]
  | x :: xs, y :: ys, hx, hy => by
    simp only [D.plns] at hx hy
    simp only [D.pys, PyData.eqvAll, Bool.and_eq_true, List.cons.injEq]
    rw [py_eq x y hx.1 hy.1, pys_eq xs ys hx.2 hy.2]
end
theorem eqv_iff {x y : D} (hx : x.pln) (hy : y.pln) : D.eqv x y = true ↔ x = y := by
  have h := py_eq x y hx hy
  cases x <;> cases y <;> first | exact h | simp [D.eqv]
theorem eqv_dec {x y : D} {P : Prop} [Decidable P] (hx : x.pln) (hy : y.pln) (h : x = y ↔ P) : D.eqv x y = decide P := by
  rw [Bool.eq_iff_iff, eqv_iff hx hy, h, decide_eq_true_iff]
theorem plns_map {α : Type} {f : α → D} : ∀ {l : List α}, (∀ a ∈ l, (f a).pln) → D.plns (l.map f)
  | [], _ => trivial
  | a :: l, h => ⟨h a List.mem_cons_self, plns_map fun b hb => h b (List.mem_cons_of_mem _ hb)⟩
theorem flats_map {α : Type} {n : Nat} {f : α → D} : ∀ {l : List α}, (∀ a ∈ l, D.flat n (f a)) → D.flats n (l.map f)
  | [], _ => trivial
  | a :: l, h => ⟨h a List.mem_cons_self, flats_map fun b hb => h b (List.mem_cons_of_mem _ hb)⟩
theorem map_int_inj {xs ys : List Int} : (D.lst (xs.map .int) = .lst (ys.map .int)) ↔ xs = ys := by
  constructor
  · intro h
    injection h with h
    exact List.map_inj_right (fun a b e => by injection e) |>.mp h
  · rintro rfl; rfl
theorem map_str_inj {xs ys : List (List Nat)} : (D.lst (xs.map .str) = .lst (ys.map .str)) ↔ xs = ys := by
  constructor
  · intro h
    injection h with h
    exact List.map_inj_right (fun a b e => by injection e) |>.mp h
  · rintro rfl; rfl
theorem hasD_nat (xs : List Nat) (s : Nat) : hasD (xs.map fun i => D.int (i : Nat)) (.int (s : Nat)) = decide (s ∈ xs) := by
  unfold hasD
  rw [List.any_map, Bool.eq_iff_iff, List.any_eq_true, decide_eq_true_iff]
  constructor
  · rintro ⟨a, ha, e⟩
    have : a = s := by simp [eqS] at e; omega
    exact this ▸ ha
  · intro h
    exact ⟨s, h, by simp [eqS]⟩
/-! ### bits -/
def bitN (s l : Nat) : Nat := s / 2 ^ l % 2
theorem bit_of (s l : Nat) : Builtin.bitAnd ((s : Int) / 2 ^ ((l : Int).toNat)) 1 = (bitN s l : Nat) := by
  rw [PyProof.Rows.bitAnd_m1, Int.toNat_natCast]
  unfold bitN
  simp
theorem dstart_eq (N : List Str) (ds : List D) : dstart N ds = ds.map (fun d => some (.dat d)) ++ List.replicate (N.length - ds.length) none := rfl
theorem svd_dat (d : D) : (SV.dat d).d = d := id rfl
theorem svd_own (d : List D) : (SV.own d).d = .lst d := id rfl
theorem svd_ownK (d : List (Key × D)) : (SV.ownK d).d = .dct d := id rfl
theorem ok_ii (i j : Int) : okEq (.int i) (.int j) = True := id rfl
theorem ok_ss (i j : List Nat) : okEq (.str i) (.str j) = True := id rfl
theorem ok_bb (i j : Bool) : okEq (.bl i) (.bl j) = True := id rfl
theorem ok_nn : okEq .non .non = True := id rfl
theorem ok_ns (i : List Nat) : okEq .non (.str i) = True := id rfl
theorem ok_sn (i : List Nat) : okEq (.str i) .non = True := id rfl
theorem ok_ni (i : Int) : okEq .non (.int i) = True := id rfl
theorem ok_in (i : Int) : okEq (.int i) .non = True := id rfl
theorem ok_ll (i j : List D) : okEq (.lst i) (.lst j) = (D.flat 60 (.lst i) ∧ D.flat 60 (.lst j)) := id rfl
theorem ok_tt (i j : List D) : okEq (.tup i) (.tup j) = (D.flat 60 (.tup i) ∧ D.flat 60 (.tup j)) := id rfl
theorem ev_ii (i j : Int) : D.eqv (.int i) (.int j) = decide (i = j) := id rfl
theorem ev_ss (i j : List Nat) : D.eqv (.str i) (.str j) = decide (i = j) := id rfl
theorem ev_bb (i j : Bool) : D.eqv (.bl i) (.bl j) = decide (i = j) := id rfl
theorem ev_nn : D.eqv .non .non = true := id rfl
theorem ev_ns (i : List Nat) : D.eqv .non (.str i) = false := id rfl
theorem ev_sn (i : List Nat) : D.eqv (.str i) .non = false := id rfl
theorem ev_ni (i : Int) : D.eqv .non (.int i) = false := id rfl
theorem ev_in (i : Int) : D.eqv (.int i) .non = false := id rfl
theorem at_mod {α : Type} {P : α → Prop} {L : List α} (h : ∀ x ∈ L, P x) {n : Nat} (i : Int) (e : L.length = n) (hn : 0 < n) : ∃ x, atI L (i % (n : Int)) = some x ∧ P x := by
  obtain ⟨k, hk, hl⟩ : ∃ k : Nat, i % (n : Int) = (k : Int) ∧ k < n := ⟨(i % n).toNat, by rw [Int.toNat_of_nonneg (Int.emod_nonneg _ (by omega))], by have := Int.emod_lt_of_pos i (show (0 : Int) < n by omega); have := Int.emod_nonneg i (show (n : Int) ≠ 0 by omega); omega⟩
  rw [hk, atI_nat]
  exact ⟨L[k]'(by omega), by simp, h _ (List.getElem_mem _)⟩
theorem bools_mapf {α : Type} (f : α → Bool) (l : List α) : bolL (l.map fun c => D.bl (f c)) = some (l.map f) := by rw [← bools_map, List.map_map]; rfl
theorem ints_mapf {α : Type} (f : α → Int) (l : List α) : intL (l.map fun c => D.int (f c)) = some (l.map f) := by rw [← ints_map, List.map_map]; rfl
theorem strs_mapf {α : Type} (f : α → List Nat) (l : List α) : strL (l.map fun c => D.str (f c)) = some (l.map f) := by rw [← strs_map, List.map_map]; rfl
end Pu
/-! The pure layer, part J: the end. -/
namespace Pu
open PySem L2
def noList (K : PySem.W.Frag) : Bool := K.all fun p => match p.2.cls with
  | .type n => !(n == "list")
  | _ => true
theorem sq_rd {K : PySem.W.Frag} {H : Hp} {a : Addr} {xs : List V} (nl : noList K = true) (h : SqL K H a xs) : Rd H a (.lst xs) := by
  rcases h with h | ⟨o, its, n, hk, hc, _⟩
  · exact h
  · exfalso
    have key : ∀ K : PySem.W.Frag, noList K = true → K.lookup a = some o → False := by
      intro K
      induction K with
      | nil => intro _ e; cases e
      | cons p r ih =>
        intro e1 e2
        obtain ⟨b, x⟩ := p
        unfold noList at e1
        rw [List.all_cons, Bool.and_eq_true] at e1
        rw [List.lookup_cons] at e2
        cases q : (a == b) with
        | true =>
          rw [q] at e2
          cases e2
          have := e1.1
          dsimp only at this
          rw [hc] at this
          exact absurd this (by decide)
        | false =>
          rw [q] at e2
          exact ih e1.2 e2
    exact key K nl hk
theorem law_spec {K : PySem.W.Frag} {φ : FSpec} {H : Hp} {a : Addr} {ns : List Int} (nl : noList K = true) (hS : SqL K H a (ns.map V.int)) (h : φ [.lst (ns.map .int)] (fun s => s = .dat (.bl true)) fun _ => False) : spP K φ [.ref a] H (fun v _ => v = .bl true) fun _ _ _ => False :=
  ⟨H, [.lst (ns.map .int)], _, _, Same.refl _, .cons (.lst (sq_rd nl hS) (ints_reps ns)) .nil, h, fun s v F' H' w r e => by subst e; cases r; rfl, fun x cls d F' H' w r e => e⟩
theorem cx_no {P : Program} {w : World} {outer : List Env} {H : Hp} {s : Shared} {u : Value} {s' : Shared} (h : L2.CX P w outer H s (fun _ _ _ => False) u s') : False := by
  obtain ⟨a, B, H', cls, d, _, _, _, _, _, _, _, z⟩ := h
  exact z
end Pu
namespace Pu
open PySem L2
local macro_rules | `(tactic| walk_at "pu") => `(tactic| try simp only [List.map_cons, List.map_nil, List.cons_append, List.nil_append, List.getElem?_cons_zero, List.getElem?_cons_succ, List.set_cons_zero, List.set_cons_succ, List.length_cons, List.length_nil, List.replicate_succ, List.replicate_zero, dstart_eq,
  svd_dat, svd_own, svd_ownK, ok_ii, ok_ss, ok_bb, ok_nn, ok_ns, ok_sn, ok_ni, ok_in, ok_ll, ok_tt, ev_ii, ev_ss, ev_bb, ev_nn, ev_ns, ev_sn, ev_ni, ev_in, true_and, and_true, atI_0, atI_nat, Option.some.injEq, exists_eq_left', if_true, if_false, decide_eq_true_eq, String.reduceBEq, Bool.false_eq_true, reduceIte, Bool.or_true, Bool.true_or, Bool.or_false, Bool.false_or, Bool.not_true, Bool.not_false,
  p2, p2S, p1, p1S, pT, pAnd, pOr, pNot, pAndV, pOrV, pNotV, pIf, pIfS, pNil, pCons, pLst, pTup, pItL, pItT, pItS, pItE, pItES, pLc, pYes, bN, b2, b3, dwipe, pNext, pSeq, pRet, pRetV, pIfSt, pSet, pAsg, pDrop, pApp, pInc, pFix, pFor, pBreak, pCont, pDS, pSD, pVar, pVarD, pC, pIsi, isTy, pLen, bools_map, ints_map, strs_map, bools_mapf, ints_mapf, strs_mapf, pAny, pAll, pCall, pEq, pNe, pIn, pIx, pCutS, pCutL, pNo, pPart, pJoin, pCat, pI, pI0, pB0, pAdd, pIs, oSub, oMul, oMod, oDiv, oShl, oShr, oPow, oAnd, oOr, oXor, oLt, oLe, oGt, oGe])
/-! ### terms: what is meant -/
def okSign (c : Nat) : Prop := c = 48 ∨ c = 49 ∨ c = 45
def okTerm (t : List Nat) : Prop := ∀ c ∈ t, okSign c
instance (c : Nat) : Decidable (okSign c) := inferInstanceAs (Decidable (_ ∨ _))
instance (t : List Nat) : Decidable (okTerm t) := inferInstanceAs (Decidable (∀ c ∈ t, okSign c))
/-- fit to be asked whether it is a term -/
def askT : D → Prop
  | .obj _ _ => False
  | .str z => z.length ≤ 1000
  | _ => True
def isTermM : D → Nat → Bool
  | .str z, n => decide (z.length = n) && z.all fun c => decide (c ∈ [48, 49, 45])
  | _, _ => false
def hasM : List Nat → Nat → Bool
  | [], _ => true
  | c :: r, s => (decide (c = 45) || decide (c = 48 + s % 2)) && hasM r (s / 2)
def settingsM (t : List Nat) : List Nat := (List.range (2 ^ t.length)).filter (hasM t)
def freedM (t : List Nat) (l : Nat) : List Nat := t.take l ++ [45] ++ t.drop (l + 1)
def unlikeM (a b : List Nat) : List Nat := (List.range a.length).filter fun i => !decide (a[i]? = b[i]?)
def laidM (a b : List Nat) : D := match unlikeM a b with
  | [l] => if a[l]? = some 45 ∨ b[l]? = some 45 then .non else .str (freedM a l)
  | _ => .non
theorem hasM_zip (t : List Nat) : ∀ (s i : Nat), ((t.zipIdx i).map fun p => decide (p.1 = 45) || decide (p.1 = 48 + bitN s (p.2 - i))).all id = hasM t s := by
  induction t with
  | nil => intro s i; rfl
  | cons c r ih =>
    intro s i
    rw [List.zipIdx_cons, List.map_cons, List.all_cons, hasM, ← ih (s / 2) (i + 1)]
    congr 1
    · simp [bitN]
    · congr 1
      apply List.map_congr_left
      rintro ⟨d, j⟩ hd
      have := List.mem_zipIdx hd
      have e : bitN (s / 2) (j - (i + 1)) = bitN s (j - i) := by
        unfold bitN
        rw [Nat.div_div_eq_div_mul, ← Nat.pow_succ', show (j - (i + 1)).succ = j - i by omega]
      simp only [e]
theorem hasM_all (t : List Nat) (s : Nat) : (t.zipIdx.map fun p => decide (p.1 = 45) || decide (p.1 = 48 + bitN s p.2)).all id = hasM t s := by
  rw [← hasM_zip t s 0]
  simp
/-! ### signs and terms -/
def sgnM (x : Int) : Nat := if x % 3 = 0 then 48 else if x % 3 = 1 then 49 else 45
theorem sgn_ok (x : Int) : okSign (sgnM x) := by
  unfold sgnM okSign
  split
  · exact .inl rfl
  · split
    · exact .inr (.inl rfl)
    · exact .inr (.inr rfl)
theorem sgn_at (x : Int) : atI [48, 49, 45] (x % 3) = some (sgnM x) := by
  unfold sgnM
  rcases (show x % 3 = 0 ∨ x % 3 = 1 ∨ x % 3 = 2 by omega) with e | e | e <;> rw [e] <;> rfl
theorem int_sign {c : Nat} (h : okSign c) (n : c ≠ 45) : PySem.intText? (S [c]) = some ((c : Int) - 48) := by
  rcases h with rfl | rfl | rfl
  · decide +kernel
  · decide +kernel
  · exact absurd rfl n
def putM (t : List Nat) (l c : Nat) : List Nat := t.take l ++ [c] ++ t.drop (l + 1)
theorem put_len {t : List Nat} {l c : Nat} (h : l < t.length) : (putM t l c).length = t.length := by simp [putM]; omega
theorem put_ok {t : List Nat} {l c : Nat} (h : okTerm t) (hc : okSign c) : okTerm (putM t l c) := by
  intro d hd
  simp only [putM, List.mem_append, List.mem_singleton] at hd
  rcases hd with (hd | rfl) | hd
  · exact h d (List.mem_of_mem_take hd)
  · exact hc
  · exact h d (List.mem_of_mem_drop hd)
theorem join_flat : ∀ zs : List (List Nat), joinD [] zs = zs.flatten
  | [] => rfl
  | [x] => by simp [joinD]
  | x :: y :: r => by
    rw [joinD, join_flat (y :: r)]
    simp
theorem flat_ones {α : Type} (f : α → Nat) : ∀ l : List α, (l.map fun i => [f i]).flatten = l.map f
  | [] => rfl
  | a :: l => by rw [List.map_cons, List.flatten_cons, flat_ones f l]; rfl
theorem okSign_lt {c : Nat} (h : okSign c) : c < 1114112 := by rcases h with rfl | rfl | rfl <;> decide
theorem okT_isTerm {t : List Nat} (h : okTerm t) : (t.all fun c => decide (c ∈ [48, 49, 45])) = true := by
  rw [List.all_eq_true]
  intro c hc
  rcases h c hc with rfl | rfl | rfl <;> decide
theorem sort_two {x y : Nat} (fx : okSign x) (fy : okSign y) (n : x ≠ y) {zs : List (List Nat)} (hp : zs.Perm [[x], [y]]) (hs : PyProof.Rows.sortedS (zs.map S) = true) : zs = [[48], [49]] ↔ ¬ (x = 45 ∨ y = 45) := by
  have hl := hp.length_eq
  constructor
  · rintro rfl
    have h1 : [x] ∈ ([[48], [49]] : List (List Nat)) := hp.mem_iff.mpr (by simp)
    have h2 : [y] ∈ ([[48], [49]] : List (List Nat)) := hp.mem_iff.mpr (by simp)
    simp at h1 h2
    omega
  · intro h
    match zs, hl with
    | [a, b], _ =>
      have ha : a = [x] ∨ a = [y] := by simpa using hp.mem_iff.mp (show a ∈ [a, b] by simp)
      have hb : b = [x] ∨ b = [y] := by simpa using hp.mem_iff.mp (show b ∈ [a, b] by simp)
      have nd : [a, b].Nodup := hp.nodup_iff.mpr (by simp [n])
      have nab : a ≠ b := by simpa using nd
      have bad : ¬ PyProof.Rows.sortedS ([[49], [48]].map S) = true := by decide +kernel
      have hx : x = 48 ∨ x = 49 := by unfold okSign at fx; omega
      have hy : y = 48 ∨ y = 49 := by unfold okSign at fy; omega
      rcases hx with rfl | rfl <;> rcases hy with rfl | rfl <;> rcases ha with rfl | rfl <;> rcases hb with rfl | rfl <;> first | rfl | exact absurd rfl n | exact absurd rfl nab | exact absurd hs bad
theorem sum_ones {α : Type} : ∀ l : List α, (l.map fun _ => 1).sum = l.length
  | [] => rfl
  | a :: l => by rw [List.map_cons, List.sum_cons, sum_ones l, List.length_cons]; omega
def ph_is_term : FSpec := fun ds Q _ => ∃ (d : D) (n : Nat), ds = [d, .int (n : Int)] ∧ askT d ∧ Q (.dat (.bl (isTermM d n)))
def ph_sign_of : FSpec := fun ds Q _ => ∃ s l : Nat, ds = [.int (s : Int), .int (l : Int)] ∧ Q (.dat (.str [48 + bitN s l]))
def ph_has : FSpec := fun ds Q _ => ∃ (t : List Nat) (s : Nat), ds = [.str t, .int (s : Int)] ∧ t.length ≤ 1000 ∧ Q (.dat (.bl (hasM t s)))
def ph_settings_of : FSpec := fun ds Q _ => ∃ (t : List Nat), ds = [.str t] ∧ t.length ≤ 16 ∧ Q (.own ((settingsM t).map fun i => .int (i : Nat)))
def ph_freed : FSpec := fun ds Q _ => ∃ (t : List Nat) (l : Nat), ds = [.str t, .int (l : Int)] ∧ t.length ≤ 1000 ∧ Q (.dat (.str (freedM t l)))
def ph_laid : FSpec := fun ds Q _ => ∃ (a b : List Nat), ds = [.str a, .str b] ∧ a.length = b.length ∧ a.length ≤ 1000 ∧ Q (.dat (laidM a b))
def spreadM (c : Int) (k : Nat) : Int := (c + 3) * (48271 + 2 * (k : Int) * (k : Int) + (k : Int)) % 2147483647
def okT5 (t : List Nat) : Prop := okTerm t ∧ 1 ≤ t.length ∧ t.length ≤ 5
def ph_law_spread : FSpec := fun ds Q _ => ∃ (c : Int) (k : Nat), ds = [.int c, .int (k : Int)] ∧ k ≤ 1000 ∧ Q (.dat (.int (spreadM c k)))
def ph_law_agrees : FSpec := fun ds Q _ => ∃ (t : List Nat) (s : Nat), ds = [.str t, .int (s : Int)] ∧ okTerm t ∧ t.length ≤ 1000 ∧ Q (.dat (.bl (hasM t s)))
def ph_law_bent : FSpec := fun ds Q _ => ∃ (t : List Nat) (d : Int), ds = [.str t, .int d] ∧ okT5 t ∧ ∀ t', okT5 t' → t'.length = t.length → Q (.dat (.str t'))
def ph_law_pair : FSpec := fun ds Q _ => ∃ (c : Int) (k : Nat), ds = [.int c, .int (k : Int)] ∧ k ≤ 1000 ∧ ∀ a b, okT5 a → okT5 b → a.length = b.length → Q (.dat (.tup [.str a, .str b]))
def ph_law_joined : FSpec := fun ds Q _ => ∃ (a b : List Nat), ds = [.str a, .str b] ∧ okT5 a ∧ okT5 b ∧ a.length = b.length ∧ Q (.dat (laidM a b))
def ph_law_odd : FSpec := fun ds Q _ => ∃ (t : List Nat) (d : Int), ds = [.str t, .int d] ∧ okT5 t ∧ ∀ x, askT x → isTermM x t.length = false → Q (.dat x)
def ph_law_term_right : FSpec := fun ds Q _ => ∃ (t : List Nat) (d : Int), ds = [.str t, .int d] ∧ okT5 t ∧ Q (.dat (.bl true))
def ph_law : FSpec := fun ds Q _ => ∃ ns : List Int, ds = [.lst (ns.map .int)] ∧ ns.length ≤ 63 ∧ Q (.dat (.bl true))
def p_is_term : PSt :=
  (pRet (pDS (pAndV (pIsi "str" (pVar 0)) (pAndV (p2 pEq (p1 pLen (pVar 0)) (pVar 1)) (p1 pAll (pSD (pLc (pItS (pVar 0)) (bN 2) [2] pYes (p2 (pIn false) (pVar 2) (pC (.str [48, 49, 45]))))))))))

def p_sign_of : PSt :=
  (pRet (pDS (p2 pIx (pC (.str [48, 49])) (p2 oAnd (p2 oShr (pVar 0) (pVar 1)) (pC (.int 1))))))

def p_has : PSt :=
  (pRet (pDS (p1 pAll (pSD (pLc (pItES (pVar 0)) (b2 2 3) [2, 3] pYes (pOrV (p2 pEq (pVar 3) (pC (.str [45]))) (p2 pEq (pVar 3) (pSD (pCall ph_sign_of X0 (pCons (pVarD 1) (pCons (pVarD 2) pNil)))))))))))

def p_settings_of : PSt :=
  (pRet (pLc (pRng1 (p2 oShl (pC (.int 1)) (p1 pLen (pVar 0)))) (bN 1) [1] (pT (pSD (pCall ph_has X0 (pCons (pVarD 0) (pCons (pVarD 1) pNil))))) (pVarD 1)))

def p_freed : PSt :=
  (pRet (pDS (p2 pAdd (p2 pAdd (pCutS (pVar 0) pNo (pPart (pVar 1))) (pC (.str [45]))) (pCutS (pVar 0) (pPart (p2 pAdd (pVar 1) (pC (.int 1)))) pNo))))

def p_laid : PSt :=
  (pSeq (pSet 2 (pLc (pRng1 (p1 pLen (pVar 0))) (bN 3) [3] (pT (p2 pNe (p2 pIx (pVar 0) (pVar 3)) (p2 pIx (pVar 1) (pVar 3)))) (pVarD 3))) (pSeq (pIfSt (pOr (pT (p2 pNe (p1 pLen (pVar 2)) (pC (.int 1)))) (pT (p2 (pIn false) (pC (.str [45])) (p2 pAdd (p2 pIx (pVar 0) (p2 pIx (pVar 2) (pC (.int 0)))) (p2 pIx (pVar 1) (p2 pIx (pVar 2) (pC (.int 0)))))))) (pRet (pDS (pC .non))) pNext) (pRet (pCall ph_freed X0 (pCons (pVarD 0) (pCons (p2 pIx (pVar 2) (pC (.int 0))) pNil))))))

def p_law_spread : PSt :=
  (pRet (pDS (p2 oMod (p2 oMul (p2 pAdd (pVar 0) (pC (.int 3))) (p2 pAdd (p2 pAdd (pC (.int 48271)) (p2 oMul (p2 oMul (pC (.int 2)) (pVar 1)) (pVar 1))) (pVar 1))) (pC (.int 2147483647)))))

def p_law_agrees : PSt :=
  (pSeq (pFor (pItES (pVar 0)) (b2 2 3) (pIfSt (pAnd (pT (p2 pNe (pVar 3) (pC (.str [45])))) (pT (p2 pNe (p1 pInt (pVar 3)) (p2 oAnd (p2 oShr (pVar 1) (pVar 2)) (pC (.int 1)))))) (pRet (pDS (pC (.bl false)))) pNext)) (pRet (pDS (pC (.bl true)))))

def p_law_bent : PSt :=
  (pSeq (pFor (pRng1 (p2 oMod (pVar 1) (pC (.int 3)))) (bN 2) (pSeq (pSet 3 (pDS (pSD (pCall ph_law_spread X0 (pCons (pVarD 1) (pCons (pVarD 2) pNil)))))) (pSeq (pSet 4 (pDS (p2 oMod (pVar 3) (p1 pLen (pVar 0))))) (pSet 0 (pDS (p2 pAdd (p2 pAdd (pCutS (pVar 0) pNo (pPart (pVar 4))) (p2 pIx (pC (.str [48, 49, 45])) (p2 oMod (p2 oDiv (pVar 3) (pC (.int 7))) (pC (.int 3))))) (pCutS (pVar 0) (pPart (p2 pAdd (pVar 4) (pC (.int 1)))) pNo))))))) (pRet (pDS (pVarD 0))))

def p_law_pair : PSt :=
  (pSeq (pSet 2 (pDS (pSD (pCall ph_law_spread X0 (pCons (pVarD 0) (pCons (pVarD 1) pNil)))))) (pSeq (pSet 3 (pDS (pIf (pT (p2 pEq (p2 oMod (pVar 0) (pC (.int 2))) (pC (.int 1)))) (p2 oDiv (pVar 0) (pC (.int 2))) (pVarD 2)))) (pSeq (pSet 4 (pDS (p2 pAdd (pC (.int 1)) (p2 oMod (pVar 3) (pC (.int 5)))))) (pSeq (pIfSt (pT (p2 pEq (p2 oMod (pVar 0) (pC (.int 2))) (pC (.int 0)))) (pSeq (pSet 5 (pDS (pJoin (pC (.str [])) (pSD (pLc (pRng1 (pVar 4)) (bN 6) [6] pYes (p2 pIx (pC (.str [48, 49, 45])) (p2 oMod (p2 oDiv (pSD (pCall ph_law_spread X0 (pCons (pVarD 2) (pCons (pVarD 6) pNil)))) (pC (.int 9))) (pC (.int 3))))))))) (pRet (pDS (pTup (pCons (pVarD 5) (pCons (pSD (pCall ph_law_bent X0 (pCons (pVarD 5) (pCons (p2 oDiv (pVar 2) (pC (.int 11))) pNil)))) pNil)))))) pNext) (pSeq (pSet 3 (pDS (p2 oDiv (pVar 3) (pC (.int 5))))) (pSeq (pSet 7 (pDS (pC (.str [])))) (pSeq (pFor (pRng1 (p2 oMul (pC (.int 2)) (pVar 4))) (bN 8) (pSeq (pSet 7 (pDS (p2 pAdd (pVar 7) (p2 pIx (pC (.str [48, 49, 45])) (p2 oMod (pVar 3) (pC (.int 3))))))) (pSet 3 (pDS (p2 oDiv (pVar 3) (pC (.int 3))))))) (pRet (pDS (pTup (pCons (pCutS (pVar 7) pNo (pPart (pVar 4))) (pCons (pCutS (pVar 7) (pPart (pVar 4)) pNo) pNil))))))))))))

def p_law_joined : PSt :=
  (pSeq (pSet 2 (pLc (pRng1 (p1 pLen (pVar 0))) (bN 3) [3] (pT (p2 pNe (p2 pIx (pVar 0) (pVar 3)) (p2 pIx (pVar 1) (pVar 3)))) (pVarD 3))) (pSeq (pIfSt (pOr (pT (p2 pNe (p1 pLen (pVar 2)) (pC (.int 1)))) (pT (p2 pNe (pSD (p1S pSorted (pSD (pLst (pCons (p2 pIx (pVar 0) (p2 pIx (pVar 2) (pC (.int 0)))) (pCons (p2 pIx (pVar 1) (p2 pIx (pVar 2) (pC (.int 0)))) pNil)))))) (pSD (pLst (pCons (pC (.str [48])) (pCons (pC (.str [49])) pNil))))))) (pRet (pDS (pC .non))) pNext) (pRet (pDS (p2 pAdd (p2 pAdd (pCutS (pVar 0) pNo (pPart (p2 pIx (pVar 2) (pC (.int 0))))) (pC (.str [45]))) (pCutS (pVar 0) (pPart (p2 pAdd (p2 pIx (pVar 2) (pC (.int 0))) (pC (.int 1)))) pNo))))))

def p_law_odd : PSt :=
  (pSeq (pSet 2 (pDS (p2 oMod (pVar 1) (p1 pLen (pVar 0))))) (pSeq (pSet 3 (pDS (pSD (pLst (pCons (p2 pAdd (pVar 0) (pC (.str [48]))) (pCons (pCutS (pVar 0) (pPart (pC (.int 1))) pNo) (pCons (p2 pAdd (p2 pAdd (pCutS (pVar 0) pNo (pPart (pVar 2))) (pC (.str [50]))) (pCutS (pVar 0) (pPart (p2 pAdd (pVar 2) (pC (.int 1)))) pNo)) (pCons (p2 pAdd (p2 pAdd (pCutS (pVar 0) pNo (pPart (pVar 2))) (pC (.str [32]))) (pCutS (pVar 0) (pPart (p2 pAdd (pVar 2) (pC (.int 1)))) pNo)) (pCons (pC .non) (pCons (pC (.int 0)) (pCons (pSD (pLst (pCons (pVarD 0) pNil))) pNil))))))))))) (pRet (pDS (p2 pIx (pSD (p2S pCat (pVar 3) (pSD (pLst (pCons (pSD (p1S pListOf (pVar 0))) (pCons (pC (.bl true)) (pCons (p2 pAdd (pVar 0) (pC (.str [10]))) (pCons (pC (.str [])) (pCons (pTup (pCons (pVarD 0) pNil)) (pCons (p2 pAdd (p2 pAdd (pCutS (pVar 0) pNo (pPart (pVar 2))) (pC (.str [111]))) (pCutS (pVar 0) (pPart (p2 pAdd (pVar 2) (pC (.int 1)))) pNo)) pNil)))))))))) (p2 oMod (p2 oDiv (pVar 1) (pC (.int 5))) (pC (.int 13))))))))

def p_law_term_right : PSt :=
  (pSeq (pSet 2 (pLc (pRng1 (p2 oShl (pC (.int 1)) (p1 pLen (pVar 0)))) (bN 3) [3] (pT (pSD (pCall ph_law_agrees X0 (pCons (pVarD 0) (pCons (pVarD 3) pNil))))) (pVarD 3))) (pSeq (pFor (pRng1 (p2 oShl (pC (.int 1)) (p1 pLen (pVar 0)))) (bN 3) (pSeq (pSet 4 (pCall ph_has X0 (pCons (pVarD 0) (pCons (pVarD 3) pNil)))) (pIfSt (pOr (pNot (pT (pIsi "bool" (pVar 4)))) (pT (p2 pNe (pVar 4) (p2 (pIn false) (pVar 3) (pVar 2))))) (pRet (pDS (pC (.bl false)))) pNext))) (pSeq (pFor (pRng1 (pC (.int 2))) (bN 5) (pSeq (pSet 4 (pCall ph_settings_of X0 (pCons (pVarD 0) pNil))) (pSeq (pIfSt (pT (p2 pNe (pVar 4) (pVar 2))) (pRet (pDS (pC (.bl false)))) pNext) (pApp 4 (pC .non))))) (pSeq (pFor (pRng1 (p1 pLen (pVar 0))) (bN 6) (pIfSt (pT (p2 pNe (pSD (pCall ph_freed X0 (pCons (pVarD 0) (pCons (pVarD 6) pNil)))) (p2 pAdd (p2 pAdd (pCutS (pVar 0) pNo (pPart (pVar 6))) (pC (.str [45]))) (pCutS (pVar 0) (pPart (p2 pAdd (pVar 6) (pC (.int 1)))) pNo)))) (pRet (pDS (pC (.bl false)))) pNext)) (pRet (pDS (pAndV (p2 (pIs false) (pSD (pCall ph_is_term X0 (pCons (pVarD 0) (pCons (p1 pLen (pVar 0)) pNil)))) (pC (.bl true))) (p2 (pIs false) (pSD (pCall ph_is_term X0 (pCons (pSD (pCall ph_law_odd X0 (pCons (pVarD 0) (pCons (pVarD 1) pNil)))) (pCons (p1 pLen (pVar 0)) pNil)))) (pC (.bl false))))))))))

def p_law : PSt :=
  (pSeq (pFor (pItE (pSD (p2S pCat (pVar 0) (pSD (pLst (pCons (pC (.int 0)) pNil)))))) (b2 1 2) (pSeq (pSet 3 (pDS (pSD (pCall ph_law_spread X0 (pCons (pVarD 2) (pCons (p2 oMod (pVar 1) (pC (.int 60))) pNil)))))) (pSeq (pAsg (pSD (pCall ph_law_pair X0 (pCons (pVarD 2) (pCons (p2 oMod (pVar 1) (pC (.int 60))) pNil)))) (b2 4 5)) (pSeq (pIfSt (pOr (pNot (pT (pSD (pCall ph_law_term_right X0 (pCons (pVarD 4) (pCons (p2 oDiv (pVar 3) (pC (.int 7))) pNil)))))) (pNot (pT (pSD (pCall ph_law_term_right X0 (pCons (pVarD 5) (pCons (p2 oDiv (pVar 3) (pC (.int 13))) pNil))))))) (pRet (pDS (pC (.bl false)))) pNext) (pSeq (pSet 6 (pDS (pSD (pCall ph_law_joined X0 (pCons (pVarD 4) (pCons (pVarD 5) pNil)))))) (pIfSt (pOr (pT (p2 pNe (pSD (pCall ph_laid X0 (pCons (pVarD 4) (pCons (pVarD 5) pNil)))) (pVar 6))) (pT (p2 pNe (pSD (pCall ph_laid X0 (pCons (pVarD 5) (pCons (pVarD 4) pNil)))) (pVar 6)))) (pRet (pDS (pC (.bl false)))) pNext)))))) (pRet (pDS (pC (.bl true)))))

abbrev N_is_term : List Str := ["thing", "many", "sign"]
abbrev N_sign_of : List Str := ["setting", "lamp"]
abbrev N_has : List Str := ["term", "setting", "lamp", "sign"]
abbrev N_settings_of : List Str := ["term", "setting"]
abbrev N_freed : List Str := ["term", "lamp"]
abbrev N_laid : List Str := ["one", "other", "unlike", "lamp"]
abbrev N_law_spread : List Str := ["_law_cell", "_law_k"]
abbrev N_law_agrees : List Str := ["_law_term", "_law_one", "_law_lamp", "_law_sign"]
abbrev N_law_bent : List Str := ["_law_term", "_law_draw_here", "_law_turn", "_law_more", "_law_at"]
abbrev N_law_pair : List Str := ["_law_cell", "_law_k", "_law_draw_here", "_law_left", "_law_many", "_law_term", "_law_lamp", "_law_signs", "_law_place"]
abbrev N_law_joined : List Str := ["_law_one", "_law_other", "_law_unlike", "_law_lamp"]
abbrev N_law_odd : List Str := ["_law_term", "_law_draw_here", "_law_at", "_law_some"]
abbrev N_law_term_right : List Str := ["_law_term", "_law_draw_here", "_law_settings", "_law_one", "_law_found", "_law_turn", "_law_lamp"]
abbrev N_law : List Str := ["_law_script", "_law_k", "_law_cell", "_law_draw_here", "_law_term", "_law_other", "_law_due"]
theorem ln_is_term : ∀ ds Q XQ, ph_is_term ds Q XQ → ds.length = 2 := by rintro ds Q XQ ⟨d, n, rfl, _⟩; rfl
theorem pu_is_term : ∀ ds Q XQ, ph_is_term ds Q XQ → p_is_term { nx := fun _ => Q (.dat .non), rt := Q } (dstart N_is_term ds) := by
  rintro ds Q XQ ⟨d, n, rfl, ha, h⟩
  unfold p_is_term
  cases d with
  | str z =>
    dsimp only [askT, isTermM] at ha h
    walk_at "pu"
    refine ⟨by omega, ?_⟩
    by_cases hz : z.length = n
    · rw [if_pos (by omega)]
      rw [decide_eq_true hz, Bool.true_and] at h
      refine pGo_map _ (fun c => .bl (decide (c ∈ [48, 49, 45]))) z (fun c _ R hR => hR) (by omega) ?_
      walk_at "pu"
      rw [List.all_map]
      exact h
    · rw [if_neg (by omega)]
      rw [decide_eq_false hz, Bool.false_and] at h
      exact h
  | obj _ _ => exact ha.elim
  | _ => walk_at "pu"; exact h
theorem ln_sign_of : ∀ ds Q XQ, ph_sign_of ds Q XQ → ds.length = 2 := by rintro ds Q XQ ⟨d, n, rfl, _⟩; rfl
theorem pu_sign_of : ∀ ds Q XQ, ph_sign_of ds Q XQ → p_sign_of { nx := fun _ => Q (.dat .non), rt := Q } (dstart N_sign_of ds) := by
  rintro ds Q XQ ⟨s, l, rfl, h⟩
  unfold p_sign_of
  walk_at "pu"
  refine ⟨by omega, by decide, 48 + bitN s l, ?_, h⟩
  rw [bit_of, atI_nat]
  have : bitN s l < 2 := Nat.mod_lt _ (by decide)
  rcases (show bitN s l = 0 ∨ bitN s l = 1 by omega) with e | e <;> rw [e] <;> rfl
theorem ln_has : ∀ ds Q XQ, ph_has ds Q XQ → ds.length = 2 := by rintro ds Q XQ ⟨d, n, rfl, _⟩; rfl
theorem pu_has : ∀ ds Q XQ, ph_has ds Q XQ → p_has { nx := fun _ => Q (.dat .non), rt := Q } (dstart N_has ds) := by
  rintro ds Q XQ ⟨t, s, rfl, hl, h⟩
  unfold p_has
  walk_at "pu"
  rw [numbered_signs]
  refine pGo_map _ (fun p => .bl (decide (p.1 = 45) || decide (p.1 = 48 + bitN s p.2))) t.zipIdx ?_ (by rw [List.length_zipIdx]; omega) ?_
  · rintro ⟨c, i⟩ hc R hR
    walk_at "pu"
    by_cases e : c = 45
    · subst e
      rw [if_pos rfl]
      simpa using hR
    · rw [if_neg (by simpa using e)]
      refine ⟨s, i, rfl, ?_⟩
      walk_at "pu"
      simpa [e] using hR
  · walk_at "pu"
    rw [hasM_all]
    exact h
theorem ln_settings_of : ∀ ds Q XQ, ph_settings_of ds Q XQ → ds.length = 1 := by rintro ds Q XQ ⟨d, rfl, _⟩; rfl
theorem two_le16 {n : Nat} (h : n ≤ 16) : 2 ^ n ≤ 65536 := Nat.le_trans (Nat.pow_le_pow_right (by decide) h) (by decide)
theorem pu_settings_of : ∀ ds Q XQ, ph_settings_of ds Q XQ → p_settings_of { nx := fun _ => Q (.dat .non), rt := Q } (dstart N_settings_of ds) := by
  rintro ds Q XQ ⟨t, rfl, hl, h⟩
  unfold p_settings_of
  walk_at "pu"
  have h2 := two_le16 hl
  refine pRng1_nat (n := 2 ^ t.length) (by omega) ?_ fun R hR => ?_
  · refine pGo_fil _ (hasM t) (fun i => .int (i : Nat)) _ (fun s hs R0 R1 h1 h0 => ?_) (by rw [List.length_range]; omega) h
    walk_at "pu"
    refine ⟨t, s, rfl, by omega, ?_⟩
    walk_at "pu"
    cases e : hasM t s
    · exact h0 e
    · exact h1 e
  · walk_at "pu"
    refine ⟨by omega, ⟨by omega, by omega, by decide⟩, ?_⟩
    rw [Int.toNat_natCast, Int.one_mul]
    simpa using hR
theorem ln_freed : ∀ ds Q XQ, ph_freed ds Q XQ → ds.length = 2 := by rintro ds Q XQ ⟨d, n, rfl, _⟩; rfl
theorem pu_freed : ∀ ds Q XQ, ph_freed ds Q XQ → p_freed { nx := fun _ => Q (.dat .non), rt := Q } (dstart N_freed ds) := by
  rintro ds Q XQ ⟨t, l, rfl, hl, h⟩
  unfold p_freed
  walk_at "pu"
  rw [cut_to, show (l : Int) + 1 = ((l + 1 : Nat) : Int) by omega, cut_from]
  refine ⟨by omega, ?_, by omega, ?_, h⟩ <;> simp [List.length_take] <;> omega
theorem ln_laid : ∀ ds Q XQ, ph_laid ds Q XQ → ds.length = 2 := by rintro ds Q XQ ⟨d, n, rfl, _⟩; rfl
theorem p_unlike {a b : List Nat} (hl : a.length = b.length) (h1 : a.length ≤ 1000) {st : DS} {Q : List D → Prop} (hQ : Q ((unlikeM a b).map fun i => .int (i : Nat))) (ea : st[0]? = some (some (.dat (.str a)))) (eb : st[1]? = some (some (.dat (.str b)))) (hn : 4 ≤ st.length) :
    pGo (bN 3) (pT (p2 pNe (p2 pIx (pVar 0) (pVar 3)) (p2 pIx (pVar 1) (pVar 3)))) (pVarD 3) st ((List.range a.length).map fun i => .int (i : Nat)) [] Q := by
  refine pGo_fil _ (fun i => !decide (a[i]? = b[i]?)) (fun i => .int (i : Nat)) _ (fun i hi R0 R1 k1 k0 => ?_) (by rw [List.length_range]; omega) hQ
  rw [List.mem_range] at hi
  have e0 : (st.set 3 (some (SV.dat (D.int (i : Nat)))))[0]? = some (some (.dat (.str a))) := by rw [List.getElem?_set_ne (by decide)]; exact ea
  have e1 : (st.set 3 (some (SV.dat (D.int (i : Nat)))))[1]? = some (some (.dat (.str b))) := by rw [List.getElem?_set_ne (by decide)]; exact eb
  have e3 : (st.set 3 (some (SV.dat (D.int (i : Nat)))))[3]? = some (some (.dat (.int (i : Nat)))) := by rw [List.getElem?_set_self (by omega)]
  simp only [bN, pT, p2, pVar, pVarD, e0, e1, e3, svd_dat, pIx, pNe, ok_ss, ev_ss, atI_nat, true_and]
  refine ⟨by omega, a[i], by simp [hi], by omega, b[i], by simp, ?_⟩
  by_cases e : a[i] = b[i]
  · simp only [e, decide_true, Bool.not_true, Bool.false_eq_true, if_false]
    exact k0 (by simp [hi, show i < b.length by omega, e])
  · simp only [List.cons.injEq, e, false_and, decide_false, Bool.not_false, if_true]
    exact k1 (by simp [hi, show i < b.length by omega, e])
theorem unlike_at {a b : List Nat} (hl : a.length = b.length) {l : Nat} (h : l ∈ unlikeM a b) : ∃ x y, a[l]? = some x ∧ b[l]? = some y ∧ x ≠ y := by
  unfold unlikeM at h
  rw [List.mem_filter, List.mem_range] at h
  refine ⟨a[l], b[l]'(by omega), by simp [h.1], by simp, fun e => ?_⟩
  have := h.2
  simp [h.1, show l < b.length by omega, e] at this
theorem pu_laid : ∀ ds Q XQ, ph_laid ds Q XQ → p_laid { nx := fun _ => Q (.dat .non), rt := Q } (dstart N_laid ds) := by
  rintro ds Q XQ ⟨a, b, rfl, hl, h1, h⟩
  unfold p_laid
  walk_at "pu"
  refine pRng1_nat (n := a.length) (by omega) ?_ fun R hR => ?_
  · refine p_unlike hl h1 ?_ rfl rfl (by simp)
    rw [List.length_map]
    unfold laidM at h
    cases e : unlikeM a b with
    | nil => rw [e] at h; rw [if_pos (by simp)]; exact h
    | cons l r =>
      cases r with
      | cons l2 r2 =>
        rw [e] at h
        rw [if_pos (by simp; omega)]
        exact h
      | nil =>
        rw [e] at h
        obtain ⟨x, y, hx, hy, _⟩ := unlike_at hl (l := l) (by rw [e]; exact List.mem_cons_self)
        rw [if_neg (by simp)]
        simp only [hx, hy, Option.some.injEq] at h
        walk_at "pu"
        simp only [hx, hy, Option.some.injEq, exists_eq_left']
        refine ⟨by omega, by omega, by simp, ?_⟩
        by_cases hd : x = 45 ∨ y = 45
        · rw [if_pos hd] at h
          rw [if_pos (by simpa [eq_comm] using hd)]
          exact h
        · rw [if_neg hd] at h
          rw [if_neg (by simpa [eq_comm] using hd)]
          exact ⟨a, l, rfl, h1, h⟩
  · walk_at "pu"
    exact ⟨by omega, hR⟩
theorem ln_law_spread : ∀ ds Q XQ, ph_law_spread ds Q XQ → ds.length = 2 := by rintro ds Q XQ ⟨d, n, rfl, _⟩; rfl
theorem pu_law_spread : ∀ ds Q XQ, ph_law_spread ds Q XQ → p_law_spread { nx := fun _ => Q (.dat .non), rt := Q } (dstart N_law_spread ds) := by
  rintro ds Q XQ ⟨c, k, rfl, hk, h⟩
  unfold p_law_spread
  walk_at "pu"
  refine ⟨.inl (by omega), .inr (by omega), .inr ?_, by decide, h⟩
  have h1 : (2 * (k : Int) * (k : Int)) ≤ 2000 * 1000 := Int.mul_le_mul (by omega) (by omega) (by omega) (by omega)
  have h0 : 0 ≤ (2 * (k : Int) * (k : Int)) := Int.mul_nonneg (by omega) (by omega)
  constructor <;> omega
theorem spread_nat (c : Int) (k : Nat) : ∃ m : Nat, spreadM c k = (m : Int) := ⟨(spreadM c k).toNat, (Int.toNat_of_nonneg (Int.emod_nonneg _ (by decide))).symm⟩
theorem ln_law_agrees : ∀ ds Q XQ, ph_law_agrees ds Q XQ → ds.length = 2 := by rintro ds Q XQ ⟨d, n, rfl, _⟩; rfl
theorem pu_law_agrees : ∀ ds Q XQ, ph_law_agrees ds Q XQ → p_law_agrees { nx := fun _ => Q (.dat .non), rt := Q } (dstart N_law_agrees ds) := by
  rintro ds Q XQ ⟨t, s, rfl, ht, hl, h⟩
  unfold p_law_agrees
  walk_at "pu"
  rw [numbered_signs]
  refine for_idx _ (fun i st => ∃ x y, st = [some (.dat (.str t)), some (.dat (.int (s : Int))), x, y] ∧ hasM t s = hasM (t.drop i) (s / 2 ^ i)) t.zipIdx _ ⟨_, _, rfl, by simp⟩ ?_ ?_
  · rintro i ⟨c, j⟩ st hc ⟨x, y, rfl, hI⟩ G hG
    rw [List.getElem?_zipIdx] at hc
    obtain ⟨a, ha, hb⟩ := Option.map_eq_some_iff.mp hc
    cases hb
    rw [Nat.zero_add] at *
    have hi : i < t.length := (List.getElem?_eq_some_iff.mp ha).1
    have hd : t.drop i = c :: t.drop (i + 1) := by
      rw [List.drop_eq_getElem_cons hi]
      congr 1
      exact (List.getElem?_eq_some_iff.mp ha).2
    rw [hd, hasM, Nat.div_div_eq_div_mul, ← Nat.pow_succ] at hI
    walk_at "pu"
    have hs : okSign c := ht c (List.mem_of_getElem? ha)
    by_cases e : c = 45
    · subst e
      rw [if_neg (by simp)]
      exact hG _ ⟨_, _, rfl, by simpa using hI⟩
    · rw [if_pos (by simpa using e)]
      unfold pInt
      refine ⟨by simp, (c : Int) - 48, int_sign hs e, ?_⟩
      walk_at "pu"
      refine ⟨by omega, ?_⟩
      rw [bit_of]
      by_cases g : c = 48 + bitN s i
      · rw [if_neg (by simp; omega)]
        refine hG _ ⟨_, _, rfl, ?_⟩
        rw [hI]
        unfold bitN at g
        rw [decide_eq_true g]
        simp
      · rw [if_pos (by simp; omega)]
        have : hasM t s = false := by
          rw [hI]
          unfold bitN at g
          rw [decide_eq_false g, decide_eq_false e]
          simp
        rw [this] at h
        exact h
  · rintro st ⟨x, y, rfl, hI⟩
    rw [List.length_zipIdx, List.drop_length] at hI
    rw [hI] at h
    exact h
theorem ln_law_bent : ∀ ds Q XQ, ph_law_bent ds Q XQ → ds.length = 2 := by rintro ds Q XQ ⟨d, n, rfl, _⟩; rfl
theorem pu_law_bent : ∀ ds Q XQ, ph_law_bent ds Q XQ → p_law_bent { nx := fun _ => Q (.dat .non), rt := Q } (dstart N_law_bent ds) := by
  rintro ds Q XQ ⟨t, d, rfl, ht, h⟩
  unfold p_law_bent
  walk_at "pu"
  obtain ⟨n, hn, hn3⟩ : ∃ n : Nat, d % 3 = (n : Int) ∧ n < 3 := ⟨(d % 3).toNat, by omega, by omega⟩
  refine pRng1_nat (n := n) (by omega) ?_ fun R hR => ?_
  · refine for_inv _ (fun st => ∃ t' x y z, st = [some (.dat (.str t')), some (.dat (.int d)), x, y, z] ∧ okT5 t' ∧ t'.length = t.length) _ _ ⟨_, _, _, _, rfl, ht, rfl⟩ ?_ ?_
    · rintro i hi st ⟨t', x, y, z, rfl, ht', hl⟩ G hG
      rw [List.mem_range] at hi
      walk_at "pu"
      refine ⟨d, i, rfl, by omega, ?_⟩
      walk_at "pu"
      obtain ⟨m, hm⟩ := spread_nat d i
      rw [hm]
      have h1 := ht'.2.1
      have h5 := ht'.2.2
      have e1 : (m : Int) % (t'.length : Int) = ((m % t'.length : Nat) : Int) := by simp
      rw [e1, cut_to, show ((m % t'.length : Nat) : Int) + 1 = ((m % t'.length + 1 : Nat) : Int) by omega, cut_from]
      have hlt : m % t'.length < t'.length := Nat.mod_lt _ (by omega)
      refine ⟨by omega, by omega, by omega, ⟨by decide, by decide⟩, by decide, by decide, sgnM ((m : Int) / 7), sgn_at _, ?_, by omega, ?_, ?_⟩
      · simp; omega
      · simp; omega
      · exact hG _ ⟨_, _, _, _, rfl, ⟨put_ok (l := m % t'.length) ht'.1 (sgn_ok _), by rw [show ∀ a b c : List Nat, a ++ b ++ c = a ++ b ++ c from fun _ _ _ => rfl]; have := put_len (c := sgnM ((m : Int) / 7)) hlt; unfold putM at this; omega, by have := put_len (c := sgnM ((m : Int) / 7)) hlt; unfold putM at this; omega⟩, by have := put_len (c := sgnM ((m : Int) / 7)) hlt; unfold putM at this; omega⟩
    · rintro st ⟨t', x, y, z, rfl, ht', hl⟩
      walk_at "pu"
      exact h t' ht' hl
  · walk_at "pu"
    rw [hn]
    exact ⟨by decide, hR⟩

theorem draw_nat (c : Int) (k : Nat) : ∃ m : Nat, spreadM c k = (m : Int) := spread_nat c k
theorem ln_law_pair : ∀ ds Q XQ, ph_law_pair ds Q XQ → ds.length = 2 := by rintro ds Q XQ ⟨d, n, rfl, _⟩; rfl
theorem pu_law_pair : ∀ ds Q XQ, ph_law_pair ds Q XQ → p_law_pair { nx := fun _ => Q (.dat .non), rt := Q } (dstart N_law_pair ds) := by
  rintro ds Q XQ ⟨c, k, rfl, hk, h⟩
  unfold p_law_pair
  walk_at "pu"
  refine ⟨c, k, rfl, hk, ?_⟩
  walk_at "pu"
  refine ⟨by decide, ?_⟩
  by_cases e : c % 2 = 1
  · rw [if_pos (by simpa using e)]
    obtain ⟨n, hn, hn5⟩ : ∃ n : Nat, 1 + c / 2 % 5 = (n : Int) ∧ 1 ≤ n ∧ n ≤ 5 := ⟨(1 + c / 2 % 5).toNat, by omega, by omega, by omega⟩
    walk_at "pu"
    refine ⟨⟨by decide, by decide⟩, by decide, by decide, ?_⟩
    rw [if_neg (by omega)]
    refine ⟨⟨by decide, by decide⟩, ?_⟩
    rw [hn]
    refine pRng1_nat (n := 2 * n) (by omega) ?_ fun R hR => ?_
    · refine for_idx _ (fun i st => ∃ (l : Int) (z : List Nat) (_ : Unit) (x5 x6 x8 x2 : Option SV), st = [some (.dat (.int c)), some (.dat (.int (k : Int))), x2, some (.dat (.int l)), some (.dat (.int (n : Int))), x5, x6, some (.dat (.str z)), x8] ∧ okTerm z ∧ z.length = i) _ _ ⟨_, _, (), _, _, _, _, rfl, (by intro c hc; cases hc), rfl⟩ ?_ ?_
      · rintro i j st hj ⟨l, z, _, x5, x6, x8, x2, rfl, hz, hl⟩ G hG
        have hi : i < 2 * n := by have := (List.getElem?_eq_some_iff.mp hj).1; simpa using this
        walk_at "pu"
        refine ⟨by decide, by decide, sgnM l, sgn_at _, by simp; omega, ⟨by decide, by decide⟩, ?_⟩
        refine hG _ ⟨_, _, (), _, _, _, _, rfl, ?_, by simp; omega⟩
        intro d hd
        rw [List.mem_append, List.mem_singleton] at hd
        rcases hd with hd | rfl
        · exact hz d hd
        · exact sgn_ok _
      · rintro st ⟨l, z, _, x5, x6, x8, x2, rfl, hz, hl⟩
        rw [List.length_range] at hl
        walk_at "pu"
        rw [cut_to, cut_from]
        refine ⟨by omega, by omega, by decide, ?_⟩
        refine h _ _ ⟨fun d hd => hz d (List.mem_of_mem_take hd), ?_⟩ ⟨fun d hd => hz d (List.mem_of_mem_drop hd), ?_⟩ ?_ <;> simp <;> omega
    · walk_at "pu"
      exact ⟨.inl (by constructor <;> omega), hR⟩
  · rw [if_neg (by simpa using e)]
    obtain ⟨m, hm⟩ := spread_nat c k
    rw [hm]
    obtain ⟨n, hn, hn5⟩ : ∃ n : Nat, 1 + (m : Int) % 5 = (n : Int) ∧ 1 ≤ n ∧ n ≤ 5 := ⟨(1 + (m : Int) % 5).toNat, by omega, by omega, by omega⟩
    walk_at "pu"
    refine ⟨by decide, by decide, ?_⟩
    rw [if_pos (by omega)]
    rw [hn]
    refine pRng1_nat (n := n) (by omega) ?_ fun R hR => ?_
    · refine pGo_map _ (fun i => .str [sgnM (spreadM m i / 9)]) _ (fun i hi R hR => ?_) (by rw [List.length_range]; omega) ?_
      · rw [List.mem_range] at hi
        walk_at "pu"
        refine ⟨m, i, rfl, by omega, ?_⟩
        walk_at "pu"
        exact ⟨⟨by decide, by decide⟩, by decide, by decide, _, sgn_at _, hR⟩
      · walk_at "pu"
        rw [join_flat, flat_ones]
        have ok : okT5 ((List.range n).map fun i => sgnM (spreadM m i / 9)) := ⟨by
          intro d hd
          obtain ⟨i, _, rfl⟩ := List.mem_map.mp hd
          exact sgn_ok _, by simp; omega, by simp; omega⟩
        refine ⟨?_, ⟨by decide, by decide⟩, _, _, rfl, ok, fun t' ht' hl => ?_⟩
        · rw [List.map_map, show ((fun x : List Nat => x.length) ∘ fun i => [sgnM (spreadM (m : Int) i / 9)]) = fun _ => 1 from rfl, sum_ones]; simp; omega
        · walk_at "pu"
          exact ⟨by decide, h _ _ ok ht' hl.symm⟩
    · exact hR
theorem ln_law_joined : ∀ ds Q XQ, ph_law_joined ds Q XQ → ds.length = 2 := by rintro ds Q XQ ⟨d, n, rfl, _⟩; rfl
theorem pu_law_joined : ∀ ds Q XQ, ph_law_joined ds Q XQ → p_law_joined { nx := fun _ => Q (.dat .non), rt := Q } (dstart N_law_joined ds) := by
  rintro ds Q XQ ⟨a, b, rfl, ha, hb, hl, h⟩
  have h5 := ha.2.2
  unfold p_law_joined
  walk_at "pu"
  refine pRng1_nat (n := a.length) (by omega) ?_ fun R hR => ?_
  · refine p_unlike hl (by omega) ?_ rfl rfl (by simp)
    rw [List.length_map]
    unfold laidM at h
    cases e : unlikeM a b with
    | nil => rw [e] at h; rw [if_pos (by simp)]; exact h
    | cons l r =>
      cases r with
      | cons l2 r2 =>
        rw [e] at h
        rw [if_pos (by simp; omega)]
        exact h
      | nil =>
        rw [e] at h
        obtain ⟨x, y, hx, hy, hxy⟩ := unlike_at hl (l := l) (by rw [e]; exact List.mem_cons_self)
        rw [if_neg (by simp)]
        simp only [hx, hy, Option.some.injEq] at h
        walk_at "pu"
        simp only [hx, hy, Option.some.injEq, exists_eq_left']
        refine ⟨by omega, by omega, by decide, ?_⟩
        have fx : okSign x := ha.1 x (List.mem_of_getElem? hx)
        have fy : okSign y := hb.1 y (List.mem_of_getElem? hy)
        dsimp only [pSorted, intL, strL, Option.map]
        refine ⟨by simp, fun zs hp hs => ?_⟩
        have hz : zs = [[48], [49]] ↔ ¬ (x = 45 ∨ y = 45) := sort_two fx fy hxy hp hs
        have m2 : ∀ z ∈ zs, z = [x] ∨ z = [y] := fun z m => by simpa using hp.mem_iff.mp m
        have ev : D.eqv (D.lst (zs.map .str)) (D.lst [D.str [48], D.str [49]]) = decide (zs = [[48], [49]]) := eqv_dec (plns_map fun _ _ => trivial) (plns_map (f := D.str) (l := [[48], [49]]) fun _ _ => trivial) (map_str_inj (ys := [[48], [49]]))
        rw [svd_own, ok_ll, ev]
        refine ⟨by decide, ⟨flats_map fun z m => ?_, by simp [D.flat, D.flats]⟩, ?_⟩
        · rcases m2 z m with rfl | rfl
          · exact ⟨by simp, by simpa using okSign_lt fx⟩
          · exact ⟨by simp, by simpa using okSign_lt fy⟩
        · by_cases hd : x = 45 ∨ y = 45
          · rw [if_pos hd] at h
            rw [if_pos (by simpa using fun z => absurd hd (hz.mp z))]
            exact h
          · rw [if_neg hd] at h
            rw [if_neg (by simpa using hz.mpr hd), cut_to, show (l : Int) + 1 = ((l + 1 : Nat) : Int) by omega, cut_from]
            refine ⟨by omega, ?_, by omega, ?_, h⟩ <;> simp <;> omega
  · walk_at "pu"
    exact ⟨by omega, hR⟩
theorem notTerm_len {z : List Nat} {n : Nat} (h : z.length ≠ n) : isTermM (.str z) n = false := by rw [isTermM, decide_eq_false h, Bool.false_and]
theorem notTerm_sign {z : List Nat} {n c : Nat} (h : c ∈ z) (hc : ¬ okSign c) : isTermM (.str z) n = false := by
  rw [isTermM, Bool.and_eq_false_iff]
  right
  rw [List.all_eq_false]
  refine ⟨c, h, ?_⟩
  simp only [decide_eq_true_eq]
  intro m
  apply hc
  unfold okSign
  simp at m
  omega
theorem isTerm_of {t : List Nat} (h : okTerm t) : isTermM (.str t) t.length = true := by rw [isTermM, okT_isTerm h]; simp
theorem ln_law_odd : ∀ ds Q XQ, ph_law_odd ds Q XQ → ds.length = 2 := by rintro ds Q XQ ⟨d, n, rfl, _⟩; rfl
theorem pu_law_odd : ∀ ds Q XQ, ph_law_odd ds Q XQ → p_law_odd { nx := fun _ => Q (.dat .non), rt := Q } (dstart N_law_odd ds) := by
  rintro ds Q XQ ⟨t, d, rfl, ht, h⟩
  have h1 := ht.2.1
  have h5 := ht.2.2
  unfold p_law_odd
  walk_at "pu"
  obtain ⟨l, hd, hl⟩ : ∃ l : Nat, d % (t.length : Int) = (l : Int) ∧ l < t.length := ⟨(d % t.length).toNat, by rw [Int.toNat_of_nonneg (Int.emod_nonneg _ (by omega))], by have := Int.emod_lt_of_pos d (show (0 : Int) < t.length by omega); have := Int.emod_nonneg d (show (t.length : Int) ≠ 0 by omega); omega⟩
  rw [hd, show (l : Int) + 1 = ((l + 1 : Nat) : Int) by omega, show (1 : Int) = ((1 : Nat) : Int) from rfl]
  simp only [cut_to, cut_from]
  have t5 : (t.take l).length ≤ 5 := by simp; omega
  have d5 : (t.drop (l + 1)).length ≤ 5 := by simp; omega
  have p0 : ∀ c, (t.take l ++ [c]).length ≤ 6 := fun c => by simp; omega
  have p50 := p0 50
  have p32 := p0 32
  have p111 := p0 111
  dsimp only [pListOf]
  walk_at "pu"
  refine ⟨by omega, by omega, by omega, by omega, by omega, by omega, by omega, by omega, by omega, by omega, by omega, by omega, by omega, by omega, by omega, by omega, by omega, by omega, by omega, by omega, by omega, by omega, by omega, ⟨by decide, by decide⟩, by omega, ?_⟩
  have key : ∀ x ∈ [D.str (t ++ [48]), D.str (t.drop 1), D.str (t.take l ++ [50] ++ t.drop (l + 1)), D.str (t.take l ++ [32] ++ t.drop (l + 1)), D.non, D.int 0, D.lst [D.str t], D.lst (signs t), D.bl true, D.str (t ++ [10]), D.str [], D.tup [D.str t], D.str (t.take l ++ [111] ++ t.drop (l + 1))], askT x ∧ isTermM x t.length = false := by
    have bad : ∀ c, ¬ okSign c → isTermM (D.str (t.take l ++ [c] ++ t.drop (l + 1))) t.length = false := fun c hc => notTerm_sign (c := c) (by simp) hc
    intro x hx
    simp only [List.mem_cons, List.not_mem_nil, or_false] at hx
    rcases hx with rfl | rfl | rfl | rfl | rfl | rfl | rfl | rfl | rfl | rfl | rfl | rfl | rfl
    · exact ⟨by simp [askT]; omega, notTerm_len (by simp)⟩
    · exact ⟨by simp [askT]; omega, notTerm_len (by simp; omega)⟩
    · exact ⟨by simp only [askT, List.length_append, List.length_singleton]; omega, bad 50 (by decide)⟩
    · exact ⟨by simp only [askT, List.length_append, List.length_singleton]; omega, bad 32 (by decide)⟩
    · exact ⟨trivial, rfl⟩
    · exact ⟨trivial, rfl⟩
    · exact ⟨trivial, rfl⟩
    · exact ⟨trivial, rfl⟩
    · exact ⟨trivial, rfl⟩
    · exact ⟨by simp [askT]; omega, notTerm_len (by simp)⟩
    · exact ⟨by simp [askT], notTerm_len (by simp; omega)⟩
    · exact ⟨trivial, rfl⟩
    · exact ⟨by simp only [askT, List.length_append, List.length_singleton]; omega, bad 111 (by decide)⟩
  obtain ⟨x, e, k1, k2⟩ := at_mod (n := 13) key (d / 5) rfl (by decide)
  exact ⟨x, e, h x k1 k2⟩
theorem ln_law_term_right : ∀ ds Q XQ, ph_law_term_right ds Q XQ → ds.length = 2 := by rintro ds Q XQ ⟨d, n, rfl, _⟩; rfl
theorem eqv_ints (xs ys : List Nat) : okEq (.lst (xs.map fun i => .int (i : Nat))) (.lst (ys.map fun i => .int (i : Nat))) ∧ D.eqv (.lst (xs.map fun i => .int (i : Nat))) (.lst (ys.map fun i => .int (i : Nat))) = decide (xs = ys) := by
  refine ⟨⟨flats_map fun _ _ => trivial, flats_map fun _ _ => trivial⟩, eqv_dec (plns_map fun _ _ => trivial) (plns_map fun _ _ => trivial) ⟨fun h => ?_, fun h => by rw [h]⟩⟩
  injection h with h
  exact (List.map_inj_right (fun a b e => by injection e with e; exact Int.ofNat.inj e)).mp h
theorem pu_law_term_right : ∀ ds Q XQ, ph_law_term_right ds Q XQ → p_law_term_right { nx := fun _ => Q (.dat .non), rt := Q } (dstart N_law_term_right ds) := by
  rintro ds Q XQ ⟨t, d, rfl, ht, h⟩
  have h1 := ht.2.1
  have h5 := ht.2.2
  have hp := two_le16 (show t.length ≤ 16 by omega)
  have rng : ∀ (st : DS) (R : List D → Prop) (e0 : st[0]? = some (some (.dat (.str t)))), R ((List.range (2 ^ t.length)).map fun i => .int (i : Nat)) → pRng1 (p2 oShl (pC (D.int 1)) (p1 pLen (pVar 0))) st R := fun st R e0 hR => by
    refine pRng1_nat (n := 2 ^ t.length) (by omega) hR fun R hR => ?_
    walk_at "pu"
    rw [e0]
    walk_at "pu"
    refine ⟨by omega, ⟨by omega, by omega, by decide⟩, ?_⟩
    rw [Int.toNat_natCast, Int.one_mul]
    simpa using hR
  unfold p_law_term_right
  walk_at "pu"
  refine rng _ _ rfl ?_
  refine pGo_fil _ (hasM t) (fun i => .int (i : Nat)) _ (fun s hs R0 R1 k1 k0 => ?_) (by rw [List.length_range]; omega) ?_
  · walk_at "pu"
    refine ⟨t, s, rfl, ht.1, by omega, ?_⟩
    walk_at "pu"
    cases e : hasM t s
    · exact k0 e
    · exact k1 e
  show pRng1 _ _ _
  refine rng _ _ rfl ?_
  refine for_inv _ (fun st => ∃ x3 x4 x5 x6, st = [some (.dat (.str t)), some (.dat (.int d)), some (.own ((settingsM t).map fun i => .int (i : Nat))), x3, x4, x5, x6]) _ _ ⟨_, _, _, _, rfl⟩ ?_ ?_
  · rintro s hs st ⟨x3, x4, x5, x6, rfl⟩ G hG
    rw [List.mem_range] at hs
    walk_at "pu"
    refine ⟨t, s, rfl, by omega, ?_⟩
    walk_at "pu"
    have hm : hasD ((settingsM t).map fun i => D.int (i : Nat)) (.int (s : Nat)) = hasM t s := by
      rw [hasD_nat]
      unfold settingsM
      simp [hs]
    rw [hm, if_neg (by simp)]
    refine ⟨rfl, by simp [flatD], hG _ ⟨_, _, _, _, rfl⟩⟩
  rintro st ⟨x3, x4, x5, x6, rfl⟩
  walk_at "pu"
  refine pRng1_nat (n := 2) (by omega) ?_ fun R hR => hR
  refine for_inv _ (fun st => ∃ x3 x4 x5 x6, st = [some (.dat (.str t)), some (.dat (.int d)), some (.own ((settingsM t).map fun i => .int (i : Nat))), x3, x4, x5, x6]) _ _ ⟨_, _, _, _, rfl⟩ ?_ ?_
  · rintro s hs st ⟨x3, x4, x5, x6, rfl⟩ G hG
    walk_at "pu"
    refine ⟨t, rfl, by omega, ?_⟩
    walk_at "pu"
    have e := eqv_ints (settingsM t) (settingsM t)
    refine ⟨e.1, ?_⟩
    rw [e.2, if_neg (by simp), List.length_map]
    exact ⟨Nat.lt_of_le_of_lt (show (settingsM t).length ≤ 65536 from Nat.le_trans (List.length_filter_le _ _) (by rw [List.length_range]; exact hp)) (by decide), hG _ ⟨_, _, _, _, rfl⟩⟩
  rintro st ⟨x3, x4, x5, x6, rfl⟩
  walk_at "pu"
  refine pRng1_nat (n := t.length) (by omega) ?_ fun R hR => ?_
  · refine for_inv _ (fun st => ∃ x3 x4 x5 x6, st = [some (.dat (.str t)), some (.dat (.int d)), some (.own ((settingsM t).map fun i => .int (i : Nat))), x3, x4, x5, x6]) _ _ ⟨_, _, _, _, rfl⟩ ?_ ?_
    · rintro s hs st ⟨x3, x4, x5, x6, rfl⟩ G hG
      rw [List.mem_range] at hs
      walk_at "pu"
      refine ⟨t, s, rfl, by omega, ?_⟩
      walk_at "pu"
      rw [cut_to, show (s : Int) + 1 = ((s + 1 : Nat) : Int) by omega, cut_from, if_neg (by unfold freedM; simp)]
      have d5 : (t.drop (s + 1)).length ≤ 5 := by simp; omega
      have p0 : (t.take s ++ [45]).length ≤ 6 := by simp; omega
      have t5 : (t.take s).length ≤ 5 := by simp; omega
      exact ⟨by omega, by omega, by omega, by omega, hG _ ⟨_, _, _, _, rfl⟩⟩
    rintro st ⟨x3, x4, x5, x6, rfl⟩
    walk_at "pu"
    refine ⟨by omega, _, t.length, rfl, by simp [askT]; omega, ?_⟩
    rw [isTerm_of ht.1]
    walk_at "pu"
    refine ⟨t, d, rfl, ht, fun x hx hf => ?_⟩
    walk_at "pu"
    refine ⟨by omega, _, t.length, rfl, hx, ?_⟩
    rw [hf]
    walk_at "pu"
    exact h
  · walk_at "pu"
    exact ⟨by omega, hR⟩
theorem ln_law : ∀ ds Q XQ, ph_law ds Q XQ → ds.length = 1 := by rintro ds Q XQ ⟨d, rfl, _⟩; rfl
theorem okTerm_flat {t : List Nat} (h : okTerm t) (hl : t.length ≤ 1000) : D.flat 60 (.str t) := ⟨by omega, fun c hc => okSign_lt (h c hc)⟩
theorem laid_eq {a b : List Nat} (ha : okT5 a) (hb : okT5 b) (hl : a.length = b.length) : okEq (laidM a b) (laidM a b) ∧ D.eqv (laidM a b) (laidM a b) = true := by
  unfold laidM
  split
  · split
    · exact ⟨trivial, rfl⟩
    · exact ⟨trivial, by simp [D.eqv]⟩
  · exact ⟨trivial, rfl⟩
theorem unlike_comm {a b : List Nat} (hl : a.length = b.length) : unlikeM b a = unlikeM a b := by
  unfold unlikeM
  rw [hl]
  apply List.filter_congr
  intro i _
  simp [eq_comm]
theorem laid_comm {a b : List Nat} (hl : a.length = b.length) : laidM b a = laidM a b := by
  unfold laidM
  rw [unlike_comm hl]
  match e : unlikeM a b with
  | [] => rfl
  | _ :: _ :: _ => rfl
  | [l] =>
    dsimp only
    have key : freedM b l = freedM a l := by
      unfold freedM
      have g : ∀ i, i ≠ l → a[i]? = b[i]? := fun i hi => by
        by_cases hlt : i < a.length
        · have : i ∉ unlikeM a b := by rw [e]; simpa using hi
          unfold unlikeM at this
          simpa [hlt] using this
        · rw [List.getElem?_eq_none (by omega), List.getElem?_eq_none (by omega)]
      have t1 : b.take l = a.take l := List.ext_getElem? fun i => by
        rw [List.getElem?_take, List.getElem?_take]
        split
        · exact (g i (by omega)).symm
        · rfl
      have t2 : b.drop (l + 1) = a.drop (l + 1) := List.ext_getElem? fun i => by
        rw [List.getElem?_drop, List.getElem?_drop]
        exact (g _ (by omega)).symm
      rw [t1, t2]
    rw [key]
    by_cases h : a[l]? = some 45 ∨ b[l]? = some 45
    · rw [if_pos h, if_pos h.symm]
    · rw [if_neg h, if_neg fun z => h z.symm]
theorem pu_law : ∀ ds Q XQ, ph_law ds Q XQ → p_law { nx := fun _ => Q (.dat .non), rt := Q } (dstart N_law ds) := by
  rintro ds Q XQ ⟨ns, rfl, hl, h⟩
  unfold p_law
  walk_at "pu"
  refine ⟨by decide, by rw [List.length_map]; omega, ?_⟩
  rw [show ns.map D.int ++ [D.int 0] = (ns ++ [0]).map D.int by simp, numbered_map]
  refine for_inv _ (fun st => ∃ x1 x2 x3 x4 x5 x6, st = [some (.dat (.lst (ns.map .int))), x1, x2, x3, x4, x5, x6]) _ _ ⟨_, _, _, _, _, _, rfl⟩ ?_ ?_
  · rintro ⟨c, k⟩ hk st ⟨x1, x2, x3, x4, x5, x6, rfl⟩ G hG
    have e : (k : Int) % 60 = ((k % 60 : Nat) : Int) := by simp
    have hk60 : k % 60 ≤ 1000 := by omega
    walk_at "pu"
    rw [e]
    refine ⟨by omega, c, k % 60, rfl, hk60, ?_⟩
    walk_at "pu"
    refine ⟨by omega, c, k % 60, rfl, hk60, fun a b ha hb hl => ?_⟩
    walk_at "pu"
    refine ⟨⟨by decide, by decide⟩, a, _, rfl, ha, ?_⟩
    walk_at "pu"
    refine ⟨⟨by decide, by decide⟩, b, _, rfl, hb, ?_⟩
    walk_at "pu"
    refine ⟨a, b, rfl, ha, hb, hl, ?_⟩
    walk_at "pu"
    have q := laid_eq ha hb hl
    have h5 := ha.2.2
    refine ⟨a, b, rfl, hl, by omega, q.1, ?_⟩
    rw [svd_dat, q.2]
    walk_at "pu"
    refine ⟨b, a, rfl, hl.symm, by omega, ?_⟩
    rw [laid_comm hl]
    refine ⟨q.1, ?_⟩
    rw [svd_dat, q.2]
    walk_at "pu"
    exact hG _ ⟨_, _, _, _, _, _, rfl⟩
  · rintro st ⟨x1, x2, x3, x4, x5, x6, rfl⟩
    walk_at "pu"
    exact h
end Pu
namespace Pu
open PySem L2
def top (i : Nat) : Stmt := PySem.Challenge.pw_fewterms_k01_terms.main.body.getD i (.Pass ⟨0, 0, 0, 0⟩)
structure Txt (mg : Str → Option Value) : Prop where
  n_all : mg "all" = none
  n_bool : mg "bool" = none
  n_enumerate : mg "enumerate" = none
  n_int : mg "int" = none
  n_isinstance : mg "isinstance" = none
  n_len : mg "len" = none
  n_list : mg "list" = none
  n_range : mg "range" = none
  n_sorted : mg "sorted" = none
  n_str : mg "str" = none
  g_SIGNS : ∃ tk, mg "SIGNS" = some (.str "01-" tk)
abbrev s_is_term : Stmt := top 2
theorem sc_is_term : FnScope N_is_term ["thing", "many"] (defScope s_is_term) := ⟨rfl, rfl, rfl, by decide +kernel, rfl, by decide +kernel, by decide +kernel⟩
theorem d_is_term {P : Program} {w : World} {K : PySem.W.Frag} {mg : Str → Option Value} {base : Heap} (T : Txt mg)  {f : Addr} {cdv : Value} {B : Around} {outer : List Env} {s : Shared} {H : Hp} {E : XK} {F0 N0 : Hp} (hr : Room 0 (B.deeper (PyProof.Rows.envOfC "is_term" (defScope s_is_term) s.heap.objs.size f cdv))) :
    ∃ t, SimB ⟨F0, N0, K⟩ (ctx P w K mg base N_is_term "is_term" (defScope s_is_term) f cdv B outer s H E) (defBody s_is_term) t p_is_term := by
  have nd := sc_is_term.nd
  have hp : PassesOwn (model P w) (B.deeper (PyProof.Rows.envOfC "is_term" (defScope s_is_term) s.heap.objs.size f cdv)) (PyProof.Rows.envOfC "is_term" (defScope s_is_term) s.heap.objs.size f cdv) (ctx P w K mg base N_is_term "is_term" (defScope s_is_term) f cdv B outer s H E).xe := PassesOwn.leaving
  exact ⟨_, (simB_one (sim_ret ((simD_and ((simD_isi ty_str T.n_isinstance T.n_str (simR_var 0))).r (simD_and ((simD_cmp O_eq hr.units ((simD_fn B_len rfl T.n_len (simR_var 0))).r (simR_var 1))).r (simD_one (simD_fn B_all rfl T.n_all ((simS_lc (own := [("sign", 2)]) rfl nd (blkOk_by (by kernel_rfl)) (simIc_str (simR_var 0)) (fun _ _ _ _ _ => (simG_N 2 nd)) (by decide) (fun _ _ _ _ _ => simC_nil) (fun _ _ _ _ _ => (simD_cmp O_in hr.units (simR_var 2) ((simD_gstr [48, 49, 45] T.g_SIGNS)).r)))).r))))).s))⟩
theorem c_is_term {P : Program} {w : World} {K : PySem.W.Frag} {mg : Str → Option Value} {base : Heap} (T : Txt mg)  {f : Addr} {fd : FuncData} (Fn : Fun K "is_term" "is_term" s_is_term f fd) (hm : mg "is_term" = some (.ref f)) : CallOk P w K mg base "is_term" 1 ph_is_term :=
  callOk (ps := ["thing", "many"]) Fn hm sc_is_term ln_is_term (fun _ => p_is_term) (fun _ _ _ _ _ _ A _ hA hr _ => by obtain ⟨F0, N0, K0⟩ := A; cases hA; exact d_is_term T  hr) pu_is_term (fun _ _ _ _ _ _ us hl => match us, hl with | [_, _], _ => rfl)
abbrev s_sign_of : Stmt := top 3
theorem sc_sign_of : FnScope N_sign_of ["setting", "lamp"] (defScope s_sign_of) := ⟨rfl, rfl, rfl, by decide +kernel, rfl, by decide +kernel, by decide +kernel⟩
theorem d_sign_of {P : Program} {w : World} {K : PySem.W.Frag} {mg : Str → Option Value} {base : Heap} (T : Txt mg)  {f : Addr} {cdv : Value} {B : Around} {outer : List Env} {s : Shared} {H : Hp} {E : XK} {F0 N0 : Hp} (hr : Room 0 (B.deeper (PyProof.Rows.envOfC "sign_of" (defScope s_sign_of) s.heap.objs.size f cdv))) :
    ∃ t, SimB ⟨F0, N0, K⟩ (ctx P w K mg base N_sign_of "sign_of" (defScope s_sign_of) f cdv B outer s H E) (defBody s_sign_of) t p_sign_of := by
  have nd := sc_sign_of.nd
  have hp : PassesOwn (model P w) (B.deeper (PyProof.Rows.envOfC "sign_of" (defScope s_sign_of) s.heap.objs.size f cdv)) (PyProof.Rows.envOfC "sign_of" (defScope s_sign_of) s.heap.objs.size f cdv) (ctx P w K mg base N_sign_of "sign_of" (defScope s_sign_of) f cdv B outer s H E).xe := PassesOwn.leaving
  exact ⟨_, (simB_one (sim_ret ((simD_at ((simD_str [48, 49])).r ((simD_op O_and hr.units ((simD_op O_shr hr.units (simR_var 0) (simR_var 1))).r (simD_int).r)).r)).s))⟩
theorem c_sign_of {P : Program} {w : World} {K : PySem.W.Frag} {mg : Str → Option Value} {base : Heap} (T : Txt mg)  {f : Addr} {fd : FuncData} (Fn : Fun K "sign_of" "sign_of" s_sign_of f fd) (hm : mg "sign_of" = some (.ref f)) : CallOk P w K mg base "sign_of" 1 ph_sign_of :=
  callOk (ps := ["setting", "lamp"]) Fn hm sc_sign_of ln_sign_of (fun _ => p_sign_of) (fun _ _ _ _ _ _ A _ hA hr _ => by obtain ⟨F0, N0, K0⟩ := A; cases hA; exact d_sign_of T  hr) pu_sign_of (fun _ _ _ _ _ _ us hl => match us, hl with | [_, _], _ => rfl)
abbrev s_has : Stmt := top 4
theorem sc_has : FnScope N_has ["term", "setting"] (defScope s_has) := ⟨rfl, rfl, rfl, by decide +kernel, rfl, by decide +kernel, by decide +kernel⟩
theorem d_has {P : Program} {w : World} {K : PySem.W.Frag} {mg : Str → Option Value} {base : Heap} (T : Txt mg) (C_sign_of : CallOk P w K mg base "sign_of" 1 ph_sign_of) {f : Addr} {cdv : Value} {B : Around} {outer : List Env} {s : Shared} {H : Hp} {E : XK} {F0 N0 : Hp} (hr : Room 1 (B.deeper (PyProof.Rows.envOfC "has" (defScope s_has) s.heap.objs.size f cdv))) :
    ∃ t, SimB ⟨F0, N0, K⟩ (ctx P w K mg base N_has "has" (defScope s_has) f cdv B outer s H E) (defBody s_has) t p_has := by
  have nd := sc_has.nd
  have hp : PassesOwn (model P w) (B.deeper (PyProof.Rows.envOfC "has" (defScope s_has) s.heap.objs.size f cdv)) (PyProof.Rows.envOfC "has" (defScope s_has) s.heap.objs.size f cdv) (ctx P w K mg base N_has "has" (defScope s_has) f cdv B outer s H E).xe := PassesOwn.leaving
  exact ⟨_, (simB_one (sim_ret ((simD_fn B_all rfl T.n_all ((simS_lc (own := [("lamp", 2), ("sign", 3)]) rfl nd (blkOk_by (by kernel_rfl)) (simIc_enums (simR_var 0) T.n_enumerate) (fun _ _ _ _ _ => (simG_2 2 3 nd rfl (simG_N 2 nd) (simG_N 3 nd))) (by decide) (fun _ _ _ _ _ => simC_nil) (fun _ _ _ _ _ => (simD_or ((simD_cmp O_eq hr.units (simR_var 3) ((simD_str [45])).r)).r (simD_one (simD_cmp O_eq hr.units (simR_var 3) ((sim_callC C_sign_of (hr.mono (by decide)) xc0 (simA_cons (simD_var 1) (simA_cons (simD_var 2) simA_nil)))).r)))))).r)).s))⟩
theorem c_has {P : Program} {w : World} {K : PySem.W.Frag} {mg : Str → Option Value} {base : Heap} (T : Txt mg) (C_sign_of : CallOk P w K mg base "sign_of" 1 ph_sign_of) {f : Addr} {fd : FuncData} (Fn : Fun K "has" "has" s_has f fd) (hm : mg "has" = some (.ref f)) : CallOk P w K mg base "has" 2 ph_has :=
  callOk (ps := ["term", "setting"]) Fn hm sc_has ln_has (fun _ => p_has) (fun _ _ _ _ _ _ A _ hA hr _ => by obtain ⟨F0, N0, K0⟩ := A; cases hA; exact d_has T C_sign_of hr) pu_has (fun _ _ _ _ _ _ us hl => match us, hl with | [_, _], _ => rfl)
abbrev s_settings_of : Stmt := top 5
theorem sc_settings_of : FnScope N_settings_of ["term"] (defScope s_settings_of) := ⟨rfl, rfl, rfl, by decide +kernel, rfl, by decide +kernel, by decide +kernel⟩
theorem d_settings_of {P : Program} {w : World} {K : PySem.W.Frag} {mg : Str → Option Value} {base : Heap} (T : Txt mg) (C_has : CallOk P w K mg base "has" 2 ph_has) {f : Addr} {cdv : Value} {B : Around} {outer : List Env} {s : Shared} {H : Hp} {E : XK} {F0 N0 : Hp} (hr : Room 2 (B.deeper (PyProof.Rows.envOfC "settings_of" (defScope s_settings_of) s.heap.objs.size f cdv))) :
    ∃ t, SimB ⟨F0, N0, K⟩ (ctx P w K mg base N_settings_of "settings_of" (defScope s_settings_of) f cdv B outer s H E) (defBody s_settings_of) t p_settings_of := by
  have nd := sc_settings_of.nd
  have hp : PassesOwn (model P w) (B.deeper (PyProof.Rows.envOfC "settings_of" (defScope s_settings_of) s.heap.objs.size f cdv)) (PyProof.Rows.envOfC "settings_of" (defScope s_settings_of) s.heap.objs.size f cdv) (ctx P w K mg base N_settings_of "settings_of" (defScope s_settings_of) f cdv B outer s H E).xe := PassesOwn.leaving
  exact ⟨_, (simB_one (sim_ret (simS_lc (own := [("setting", 1)]) rfl nd (blkOk_by (by kernel_rfl)) (simIc_rng1 ((simD_op O_shl hr.units (simD_int).r ((simD_fn B_len rfl T.n_len (simR_var 0))).r)).r T.n_range) (fun _ _ _ _ _ => (simG_N 1 nd)) (by decide) (fun _ _ _ _ _ => (simC_one (simT_val ((sim_callC C_has (hr.mono (by decide)) xc0 (simA_cons (simD_var 0) (simA_cons (simD_var 1) simA_nil)))).r))) (fun _ _ _ _ _ => (simD_var 1)))))⟩
theorem c_settings_of {P : Program} {w : World} {K : PySem.W.Frag} {mg : Str → Option Value} {base : Heap} (T : Txt mg) (C_has : CallOk P w K mg base "has" 2 ph_has) {f : Addr} {fd : FuncData} (Fn : Fun K "settings_of" "settings_of" s_settings_of f fd) (hm : mg "settings_of" = some (.ref f)) : CallOk P w K mg base "settings_of" 3 ph_settings_of :=
  callOk (ps := ["term"]) Fn hm sc_settings_of ln_settings_of (fun _ => p_settings_of) (fun _ _ _ _ _ _ A _ hA hr _ => by obtain ⟨F0, N0, K0⟩ := A; cases hA; exact d_settings_of T C_has hr) pu_settings_of (fun _ _ _ _ _ _ us hl => match us, hl with | [_], _ => rfl)
abbrev s_freed : Stmt := top 6
theorem sc_freed : FnScope N_freed ["term", "lamp"] (defScope s_freed) := ⟨rfl, rfl, rfl, by decide +kernel, rfl, by decide +kernel, by decide +kernel⟩
theorem d_freed {P : Program} {w : World} {K : PySem.W.Frag} {mg : Str → Option Value} {base : Heap} (T : Txt mg)  {f : Addr} {cdv : Value} {B : Around} {outer : List Env} {s : Shared} {H : Hp} {E : XK} {F0 N0 : Hp} (hr : Room 0 (B.deeper (PyProof.Rows.envOfC "freed" (defScope s_freed) s.heap.objs.size f cdv))) :
    ∃ t, SimB ⟨F0, N0, K⟩ (ctx P w K mg base N_freed "freed" (defScope s_freed) f cdv B outer s H E) (defBody s_freed) t p_freed := by
  have nd := sc_freed.nd
  have hp : PassesOwn (model P w) (B.deeper (PyProof.Rows.envOfC "freed" (defScope s_freed) s.heap.objs.size f cdv)) (PyProof.Rows.envOfC "freed" (defScope s_freed) s.heap.objs.size f cdv) (ctx P w K mg base N_freed "freed" (defScope s_freed) f cdv B outer s H E).xe := PassesOwn.leaving
  exact ⟨_, (simB_one (sim_ret ((simD_op O_add hr.units ((simD_op O_add hr.units ((simD_cut (simR_var 0) simO_none (simO_some (simR_var 1)))).r ((simD_str [45])).r)).r ((simD_cut (simR_var 0) (simO_some ((simD_op O_add hr.units (simR_var 1) (simD_int).r)).r) simO_none)).r)).s))⟩
theorem c_freed {P : Program} {w : World} {K : PySem.W.Frag} {mg : Str → Option Value} {base : Heap} (T : Txt mg)  {f : Addr} {fd : FuncData} (Fn : Fun K "freed" "freed" s_freed f fd) (hm : mg "freed" = some (.ref f)) : CallOk P w K mg base "freed" 1 ph_freed :=
  callOk (ps := ["term", "lamp"]) Fn hm sc_freed ln_freed (fun _ => p_freed) (fun _ _ _ _ _ _ A _ hA hr _ => by obtain ⟨F0, N0, K0⟩ := A; cases hA; exact d_freed T  hr) pu_freed (fun _ _ _ _ _ _ us hl => match us, hl with | [_, _], _ => rfl)
abbrev s_laid : Stmt := top 7
theorem sc_laid : FnScope N_laid ["one", "other"] (defScope s_laid) := ⟨rfl, rfl, rfl, by decide +kernel, rfl, by decide +kernel, by decide +kernel⟩
theorem d_laid {P : Program} {w : World} {K : PySem.W.Frag} {mg : Str → Option Value} {base : Heap} (T : Txt mg) (C_freed : CallOk P w K mg base "freed" 1 ph_freed) {f : Addr} {cdv : Value} {B : Around} {outer : List Env} {s : Shared} {H : Hp} {E : XK} {F0 N0 : Hp} (hr : Room 1 (B.deeper (PyProof.Rows.envOfC "laid" (defScope s_laid) s.heap.objs.size f cdv))) :
    ∃ t, SimB ⟨F0, N0, K⟩ (ctx P w K mg base N_laid "laid" (defScope s_laid) f cdv B outer s H E) (defBody s_laid) t p_laid := by
  have nd := sc_laid.nd
  have hp : PassesOwn (model P w) (B.deeper (PyProof.Rows.envOfC "laid" (defScope s_laid) s.heap.objs.size f cdv)) (PyProof.Rows.envOfC "laid" (defScope s_laid) s.heap.objs.size f cdv) (ctx P w K mg base N_laid "laid" (defScope s_laid) f cdv B outer s H E).xe := PassesOwn.leaving
  exact ⟨_, (simB_cons (sim_setLc 2 (own := [("lamp", 3)]) rfl nd (blkOk_by (by kernel_rfl)) (simIc_rng1 ((simD_fn B_len rfl T.n_len (simR_var 0))).r T.n_range) (fun _ _ _ _ _ => (simG_N 3 nd)) (by decide) (fun _ _ _ _ _ => (simC_one (simT_cmp O_ne hr.units ((simD_at (simR_var 0) (simR_var 3))).r ((simD_at (simR_var 1) (simR_var 3))).r))) (fun _ _ _ _ _ => (simD_var 3)) (sw_true rfl rfl rfl (by kernel_rfl)))
  (simB_cons (sim_if (simT_w (simW_or (simT_cmp O_ne hr.units ((simD_fn B_len rfl T.n_len (simR_var 2))).r (simD_int).r) (simW_or1 (simT_cmp O_in hr.units ((simD_str [45])).r ((simD_op O_add hr.units ((simD_at (simR_var 0) ((simD_at (simR_var 2) (simD_int).r)).r)).r ((simD_at (simR_var 1) ((simD_at (simR_var 2) (simD_int).r)).r)).r)).r)))) (simB_one (sim_ret (simD_non).s)) simB_nil)
  (simB_one (sim_ret (sim_callC C_freed (hr.mono (by decide)) xc0 (simA_cons (simD_var 0) (simA_cons (simD_at (simR_var 2) (simD_int).r) simA_nil)))))))⟩
theorem c_laid {P : Program} {w : World} {K : PySem.W.Frag} {mg : Str → Option Value} {base : Heap} (T : Txt mg) (C_freed : CallOk P w K mg base "freed" 1 ph_freed) {f : Addr} {fd : FuncData} (Fn : Fun K "laid" "laid" s_laid f fd) (hm : mg "laid" = some (.ref f)) : CallOk P w K mg base "laid" 2 ph_laid :=
  callOk (ps := ["one", "other"]) Fn hm sc_laid ln_laid (fun _ => p_laid) (fun _ _ _ _ _ _ A _ hA hr _ => by obtain ⟨F0, N0, K0⟩ := A; cases hA; exact d_laid T C_freed hr) pu_laid (fun _ _ _ _ _ _ us hl => match us, hl with | [_, _], _ => rfl)
abbrev s_law_spread : Stmt := top 10
theorem sc_law_spread : FnScope N_law_spread ["_law_cell", "_law_k"] (defScope s_law_spread) := ⟨rfl, rfl, rfl, by decide +kernel, rfl, by decide +kernel, by decide +kernel⟩
theorem d_law_spread {P : Program} {w : World} {K : PySem.W.Frag} {mg : Str → Option Value} {base : Heap} (T : Txt mg)  {f : Addr} {cdv : Value} {B : Around} {outer : List Env} {s : Shared} {H : Hp} {E : XK} {F0 N0 : Hp} (hr : Room 0 (B.deeper (PyProof.Rows.envOfC "_law_spread" (defScope s_law_spread) s.heap.objs.size f cdv))) :
    ∃ t, SimB ⟨F0, N0, K⟩ (ctx P w K mg base N_law_spread "_law_spread" (defScope s_law_spread) f cdv B outer s H E) (defBody s_law_spread) t p_law_spread := by
  have nd := sc_law_spread.nd
  have hp : PassesOwn (model P w) (B.deeper (PyProof.Rows.envOfC "_law_spread" (defScope s_law_spread) s.heap.objs.size f cdv)) (PyProof.Rows.envOfC "_law_spread" (defScope s_law_spread) s.heap.objs.size f cdv) (ctx P w K mg base N_law_spread "_law_spread" (defScope s_law_spread) f cdv B outer s H E).xe := PassesOwn.leaving
  exact ⟨_, (simB_one (sim_ret ((simD_op O_mod hr.units ((simD_op O_mul hr.units ((simD_op O_add hr.units (simR_var 0) (simD_int).r)).r ((simD_op O_add hr.units ((simD_op O_add hr.units (simD_int).r ((simD_op O_mul hr.units ((simD_op O_mul hr.units (simD_int).r (simR_var 1))).r (simR_var 1))).r)).r (simR_var 1))).r)).r (simD_int).r)).s))⟩
theorem c_law_spread {P : Program} {w : World} {K : PySem.W.Frag} {mg : Str → Option Value} {base : Heap} (T : Txt mg)  {f : Addr} {fd : FuncData} (Fn : Fun K "_law_spread" "_law_spread" s_law_spread f fd) (hm : mg "_law_spread" = some (.ref f)) : CallOk P w K mg base "_law_spread" 1 ph_law_spread :=
  callOk (ps := ["_law_cell", "_law_k"]) Fn hm sc_law_spread ln_law_spread (fun _ => p_law_spread) (fun _ _ _ _ _ _ A _ hA hr _ => by obtain ⟨F0, N0, K0⟩ := A; cases hA; exact d_law_spread T  hr) pu_law_spread (fun _ _ _ _ _ _ us hl => match us, hl with | [_, _], _ => rfl)
abbrev s_law_agrees : Stmt := top 11
theorem sc_law_agrees : FnScope N_law_agrees ["_law_term", "_law_one"] (defScope s_law_agrees) := ⟨rfl, rfl, rfl, by decide +kernel, rfl, by decide +kernel, by decide +kernel⟩
theorem d_law_agrees {P : Program} {w : World} {K : PySem.W.Frag} {mg : Str → Option Value} {base : Heap} (T : Txt mg)  {f : Addr} {cdv : Value} {B : Around} {outer : List Env} {s : Shared} {H : Hp} {E : XK} {F0 N0 : Hp} (hr : Room 0 (B.deeper (PyProof.Rows.envOfC "_law_agrees" (defScope s_law_agrees) s.heap.objs.size f cdv))) :
    ∃ t, SimB ⟨F0, N0, K⟩ (ctx P w K mg base N_law_agrees "_law_agrees" (defScope s_law_agrees) f cdv B outer s H E) (defBody s_law_agrees) t p_law_agrees := by
  have nd := sc_law_agrees.nd
  have hp : PassesOwn (model P w) (B.deeper (PyProof.Rows.envOfC "_law_agrees" (defScope s_law_agrees) s.heap.objs.size f cdv)) (PyProof.Rows.envOfC "_law_agrees" (defScope s_law_agrees) s.heap.objs.size f cdv) (ctx P w K mg base N_law_agrees "_law_agrees" (defScope s_law_agrees) f cdv B outer s H E).xe := PassesOwn.leaving
  exact ⟨_, (simB_cons (sim_for hp rfl (simIf_enums (simR_var 0) T.n_enumerate) (simG_2 2 3 nd rfl (simG_N 2 nd) (simG_N 3 nd)) (simB_one (sim_if (simT_w (simW_and (simT_cmp O_ne hr.units (simR_var 3) ((simD_str [45])).r) (simW_and1 (simT_cmp O_ne hr.units ((simD_ty B_int rfl T.n_int (simR_var 3))).r ((simD_op O_and hr.units ((simD_op O_shr hr.units (simR_var 1) (simR_var 2))).r (simD_int).r)).r)))) (simB_one (sim_ret (simD_bl).s)) simB_nil)))
  (simB_one (sim_ret (simD_bl).s)))⟩
theorem c_law_agrees {P : Program} {w : World} {K : PySem.W.Frag} {mg : Str → Option Value} {base : Heap} (T : Txt mg)  {f : Addr} {fd : FuncData} (Fn : Fun K "_law_agrees" "_law_agrees" s_law_agrees f fd) (hm : mg "_law_agrees" = some (.ref f)) : CallOk P w K mg base "_law_agrees" 1 ph_law_agrees :=
  callOk (ps := ["_law_term", "_law_one"]) Fn hm sc_law_agrees ln_law_agrees (fun _ => p_law_agrees) (fun _ _ _ _ _ _ A _ hA hr _ => by obtain ⟨F0, N0, K0⟩ := A; cases hA; exact d_law_agrees T  hr) pu_law_agrees (fun _ _ _ _ _ _ us hl => match us, hl with | [_, _], _ => rfl)
abbrev s_law_bent : Stmt := top 12
theorem sc_law_bent : FnScope N_law_bent ["_law_term", "_law_draw_here"] (defScope s_law_bent) := ⟨rfl, rfl, rfl, by decide +kernel, rfl, by decide +kernel, by decide +kernel⟩
theorem d_law_bent {P : Program} {w : World} {K : PySem.W.Frag} {mg : Str → Option Value} {base : Heap} (T : Txt mg) (C_law_spread : CallOk P w K mg base "_law_spread" 1 ph_law_spread) {f : Addr} {cdv : Value} {B : Around} {outer : List Env} {s : Shared} {H : Hp} {E : XK} {F0 N0 : Hp} (hr : Room 1 (B.deeper (PyProof.Rows.envOfC "_law_bent" (defScope s_law_bent) s.heap.objs.size f cdv))) :
    ∃ t, SimB ⟨F0, N0, K⟩ (ctx P w K mg base N_law_bent "_law_bent" (defScope s_law_bent) f cdv B outer s H E) (defBody s_law_bent) t p_law_bent := by
  have nd := sc_law_bent.nd
  have hp : PassesOwn (model P w) (B.deeper (PyProof.Rows.envOfC "_law_bent" (defScope s_law_bent) s.heap.objs.size f cdv)) (PyProof.Rows.envOfC "_law_bent" (defScope s_law_bent) s.heap.objs.size f cdv) (ctx P w K mg base N_law_bent "_law_bent" (defScope s_law_bent) f cdv B outer s H E).xe := PassesOwn.leaving
  exact ⟨_, (simB_cons (sim_for hp rfl (simIf_rng1 ((simD_op O_mod hr.units (simR_var 1) (simD_int).r)).r T.n_range) (simG_N 2 nd) (simB_cons (sim_set 3 nd (((sim_callC C_law_spread (hr.mono (by decide)) xc0 (simA_cons (simD_var 1) (simA_cons (simD_var 2) simA_nil)))).D).s)
  (simB_cons (sim_set 4 nd ((simD_op O_mod hr.units (simR_var 3) ((simD_fn B_len rfl T.n_len (simR_var 0))).r)).s)
  (simB_one (sim_set 0 nd ((simD_op O_add hr.units ((simD_op O_add hr.units ((simD_cut (simR_var 0) simO_none (simO_some (simR_var 4)))).r ((simD_at ((simD_str [48, 49, 45])).r ((simD_op O_mod hr.units ((simD_op O_div hr.units (simR_var 3) (simD_int).r)).r (simD_int).r)).r)).r)).r ((simD_cut (simR_var 0) (simO_some ((simD_op O_add hr.units (simR_var 4) (simD_int).r)).r) simO_none)).r)).s)))))
  (simB_one (sim_ret ((simD_var 0)).s)))⟩
theorem c_law_bent {P : Program} {w : World} {K : PySem.W.Frag} {mg : Str → Option Value} {base : Heap} (T : Txt mg) (C_law_spread : CallOk P w K mg base "_law_spread" 1 ph_law_spread) {f : Addr} {fd : FuncData} (Fn : Fun K "_law_bent" "_law_bent" s_law_bent f fd) (hm : mg "_law_bent" = some (.ref f)) : CallOk P w K mg base "_law_bent" 2 ph_law_bent :=
  callOk (ps := ["_law_term", "_law_draw_here"]) Fn hm sc_law_bent ln_law_bent (fun _ => p_law_bent) (fun _ _ _ _ _ _ A _ hA hr _ => by obtain ⟨F0, N0, K0⟩ := A; cases hA; exact d_law_bent T C_law_spread hr) pu_law_bent (fun _ _ _ _ _ _ us hl => match us, hl with | [_, _], _ => rfl)
abbrev s_law_pair : Stmt := top 13
theorem sc_law_pair : FnScope N_law_pair ["_law_cell", "_law_k"] (defScope s_law_pair) := ⟨rfl, rfl, rfl, by decide +kernel, rfl, by decide +kernel, by decide +kernel⟩
theorem d_law_pair {P : Program} {w : World} {K : PySem.W.Frag} {mg : Str → Option Value} {base : Heap} (T : Txt mg) (C_law_bent : CallOk P w K mg base "_law_bent" 2 ph_law_bent) (C_law_spread : CallOk P w K mg base "_law_spread" 1 ph_law_spread) {f : Addr} {cdv : Value} {B : Around} {outer : List Env} {s : Shared} {H : Hp} {E : XK} {F0 N0 : Hp} (hr : Room 2 (B.deeper (PyProof.Rows.envOfC "_law_pair" (defScope s_law_pair) s.heap.objs.size f cdv))) :
    ∃ t, SimB ⟨F0, N0, K⟩ (ctx P w K mg base N_law_pair "_law_pair" (defScope s_law_pair) f cdv B outer s H E) (defBody s_law_pair) t p_law_pair := by
  have nd := sc_law_pair.nd
  have hp : PassesOwn (model P w) (B.deeper (PyProof.Rows.envOfC "_law_pair" (defScope s_law_pair) s.heap.objs.size f cdv)) (PyProof.Rows.envOfC "_law_pair" (defScope s_law_pair) s.heap.objs.size f cdv) (ctx P w K mg base N_law_pair "_law_pair" (defScope s_law_pair) f cdv B outer s H E).xe := PassesOwn.leaving
  exact ⟨_, (simB_cons (sim_set 2 nd (((sim_callC C_law_spread (hr.mono (by decide)) xc0 (simA_cons (simD_var 0) (simA_cons (simD_var 1) simA_nil)))).D).s)
  (simB_cons (sim_set 3 nd ((simD_if (simT_cmp O_eq hr.units ((simD_op O_mod hr.units (simR_var 0) (simD_int).r)).r (simD_int).r) (simD_op O_div hr.units (simR_var 0) (simD_int).r) (simD_var 2))).s)
  (simB_cons (sim_set 4 nd ((simD_op O_add hr.units (simD_int).r ((simD_op O_mod hr.units (simR_var 3) (simD_int).r)).r)).s)
  (simB_cons (sim_if (simT_cmp O_eq hr.units ((simD_op O_mod hr.units (simR_var 0) (simD_int).r)).r (simD_int).r) (simB_cons (sim_set 5 nd ((simD_join ((simD_str [])).r ((simS_lc (own := [("_law_lamp", 6)]) rfl nd (blkOk_by (by kernel_rfl)) (simIc_rng1 (simR_var 4) T.n_range) (fun _ _ _ _ _ => (simG_N 6 nd)) (by decide) (fun _ _ _ _ _ => simC_nil) (fun _ _ _ _ _ => (simD_at ((simD_str [48, 49, 45])).r ((simD_op O_mod hr.units ((simD_op O_div hr.units ((sim_callC C_law_spread (hr.mono (by decide)) xc0 (simA_cons (simD_var 2) (simA_cons (simD_var 6) simA_nil)))).r (simD_int).r)).r (simD_int).r)).r)))).r)).s)
  (simB_one (sim_ret ((simD_tup (simA_cons (simD_var 5) (simA_cons ((sim_callC C_law_bent (hr.mono (by decide)) xc0 (simA_cons (simD_var 5) (simA_cons (simD_op O_div hr.units (simR_var 2) (simD_int).r) simA_nil)))).D simA_nil)))).s))) simB_nil)
  (simB_cons (sim_set 3 nd ((simD_op O_div hr.units (simR_var 3) (simD_int).r)).s)
  (simB_cons (sim_set 7 nd ((simD_str [])).s)
  (simB_cons (sim_for hp rfl (simIf_rng1 ((simD_op O_mul hr.units (simD_int).r (simR_var 4))).r T.n_range) (simG_N 8 nd) (simB_cons (sim_set 7 nd ((simD_op O_add hr.units (simR_var 7) ((simD_at ((simD_str [48, 49, 45])).r ((simD_op O_mod hr.units (simR_var 3) (simD_int).r)).r)).r)).s)
  (simB_one (sim_set 3 nd ((simD_op O_div hr.units (simR_var 3) (simD_int).r)).s))))
  (simB_one (sim_ret ((simD_tup (simA_cons (simD_cut (simR_var 7) simO_none (simO_some (simR_var 4))) (simA_cons (simD_cut (simR_var 7) (simO_some (simR_var 4)) simO_none) simA_nil)))).s)))))))))⟩
theorem c_law_pair {P : Program} {w : World} {K : PySem.W.Frag} {mg : Str → Option Value} {base : Heap} (T : Txt mg) (C_law_bent : CallOk P w K mg base "_law_bent" 2 ph_law_bent) (C_law_spread : CallOk P w K mg base "_law_spread" 1 ph_law_spread) {f : Addr} {fd : FuncData} (Fn : Fun K "_law_pair" "_law_pair" s_law_pair f fd) (hm : mg "_law_pair" = some (.ref f)) : CallOk P w K mg base "_law_pair" 3 ph_law_pair :=
  callOk (ps := ["_law_cell", "_law_k"]) Fn hm sc_law_pair ln_law_pair (fun _ => p_law_pair) (fun _ _ _ _ _ _ A _ hA hr _ => by obtain ⟨F0, N0, K0⟩ := A; cases hA; exact d_law_pair T C_law_bent C_law_spread hr) pu_law_pair (fun _ _ _ _ _ _ us hl => match us, hl with | [_, _], _ => rfl)
abbrev s_law_joined : Stmt := top 14
theorem sc_law_joined : FnScope N_law_joined ["_law_one", "_law_other"] (defScope s_law_joined) := ⟨rfl, rfl, rfl, by decide +kernel, rfl, by decide +kernel, by decide +kernel⟩
theorem d_law_joined {P : Program} {w : World} {K : PySem.W.Frag} {mg : Str → Option Value} {base : Heap} (T : Txt mg)  {f : Addr} {cdv : Value} {B : Around} {outer : List Env} {s : Shared} {H : Hp} {E : XK} {F0 N0 : Hp} (hr : Room 0 (B.deeper (PyProof.Rows.envOfC "_law_joined" (defScope s_law_joined) s.heap.objs.size f cdv))) :
    ∃ t, SimB ⟨F0, N0, K⟩ (ctx P w K mg base N_law_joined "_law_joined" (defScope s_law_joined) f cdv B outer s H E) (defBody s_law_joined) t p_law_joined := by
  have nd := sc_law_joined.nd
  have hp : PassesOwn (model P w) (B.deeper (PyProof.Rows.envOfC "_law_joined" (defScope s_law_joined) s.heap.objs.size f cdv)) (PyProof.Rows.envOfC "_law_joined" (defScope s_law_joined) s.heap.objs.size f cdv) (ctx P w K mg base N_law_joined "_law_joined" (defScope s_law_joined) f cdv B outer s H E).xe := PassesOwn.leaving
  exact ⟨_, (simB_cons (sim_setLc 2 (own := [("_law_lamp", 3)]) rfl nd (blkOk_by (by kernel_rfl)) (simIc_rng1 ((simD_fn B_len rfl T.n_len (simR_var 0))).r T.n_range) (fun _ _ _ _ _ => (simG_N 3 nd)) (by decide) (fun _ _ _ _ _ => (simC_one (simT_cmp O_ne hr.units ((simD_at (simR_var 0) (simR_var 3))).r ((simD_at (simR_var 1) (simR_var 3))).r))) (fun _ _ _ _ _ => (simD_var 3)) (sw_true rfl rfl rfl (by kernel_rfl)))
  (simB_cons (sim_if (simT_w (simW_or (simT_cmp O_ne hr.units ((simD_fn B_len rfl T.n_len (simR_var 2))).r (simD_int).r) (simW_or1 (simT_cmp O_ne hr.units ((simS_fn B_sorted rfl T.n_sorted ((simS_lst (simA_cons (simD_at (simR_var 0) ((simD_at (simR_var 2) (simD_int).r)).r) (simA_cons (simD_at (simR_var 1) ((simD_at (simR_var 2) (simD_int).r)).r) simA_nil)))).r)).r ((simS_lst (simA_cons (simD_str [48]) (simA_cons (simD_str [49]) simA_nil)))).r)))) (simB_one (sim_ret (simD_non).s)) simB_nil)
  (simB_one (sim_ret ((simD_op O_add hr.units ((simD_op O_add hr.units ((simD_cut (simR_var 0) simO_none (simO_some ((simD_at (simR_var 2) (simD_int).r)).r))).r ((simD_str [45])).r)).r ((simD_cut (simR_var 0) (simO_some ((simD_op O_add hr.units ((simD_at (simR_var 2) (simD_int).r)).r (simD_int).r)).r) simO_none)).r)).s))))⟩
theorem c_law_joined {P : Program} {w : World} {K : PySem.W.Frag} {mg : Str → Option Value} {base : Heap} (T : Txt mg)  {f : Addr} {fd : FuncData} (Fn : Fun K "_law_joined" "_law_joined" s_law_joined f fd) (hm : mg "_law_joined" = some (.ref f)) : CallOk P w K mg base "_law_joined" 1 ph_law_joined :=
  callOk (ps := ["_law_one", "_law_other"]) Fn hm sc_law_joined ln_law_joined (fun _ => p_law_joined) (fun _ _ _ _ _ _ A _ hA hr _ => by obtain ⟨F0, N0, K0⟩ := A; cases hA; exact d_law_joined T  hr) pu_law_joined (fun _ _ _ _ _ _ us hl => match us, hl with | [_, _], _ => rfl)
abbrev s_law_odd : Stmt := top 15
theorem sc_law_odd : FnScope N_law_odd ["_law_term", "_law_draw_here"] (defScope s_law_odd) := ⟨rfl, rfl, rfl, by decide +kernel, rfl, by decide +kernel, by decide +kernel⟩
theorem d_law_odd {P : Program} {w : World} {K : PySem.W.Frag} {mg : Str → Option Value} {base : Heap} (T : Txt mg)  {f : Addr} {cdv : Value} {B : Around} {outer : List Env} {s : Shared} {H : Hp} {E : XK} {F0 N0 : Hp} (hr : Room 0 (B.deeper (PyProof.Rows.envOfC "_law_odd" (defScope s_law_odd) s.heap.objs.size f cdv))) :
    ∃ t, SimB ⟨F0, N0, K⟩ (ctx P w K mg base N_law_odd "_law_odd" (defScope s_law_odd) f cdv B outer s H E) (defBody s_law_odd) t p_law_odd := by
  have nd := sc_law_odd.nd
  have hp : PassesOwn (model P w) (B.deeper (PyProof.Rows.envOfC "_law_odd" (defScope s_law_odd) s.heap.objs.size f cdv)) (PyProof.Rows.envOfC "_law_odd" (defScope s_law_odd) s.heap.objs.size f cdv) (ctx P w K mg base N_law_odd "_law_odd" (defScope s_law_odd) f cdv B outer s H E).xe := PassesOwn.leaving
  exact ⟨_, (simB_cons (sim_set 2 nd ((simD_op O_mod hr.units (simR_var 1) ((simD_fn B_len rfl T.n_len (simR_var 0))).r)).s)
  (simB_cons (sim_set 3 nd (((simS_lst (simA_cons (simD_op O_add hr.units (simR_var 0) ((simD_str [48])).r) (simA_cons (simD_cut (simR_var 0) (simO_some (simD_int).r) simO_none) (simA_cons (simD_op O_add hr.units ((simD_op O_add hr.units ((simD_cut (simR_var 0) simO_none (simO_some (simR_var 2)))).r ((simD_str [50])).r)).r ((simD_cut (simR_var 0) (simO_some ((simD_op O_add hr.units (simR_var 2) (simD_int).r)).r) simO_none)).r) (simA_cons (simD_op O_add hr.units ((simD_op O_add hr.units ((simD_cut (simR_var 0) simO_none (simO_some (simR_var 2)))).r ((simD_str [32])).r)).r ((simD_cut (simR_var 0) (simO_some ((simD_op O_add hr.units (simR_var 2) (simD_int).r)).r) simO_none)).r) (simA_cons simD_non (simA_cons simD_int (simA_cons ((simS_lst (simA_cons (simD_var 0) simA_nil))).D simA_nil))))))))).D).s)
  (simB_one (sim_ret ((simD_at ((simS_op O_cat hr.units (simR_var 3) ((simS_lst (simA_cons ((simS_ty B_list rfl T.n_list (simR_var 0))).D (simA_cons simD_bl (simA_cons (simD_op O_add hr.units (simR_var 0) ((simD_str [10])).r) (simA_cons (simD_str []) (simA_cons (simD_tup (simA_cons (simD_var 0) simA_nil)) (simA_cons (simD_op O_add hr.units ((simD_op O_add hr.units ((simD_cut (simR_var 0) simO_none (simO_some (simR_var 2)))).r ((simD_str [111])).r)).r ((simD_cut (simR_var 0) (simO_some ((simD_op O_add hr.units (simR_var 2) (simD_int).r)).r) simO_none)).r) simA_nil)))))))).r)).r ((simD_op O_mod hr.units ((simD_op O_div hr.units (simR_var 1) (simD_int).r)).r (simD_int).r)).r)).s))))⟩
theorem c_law_odd {P : Program} {w : World} {K : PySem.W.Frag} {mg : Str → Option Value} {base : Heap} (T : Txt mg)  {f : Addr} {fd : FuncData} (Fn : Fun K "_law_odd" "_law_odd" s_law_odd f fd) (hm : mg "_law_odd" = some (.ref f)) : CallOk P w K mg base "_law_odd" 1 ph_law_odd :=
  callOk (ps := ["_law_term", "_law_draw_here"]) Fn hm sc_law_odd ln_law_odd (fun _ => p_law_odd) (fun _ _ _ _ _ _ A _ hA hr _ => by obtain ⟨F0, N0, K0⟩ := A; cases hA; exact d_law_odd T  hr) pu_law_odd (fun _ _ _ _ _ _ us hl => match us, hl with | [_, _], _ => rfl)
abbrev s_law_term_right : Stmt := top 16
theorem sc_law_term_right : FnScope N_law_term_right ["_law_term", "_law_draw_here"] (defScope s_law_term_right) := ⟨rfl, rfl, rfl, by decide +kernel, rfl, by decide +kernel, by decide +kernel⟩
theorem d_law_term_right {P : Program} {w : World} {K : PySem.W.Frag} {mg : Str → Option Value} {base : Heap} (T : Txt mg) (C_law_agrees : CallOk P w K mg base "_law_agrees" 1 ph_law_agrees) (C_law_odd : CallOk P w K mg base "_law_odd" 1 ph_law_odd) (C_freed : CallOk P w K mg base "freed" 1 ph_freed) (C_has : CallOk P w K mg base "has" 2 ph_has) (C_is_term : CallOk P w K mg base "is_term" 1 ph_is_term) (C_settings_of : CallOk P w K mg base "settings_of" 3 ph_settings_of) {f : Addr} {cdv : Value} {B : Around} {outer : List Env} {s : Shared} {H : Hp} {E : XK} {F0 N0 : Hp} (hr : Room 3 (B.deeper (PyProof.Rows.envOfC "_law_term_right" (defScope s_law_term_right) s.heap.objs.size f cdv))) :
    ∃ t, SimB ⟨F0, N0, K⟩ (ctx P w K mg base N_law_term_right "_law_term_right" (defScope s_law_term_right) f cdv B outer s H E) (defBody s_law_term_right) t p_law_term_right := by
  have nd := sc_law_term_right.nd
  have hp : PassesOwn (model P w) (B.deeper (PyProof.Rows.envOfC "_law_term_right" (defScope s_law_term_right) s.heap.objs.size f cdv)) (PyProof.Rows.envOfC "_law_term_right" (defScope s_law_term_right) s.heap.objs.size f cdv) (ctx P w K mg base N_law_term_right "_law_term_right" (defScope s_law_term_right) f cdv B outer s H E).xe := PassesOwn.leaving
  exact ⟨_, (simB_cons (sim_setLc 2 (own := [("_law_one", 3)]) rfl nd (blkOk_by (by kernel_rfl)) (simIc_rng1 ((simD_op O_shl hr.units (simD_int).r ((simD_fn B_len rfl T.n_len (simR_var 0))).r)).r T.n_range) (fun _ _ _ _ _ => (simG_N 3 nd)) (by decide) (fun _ _ _ _ _ => (simC_one (simT_val ((sim_callC C_law_agrees (hr.mono (by decide)) xc0 (simA_cons (simD_var 0) (simA_cons (simD_var 3) simA_nil)))).r))) (fun _ _ _ _ _ => (simD_var 3)) (sw_true rfl rfl rfl (by kernel_rfl)))
  (simB_cons (sim_for hp rfl (simIf_rng1 ((simD_op O_shl hr.units (simD_int).r ((simD_fn B_len rfl T.n_len (simR_var 0))).r)).r T.n_range) (simG_N 3 nd) (simB_cons (sim_set 4 nd (sim_callC C_has (hr.mono (by decide)) xc0 (simA_cons (simD_var 0) (simA_cons (simD_var 3) simA_nil))))
  (simB_one (sim_if (simT_w (simW_or (simT_not (simT_val ((simD_isi ty_bool T.n_isinstance T.n_bool (simR_var 4))).r)) (simW_or1 (simT_cmp O_ne hr.units (simR_var 4) ((simD_cmp O_in hr.units (simR_var 3) (simR_var 2))).r)))) (simB_one (sim_ret (simD_bl).s)) simB_nil))))
  (simB_cons (sim_for hp rfl (simIf_rng1 (simD_int).r T.n_range) (simG_N 5 nd) (simB_cons (sim_set 4 nd (sim_callC C_settings_of (hr.mono (by decide)) xc0 (simA_cons (simD_var 0) simA_nil)))
  (simB_cons (sim_if (simT_cmp O_ne hr.units (simR_var 4) (simR_var 2)) (simB_one (sim_ret (simD_bl).s)) simB_nil)
  (simB_one (sim_app 4 simD_non)))))
  (simB_cons (sim_for hp rfl (simIf_rng1 ((simD_fn B_len rfl T.n_len (simR_var 0))).r T.n_range) (simG_N 6 nd) (simB_one (sim_if (simT_cmp O_ne hr.units ((sim_callC C_freed (hr.mono (by decide)) xc0 (simA_cons (simD_var 0) (simA_cons (simD_var 6) simA_nil)))).r ((simD_op O_add hr.units ((simD_op O_add hr.units ((simD_cut (simR_var 0) simO_none (simO_some (simR_var 6)))).r ((simD_str [45])).r)).r ((simD_cut (simR_var 0) (simO_some ((simD_op O_add hr.units (simR_var 6) (simD_int).r)).r) simO_none)).r)).r) (simB_one (sim_ret (simD_bl).s)) simB_nil)))
  (simB_one (sim_ret ((simD_and ((simD_cmp O_is hr.units ((sim_callC C_is_term (hr.mono (by decide)) xc0 (simA_cons (simD_var 0) (simA_cons (simD_fn B_len rfl T.n_len (simR_var 0)) simA_nil)))).r (simD_bl).r)).r (simD_one (simD_cmp O_is hr.units ((sim_callC C_is_term (hr.mono (by decide)) xc0 (simA_cons ((sim_callC C_law_odd (hr.mono (by decide)) xc0 (simA_cons (simD_var 0) (simA_cons (simD_var 1) simA_nil)))).D (simA_cons (simD_fn B_len rfl T.n_len (simR_var 0)) simA_nil)))).r (simD_bl).r)))).s))))))⟩
theorem c_law_term_right {P : Program} {w : World} {K : PySem.W.Frag} {mg : Str → Option Value} {base : Heap} (T : Txt mg) (C_law_agrees : CallOk P w K mg base "_law_agrees" 1 ph_law_agrees) (C_law_odd : CallOk P w K mg base "_law_odd" 1 ph_law_odd) (C_freed : CallOk P w K mg base "freed" 1 ph_freed) (C_has : CallOk P w K mg base "has" 2 ph_has) (C_is_term : CallOk P w K mg base "is_term" 1 ph_is_term) (C_settings_of : CallOk P w K mg base "settings_of" 3 ph_settings_of) {f : Addr} {fd : FuncData} (Fn : Fun K "_law_term_right" "_law_term_right" s_law_term_right f fd) (hm : mg "_law_term_right" = some (.ref f)) : CallOk P w K mg base "_law_term_right" 4 ph_law_term_right :=
  callOk (ps := ["_law_term", "_law_draw_here"]) Fn hm sc_law_term_right ln_law_term_right (fun _ => p_law_term_right) (fun _ _ _ _ _ _ A _ hA hr _ => by obtain ⟨F0, N0, K0⟩ := A; cases hA; exact d_law_term_right T C_law_agrees C_law_odd C_freed C_has C_is_term C_settings_of hr) pu_law_term_right (fun _ _ _ _ _ _ us hl => match us, hl with | [_, _], _ => rfl)
abbrev s_law : Stmt := top 17
theorem sc_law : FnScope N_law ["_law_script"] (defScope s_law) := ⟨rfl, rfl, rfl, by decide +kernel, rfl, by decide +kernel, by decide +kernel⟩
theorem d_law {P : Program} {w : World} {K : PySem.W.Frag} {mg : Str → Option Value} {base : Heap} (T : Txt mg) (C_law_joined : CallOk P w K mg base "_law_joined" 1 ph_law_joined) (C_law_pair : CallOk P w K mg base "_law_pair" 3 ph_law_pair) (C_law_spread : CallOk P w K mg base "_law_spread" 1 ph_law_spread) (C_law_term_right : CallOk P w K mg base "_law_term_right" 4 ph_law_term_right) (C_laid : CallOk P w K mg base "laid" 2 ph_laid) {f : Addr} {cdv : Value} {B : Around} {outer : List Env} {s : Shared} {H : Hp} {E : XK} {F0 N0 : Hp} (hr : Room 4 (B.deeper (PyProof.Rows.envOfC "law" (defScope s_law) s.heap.objs.size f cdv))) :
    ∃ t, SimB ⟨F0, N0, K⟩ (ctx P w K mg base N_law "law" (defScope s_law) f cdv B outer s H E) (defBody s_law) t p_law := by
  have nd := sc_law.nd
  have hp : PassesOwn (model P w) (B.deeper (PyProof.Rows.envOfC "law" (defScope s_law) s.heap.objs.size f cdv)) (PyProof.Rows.envOfC "law" (defScope s_law) s.heap.objs.size f cdv) (ctx P w K mg base N_law "law" (defScope s_law) f cdv B outer s H E).xe := PassesOwn.leaving
  exact ⟨_, (simB_cons (sim_for hp rfl (simIf_enum ((simS_op O_cat hr.units (simR_var 0) ((simS_lst (simA_cons simD_int simA_nil))).r)).D T.n_enumerate) (simG_2 1 2 nd rfl (simG_N 1 nd) (simG_N 2 nd)) (simB_cons (sim_set 3 nd (((sim_callC C_law_spread (hr.mono (by decide)) xc0 (simA_cons (simD_var 2) (simA_cons (simD_op O_mod hr.units (simR_var 1) (simD_int).r) simA_nil)))).D).s)
  (simB_cons (sim_asg ((sim_callC C_law_pair (hr.mono (by decide)) xc0 (simA_cons (simD_var 2) (simA_cons (simD_op O_mod hr.units (simR_var 1) (simD_int).r) simA_nil)))).D (simG_2 4 5 nd rfl (simG_N 4 nd) (simG_N 5 nd)))
  (simB_cons (sim_if (simT_w (simW_or (simT_not (simT_val ((sim_callC C_law_term_right (hr.mono (by decide)) xc0 (simA_cons (simD_var 4) (simA_cons (simD_op O_div hr.units (simR_var 3) (simD_int).r) simA_nil)))).r)) (simW_or1 (simT_not (simT_val ((sim_callC C_law_term_right (hr.mono (by decide)) xc0 (simA_cons (simD_var 5) (simA_cons (simD_op O_div hr.units (simR_var 3) (simD_int).r) simA_nil)))).r))))) (simB_one (sim_ret (simD_bl).s)) simB_nil)
  (simB_cons (sim_set 6 nd (((sim_callC C_law_joined (hr.mono (by decide)) xc0 (simA_cons (simD_var 4) (simA_cons (simD_var 5) simA_nil)))).D).s)
  (simB_one (sim_if (simT_w (simW_or (simT_cmp O_ne hr.units ((sim_callC C_laid (hr.mono (by decide)) xc0 (simA_cons (simD_var 4) (simA_cons (simD_var 5) simA_nil)))).r (simR_var 6)) (simW_or1 (simT_cmp O_ne hr.units ((sim_callC C_laid (hr.mono (by decide)) xc0 (simA_cons (simD_var 5) (simA_cons (simD_var 4) simA_nil)))).r (simR_var 6))))) (simB_one (sim_ret (simD_bl).s)) simB_nil)))))))
  (simB_one (sim_ret (simD_bl).s)))⟩
theorem c_law {P : Program} {w : World} {K : PySem.W.Frag} {mg : Str → Option Value} {base : Heap} (T : Txt mg) (C_law_joined : CallOk P w K mg base "_law_joined" 1 ph_law_joined) (C_law_pair : CallOk P w K mg base "_law_pair" 3 ph_law_pair) (C_law_spread : CallOk P w K mg base "_law_spread" 1 ph_law_spread) (C_law_term_right : CallOk P w K mg base "_law_term_right" 4 ph_law_term_right) (C_laid : CallOk P w K mg base "laid" 2 ph_laid) {f : Addr} {fd : FuncData} (Fn : Fun K "law" "law" s_law f fd) (hm : mg "law" = some (.ref f)) : CallOk P w K mg base "law" 5 ph_law :=
  callOk (ps := ["_law_script"]) Fn hm sc_law ln_law (fun _ => p_law) (fun _ _ _ _ _ _ A _ hA hr _ => by obtain ⟨F0, N0, K0⟩ := A; cases hA; exact d_law T C_law_joined C_law_pair C_law_spread C_law_term_right C_laid hr) pu_law (fun _ _ _ _ _ _ us hl => match us, hl with | [_], _ => rfl)
theorem sp_law {K : PySem.W.Frag} {H : Hp} {a : Addr} {ns : List Int} (nl : noList K = true) (hl : ns.length ≤ 63) (hS : SqL K H a (ns.map V.int)) : spP K ph_law [.ref a] H (fun v _ => v = .bl true) fun _ _ _ => False := law_spec nl hS ⟨ns, rfl, hl, rfl⟩
theorem all_mk {l : PySem.W.OpenLaw} {w : World} {K : PySem.W.Frag} {h : Heap} {mg : Str → Option Value} {fa f1 f2 f3 f4 f5 f6 f7 f8 f9 f10 f11 f12 f13 f14 : Addr} (X : K.In h) (G : h.Ns mainGlobals mg) (hfa : mg "law" = some (.ref fa))
    {od1 an1 od2 an2 od3 an3 od4 an4 od5 an5 od6 an6 od7 an7 od8 an8 od9 an9 od10 an10 od11 an11 od12 an12 od13 an13 od14 an14 : Option Addr} {sl1 sl2 sl3 sl4 sl5 sl6 sl7 sl8 sl9 sl10 sl11 sl12 sl13 sl14 : Array (Option Value)} {oc1 kV1 dc1 pm1 cd1 ct1 oc2 kV2 dc2 pm2 cd2 ct2 oc3 kV3 dc3 pm3 cd3 ct3 oc4 kV4 dc4 pm4 cd4 ct4 oc5 kV5 dc5 pm5 cd5 ct5 oc6 kV6 dc6 pm6 cd6 ct6 oc7 kV7 dc7 pm7 cd7 ct7 oc8 kV8 dc8 pm8 cd8 ct8 oc9 kV9 dc9 pm9 cd9 ct9 oc10 kV10 dc10 pm10 cd10 ct10 oc11 kV11 dc11 pm11 cd11 ct11 oc12 kV12 dc12 pm12 cd12 ct12 oc13 kV13 dc13 pm13 cd13 ct13 oc14 kV14 dc14 pm14 cd14 ct14 : Value} {tk_SIGNS : Tok}
    (a1 : PySem.W.nsIn K mainGlobals "is_term" = some (some (.ref f1))) (l1 : K.lookup f1 = some ⟨oc1, od1, .func (PySem.W.fnOf "is_term" "is_term" (defArgs s_is_term) (defBody s_is_term) (defScope s_is_term) .none kV1 dc1 pm1 an1 cd1 ct1), sl1⟩) (c1 : PySem.W.codeIn K cd1 "is_term" = true) (k1 : PySem.W.keepIn K (.ref f1) = true)
    (a2 : PySem.W.nsIn K mainGlobals "sign_of" = some (some (.ref f2))) (l2 : K.lookup f2 = some ⟨oc2, od2, .func (PySem.W.fnOf "sign_of" "sign_of" (defArgs s_sign_of) (defBody s_sign_of) (defScope s_sign_of) .none kV2 dc2 pm2 an2 cd2 ct2), sl2⟩) (c2 : PySem.W.codeIn K cd2 "sign_of" = true) (k2 : PySem.W.keepIn K (.ref f2) = true)
    (a3 : PySem.W.nsIn K mainGlobals "has" = some (some (.ref f3))) (l3 : K.lookup f3 = some ⟨oc3, od3, .func (PySem.W.fnOf "has" "has" (defArgs s_has) (defBody s_has) (defScope s_has) .none kV3 dc3 pm3 an3 cd3 ct3), sl3⟩) (c3 : PySem.W.codeIn K cd3 "has" = true) (k3 : PySem.W.keepIn K (.ref f3) = true)
    (a4 : PySem.W.nsIn K mainGlobals "settings_of" = some (some (.ref f4))) (l4 : K.lookup f4 = some ⟨oc4, od4, .func (PySem.W.fnOf "settings_of" "settings_of" (defArgs s_settings_of) (defBody s_settings_of) (defScope s_settings_of) .none kV4 dc4 pm4 an4 cd4 ct4), sl4⟩) (c4 : PySem.W.codeIn K cd4 "settings_of" = true) (k4 : PySem.W.keepIn K (.ref f4) = true)
    (a5 : PySem.W.nsIn K mainGlobals "freed" = some (some (.ref f5))) (l5 : K.lookup f5 = some ⟨oc5, od5, .func (PySem.W.fnOf "freed" "freed" (defArgs s_freed) (defBody s_freed) (defScope s_freed) .none kV5 dc5 pm5 an5 cd5 ct5), sl5⟩) (c5 : PySem.W.codeIn K cd5 "freed" = true) (k5 : PySem.W.keepIn K (.ref f5) = true)
    (a6 : PySem.W.nsIn K mainGlobals "laid" = some (some (.ref f6))) (l6 : K.lookup f6 = some ⟨oc6, od6, .func (PySem.W.fnOf "laid" "laid" (defArgs s_laid) (defBody s_laid) (defScope s_laid) .none kV6 dc6 pm6 an6 cd6 ct6), sl6⟩) (c6 : PySem.W.codeIn K cd6 "laid" = true) (k6 : PySem.W.keepIn K (.ref f6) = true)
    (a7 : PySem.W.nsIn K mainGlobals "_law_spread" = some (some (.ref f7))) (l7 : K.lookup f7 = some ⟨oc7, od7, .func (PySem.W.fnOf "_law_spread" "_law_spread" (defArgs s_law_spread) (defBody s_law_spread) (defScope s_law_spread) .none kV7 dc7 pm7 an7 cd7 ct7), sl7⟩) (c7 : PySem.W.codeIn K cd7 "_law_spread" = true) (k7 : PySem.W.keepIn K (.ref f7) = true)
    (a8 : PySem.W.nsIn K mainGlobals "_law_agrees" = some (some (.ref f8))) (l8 : K.lookup f8 = some ⟨oc8, od8, .func (PySem.W.fnOf "_law_agrees" "_law_agrees" (defArgs s_law_agrees) (defBody s_law_agrees) (defScope s_law_agrees) .none kV8 dc8 pm8 an8 cd8 ct8), sl8⟩) (c8 : PySem.W.codeIn K cd8 "_law_agrees" = true) (k8 : PySem.W.keepIn K (.ref f8) = true)
    (a9 : PySem.W.nsIn K mainGlobals "_law_bent" = some (some (.ref f9))) (l9 : K.lookup f9 = some ⟨oc9, od9, .func (PySem.W.fnOf "_law_bent" "_law_bent" (defArgs s_law_bent) (defBody s_law_bent) (defScope s_law_bent) .none kV9 dc9 pm9 an9 cd9 ct9), sl9⟩) (c9 : PySem.W.codeIn K cd9 "_law_bent" = true) (k9 : PySem.W.keepIn K (.ref f9) = true)
    (a10 : PySem.W.nsIn K mainGlobals "_law_pair" = some (some (.ref f10))) (l10 : K.lookup f10 = some ⟨oc10, od10, .func (PySem.W.fnOf "_law_pair" "_law_pair" (defArgs s_law_pair) (defBody s_law_pair) (defScope s_law_pair) .none kV10 dc10 pm10 an10 cd10 ct10), sl10⟩) (c10 : PySem.W.codeIn K cd10 "_law_pair" = true) (k10 : PySem.W.keepIn K (.ref f10) = true)
    (a11 : PySem.W.nsIn K mainGlobals "_law_joined" = some (some (.ref f11))) (l11 : K.lookup f11 = some ⟨oc11, od11, .func (PySem.W.fnOf "_law_joined" "_law_joined" (defArgs s_law_joined) (defBody s_law_joined) (defScope s_law_joined) .none kV11 dc11 pm11 an11 cd11 ct11), sl11⟩) (c11 : PySem.W.codeIn K cd11 "_law_joined" = true) (k11 : PySem.W.keepIn K (.ref f11) = true)
    (a12 : PySem.W.nsIn K mainGlobals "_law_odd" = some (some (.ref f12))) (l12 : K.lookup f12 = some ⟨oc12, od12, .func (PySem.W.fnOf "_law_odd" "_law_odd" (defArgs s_law_odd) (defBody s_law_odd) (defScope s_law_odd) .none kV12 dc12 pm12 an12 cd12 ct12), sl12⟩) (c12 : PySem.W.codeIn K cd12 "_law_odd" = true) (k12 : PySem.W.keepIn K (.ref f12) = true)
    (a13 : PySem.W.nsIn K mainGlobals "_law_term_right" = some (some (.ref f13))) (l13 : K.lookup f13 = some ⟨oc13, od13, .func (PySem.W.fnOf "_law_term_right" "_law_term_right" (defArgs s_law_term_right) (defBody s_law_term_right) (defScope s_law_term_right) .none kV13 dc13 pm13 an13 cd13 ct13), sl13⟩) (c13 : PySem.W.codeIn K cd13 "_law_term_right" = true) (k13 : PySem.W.keepIn K (.ref f13) = true)
    (a14 : PySem.W.nsIn K mainGlobals "law" = some (some (.ref f14))) (l14 : K.lookup f14 = some ⟨oc14, od14, .func (PySem.W.fnOf "law" "law" (defArgs s_law) (defBody s_law) (defScope s_law) .none kV14 dc14 pm14 an14 cd14 ct14), sl14⟩) (c14 : PySem.W.codeIn K cd14 "law" = true) (k14 : PySem.W.keepIn K (.ref f14) = true)
    (z_all : PySem.W.nsIn K mainGlobals "all" = some none)
    (z_bool : PySem.W.nsIn K mainGlobals "bool" = some none)
    (z_enumerate : PySem.W.nsIn K mainGlobals "enumerate" = some none)
    (z_int : PySem.W.nsIn K mainGlobals "int" = some none)
    (z_isinstance : PySem.W.nsIn K mainGlobals "isinstance" = some none)
    (z_len : PySem.W.nsIn K mainGlobals "len" = some none)
    (z_list : PySem.W.nsIn K mainGlobals "list" = some none)
    (z_range : PySem.W.nsIn K mainGlobals "range" = some none)
    (z_sorted : PySem.W.nsIn K mainGlobals "sorted" = some none)
    (z_str : PySem.W.nsIn K mainGlobals "str" = some none)
    (q_SIGNS : PySem.W.nsIn K mainGlobals "SIGNS" = some (some (.str "01-" tk_SIGNS)))
    : ∃ fd : FuncData, (∀ (s : Shared) (v : Value), BindsTo s fd ⟨[v], []⟩ [("_law_script", v)]) ∧ ∀ base : Heap, K.In base → base.Ns mainGlobals mg → FnOk l.prog w K mg base (L2.CX l.prog w) 5 fa fd ["_law_script"] (spP K ph_law) := by
  have e := hfa.symm.trans (PySem.W.mg_of X G a14)
  cases e
  have T : Txt mg := ⟨PySem.W.mg_none_of X G z_all, PySem.W.mg_none_of X G z_bool, PySem.W.mg_none_of X G z_enumerate, PySem.W.mg_none_of X G z_int, PySem.W.mg_none_of X G z_isinstance, PySem.W.mg_none_of X G z_len, PySem.W.mg_none_of X G z_list, PySem.W.mg_none_of X G z_range, PySem.W.mg_none_of X G z_sorted, PySem.W.mg_none_of X G z_str, ⟨_, PySem.W.mg_of X G q_SIGNS⟩⟩
  have F1 := fun_mk (st := s_is_term) l1 c1 k1
  have F2 := fun_mk (st := s_sign_of) l2 c2 k2
  have F3 := fun_mk (st := s_has) l3 c3 k3
  have F4 := fun_mk (st := s_settings_of) l4 c4 k4
  have F5 := fun_mk (st := s_freed) l5 c5 k5
  have F6 := fun_mk (st := s_laid) l6 c6 k6
  have F7 := fun_mk (st := s_law_spread) l7 c7 k7
  have F8 := fun_mk (st := s_law_agrees) l8 c8 k8
  have F9 := fun_mk (st := s_law_bent) l9 c9 k9
  have F10 := fun_mk (st := s_law_pair) l10 c10 k10
  have F11 := fun_mk (st := s_law_joined) l11 c11 k11
  have F12 := fun_mk (st := s_law_odd) l12 c12 k12
  have F13 := fun_mk (st := s_law_term_right) l13 c13 k13
  have F14 := fun_mk (st := s_law) l14 c14 k14
  refine ⟨PySem.W.fnOf "law" "law" (defArgs s_law) (defBody s_law) (defScope s_law) .none kV14 dc14 pm14 an14 cd14 ct14, fun s v => .of_eq rfl, fun base _ _ => ?_⟩
  have C_is_term := c_is_term (P := l.prog) (w := w) (base := base) T  F1 (PySem.W.mg_of X G a1)
  have C_sign_of := c_sign_of (P := l.prog) (w := w) (base := base) T  F2 (PySem.W.mg_of X G a2)
  have C_has := c_has (P := l.prog) (w := w) (base := base) T C_sign_of F3 (PySem.W.mg_of X G a3)
  have C_settings_of := c_settings_of (P := l.prog) (w := w) (base := base) T C_has F4 (PySem.W.mg_of X G a4)
  have C_freed := c_freed (P := l.prog) (w := w) (base := base) T  F5 (PySem.W.mg_of X G a5)
  have C_laid := c_laid (P := l.prog) (w := w) (base := base) T C_freed F6 (PySem.W.mg_of X G a6)
  have C_law_spread := c_law_spread (P := l.prog) (w := w) (base := base) T  F7 (PySem.W.mg_of X G a7)
  have C_law_agrees := c_law_agrees (P := l.prog) (w := w) (base := base) T  F8 (PySem.W.mg_of X G a8)
  have C_law_bent := c_law_bent (P := l.prog) (w := w) (base := base) T C_law_spread F9 (PySem.W.mg_of X G a9)
  have C_law_pair := c_law_pair (P := l.prog) (w := w) (base := base) T C_law_bent C_law_spread F10 (PySem.W.mg_of X G a10)
  have C_law_joined := c_law_joined (P := l.prog) (w := w) (base := base) T  F11 (PySem.W.mg_of X G a11)
  have C_law_odd := c_law_odd (P := l.prog) (w := w) (base := base) T  F12 (PySem.W.mg_of X G a12)
  have C_law_term_right := c_law_term_right (P := l.prog) (w := w) (base := base) T C_law_agrees C_law_odd C_freed C_has C_is_term C_settings_of F13 (PySem.W.mg_of X G a13)
  exact okP F14 sc_law ln_law (fun _ => p_law) (fun _ _ _ _ _ _ A _ hA hr _ => by obtain ⟨F0, N0, K0⟩ := A; cases hA; exact d_law T C_law_joined C_law_pair C_law_spread C_law_term_right C_laid hr) pu_law
theorem walk {l : PySem.W.OpenLaw} {q : Program} {loose : List Str} {XP : (Str → Option Value) → Heap → Prop} {YP : World → Heap → Prop} {d : DefRec} {K : Params → PySem.W.Frag} (hn : l.most = some 63) (hdf : d.params.defaults = [])
    (hY : ∀ (w : World) (h : Heap), YP w h → (K w.params).In h) (nl : ∀ w : World, noList (K w.params) = true)
    (F : ∀ (w : World) (mg : Str → Option Value) (fa : Addr) (h : Heap), (K w.params).In h → h.Ns mainGlobals mg → mg d.name = some (.ref fa) →
      ∃ fd : FuncData, (∀ (s : Shared) (u : Value), BindsTo s fd ⟨[u], []⟩ [("_law_script", u)]) ∧ ∀ base : Heap, (K w.params).In base → base.Ns mainGlobals mg → FnOk l.prog w (K w.params) mg base (L2.CX l.prog w) 5 fa fd ["_law_script"] (spP (K w.params) ph_law)) :
    PySem.W.WalkO q loose XP YP l.row.toRowW d [] (fun f vs => PySem.call f vs) :=
  L2.walk_of (n := 63) (k := 5) (x := "_law_script") (CX := fun w => L2.CX l.prog w) (sp := fun w => spP (K w.params) ph_law) hn (by decide) hdf ⟨rfl, by decide, by decide⟩ hY F (fun w H a ns hl _ hS => sp_law (nl w) hl hS) fun _ _ _ _ _ z => cx_no z
end Pu
open PySem PySem.W PyProof.Rows
set_option maxRecDepth 100000 in
set_option maxHeartbeats 0 in
theorem PySem.Challenge.cw_fewterms_k01_terms_holds : PySem.Challenge.rw_fewterms_k01_terms.Holds := by
  w_on; o_law; k_head; (case hw => w_witness2)
  k_fill
  refine Pu.walk (l := PySem.Challenge.rw_fewterms_k01_terms) rfl rfl (fun w h Y => PySem.W.kIn_of Y) (fun w => by kernel_rfl) ?F
  case F =>
    intro w mg fa h KX G hmg
    refine' Pu.all_mk KX G hmg ?a1 ?l1 ?c1 ?k1 ?a2 ?l2 ?c2 ?k2 ?a3 ?l3 ?c3 ?k3 ?a4 ?l4 ?c4 ?k4 ?a5 ?l5 ?c5 ?k5 ?a6 ?l6 ?c6 ?k6 ?a7 ?l7 ?c7 ?k7 ?a8 ?l8 ?c8 ?k8 ?a9 ?l9 ?c9 ?k9 ?a10 ?l10 ?c10 ?k10 ?a11 ?l11 ?c11 ?k11 ?a12 ?l12 ?c12 ?k12 ?a13 ?l13 ?c13 ?k13 ?a14 ?l14 ?c14 ?k14 ?z_all ?z_bool ?z_enumerate ?z_int ?z_isinstance ?z_len ?z_list ?z_range ?z_sorted ?z_str ?q_SIGNS
    (case a1 => k_is); (case l1 => k_is); (case c1 => k_is); (case k1 => k_is)
    (case a2 => k_is); (case l2 => k_is); (case c2 => k_is); (case k2 => k_is)
    (case a3 => k_is); (case l3 => k_is); (case c3 => k_is); (case k3 => k_is)
    (case a4 => k_is); (case l4 => k_is); (case c4 => k_is); (case k4 => k_is)
    (case a5 => k_is); (case l5 => k_is); (case c5 => k_is); (case k5 => k_is)
    (case a6 => k_is); (case l6 => k_is); (case c6 => k_is); (case k6 => k_is)
    (case a7 => k_is); (case l7 => k_is); (case c7 => k_is); (case k7 => k_is)
    (case a8 => k_is); (case l8 => k_is); (case c8 => k_is); (case k8 => k_is)
    (case a9 => k_is); (case l9 => k_is); (case c9 => k_is); (case k9 => k_is)
    (case a10 => k_is); (case l10 => k_is); (case c10 => k_is); (case k10 => k_is)
    (case a11 => k_is); (case l11 => k_is); (case c11 => k_is); (case k11 => k_is)
    (case a12 => k_is); (case l12 => k_is); (case c12 => k_is); (case k12 => k_is)
    (case a13 => k_is); (case l13 => k_is); (case c13 => k_is); (case k13 => k_is)
    (case a14 => k_is); (case l14 => k_is); (case c14 => k_is); (case k14 => k_is)
    (case z_all => k_is); (case z_bool => k_is); (case z_enumerate => k_is); (case z_int => k_is); (case z_isinstance => k_is); (case z_len => k_is); (case z_list => k_is); (case z_range => k_is); (case z_sorted => k_is); (case z_str => k_is); (case q_SIGNS => k_is)
#print axioms PySem.Challenge.cw_fewterms_k01_terms_holds
