import PyProof.Rows.All
import Wide.All
import OpenK.AllK
import Wide.FinOn
import HandS.ForMost
import HandS.Exc
import HandS.TryOnly
import HandS.ExcOwn
import HandS.WordsExc
import HandS.IsInst
import HandS.TupLe
import HandS.Walk
import PyProof.Draws
import PyProof.EnumMake
import PyProof.Rows.ListStrD
import PyProof.Rows.SortShellAny
import HandS.SortInts
import KE.BitLaws
import HandS.ExcValue
import HandS.ExcIs
import PyProof.StrBlock2
import PyProof.Rows.SetFrom
import KE.KExcIs
import HandS.Defaults
import HandS.TupMul
import PyProof.ListRange
import KE.KDictCopyH
import HandS.Style
import HandS.SortKw
import HandS.OwnEq
import HandS.OwnIter
import HandS.Keys
import HandS.Slots
import HandS.More
import KE.KSortKeySt
import KE.KMinKey
import HandS.ExcInit
import OpenK.KCls
import HandS.ExcField
import PySem.Challenge.RW_fewterms_k09_notes_refused
set_option Elab.async false
set_option linter.all false
set_option maxRecDepth 100000
set_option maxHeartbeats 4000000
/-! The pure layer, part A: data, what represents it, the two heaps, the slots, the judgements. -/
namespace Pu
open PySem L2

/-! ### two lists side by side -/
inductive All2 {α β : Type} (R : α → β → Prop) : List α → List β → Prop
  | nil : All2 R [] []
  | cons {a : α} {b : β} {as : List α} {bs : List β} : R a b → All2 R as bs → All2 R (a :: as) (b :: bs)
namespace All2
variable {α β : Type} {R S : α → β → Prop}
theorem len {as : List α} {bs : List β} (h : All2 R as bs) : as.length = bs.length := by
  induction h with
  | nil => rfl
  | cons _ _ ih => simp [ih]
theorem imp {as : List α} {bs : List β} (h : All2 R as bs) (f : ∀ a b, R a b → S a b) : All2 S as bs := by
  induction h with
  | nil => exact .nil
  | cons r _ ih => exact .cons (f _ _ r) ih
theorem app {as as' : List α} {bs bs' : List β} (h : All2 R as bs) (h' : All2 R as' bs') : All2 R (as ++ as') (bs ++ bs') := by
  induction h with
  | nil => exact h'
  | cons r _ ih => exact .cons r ih
theorem get {as : List α} {bs : List β} (h : All2 R as bs) : ∀ {i : Nat} {a : α}, as[i]? = some a → ∃ b, bs[i]? = some b ∧ R a b := by
  induction h with
  | nil => intro i a e; simp at e
  | cons r _ ih =>
    intro i a e
    cases i with
    | zero => simp at e; subst e; exact ⟨_, rfl, r⟩
    | succ i => simp at e; obtain ⟨b, h1, h2⟩ := ih e; exact ⟨b, by simpa using h1, h2⟩
theorem get' {as : List α} {bs : List β} (h : All2 R as bs) : ∀ {i : Nat} {b : β}, bs[i]? = some b → ∃ a, as[i]? = some a ∧ R a b := by
  induction h with
  | nil => intro i a e; simp at e
  | cons r _ ih =>
    intro i a e
    cases i with
    | zero => simp at e; subst e; exact ⟨_, rfl, r⟩
    | succ i => simp at e; obtain ⟨b, h1, h2⟩ := ih e; exact ⟨b, by simpa using h1, h2⟩
theorem tk {as : List α} {bs : List β} (h : All2 R as bs) : ∀ n : Nat, All2 R (as.take n) (bs.take n) := by
  induction h with
  | nil => intro n; simp; exact .nil
  | cons r _ ih =>
    intro n
    cases n with
    | zero => exact .nil
    | succ n => exact .cons r (ih n)
theorem dr {as : List α} {bs : List β} (h : All2 R as bs) : ∀ n : Nat, All2 R (as.drop n) (bs.drop n) := by
  induction h with
  | nil => intro n; simp; exact .nil
  | cons r t ih =>
    intro n
    cases n with
    | zero => exact .cons r t
    | succ n => exact ih n
theorem st {as : List α} {bs : List β} (h : All2 R as bs) {a : α} {b : β} (r : R a b) : ∀ n : Nat, All2 R (as.set n a) (bs.set n b) := by
  induction h with
  | nil => intro n; exact .nil
  | cons q t ih =>
    intro n
    cases n with
    | zero => exact .cons r t
    | succ n => exact .cons q (ih n)
theorem rev {as : List α} {bs : List β} (h : All2 R as bs) : All2 R as.reverse bs.reverse := by
  induction h with
  | nil => exact .nil
  | cons r _ ih => rw [List.reverse_cons, List.reverse_cons]; exact ih.app (.cons r .nil)
theorem er {as : List α} {bs : List β} (h : All2 R as bs) : ∀ n : Nat, All2 R (as.eraseIdx n) (bs.eraseIdx n) := by
  induction h with
  | nil => intro n; exact .nil
  | cons q t ih =>
    intro n
    cases n with
    | zero => exact t
    | succ n => exact .cons q (ih n)
theorem maps {γ : Type} {f : γ → α} {g : γ → β} : ∀ {l : List γ}, (∀ c ∈ l, R (f c) (g c)) → All2 R (l.map f) (l.map g)
  | [], _ => .nil
  | c :: l, h => .cons (h c List.mem_cons_self) (maps fun d hd => h d (List.mem_cons_of_mem _ hd))
/-- from a function on the left -/
theorem eqMap {γ : Type} {f : γ → α} {g : γ → β} (hR : ∀ c b, R (f c) b → b = g c) : ∀ {l : List γ} {bs : List β}, All2 R (l.map f) bs → bs = l.map g
  | [], _, .nil => rfl
  | c :: l, _, .cons r t => by rw [hR c _ r, eqMap hR t]; rfl
end All2

/-! ### data -/
/-- an exception: of an own class, one that tells a row too -/
inductive XD where
  | own (k : Nat) | row (k : Nat) (n : Int)
/-- the names of the classes of errors -/
def errN (k : Nat) : Str := (["BadCount", "BadRows", "BadTerm", "BadTelling", "BadNote"] : List Str).getD k ""
/-- where the module's class of that name stands -/
def clsA (K : PySem.W.Frag) (x : Str) : Addr := match PySem.W.nsIn K mainGlobals x with
  | some (some (.ref C)) => C
  | _ => 0
/-- an exception object that was caught -/
def ExV (cls : Value) (d : Option Addr) (a : Addr) : HO := .ext fun h => ∃ (oe : Obj) (vs : Array Value), h.get? a = some oe ∧ Zc cls d oe ∧ oe.data = .fields vs
def RepX (K : PySem.W.Frag) (H : Hp) : XD → Value → Option Addr → Prop
  | .own k, cls, d => cls = .ref (clsA K (errN k)) ∧ d = none
  | .row k n, cls, d => cls = .ref (clsA K (errN k)) ∧ ∃ (dd : Addr) (fs : List (Str × V)), d = some dd ∧ H dd = some (.xd fs) ∧ fs.lookup ("row" : Str) = some (V.int n)
inductive D where
  | non | bl (b : Bool) | int (i : Int) | str (z : List Nat) | lst (xs : List D) | tup (xs : List D)
  | dct (kvs : List (Key × D)) | obj (C : Str) (fs : List (Str × D)) | exc (x : XD) | ptr (a : Addr)

inductive Rep (K : PySem.W.Frag) (F : Hp) : D → V → Prop
  | non : Rep K F .non .non
  | bl (b : Bool) : Rep K F (.bl b) (.bl b)
  | int (i : Int) : Rep K F (.int i) (.int i)
  | str (z : List Nat) : Rep K F (.str z) (.str ⟨z.toArray⟩)
  | lst {a : Addr} {vs : List V} {ds : List D} (h : Rd F a (.lst vs)) (r : All2 (Rep K F) ds vs) : Rep K F (.lst ds) (.ref a)
  | tup {a : Addr} {vs : List V} {ds : List D} (h : SqT K F a vs) (r : All2 (Rep K F) ds vs) : Rep K F (.tup ds) (.ref a)
  | dct {a : Addr} {us : List (Key × V)} {kvs : List (Key × D)} (h : F a = some (.dK us)) (e : us.map (·.1) = kvs.map (·.1)) (r : All2 (Rep K F) (kvs.map (·.2)) (us.map (·.2))) : Rep K F (.dct kvs) (.ref a)
  | obj {a dx : Addr} {C : Str} {us : List (Str × V)} {fs : List (Str × D)} (h : F a = some (.ins (clsA K C) dx us)) (e : us.map (·.1) = fs.map (·.1)) (r : All2 (Rep K F) (fs.map (·.2)) (us.map (·.2))) : Rep K F (.obj C fs) (.ref a)
  | exc {a : Addr} {x : XD} {cls : Value} {d : Option Addr} (h : F a = some (ExV cls d a)) (r : RepX K F x cls d) : Rep K F (.exc x) (.ref a)
  | ptr (a : Addr) : Rep K F (.ptr a) (.ref a)

abbrev Reps (K : PySem.W.Frag) (F : Hp) : List D → List V → Prop := All2 (Rep K F)

section
variable {K : PySem.W.Frag} {F F' H H' H0 : Hp}
theorem sq_mono {a : Addr} {u : HO} (e : Same F F') (h : Rd F a u) : Rd F' a u := by
  rcases h with h | ⟨o, h⟩
  · exact .inl (e _ _ h)
  · exact .inr ⟨o, e _ _ h⟩
theorem st_mono {a : Addr} {xs : List V} (e : Same F F') (h : SqT K F a xs) : SqT K F' a xs := by
  rcases h with (h | ⟨o, h⟩) | h
  · exact .inl (.inl (e _ _ h))
  · exact .inl (.inr ⟨o, e _ _ h⟩)
  · exact .inr h
theorem RepX.mono (e : Same F F') {x : XD} {cls : Value} {d : Option Addr} (h : RepX K F x cls d) : RepX K F' x cls d := by
  cases x with
  | own C => exact h
  | row C n => obtain ⟨h1, dd, fs, h2, h3, h4⟩ := h; exact ⟨h1, dd, fs, h2, e _ _ h3, h4⟩
mutual
theorem Rep.mono (e : Same F F') : ∀ (d : D) (v : V), Rep K F d v → Rep K F' d v
  | _, _, .non => .non
  | _, _, .bl b => .bl b
  | _, _, .int i => .int i
  | _, _, .str z => .str z
  | .lst ds, _, .lst h r => .lst (sq_mono e h) (Reps.mono e ds _ r)
  | .tup ds, _, .tup h r => .tup (st_mono e h) (Reps.mono e ds _ r)
  | .dct kvs, _, .dct h q r => .dct (e _ _ h) q (RepsK.mono e kvs _ r)
  | .obj _ fs, _, .obj h q r => .obj (e _ _ h) q (RepsF.mono e fs _ r)
  | .exc _, _, .exc h r => .exc (e _ _ h) (r.mono e)
  | .ptr _, _, .ptr a => .ptr a
theorem Reps.mono (e : Same F F') : ∀ (ds : List D) (vs : List V), Reps K F ds vs → Reps K F' ds vs
  | [], _, .nil => .nil
  | d :: ds, _, .cons r t => .cons (Rep.mono e d _ r) (Reps.mono e ds _ t)
theorem RepsK.mono (e : Same F F') : ∀ (kvs : List (Key × D)) (vs : List V), Reps K F (kvs.map (·.2)) vs → Reps K F' (kvs.map (·.2)) vs
  | [], _, .nil => .nil
  | (_, d) :: ds, _, .cons r t => .cons (Rep.mono e d _ r) (RepsK.mono e ds _ t)
theorem RepsF.mono (e : Same F F') : ∀ (kvs : List (Str × D)) (vs : List V), Reps K F (kvs.map (·.2)) vs → Reps K F' (kvs.map (·.2)) vs
  | [], _, .nil => .nil
  | (_, d) :: ds, _, .cons r t => .cons (Rep.mono e d _ r) (RepsF.mono e ds _ t)
end

/-! ### data as the library's data -/
mutual
def D.py : D → PyData
  | .non => .none
  | .bl b => .bool b
  | .int i => .int i
  | .str z => .str ⟨z.toArray⟩
  | .lst ds => .list (D.pys ds)
  | .tup ds => .tuple (D.pys ds)
  | .dct _ => .none
  | .obj _ _ => .none
  | .exc _ => .none
  | .ptr _ => .none
def D.pys : List D → List PyData
  | [] => []
  | d :: ds => d.py :: D.pys ds
end
mutual
/-- no dict, no instance within; at most so deep; texts within bounds -/
def D.flat : Nat → D → Prop
  | _, .non => True
  | _, .bl _ => True
  | _, .int _ => True
  | _, .str z => z.length ≤ 100000 ∧ ∀ c ∈ z, c < 1114112
  | n + 1, .lst ds => D.flats n ds
  | n + 1, .tup ds => D.flats n ds
  | 0, .lst _ => False
  | 0, .tup _ => False
  | _, .dct _ => False
  | _, .obj _ _ => False
  | _, .exc _ => False
  | _, .ptr _ => False
def D.flats : Nat → List D → Prop
  | _, [] => True
  | n, d :: ds => D.flat n d ∧ D.flats n ds
end

mutual
theorem dp_of {n : Nat} : ∀ (d : D) (v : V), Rep K F d v → D.flat n d → Dp K F v d.py
  | _, _, .non, _ => .non
  | _, _, .bl b, _ => .bl b
  | _, _, .int i, _ => .int i
  | _, _, .str z, _ => .str _
  | .lst ds, _, .lst h r, f => by
    cases n with
    | zero => exact absurd f (by simp [D.flat])
    | succ n => exact .lst (.inl h) (dps_of ds _ r (show D.flats n ds from f))
  | .tup ds, _, .tup h r, f => by
    cases n with
    | zero => exact absurd f (by simp [D.flat])
    | succ n => exact .tup h (dps_of ds _ r (show D.flats n ds from f))
  | .dct kvs, _, .dct h q r, f => absurd f (by simp [D.flat])
  | .obj _ fs, _, .obj h q r, f => absurd f (by simp [D.flat])
  | .exc _, _, .exc h r, f => absurd f (by simp [D.flat])
  | .ptr _, _, .ptr _, f => absurd f (by simp [D.flat])
theorem dps_of {n : Nat} : ∀ (ds : List D) (vs : List V), Reps K F ds vs → D.flats n ds → DpAll K F vs (D.pys ds)
  | [], _, .nil, _ => .nil
  | d :: ds, _, .cons r t, f => .cons (dp_of d _ r f.1) (dps_of ds _ t f.2)
end
mutual
theorem lay_of {n : Nat} : ∀ (d : D), D.flat n d → d.py.canLay0 = true ∧ d.py.depth ≤ n
  | .non, _ => ⟨rfl, Nat.zero_le _⟩
  | .bl b, _ => ⟨rfl, Nat.zero_le _⟩
  | .int i, _ => ⟨rfl, Nat.zero_le _⟩
  | .str z, f => ⟨by
      show PySem.PyData.strOk ⟨z.toArray⟩ = true
      unfold PySem.PyData.strOk
      rw [Array.all_eq_true]
      intro i hi
      have := f.2 (z.toArray[i]) (by simp)
      simpa using this, Nat.zero_le _⟩
  | .lst ds, f => by
    cases n with
    | zero => exact absurd f (by simp [D.flat])
    | succ n =>
      have q := lays_of ds (show D.flats n ds from f)
      exact ⟨q.1, Nat.succ_le_succ q.2⟩
  | .tup ds, f => by
    cases n with
    | zero => exact absurd f (by simp [D.flat])
    | succ n =>
      have q := lays_of ds (show D.flats n ds from f)
      exact ⟨q.1, Nat.succ_le_succ q.2⟩
  | .dct kvs, f => absurd f (by simp [D.flat])
  | .obj _ fs, f => absurd f (by simp [D.flat])
  | .exc _, f => absurd f (by simp [D.flat])
  | .ptr _, f => absurd f (by simp [D.flat])
theorem lays_of {n : Nat} : ∀ (ds : List D), D.flats n ds → PySem.PyData.canLayAll0 (D.pys ds) = true ∧ PySem.PyData.depthAll (D.pys ds) ≤ n
  | [], _ => ⟨rfl, Nat.zero_le _⟩
  | d :: ds, f => by
    have a := lay_of d f.1
    have b := lays_of ds f.2
    refine ⟨?_, Nat.max_le.mpr ⟨a.2, b.2⟩⟩
    show (PySem.PyData.canLay0 d.py && PySem.PyData.canLayAll0 (D.pys ds)) = true
    rw [a.1, b.1]
    rfl
end
theorem shaped_of {d : D} (f : D.flat 60 d) : SeqAt.shaped d.py = true := by
  have q := lay_of d f
  show (d.py.canLay0 && decide (d.py.depth ≤ 64)) = true
  rw [q.1, decide_eq_true (Nat.le_trans q.2 (by decide))]
  rfl

/-! ### the two heaps: F holds the data, H all that is tracked -/
structure Wld (F0 H0 F H : Hp) : Prop where
  ff : Same F0 F
  hh : Same H0 H
  fh : Same F H
  nw : ∀ a o, F a = some o → F0 a = some o ∨ H0 a = none
theorem Wld.refl (e : Same F H) : Wld F H F H := ⟨Same.refl _, Same.refl _, e, fun _ _ h => .inl h⟩
theorem same_none {a : Addr} (e : Same H H') (h : H' a = none) : H a = none := e.free h
theorem Wld.trans {F0 H0 F1 H1 F2 H2 : Hp} (a : Wld F0 H0 F1 H1) (b : Wld F1 H1 F2 H2) : Wld F0 H0 F2 H2 :=
  ⟨a.ff.trans b.ff, a.hh.trans b.hh, b.fh, fun x o h => by
    rcases b.nw x o h with h | h
    · exact a.nw x o h
    · exact .inr (same_none a.hh h)⟩
/-- an address that is tracked but is no data stays so -/
theorem Wld.stay {F0 H0 F H : Hp} (w : Wld F0 H0 F H) {a : Addr} {o : HO} (f : F0 a = none) (h : H0 a = some o) : F a = none := by
  cases e : F a with
  | none => rfl
  | some u =>
    rcases w.nw a u e with z | z
    · rw [f] at z; cases z
    · rw [h] at z; cases z
/-- a new object that nobody holds as data -/
theorem Wld.new {F0 H0 F H : Hp} (w : Wld F0 H0 F H) {p : Addr} {o : HO} (n : H p = none) : Wld F0 H0 F (upd H p o) :=
  ⟨w.ff, fun a u e => by rw [upd_ne (ne_of_none (w.hh a u e) n)]; exact w.hh a u e, fun a u e => by rw [upd_ne (ne_of_none (w.fh a u e) n)]; exact w.fh a u e, w.nw⟩
/-- an owned object becomes data -/
theorem Wld.freeze {F0 H0 F H : Hp} (w : Wld F0 H0 F H) {p : Addr} {o : HO} (f : F p = none) (h : H p = some o) (n : H0 p = none) : Wld F0 H0 (upd F p o) H := by
  have e1 : Same F (upd F p o) := fun a u e => by rw [upd_ne (ne_of_none e f)]; exact e
  refine ⟨w.ff.trans e1, w.hh, fun a u e => ?_, fun a u e => ?_⟩
  · by_cases z : a = p
    · subst z; rw [upd_same] at e; cases e; exact h
    · rw [upd_ne z] at e; exact w.fh a u e
  · by_cases z : a = p
    · subst z; exact .inr n
    · rw [upd_ne z] at e; exact w.nw a u e
/-- an owned object changes -/
theorem Wld.write {F0 H0 F H : Hp} (w : Wld F0 H0 F H) {p : Addr} {o : HO} (f : F p = none) (n : H0 p = none) : Wld F0 H0 F (upd H p o) :=
  ⟨w.ff, fun a u e => by rw [upd_ne (ne_of_none e n)]; exact w.hh a u e, fun a u e => by rw [upd_ne (ne_of_none e f)]; exact w.fh a u e, w.nw⟩
theorem same_upd {p : Addr} {o : HO} (n : F p = none) : Same F (upd F p o) := fun a u e => by rw [upd_ne (ne_of_none e n)]; exact e

/-! ### the slots -/
/-- what a name holds: data, or a list, a dict of its own that may change -/
inductive SV where
  | dat (d : D) | own (ds : List D) | ownK (kvs : List (Key × D))
def SV.d : SV → D
  | .dat d => d
  | .own ds => .lst ds
  | .ownK kvs => .dct kvs
abbrev DS := List (Option SV)

/-- v is s, owned things standing at an address that N doesn't know -/
def RepS (K : PySem.W.Frag) (N F H : Hp) : SV → V → Prop
  | .dat d, v => Rep K F d v
  | .own ds, v => ∃ l vs, v = .ref l ∧ H l = some (.lst vs) ∧ F l = none ∧ N l = none ∧ Reps K F ds vs
  | .ownK kvs, v => ∃ l us, v = .ref l ∧ H l = some (.dK us) ∧ F l = none ∧ N l = none ∧ us.map (·.1) = kvs.map (·.1) ∧ Reps K F (kvs.map (·.2)) (us.map (·.2))
def SV.mut : SV → Bool
  | .dat _ => false
  | _ => true
structure StOk (K : PySem.W.Frag) (H0 F H : Hp) (σ : L2.St) (st : DS) : Prop where
  len : st.length = σ.length
  at_ : ∀ (i : Nat) (s : SV), st[i]? = some (some s) → ∃ v, σ[i]? = some (some v) ∧ RepS K H0 F H s v
  apart : ∀ (i j : Nat) (s t : SV) (v : V), i ≠ j → st[i]? = some (some s) → st[j]? = some (some t) → s.mut = true → t.mut = true → σ[i]? = some (some v) → σ[j]? = some (some v) → False
theorem RepS.mono {N : Hp} {s : SV} {v : V} (w : Wld F H F' H') (h : RepS K N F H s v) : RepS K N F' H' s v := by
  cases s with
  | dat d => exact Rep.mono w.ff d v h
  | own ds =>
    obtain ⟨l, vs, e, h1, h2, h3, h4⟩ := h
    exact ⟨l, vs, e, w.hh _ _ h1, w.stay h2 h1, h3, Reps.mono w.ff ds vs h4⟩
  | ownK kvs =>
    obtain ⟨l, us, e, h1, h2, h3, h4, h5⟩ := h
    exact ⟨l, us, e, w.hh _ _ h1, w.stay h2 h1, h3, h4, Reps.mono w.ff _ _ h5⟩
theorem StOk.mono {σ : L2.St} {st : DS} (w : Wld F H F' H') (h : StOk K H0 F H σ st) : StOk K H0 F' H' σ st :=
  ⟨h.len, fun i s e => by
    obtain ⟨v, e1, r⟩ := h.at_ i s e
    exact ⟨v, e1, r.mono w⟩, h.apart⟩
/-- to be read: a list's, a dict's own object is looked up among all that is tracked -/
def RepR (K : PySem.W.Frag) (F H : Hp) : D → V → Prop
  | .lst ds, v => ∃ a vs, v = .ref a ∧ Rd H a (.lst vs) ∧ Reps K F ds vs
  | .dct kvs, v => ∃ a us, v = .ref a ∧ H a = some (.dK us) ∧ us.map (·.1) = kvs.map (·.1) ∧ Reps K F (kvs.map (·.2)) (us.map (·.2))
  | d, v => Rep K F d v
theorem RepR.of {d : D} {v : V} (e : Same F H) (h : Rep K F d v) : RepR K F H d v := by
  cases h with
  | non => exact .non
  | bl b => exact .bl b
  | int i => exact .int i
  | str z => exact .str z
  | lst h r => exact ⟨_, _, rfl, sq_mono e h, r⟩
  | tup h r => exact .tup h r
  | dct h q r => exact ⟨_, _, rfl, e _ _ h, q, r⟩
  | obj h q r => exact .obj h q r
  | exc h r => exact .exc h r
  | ptr a => exact .ptr a
theorem RepR.ofS {N : Hp} {s : SV} {v : V} (e : Same F H) (h : RepS K N F H s v) : RepR K F H s.d v := by
  cases s with
  | dat d => exact .of e h
  | own ds =>
    obtain ⟨l, vs, rfl, h1, h2, h3, h4⟩ := h
    exact ⟨l, vs, rfl, .of h1, h4⟩
  | ownK kvs =>
    obtain ⟨l, us, rfl, h1, h2, h3, h4, h5⟩ := h
    exact ⟨l, us, rfl, h1, h4, h5⟩
theorem RepR.up {d : D} {v : V} (e : Same F H) (h : RepR K F H d v) : Rep K H d v := by
  cases d with
  | lst ds => obtain ⟨a, vs, rfl, h1, h2⟩ := h; exact .lst h1 (Reps.mono e _ _ h2)
  | dct kvs => obtain ⟨a, us, rfl, h1, h2, h3⟩ := h; exact .dct h1 h2 (Reps.mono e _ _ h3)
  | non => exact Rep.mono e _ _ h
  | bl b => exact Rep.mono e _ _ h
  | int b => exact Rep.mono e _ _ h
  | str b => exact Rep.mono e _ _ h
  | tup b => exact Rep.mono e _ _ h
  | obj C b => exact Rep.mono e _ _ h
  | exc x => exact Rep.mono e _ _ h
  | ptr x => exact Rep.mono e _ _ h
/-- it becomes data -/
theorem RepS.fix {F0 H0 : Hp} {s : SV} {v : V} (w : Wld F0 H0 F H) (h : RepS K H0 F H s v) : ∃ F', Wld F0 H0 F' H ∧ Rep K F' s.d v := by
  cases s with
  | dat d => exact ⟨F, w, h⟩
  | own ds =>
    obtain ⟨l, vs, rfl, h1, h2, h3, h4⟩ := h
    exact ⟨upd F l (.lst vs), w.freeze h2 h1 h3, .lst (.of upd_same) (Reps.mono (same_upd h2) _ _ h4)⟩
  | ownK kvs =>
    obtain ⟨l, us, rfl, h1, h2, h3, h4, h5⟩ := h
    exact ⟨upd F l (.dK us), w.freeze h2 h1 h3, .dct upd_same h4 (Reps.mono (same_upd h2) _ _ h5)⟩
theorem RepS.back {N N' : Hp} {s : SV} {v : V} (e : ∀ a, N a = none → N' a = none) (h : RepS K N F H s v) : RepS K N' F H s v := by
  cases s with
  | dat d => exact h
  | own ds => obtain ⟨l, vs, e1, h1, h2, h3, h4⟩ := h; exact ⟨l, vs, e1, h1, h2, e l h3, h4⟩
  | ownK kvs => obtain ⟨l, us, e1, h1, h2, h3, h4⟩ := h; exact ⟨l, us, e1, h1, h2, e l h3, h4⟩

/-- a name is given a value -/
theorem StOk.put {σ : L2.St} {st : DS} {i : Nat} {s : SV} {v : V} (h : StOk K H0 F H σ st) (r : RepS K H0 F H s v) (new : s.mut = true → ∀ (j : Nat) (t : SV), st[j]? = some (some t) → t.mut = true → σ[j]? ≠ some (some v)) : StOk K H0 F H (σ.set i (some v)) (st.set i (some s)) := by
  refine ⟨by simp [h.len], fun j t e => ?_, fun j k t u x hjk e1 e2 m1 m2 f1 f2 => ?_⟩
  · by_cases z : i = j
    · subst z
      have hi : i < st.length := by
        have := (List.getElem?_eq_some_iff.mp e).1
        simpa using this
      rw [List.getElem?_set_self hi] at e
      cases e
      exact ⟨v, by rw [List.getElem?_set_self (by rw [← h.len]; exact hi)], r⟩
    · rw [List.getElem?_set_ne z] at e
      obtain ⟨x, e1, r1⟩ := h.at_ j t e
      exact ⟨x, by rw [List.getElem?_set_ne z]; exact e1, r1⟩
  · by_cases z : i = j
    · subst z
      have hi : i < st.length := by simpa using (List.getElem?_eq_some_iff.mp e1).1
      rw [List.getElem?_set_self hi] at e1
      cases e1
      rw [List.getElem?_set_self (by rw [← h.len]; exact hi)] at f1
      cases f1
      rw [List.getElem?_set_ne hjk] at f2 e2
      exact new m1 k u e2 m2 f2
    · rw [List.getElem?_set_ne z] at e1 f1
      by_cases y : i = k
      · subst y
        have hi : i < st.length := by simpa using (List.getElem?_eq_some_iff.mp e2).1
        rw [List.getElem?_set_self hi] at e2
        cases e2
        rw [List.getElem?_set_self (by rw [← h.len]; exact hi)] at f2
        cases f2
        exact new m2 j t e1 m1 f1
      · rw [List.getElem?_set_ne y] at e2 f2
        exact h.apart j k t u x hjk e1 e2 m1 m2 f1 f2
/-- a name is forgotten -/
theorem StOk.drop {σ σ' : L2.St} {st : DS} {i : Nat} (h : StOk K H0 F H σ st) (hl : σ'.length = σ.length) (hs : ∀ j : Nat, j ≠ i → σ'[j]? = σ[j]?) : StOk K H0 F H σ' (st.set i none) := by
  refine ⟨by simp [h.len, hl], fun j t e => ?_, fun j k t u x hjk e1 e2 m1 m2 f1 f2 => ?_⟩
  · by_cases z : i = j
    · subst z
      have hi : i < st.length := by simpa using (List.getElem?_eq_some_iff.mp e).1
      rw [List.getElem?_set_self hi] at e
      cases e
    · rw [List.getElem?_set_ne z] at e
      rw [hs j (Ne.symm z)]
      exact h.at_ j t e
  · have a : ∀ (m : Nat) (t : SV), (st.set i none)[m]? = some (some t) → m ≠ i ∧ st[m]? = some (some t) := fun m t e => by
      by_cases z : i = m
      · subst z
        have hi : i < st.length := by simpa using (List.getElem?_eq_some_iff.mp e).1
        rw [List.getElem?_set_self hi] at e
        cases e
      · rw [List.getElem?_set_ne z] at e
        exact ⟨Ne.symm z, e⟩
    obtain ⟨n1, e1⟩ := a _ _ e1
    obtain ⟨n2, e2⟩ := a _ _ e2
    rw [hs j n1] at f1
    rw [hs k n2] at f2
    exact h.apart j k t u x hjk e1 e2 m1 m2 f1 f2
end

/-! ### the pure readings -/
/-- where a def was entered: the data, all that was tracked -/
structure Ax where
  F0 : Hp
  N : Hp
  K : PySem.W.Frag
abbrev PR := DS → (D → Prop) → Prop
abbrev PS_ := DS → (SV → Prop) → Prop
abbrev PB := DS → (Bool → Prop) → Prop
abbrev PAs := DS → (List D → Prop) → Prop
/-- what is wanted of a reading t of HandS, so that p may stand for it: the value to be read | as data | as data or a new owned thing | a test | arguments | a slice's part -/
def RdR (A : Ax) (t : TE) (p : PR) : Prop := ∀ (F H : Hp) (σ : L2.St) (st : DS) (DQ : D → Prop) (Q : VK), StOk A.K A.N F H σ st → Wld A.F0 A.N F H → p st DQ → (∀ d v F' H', Wld F H F' H' → RepR A.K F' H' d v → DQ d → Q v H') → t σ H Q
def RdD (A : Ax) (t : TE) (p : PR) : Prop := ∀ (F H : Hp) (σ : L2.St) (st : DS) (DQ : D → Prop) (Q : VK), StOk A.K A.N F H σ st → Wld A.F0 A.N F H → p st DQ → (∀ d v F' H', Wld F H F' H' → Rep A.K F' d v → DQ d → Q v H') → t σ H Q
def RdS (A : Ax) (t : TE) (p : PS_) : Prop := ∀ (F H : Hp) (σ : L2.St) (st : DS) (DQ : SV → Prop) (Q : VK), StOk A.K A.N F H σ st → Wld A.F0 A.N F H → p st DQ → (∀ s v F' H', Wld F H F' H' → RepS A.K H F' H' s v → DQ s → Q v H') → t σ H Q
def RdT (A : Ax) (t : TT) (p : PB) : Prop := ∀ (F H : Hp) (σ : L2.St) (st : DS) (DQ : Bool → Prop) (Q : Bool → Hp → Prop), StOk A.K A.N F H σ st → Wld A.F0 A.N F H → p st DQ → (∀ b F' H', Wld F H F' H' → DQ b → Q b H') → t σ H Q
def RdA (A : Ax) (t : TA) (p : PAs) : Prop := ∀ (F H : Hp) (σ : L2.St) (st : DS) (DQ : List D → Prop) (Q : List V → Hp → Prop), StOk A.K A.N F H σ st → Wld A.F0 A.N F H → p st DQ → (∀ ds vs F' H', Wld F H F' H' → Reps A.K F' ds vs → DQ ds → Q vs H') → t σ H Q
structure SimR (A : Ax) (X : Cx) (e : Expr) (t : TE) (p : PR) : Prop where
  hK : X.K = A.K
  pe : PE X e t
  rd : RdR A t p
structure SimD (A : Ax) (X : Cx) (e : Expr) (t : TE) (p : PR) : Prop where
  hK : X.K = A.K
  pe : PE X e t
  rd : RdD A t p
structure SimS (A : Ax) (X : Cx) (e : Expr) (t : TE) (p : PS_) : Prop where
  hK : X.K = A.K
  pe : PE X e t
  rd : RdS A t p
structure SimT (A : Ax) (X : Cx) (e : Expr) (t : TT) (p : PB) : Prop where
  hK : X.K = A.K
  pt : PT X e t
  rd : RdT A t p
structure SimW (A : Ax) (X : Cx) (e : Expr) (t : TT) (p : PB) : Prop where
  hK : X.K = A.K
  pw : PW X e t
  rd : RdT A t p
structure SimA (A : Ax) (X : Cx) (es : List Expr) (t : TA) (p : PAs) : Prop where
  hK : X.K = A.K
  pa : PA X es t
  rd : RdA A t p

/-! ### from one kind to another -/
section
variable {A : Ax} {X : Cx} {e a b : Expr} {es : List Expr} {t ta tb : TE} {p q : PR} {ps : PS_} {pos : Pos}
def pSD (ps : PS_) : PR := fun st Q => ps st fun s => Q s.d
def pDS (p : PR) : PS_ := fun st Q => p st fun d => Q (.dat d)
theorem SimD.r (h : SimD A X e t p) : SimR A X e t p := ⟨h.hK, h.pe, fun F H σ st DQ Q ok e hp k => h.rd F H σ st DQ Q ok e hp fun d v F' H' w r q => k d v F' H' w (.of w.fh r) q⟩
theorem SimD.s (h : SimD A X e t p) : SimS A X e t (pDS p) := ⟨h.hK, h.pe, fun F H σ st DQ Q ok e hp k => h.rd F H σ st _ Q ok e hp fun d v F' H' w r q => k (.dat d) v F' H' w r q⟩
theorem SimS.r (h : SimS A X e t ps) : SimR A X e t (pSD ps) := ⟨h.hK, h.pe, fun F H σ st DQ Q ok e hp k => h.rd F H σ st _ Q ok e hp fun s v F' H' w r q => k s.d v F' H' w (.ofS w.fh r) q⟩
theorem SimS.D (h : SimS A X e t ps) : SimD A X e t (pSD ps) := ⟨h.hK, h.pe, fun F H σ st DQ Q ok e hp k => h.rd F H σ st _ Q ok e hp fun s v F' H' w r q => by
  obtain ⟨F2, w2, r2⟩ := r.fix w
  exact k s.d v F2 H' w2 r2 q⟩
end
end Pu
/-! The pure layer, part B: expressions. -/
namespace Pu
open PySem L2

/-! ### equality of data -/
def okEq : D → D → Prop
  | .int _, .int _ => True
  | .str _, .str _ => True
  | .bl _, .bl _ => True
  | .non, .non => True
  | .non, .str _ => True
  | .str _, .non => True
  | .non, .int _ => True
  | .int _, .non => True
  | x, y => D.flat 60 x ∧ D.flat 60 y
def D.eqv : D → D → Bool
  | .int i, .int j => decide (i = j)
  | .str x, .str y => decide (x = y)
  | .bl a, .bl b => decide (a = b)
  | .non, .non => true
  | .non, .str _ => false
  | .str _, .non => false
  | .non, .int _ => false
  | .int _, .non => false
  | x, y => PyData.eqv x.py y.py
def pEq (x y : D) (Q : D → Prop) : Prop := okEq x y ∧ Q (.bl (D.eqv x y))
def pNe (x y : D) (Q : D → Prop) : Prop := okEq x y ∧ Q (.bl (!D.eqv x y))

section
variable {X : Cx} {K : PySem.W.Frag} {F F' H H' : Hp}
theorem str_inj {x y : List Nat} : ((⟨x.toArray⟩ : Str) = ⟨y.toArray⟩) ↔ x = y := by
  constructor
  · intro h
    have := congrArg (fun s : Str => s.cps.toList) h
    simpa using this
  · rintro rfl; rfl
/-- two values, an answer that makes nothing new -/
def Op2 (K : PySem.W.Frag) (rH : R2) (r : D → D → (D → Prop) → Prop) : Prop := ∀ (F H : Hp) (x y : D) (v u : V) (DQ : D → Prop) (Q : VK), Same F H → RepR K F H x v → RepR K F H y u → r x y DQ → (∀ d w, Rep K F d w → DQ d → Q w H) → rH v u H Q
/-- .. an answer that is new -/
def Op2S (K : PySem.W.Frag) (rH : R2) (r : D → D → (SV → Prop) → Prop) : Prop := ∀ (F H : Hp) (x y : D) (v u : V) (DQ : SV → Prop) (Q : VK), Same F H → RepR K F H x v → RepR K F H y u → r x y DQ → (∀ s w F' H', Wld F H F' H' → RepS K H F' H' s w → DQ s → Q w H') → rH v u H Q
def rEqA (K : PySem.W.Frag) : R2 := fun x y H Q => rEq x y H Q ∨ rEqD K x y H Q
def rNeA (K : PySem.W.Frag) : R2 := fun x y H Q => rNe x y H Q ∨ rNeD K x y H Q
/-- an operator of two values: HandS's reading, ours -/
structure OpB (f : Value → Value → Sem Value) (rH : PySem.W.Frag → R2) (r : D → D → (D → Prop) → Prop) : Prop where
  op : ∀ X : Cx, X.A.units + 64 < cLine → OpR X f (rH X.K)
  two : ∀ K, Op2 K (rH K) r
structure OpBS (f : Value → Value → Sem Value) (rH : PySem.W.Frag → R2) (r : D → D → (SV → Prop) → Prop) : Prop where
  op : ∀ X : Cx, X.A.units + 64 < cLine → OpR X f (rH X.K)
  two : ∀ K, Op2S K (rH K) r
theorem dec_vstr {x y : List Nat} : decide (V.str ⟨x.toArray⟩ = V.str ⟨y.toArray⟩) = decide (x = y) := by
  by_cases h : x = y
  · subst h; simp
  · rw [decide_eq_false h, decide_eq_false]
    intro z
    injection z with z
    exact h (str_inj.mp z)
theorem eq_split {x y : D} (h : okEq x y) :
    (∀ (F H : Hp) (v u : V), Same F H → RepR K F H x v → RepR K F H y u → (scal v u = true ∧ decide (v = u) = D.eqv x y) ∨ ∃ d e, Dp K H v d ∧ Dp K H u e ∧ SeqAt.shaped d = true ∧ SeqAt.shaped e = true ∧ PyData.eqv d e = D.eqv x y) := by
  intro F H v u e rv ru
  have gen : D.eqv x y = PyData.eqv x.py y.py → D.flat 60 x → D.flat 60 y → ∃ d e, Dp K H v d ∧ Dp K H u e ∧ SeqAt.shaped d = true ∧ SeqAt.shaped e = true ∧ PyData.eqv d e = D.eqv x y := fun ee fx fy =>
    ⟨x.py, y.py, dp_of x v (rv.up e) fx, dp_of y u (ru.up e) fy, shaped_of fx, shaped_of fy, ee.symm⟩
  have rv' := rv.up e
  have ru' := ru.up e
  cases x <;> cases y <;>
    first
    | exact .inr (gen rfl h.1 h.2)
    | (cases rv'; cases ru'; refine .inl ⟨rfl, ?_⟩; first | exact dec_vstr | rfl | (exact decide_eq_decide.mpr ⟨fun z => by injection z, fun z => by rw [z]⟩))
theorem op2_eq : Op2 K (rEqA K) pEq := fun F H x y v u DQ Q e rx ry h k => by
  rcases eq_split (K := K) h.1 F H v u e rx ry with ⟨a, b⟩ | ⟨d, f, a1, a2, a3, a4, a5⟩
  · exact .inl ⟨a, by rw [b]; exact k _ _ (.bl _) h.2⟩
  · exact .inr ⟨d, f, a1, a2, a3, a4, by rw [a5]; exact k _ _ (.bl _) h.2⟩
theorem op2_ne : Op2 K (rNeA K) pNe := fun F H x y v u DQ Q e rx ry h k => by
  rcases eq_split (K := K) h.1 F H v u e rx ry with ⟨a, b⟩ | ⟨d, f, a1, a2, a3, a4, a5⟩
  · exact .inl ⟨a, by rw [b]; exact k _ _ (.bl _) h.2⟩
  · exact .inr ⟨d, f, a1, a2, a3, a4, by rw [a5]; exact k _ _ (.bl _) h.2⟩

/-! ### numbers and texts -/
def pAdd : D → D → (D → Prop) → Prop
  | .int i, .int j, Q => Q (.int (i + j))
  | .str x, .str y, Q => x.length + y.length ≤ 100000 ∧ Q (.str (x ++ y))
  | _, _, _ => False
def rAddA : R2 := fun x y H Q => rI0 (fun i j => .int (i + j)) x y H Q ∨ ∃ i j, x = .str i ∧ y = .str j ∧ i.length + j.length ≤ sizeLine ∧ Q (.str (i ++ j)) H
theorem op_addA : OpR X (binaryOp .Add) rAddA := op_add.or op_add_str
theorem line_of {n : Nat} (h : n ≤ 100000) : n ≤ sizeLine := Nat.le_trans h (by rw [sizeLine_eq]; decide)
theorem line_lt {n : Nat} (h : n < 100000) : n < sizeLine := Nat.lt_of_lt_of_le h (by rw [sizeLine_eq]; decide)
theorem str_app (x y : List Nat) : (⟨x.toArray⟩ : Str) ++ ⟨y.toArray⟩ = ⟨(x ++ y).toArray⟩ := by
  show (⟨x.toArray ++ y.toArray⟩ : Str) = _
  rw [List.append_toArray]
theorem str_len (x : List Nat) : (⟨x.toArray⟩ : Str).length = x.length := by
  show x.toArray.size = _
  simp
theorem op2_add : Op2 K rAddA pAdd := fun F H x y v u DQ Q e rx ry h k => by
  cases x <;> cases y <;> first | exact h.elim | skip
  · cases rx; cases ry
    exact .inl ⟨_, _, rfl, rfl, k _ _ (.int _) h⟩
  · cases rx; cases ry
    refine .inr ⟨_, _, rfl, rfl, ?_, ?_⟩
    · rw [str_len, str_len]; exact line_of h.1
    · rw [str_app]; exact k _ _ (.str _) h.2
/-- two whole numbers, with what is asked of them -/
def pI (C : Int → Int → Prop) (g : Int → Int → Int) : D → D → (D → Prop) → Prop
  | .int i, .int j, Q => C i j ∧ Q (.int (g i j))
  | _, _, _ => False
theorem op2_I {C : Int → Int → Prop} {g : Int → Int → Int} : Op2 K (rI C fun i j => .int (g i j)) (pI C g) := fun F H x y v u DQ Q e rx ry h k => by
  cases x <;> cases y <;> first | exact h.elim | skip
  cases rx; cases ry
  exact ⟨_, _, rfl, rfl, h.1, k _ _ (.int _) h.2⟩
def pI0 (g : Int → Int → Int) : D → D → (D → Prop) → Prop
  | .int i, .int j, Q => Q (.int (g i j))
  | _, _, _ => False
theorem op2_I0 {g : Int → Int → Int} : Op2 K (rI0 fun i j => .int (g i j)) (pI0 g) := fun F H x y v u DQ Q e rx ry h k => by
  cases x <;> cases y <;> first | exact h.elim | skip
  cases rx; cases ry
  exact ⟨_, _, rfl, rfl, k _ _ (.int _) h⟩
def pB0 (g : Int → Int → Bool) : D → D → (D → Prop) → Prop
  | .int i, .int j, Q => Q (.bl (g i j))
  | _, _, _ => False
theorem op2_B0 {g : Int → Int → Bool} : Op2 K (rI0 fun i j => .bl (g i j)) (pB0 g) := fun F H x y v u DQ Q e rx ry h k => by
  cases x <;> cases y <;> first | exact h.elim | skip
  cases rx; cases ry
  exact ⟨_, _, rfl, rfl, k _ _ (.bl _) h⟩
/-- is, is not: None, a truth -/
def pIs (neg : Bool) : D → D → (D → Prop) → Prop
  | .non, .non, Q => Q (.bl (!neg))
  | .bl a, .bl b, Q => Q (.bl (if neg then !decide (a = b) else decide (a = b)))
  | _, .non, Q => Q (.bl neg)
  | _, _, _ => False
def rIsA : R2 := fun x y H Q => (y = .non ∧ Q (.bl (decide (x = .non))) H) ∨ ∃ a b, x = .bl a ∧ y = .bl b ∧ Q (.bl (decide (a = b))) H
def rIsNotA : R2 := fun x y H Q => (y = .non ∧ Q (.bl (!decide (x = .non))) H) ∨ ∃ a b, x = .bl a ∧ y = .bl b ∧ Q (.bl (!decide (a = b))) H
theorem op_isA : OpR X (compareOp .Is) rIsA := op_isN.or op_is_bl
theorem op_isnotA : OpR X (compareOp .IsNot) rIsNotA := op_notN.or op_isnot_bl
theorem op2_is : Op2 K rIsA (pIs false) := fun F H x y v u DQ Q e rx ry h k => by
  have rx' := rx.up e
  have ry' := ry.up e
  cases y <;> cases x <;> first | exact h.elim | (cases ry'; cases rx'; first | exact .inl ⟨rfl, k _ _ (.bl _) h⟩ | exact .inr ⟨_, _, rfl, rfl, k _ _ (.bl _) h⟩)
theorem op2_isnot : Op2 K rIsNotA (pIs true) := fun F H x y v u DQ Q e rx ry h k => by
  have rx' := rx.up e
  have ry' := ry.up e
  cases y <;> cases x <;> first | exact h.elim | (cases ry'; cases rx'; first | exact .inl ⟨rfl, k _ _ (.bl _) h⟩ | exact .inr ⟨_, _, rfl, rfl, k _ _ (.bl _) h⟩)
theorem O_eq : OpB (compareOp .Eq) rEqA pEq := ⟨fun X hu => op_eq.or (op_eqD hu), fun K => op2_eq⟩
theorem O_ne : OpB (compareOp .NotEq) rNeA pNe := ⟨fun X hu => op_ne.or (op_neD hu), fun K => op2_ne⟩
theorem O_add : OpB (binaryOp .Add) (fun _ => rAddA) pAdd := ⟨fun X hu => op_addA, fun K => op2_add⟩
theorem O_is : OpB (compareOp .Is) (fun _ => rIsA) (pIs false) := ⟨fun X hu => op_isA, fun K => op2_is⟩
theorem O_isnot : OpB (compareOp .IsNot) (fun _ => rIsNotA) (pIs true) := ⟨fun X hu => op_isnotA, fun K => op2_isnot⟩
def oSub := pI0 fun i j => i - j
def oMul := pI CMul fun i j => i * j
def oMod := pI (fun _ j => 0 < j) fun i j => i % j
def oDiv := pI CDiv fun i j => i / j
def oShl := pI CPow fun i j => i * 2 ^ j.toNat
def oShr := pI (fun _ j => 0 ≤ j) fun i j => i / 2 ^ j.toNat
def oPow := pI CPow fun i j => i ^ j.toNat
def oAnd := pI0 fun i j => Builtin.bitAnd i j
def oOr := pI0 fun i j => Builtin.bitOr i j
def oXor := pI0 fun i j => Builtin.bitXor i j
def oLt := pB0 fun i j => decide (i < j)
def oLe := pB0 fun i j => decide (i ≤ j)
def oGt := pB0 fun i j => decide (j < i)
def oGe := pB0 fun i j => decide (j ≤ i)
theorem O_sub : OpB (binaryOp .Sub) (fun _ => rI0 fun i j => .int (i - j)) oSub := ⟨fun X hu => op_sub, fun K => op2_I0⟩
theorem O_mul : OpB (binaryOp .Mult) (fun _ => rI CMul fun i j => .int (i * j)) oMul := ⟨fun X hu => op_mul, fun K => op2_I⟩
theorem O_mod : OpB (binaryOp .Mod) (fun _ => rI (fun _ j => 0 < j) fun i j => .int (i % j)) oMod := ⟨fun X hu => op_mod, fun K => op2_I⟩
theorem O_div : OpB (binaryOp .FloorDiv) (fun _ => rI CDiv fun i j => .int (i / j)) oDiv := ⟨fun X hu => op_fdiv, fun K => op2_I⟩
theorem O_shl : OpB (binaryOp .LShift) (fun _ => rI CPow fun i j => .int (i * 2 ^ j.toNat)) oShl := ⟨fun X hu => op_shl, fun K => op2_I⟩
theorem O_shr : OpB (binaryOp .RShift) (fun _ => rI (fun _ j => 0 ≤ j) fun i j => .int (i / 2 ^ j.toNat)) oShr := ⟨fun X hu => op_shr, fun K => op2_I⟩
theorem O_pow : OpB (binaryOp .Pow) (fun _ => rI CPow fun i j => .int (i ^ j.toNat)) oPow := ⟨fun X hu => op_pow, fun K => op2_I⟩
theorem O_and : OpB (binaryOp .BitAnd) (fun _ => rI0 fun i j => .int (Builtin.bitAnd i j)) oAnd := ⟨fun X hu => op_and, fun K => op2_I0⟩
theorem O_or : OpB (binaryOp .BitOr) (fun _ => rI0 fun i j => .int (Builtin.bitOr i j)) oOr := ⟨fun X hu => op_or, fun K => op2_I0⟩
theorem O_xor : OpB (binaryOp .BitXor) (fun _ => rI0 fun i j => .int (Builtin.bitXor i j)) oXor := ⟨fun X hu => op_xor, fun K => op2_I0⟩
theorem O_lt : OpB (compareOp .Lt) (fun _ => rI0 fun i j => .bl (decide (i < j))) oLt := ⟨fun X hu => op_lt, fun K => op2_B0⟩
theorem O_le : OpB (compareOp .LtE) (fun _ => rI0 fun i j => .bl (decide (i ≤ j))) oLe := ⟨fun X hu => op_le, fun K => op2_B0⟩
theorem O_gt : OpB (compareOp .Gt) (fun _ => rI0 fun i j => .bl (decide (j < i))) oGt := ⟨fun X hu => op_gt, fun K => op2_B0⟩
theorem O_ge : OpB (compareOp .GtE) (fun _ => rI0 fun i j => .bl (decide (j ≤ i))) oGe := ⟨fun X hu => op_ge, fun K => op2_B0⟩
end

/-! ### the rules -/
section
variable {A : Ax} {X : Cx} {e a b c : Expr} {es : List Expr} {t ta tb tc : TE} {p q r : PR} {ps : PS_} {pos : Pos}
def pVar (i : Nat) : PR := fun st Q => match st[i]? with | some (some s) => Q s.d | _ => False
def pVarD (i : Nat) : PR := fun st Q => match st[i]? with | some (some (.dat d)) => Q d | _ => False
def pC (d : D) : PR := fun _ Q => Q d
theorem simR_var (i : Nat) {x : Str} (hN : X.N[i]? = some x := by rfl) (hv : Vis X.env.scope x := by first | exact Or.inl rfl | exact Or.inr (Or.inl rfl) | exact Or.inr (Or.inr rfl)) (hd : (x == ("__debug__" : Str)) = false := by decide)
    (hcd : (x == ("__classdict__" : Str)) = false := by decide) (hK : X.K = A.K := by rfl) : SimR A X (.Name x pos) (tVar i) (pVar i) := ⟨hK, pe_var hN hv hd hcd, fun F H σ st DQ Q ok e hp k => by
  unfold pVar at hp
  split at hp
  · rename_i s hs
    obtain ⟨v, hv, r⟩ := ok.at_ i s hs
    exact ⟨v, hv, k _ _ F H (Wld.refl e.fh) (.ofS e.fh r) hp⟩
  · exact hp.elim⟩
theorem simD_var (i : Nat) {x : Str} (hN : X.N[i]? = some x := by rfl) (hv : Vis X.env.scope x := by first | exact Or.inl rfl | exact Or.inr (Or.inl rfl) | exact Or.inr (Or.inr rfl)) (hd : (x == ("__debug__" : Str)) = false := by decide)
    (hcd : (x == ("__classdict__" : Str)) = false := by decide) (hK : X.K = A.K := by rfl) : SimD A X (.Name x pos) (tVar i) (pVarD i) := ⟨hK, pe_var hN hv hd hcd, fun F H σ st DQ Q ok e hp k => by
  unfold pVarD at hp
  split at hp
  · rename_i s hs
    obtain ⟨v, hv, r⟩ := ok.at_ i _ hs
    exact ⟨v, hv, k _ _ F H (Wld.refl e.fh) r hp⟩
  · exact hp.elim⟩
theorem rd_c {v : V} {d : D} (r : ∀ F, Rep A.K F d v) : RdD A (tC v) (pC d) := fun F H σ st DQ Q ok e hp k => k d v F H (Wld.refl e.fh) (r F) hp
theorem simD_int {i j} (hK : X.K = A.K := by rfl) : SimD A X (.Constant (.int i) j pos) (tC (.int i)) (pC (.int i)) := ⟨hK, pe_int, rd_c fun _ => .int i⟩
theorem simD_bl {i j} (hK : X.K = A.K := by rfl) : SimD A X (.Constant (.bool i) j pos) (tC (.bl i)) (pC (.bl i)) := ⟨hK, pe_bl, rd_c fun _ => .bl i⟩
theorem simD_non {j} (hK : X.K = A.K := by rfl) : SimD A X (.Constant .none j pos) (tC .non) (pC .non) := ⟨hK, pe_non, rd_c fun _ => .non⟩
theorem simD_str (l : List Nat) {x j} (h : x = ⟨l.toArray⟩ := by first | rfl | decide +kernel) (hK : X.K = A.K := by rfl) : SimD A X (.Constant (.str x) j pos) (tC (.str x)) (pC (.str l)) := ⟨hK, pe_str, rd_c fun _ => h ▸ .str l⟩
theorem simD_gstr (l : List Nat) {x z : Str} (hm : ∃ tk, X.mg x = some (.str z tk)) (hg : Gl X x := by rfl) (h : z = ⟨l.toArray⟩ := by first | rfl | decide +kernel) (hd : (x == ("__debug__" : Str)) = false := by decide) (hK : X.K = A.K := by rfl) : SimD A X (.Name x pos) (tC (.str z)) (pC (.str l)) := by
  obtain ⟨tk, hm⟩ := hm
  exact ⟨hK, pe_glob hg hm ⟨tk, rfl⟩ hd, rd_c fun _ => h ▸ .str l⟩
theorem simD_gint {x : Str} {i : Int} (hm : ∃ tk, X.mg x = some (.int i tk)) (hg : Gl X x := by rfl) (hd : (x == ("__debug__" : Str)) = false := by decide) (hK : X.K = A.K := by rfl) : SimD A X (.Name x pos) (tC (.int i)) (pC (.int i)) := by
  obtain ⟨tk, hm⟩ := hm
  exact ⟨hK, pe_glob hg hm ⟨tk, rfl⟩ hd, rd_c fun _ => .int i⟩

def p2 (r : D → D → (D → Prop) → Prop) (p q : PR) : PR := fun st Q => p st fun x => q st fun y => r x y Q
def p2S (r : D → D → (SV → Prop) → Prop) (p q : PR) : PS_ := fun st Q => p st fun x => q st fun y => r x y Q
theorem RepR.mono {K : PySem.W.Frag} {F H F' H' : Hp} {d : D} {v : V} (w : Wld F H F' H') (h : RepR K F H d v) : RepR K F' H' d v := by
  cases d with
  | lst ds => obtain ⟨a, vs, e, h1, h2⟩ := h; exact ⟨a, vs, e, sq_mono w.hh h1, Reps.mono w.ff _ _ h2⟩
  | dct kvs => obtain ⟨a, us, e, h1, h2, h3⟩ := h; exact ⟨a, us, e, w.hh _ _ h1, h2, Reps.mono w.ff _ _ h3⟩
  | non => exact Rep.mono w.ff _ _ h
  | bl b => exact Rep.mono w.ff _ _ h
  | int b => exact Rep.mono w.ff _ _ h
  | str b => exact Rep.mono w.ff _ _ h
  | tup b => exact Rep.mono w.ff _ _ h
  | obj C b => exact Rep.mono w.ff _ _ h
  | exc b => exact Rep.mono w.ff _ _ h
  | ptr b => exact Rep.mono w.ff _ _ h
theorem rd_2 {rH : R2} {r : D → D → (D → Prop) → Prop} (ho : Op2 A.K rH r) (ha : RdR A ta p) (hb : RdR A tb q) : RdD A (tOp rH ta tb) (p2 r p q) := fun F H σ st DQ Q ok e hp k =>
  ha F H σ st _ _ ok e hp fun x v F1 H1 w1 rx hq => hb F1 H1 σ st _ _ (ok.mono w1) (e.trans w1) hq fun y u F2 H2 w2 ry hr =>
    ho F2 H2 x y v u DQ Q w2.fh (rx.mono w2) ry hr fun d z rz hd => k d z F2 H2 (w1.trans w2) rz hd
theorem rd_2S {rH : R2} {r : D → D → (SV → Prop) → Prop} (ho : Op2S A.K rH r) (ha : RdR A ta p) (hb : RdR A tb q) : RdS A (tOp rH ta tb) (p2S r p q) := fun F H σ st DQ Q ok e hp k =>
  ha F H σ st _ _ ok e hp fun x v F1 H1 w1 rx hq => hb F1 H1 σ st _ _ (ok.mono w1) (e.trans w1) hq fun y u F2 H2 w2 ry hr =>
    ho F2 H2 x y v u DQ Q w2.fh (rx.mono w2) ry hr fun s z F3 H3 w3 rz hd => k s z F3 H3 ((w1.trans w2).trans w3) (rz.back fun a h => same_none (w1.trans w2).hh h) hd
theorem simD_op {op : Operator} {rH : PySem.W.Frag → R2} {r : D → D → (D → Prop) → Prop} (O : OpB (binaryOp op) rH r) (hu : X.A.units + 64 < cLine) (ha : SimR A X a ta p) (hb : SimR A X b tb q) : SimD A X (.BinOp a op b pos) (tOp (rH A.K) ta tb) (p2 r p q) :=
  ⟨ha.hK, ha.hK ▸ pe_op (O.op X hu) ha.pe hb.pe, rd_2 (O.two _) ha.rd hb.rd⟩
theorem simS_op {op : Operator} {rH : PySem.W.Frag → R2} {r : D → D → (SV → Prop) → Prop} (O : OpBS (binaryOp op) rH r) (hu : X.A.units + 64 < cLine) (ha : SimR A X a ta p) (hb : SimR A X b tb q) : SimS A X (.BinOp a op b pos) (tOp (rH A.K) ta tb) (p2S r p q) :=
  ⟨ha.hK, ha.hK ▸ pe_op (O.op X hu) ha.pe hb.pe, rd_2S (O.two _) ha.rd hb.rd⟩
theorem simD_cmp {op : CmpOp} {rH : PySem.W.Frag → R2} {r : D → D → (D → Prop) → Prop} (O : OpB (compareOp op) rH r) (hu : X.A.units + 64 < cLine) (ha : SimR A X a ta p) (hb : SimR A X b tb q) (hm : behindInMarks op b = false := by rfl) : SimD A X (.Compare a [op] [b] pos) (tOp (rH A.K) ta tb) (p2 r p q) :=
  ⟨ha.hK, ha.hK ▸ pe_cmpR (O.op X hu) ha.pe hb.pe hm, rd_2 (O.two _) ha.rd hb.rd⟩

/-! tests -/
def pT (p : PR) : PB := fun st Q => p st fun d => match d with | .bl b => Q b | _ => False
theorem rd_T (ha : RdR A ta p) : RdT A (tTest ta) (pT p) := fun F H σ st DQ Q ok e hp k =>
  ha F H σ st _ _ ok e hp fun x v F1 H1 w1 rx hq => by
    cases x <;> first | exact hq.elim | skip
    cases rx
    exact ⟨_, rfl, k _ F1 H1 w1 hq⟩
theorem rd_B (ha : RdR A ta p) : RdT A (tB ta) (pT p) := rd_T ha
theorem simT_cmp {op : CmpOp} {rH : PySem.W.Frag → R2} {r : D → D → (D → Prop) → Prop} (O : OpB (compareOp op) rH r) (hu : X.A.units + 64 < cLine) (ha : SimR A X a ta p) (hb : SimR A X b tb q) (hm : behindInMarks op b = false := by rfl) : SimT A X (.Compare a [op] [b] pos) (tTest (tOp (rH A.K) ta tb)) (pT (p2 r p q)) :=
  ⟨ha.hK, ha.hK ▸ pt_cmpR (O.op X hu) ha.pe hb.pe hm, rd_T fun F H σ st DQ Q ok e hp k => (rd_2 (O.two _) ha.rd hb.rd) F H σ st DQ Q ok e hp fun d v F' H' w r q => k d v F' H' w (.of w.fh r) q⟩
theorem simT_val (h : SimR A X e t p) (he : ∀ whole, isTrue e X.env whole = (do let v ← whole; standAt e.pos; holding [v] (truthy v)) := by intro _; rfl) : SimT A X e (tB t) (pT p) := ⟨h.hK, pt_val h.pe he, rd_B h.rd⟩
variable {tA tB' : TT} {pA pB : PB} {rest : List Expr}
def pAnd (p q : PB) : PB := fun st Q => p st fun c => if c = true then q st Q else Q false
def pOr (p q : PB) : PB := fun st Q => p st fun c => if c = true then Q true else q st Q
def pNot (p : PB) : PB := fun st Q => p st fun c => Q (!c)
theorem simW_and1 (h : SimT A X a tA pA) : SimW A X (.BoolOp .And [a] pos) tA pA := ⟨h.hK, pw_and1 h.pt, h.rd⟩
theorem simW_or1 (h : SimT A X a tA pA) : SimW A X (.BoolOp .Or [a] pos) tA pA := ⟨h.hK, pw_or1 h.pt, h.rd⟩
theorem simW_and (h : SimT A X a tA pA) (g : SimW A X (.BoolOp .And (b :: rest) pos) tB' pB) : SimW A X (.BoolOp .And (a :: b :: rest) pos) (tAnd tA tB') (pAnd pA pB) := ⟨h.hK, pw_and h.pt g.pw, fun F H σ st DQ Q ok e hp k =>
  h.rd F H σ st _ _ ok e hp fun c F1 H1 w1 hq => by
    cases c with
    | true => exact g.rd F1 H1 σ st DQ Q (ok.mono w1) (e.trans w1) hq fun b F2 H2 w2 z => k b F2 H2 (w1.trans w2) z
    | false => exact k _ F1 H1 w1 hq⟩
theorem simW_or (h : SimT A X a tA pA) (g : SimW A X (.BoolOp .Or (b :: rest) pos) tB' pB) : SimW A X (.BoolOp .Or (a :: b :: rest) pos) (tOr tA tB') (pOr pA pB) := ⟨h.hK, pw_or h.pt g.pw, fun F H σ st DQ Q ok e hp k =>
  h.rd F H σ st _ _ ok e hp fun c F1 H1 w1 hq => by
    cases c with
    | false => exact g.rd F1 H1 σ st DQ Q (ok.mono w1) (e.trans w1) hq fun b F2 H2 w2 z => k b F2 H2 (w1.trans w2) z
    | true => exact k _ F1 H1 w1 hq⟩
theorem simT_w (h : SimW A X e tA pA) : SimT A X e tA pA := ⟨h.hK, h.pw.pt, h.rd⟩
theorem simT_not (h : SimT A X a tA pA) : SimT A X (.UnaryOp .Not a pos) (tNot tA) (pNot pA) := ⟨h.hK, pt_not h.pt, fun F H σ st DQ Q ok e hp k => h.rd F H σ st _ _ ok e hp fun c F1 H1 w1 hq => k _ F1 H1 w1 hq⟩
/-! the same as values -/
def pAndV (p q : PR) : PR := fun st Q => p st fun d => match d with | .bl c => if c = true then q st Q else Q (.bl false) | _ => False
def pOrV (p q : PR) : PR := fun st Q => p st fun d => match d with | .bl c => if c = true then Q (.bl true) else q st Q | _ => False
def pNotV (p : PR) : PR := fun st Q => p st fun d => match d with | .bl c => Q (.bl (!c)) | _ => False
theorem simD_one {op} (h : SimD A X a ta p) : SimD A X (.BoolOp op [a] pos) ta p := ⟨h.hK, pe_one h.pe, h.rd⟩
theorem simD_and (h : SimR A X a ta p) (g : SimD A X (.BoolOp .And (b :: rest) pos) tb q) : SimD A X (.BoolOp .And (a :: b :: rest) pos) (tAndV ta tb) (pAndV p q) := ⟨h.hK, pe_and h.pe g.pe, fun F H σ st DQ Q ok e hp k =>
  h.rd F H σ st _ _ ok e hp fun x v F1 H1 w1 rx hq => by
    cases x <;> first | exact hq.elim | skip
    rename_i c
    cases rx
    refine ⟨c, rfl, ?_⟩
    cases c with
    | true => exact g.rd F1 H1 σ st DQ Q (ok.mono w1) (e.trans w1) hq fun d z F2 H2 w2 rz hz => k d z F2 H2 (w1.trans w2) rz hz
    | false => exact k _ _ F1 H1 w1 (.bl _) hq⟩
theorem simD_or (h : SimR A X a ta p) (g : SimD A X (.BoolOp .Or (b :: rest) pos) tb q) : SimD A X (.BoolOp .Or (a :: b :: rest) pos) (tOrV ta tb) (pOrV p q) := ⟨h.hK, pe_or h.pe g.pe, fun F H σ st DQ Q ok e hp k =>
  h.rd F H σ st _ _ ok e hp fun x v F1 H1 w1 rx hq => by
    cases x <;> first | exact hq.elim | skip
    rename_i c
    cases rx
    refine ⟨c, rfl, ?_⟩
    cases c with
    | false => exact g.rd F1 H1 σ st DQ Q (ok.mono w1) (e.trans w1) hq fun d z F2 H2 w2 rz hz => k d z F2 H2 (w1.trans w2) rz hz
    | true => exact k _ _ F1 H1 w1 (.bl _) hq⟩
theorem simD_not (h : SimR A X a ta p) : SimD A X (.UnaryOp .Not a pos) (tNotV ta) (pNotV p) := ⟨h.hK, pe_not h.pe, fun F H σ st DQ Q ok e hp k =>
  h.rd F H σ st _ _ ok e hp fun x v F1 H1 w1 rx hq => by
    cases x <;> first | exact hq.elim | skip
    cases rx
    exact ⟨_, rfl, k _ _ F1 H1 w1 (.bl _) hq⟩⟩
/-! a if t else b -/
def pIf (c : PB) (p q : PR) : PR := fun st Q => c st fun k => if k = true then p st Q else q st Q
def pIfS (c : PB) (p q : PS_) : PS_ := fun st Q => c st fun k => if k = true then p st Q else q st Q
theorem simD_if (h : SimT A X c tA pA) (ha : SimD A X a ta p) (hb : SimD A X b tb q) : SimD A X (.IfExp c a b pos) (tIf tA ta tb) (pIf pA p q) := ⟨h.hK, pe_ifExp h.pt ha.pe hb.pe, fun F H σ st DQ Q ok e hp k =>
  h.rd F H σ st _ _ ok e hp fun c F1 H1 w1 hq => by
    cases c with
    | true => exact ha.rd F1 H1 σ st DQ Q (ok.mono w1) (e.trans w1) hq fun d z F2 H2 w2 rz hz => k d z F2 H2 (w1.trans w2) rz hz
    | false => exact hb.rd F1 H1 σ st DQ Q (ok.mono w1) (e.trans w1) hq fun d z F2 H2 w2 rz hz => k d z F2 H2 (w1.trans w2) rz hz⟩
theorem simS_if {p q : PS_} (h : SimT A X c tA pA) (ha : SimS A X a ta p) (hb : SimS A X b tb q) : SimS A X (.IfExp c a b pos) (tIf tA ta tb) (pIfS pA p q) := ⟨h.hK, pe_ifExp h.pt ha.pe hb.pe, fun F H σ st DQ Q ok e hp k =>
  h.rd F H σ st _ _ ok e hp fun c F1 H1 w1 hq => by
    cases c with
    | true => exact ha.rd F1 H1 σ st DQ Q (ok.mono w1) (e.trans w1) hq fun d z F2 H2 w2 rz hz => k d z F2 H2 (w1.trans w2) (rz.back fun a h => same_none w1.hh h) hz
    | false => exact hb.rd F1 H1 σ st DQ Q (ok.mono w1) (e.trans w1) hq fun d z F2 H2 w2 rz hz => k d z F2 H2 (w1.trans w2) (rz.back fun a h => same_none w1.hh h) hz⟩
/-! arguments, displays -/
def pNil : PAs := fun _ Q => Q []
def pCons (p : PR) (q : PAs) : PAs := fun st Q => p st fun d => q st fun ds => Q (d :: ds)
variable {tas : TA} {pas : PAs}
theorem simA_nil (hK : X.K = A.K := by rfl) : SimA A X [] tNil pNil := ⟨hK, pa_nil, fun F H σ st DQ Q ok e hp k => k [] [] F H (Wld.refl e.fh) .nil hp⟩
theorem simA_cons (h : SimD A X e t p) (g : SimA A X es tas pas) (hs : starEach (e :: es) X.env = (false, eval e X.env) :: starEach es X.env := by rfl) : SimA A X (e :: es) (tCons t tas) (pCons p pas) := ⟨h.hK, pa_cons h.pe g.pa hs, fun F H σ st DQ Q ok e hp k =>
  h.rd F H σ st _ _ ok e hp fun x v F1 H1 w1 rx hq => g.rd F1 H1 σ st _ _ (ok.mono w1) (e.trans w1) hq fun ds vs F2 H2 w2 rs hr => k _ _ F2 H2 (w1.trans w2) (.cons (Rep.mono w2.ff _ _ rx) rs) hr⟩
def pLst (q : PAs) : PS_ := fun st Q => q st fun ds => ds.length ≤ 100000 ∧ Q (.own ds)
def pTup (q : PAs) : PR := fun st Q => q st fun ds => ds.length ≤ 100000 ∧ Q (.tup ds)
theorem new_lst {K : PySem.W.Frag} {F H : Hp} {p : Addr} {vs : List V} {ds : List D} (e : Same F H) (n : H p = none) (r : Reps K F ds vs) : RepS K H F (upd H p (.lst vs)) (.own ds) (.ref p) :=
  ⟨p, vs, rfl, upd_same, e.free n, n, r⟩
theorem simS_lst (g : SimA A X es tas pas) : SimS A X (.List es pos) (tLst tas) (pLst pas) := ⟨g.hK, pe_lst g.pa, fun F H σ st DQ Q ok e hp k =>
  g.rd F H σ st _ _ ok e hp fun ds vs F1 H1 w1 rs hq => ⟨by rw [← rs.len]; exact line_of hq.1, fun p hp => k _ _ F1 _ (w1.new hp) ((new_lst w1.fh hp rs).back fun a h => same_none w1.hh h) hq.2⟩⟩
theorem simD_tup {x1} (g : SimA A X es tas pas) : SimD A X (.Tuple es x1 pos) (tTup tas) (pTup pas) := ⟨g.hK, pe_tup g.pa, fun F H σ st DQ Q ok e hp k =>
  g.rd F H σ st _ _ ok e hp fun ds vs F1 H1 w1 rs hq => ⟨by rw [← rs.len]; exact line_of hq.1, fun p hp => by
    have f : F1 p = none := w1.fh.free hp
    exact k _ _ (upd F1 p (.tup vs)) _ ((w1.new hp).freeze f upd_same (same_none w1.hh hp)) (.tup (.of upd_same) (Reps.mono (same_upd f) _ _ rs)) hq.2⟩⟩
end
end Pu
/-! The pure layer, part C: what is walked, targets, comprehensions. -/
namespace L2
open PySem PySem.Spec PyProof.Rows
/-- the signs of a text with their numbers, in new pairs -/
def Ites (z : Str) : It :=
  ⟨fun i _ => i < z.cps.size, fun i H v H' => ∃ T c, v = .ref T ∧ H T = none ∧ H' = upd H T (.tup [.int (i : Nat), .str ⟨#[c]⟩]) ∧ z.cps[i]? = some c, fun i _ => z.cps.size ≤ i⟩
theorem turn_enums {P : Program} {w : World} {K : PySem.W.Frag} {elts : List Expr} {kk : Nat} {tpos : Pos} (z : Str) (t : Tok) (e it : Addr) :
    Turn P w K (.Tuple elts kk tpos) (Ites z) [e, it] e (fun i h => (∃ old, IsEnum h e it ((i : Nat) : Int) old) ∧ h.IsStrIter it (strIterType z) z t i ∧ e ≠ it) where
  mem := List.mem_cons_self
  obj := fun i h st b hb => by
    obtain ⟨⟨old, he⟩, ⟨o, ho, hc, hd⟩, _⟩ := st
    rcases (show b = e ∨ b = it by simpa using hb) with q | q
    · subst q; exact ⟨_, he, fun v q => nomatch q⟩
    · subst q; exact ⟨o, ho, fun v q => by rw [hd] at q; cases q⟩
  keep := fun i h h' st k => by
    obtain ⟨⟨old, he⟩, ⟨o, ho, r⟩, hne⟩ := st
    exact ⟨⟨old, k e (by simp) _ he⟩, ⟨o, k it (by simp) o ho, r⟩, hne⟩
  item := by
    intro X hP hw hK hc i pins s σ H E I hf st hg
    subst hP hw hK
    obtain ⟨⟨old, he⟩, hit, hne⟩ := st
    have hel : e < s.heap.objs.size := Heap.lt_size he
    have hil : it < s.heap.objs.size := by obtain ⟨_, q, _⟩ := hit; exact Heap.lt_size q
    have DD : Draws X.prog X.w X.A.in1 it [it] z.cps.size (fun i v => ∃ c u, z.cps[i]? = some c ∧ v = .str ⟨#[c]⟩ u) (fun i h => h.IsStrIter it (strIterType z) z t i) := by
      have hh : X.A.in1.handled = none := I.ok.hd hc
      unfold strIterType
      split
      · exact Draws.strAscii hh it z t
      · exact Draws.strWide hh it z t
    refine wpAny_pyNext_enum_itemD DD he hit hg hne (by simpa using hne) fun x h' tk hx ho hit' hT hsz hk => ?_
    obtain ⟨c, u, hcx, rfl⟩ := hx
    refine ⟨_, rfl, wpAny_letOwnedTupleGo_enum (s := { s with heap := h', toks := tk + 1 }) ho fun h'' he' sb => ?_⟩
    have hT2 : h''.get? s.heap.objs.size = some { cls := .type "tuple", data := .seq #[.int i tk, .str ⟨#[c]⟩ u] } := (sb.2 _ (Nat.ne_of_gt hel)).trans hT
    have new : ObjOk X.prog X.w (upd H s.heap.objs.size (.tup [.int (i : Nat), .str ⟨#[c]⟩])) h'' s.heap.objs.size (.tup [.int (i : Nat), .str ⟨#[c]⟩]) :=
      ⟨by show 2 ≤ sizeLine; decide, [.int i tk, .str ⟨#[c]⟩ u], .cons ⟨_, rfl⟩ (.cons ⟨_, rfl⟩ .nil), ⟨_, hT2, rfl, _, rfl⟩⟩
    have I1 : Inv X pins σ (upd H s.heap.objs.size (.tup [.int (i : Nat), .str ⟨#[c]⟩])) { s with heap := h'', toks := tk + 1 } :=
      I.turnedNew (ch := [e, it]) (fun b ob hb q => (sb.2 b (fun y => hb (by simp [y]))).trans (hk b ob (fun y => hb (by simp [y])) (fun y => hb (by simp [y])) q)) hf (Nat.le_refl _) new
    refine ⟨.ref s.heap.objs.size, _, I1, rfl, ⟨_, c, rfl, I.hok.fresh (Nat.le_refl _), rfl, hcx⟩, ⟨⟨.str ⟨#[c]⟩ u, ?_⟩, ?_, hne⟩, fun b hb => ?_⟩
    · have e1 : ((i + 1 : Nat) : Int) = (i : Int) + 1 := by omega
      rw [e1]; exact he'
    · obtain ⟨o, q, r⟩ := hit'
      exact ⟨o, (sb.2 it (Ne.symm hne)).trans q, r⟩
    · have hb' : b < s.heap.objs.size := by
        rcases (show b = e ∨ b = it by simpa using hb) with q | q
        · subst q; exact hel
        · subst q; exact hil
      rw [upd_ne (Nat.ne_of_lt hb')]
      exact (hf b hb).1
  done := by
    intro X hP hw hK hc i pins s σ H E I hf st hg
    subst hP hw hK
    obtain ⟨⟨old, he⟩, hit, hne⟩ := st
    obtain ⟨f0, f1, f2, f3, f4, f5⟩ := hf it (by simp)
    have hh : X.A.in1.handled = none := I.ok.hd hc
    have fin : ∀ h', Heap.ExtBut it s.heap h' → (none : Option Value) = none ∧ Inv X pins σ H { s with heap := h' } := fun h' eb => ⟨rfl, I.turned (t' := s.toks) (fun b o hb q => eb b o hb q) f0 f1 f3 f4 f5⟩
    have hx : z.cps[i]? = none := Array.getElem?_eq_none hg
    have DD : Draws X.prog X.w X.A.in1 it [it] i (fun _ _ => False) (fun j h => j = i ∧ h.IsStrIter it (strIterType z) z t i) := by
      refine ⟨fun _ _ q => let ⟨o, ho, _⟩ := q.2; ⟨o, ho⟩, fun j h h' q k => ⟨q.1, let ⟨o, ho, r⟩ := q.2; ⟨o, k it (by simp) o ho, r⟩⟩, fun j s Q E hj q => absurd hj (by rw [q.1]; exact Nat.lt_irrefl _), fun s Q E q hE => ?_⟩
      have q2 := q.2
      unfold strIterType at q2
      split at q2
      · exact wpAny_nextOf_ascii_end hh q2 hx hE
      · exact wpAny_nextOf_wide_end hh q2 hx hE
    exact wpAny_pyNext_enum_endD DD he ⟨rfl, hit⟩ fin
  self := fun A i s Q E st h => let ⟨⟨_, he⟩, _⟩ := st; wpAny_pyIter_enum he h
def iEnumS (ta : TA) : TI := fun σ H R => ta σ H fun vs H1 => ∃ z, vs = [.str z] ∧ R (Ites z) H1
theorem pi_enums {X : Cx} {e : Expr} {ta : TA} {p pos tpos : Pos} {elts : List Expr} {kk : Nat} (hg : Gl X "enumerate") (hm : X.mg "enumerate" = none) (ha : PA X [e] ta) (hs : starEach [e] X.env = [(false, eval e X.env)] := by rfl) :
    PI X (.Tuple elts kk tpos) (.Call (.Name "enumerate" p) [e] [] pos) (iEnumS ta) := by
  refine ⟨fun pins s σ H R I h => ?_⟩
  refine Call_ (ld_blt I hg hm boot_enumerate (PyProof.Rows.callWith_type1 (thn (ha.run pos pins s σ H _ I h) fun us s1 ⟨vs, H1, I1, r1, q1⟩ => ?_) hs rfl))
  obtain ⟨z, ex, q⟩ := q1
  subst ex
  cases r1 with
  | cons r rr =>
    cases rr
    obtain ⟨t, rfl⟩ := r
    refine call_enumerate_str fun h' he hit hsz hk => wpAny_pyIter_enum he ?_
    have I2 : Inv X pins σ H1 { s1 with heap := h' } := I1.kept (t' := s1.toks) hk
    refine ⟨s1.heap.objs.size + 1, [s1.heap.objs.size + 1, s1.heap.objs.size], _, _, H1, rfl, I2, turn_enums z t (s1.heap.objs.size + 1) s1.heap.objs.size, ⟨⟨.none, he⟩, hit, Nat.succ_ne_self _⟩, fun b hb => ?_, q⟩
    have hle : s1.heap.objs.size ≤ b := by
      rcases (show b = s1.heap.objs.size + 1 ∨ b = s1.heap.objs.size by simpa using hb) with y | y
      · rw [y]; exact Nat.le_add_right _ _
      · rw [y]; exact Nat.le_refl _
    exact I1.fpOk hle (I1.hok.fresh hle)
end L2

namespace Pu
open PySem L2
/-- a walk gives the data ds, one after another -/
structure ItW (K : PySem.W.Frag) (J : It) (G : Hp → Prop) (F : Hp) (ds : List D) : Prop where
  go : ∀ i H, i < ds.length → G H → J.go i H
  stop : ∀ H, G H → J.stop ds.length H
  yld : ∀ (i : Nat) (d : D) (H : Hp) (x : V) (H' F1 : Hp), ds[i]? = some d → G H → Same F F1 → Same F1 H → J.yld i H x H' → ∃ F', Wld F1 H F' H' ∧ Rep K F' d x
/-- an iterable in a comprehension | in a for -/
def RdIc (A : Ax) (wi : TI) (p : PAs) : Prop := ∀ (F H : Hp) (σ : L2.St) (st : DS) (DQ : List D → Prop) (R : It → Hp → Prop), StOk A.K A.N F H σ st → Wld A.F0 A.N F H → p st DQ →
  (∀ ds J G F' H', Wld F H F' H' → ItW A.K J G F' ds → G H' → (∀ H1 H2, Same H1 H2 → G H1 → G H2) → DQ ds → R J H') → wi σ H R
def RdIf (A : Ax) (wi : TI) (p : PAs) : Prop := ∀ (F H : Hp) (σ : L2.St) (st : DS) (DQ : List D → Prop) (R : It → Hp → Prop), StOk A.K A.N F H σ st → Wld A.F0 A.N F H → p st DQ →
  (∀ ds J G F' H', Wld F H F' H' → ItW A.K J G F' ds → (∀ F1 H1, Same F' F1 → Same F1 H1 → G H1) → DQ ds → R J H') → wi σ H R
structure SimIc (A : Ax) (X : Cx) (tg iter : Expr) (wi : TI) (p : PAs) : Prop where
  hK : X.K = A.K
  pi : PI X tg iter wi
  rd : RdIc A wi p
structure SimIf (A : Ax) (X : Cx) (tg iter : Expr) (wi : TI) (p : PAs) : Prop where
  hK : X.K = A.K
  pi : PI X tg iter wi
  rd : RdIf A wi p
section
variable {A : Ax} {X : Cx} {tg e a b : Expr} {es : List Expr} {t ta tb : TE} {tas : TA} {p q : PR} {pas : PAs} {pos : Pos} {K : PySem.W.Frag} {F H : Hp}
theorem itw_list {c : Addr} {vs : List V} {ds : List D} (r : Reps K F ds vs) : ItW K (Itl K c) (fun H => SqL K H c vs) F ds :=
  ⟨fun i H hi g => by
    rw [r.len] at hi
    exact ⟨vs, vs[i], g, by simp [hi]⟩, fun H g => ⟨vs, g, by rw [r.len]; exact Nat.le_refl _⟩, fun i d H x H' F1 hd g s1 s2 y => by
    obtain ⟨rfl, y⟩ := y
    obtain ⟨v, hv, rv⟩ := r.get hd
    have := y vs g
    rw [hv] at this
    cases this
    exact ⟨F1, Wld.refl s2, Rep.mono s1 _ _ rv⟩⟩
theorem itw_tup {c : Addr} {vs : List V} {ds : List D} (r : Reps K F ds vs) : ItW K (Itt K c) (fun H => SqT K H c vs) F ds :=
  ⟨fun i H hi g => by
    rw [r.len] at hi
    exact ⟨vs, vs[i], g, by simp [hi]⟩, fun H g => ⟨vs, g, by rw [r.len]; exact Nat.le_refl _⟩, fun i d H x H' F1 hd g s1 s2 y => by
    obtain ⟨rfl, y⟩ := y
    obtain ⟨v, hv, rv⟩ := r.get hd
    have := y vs g
    rw [hv] at this
    cases this
    exact ⟨F1, Wld.refl s2, Rep.mono s1 _ _ rv⟩⟩
/-- a new pair -/
theorem pair_new {F1 H1 : Hp} {T : Addr} {x y : V} {d f : D} (s : Same F1 H1) (n : H1 T = none) (r1 : Rep K F1 d x) (r2 : Rep K F1 f y) : ∃ F', Wld F1 H1 F' (upd H1 T (.tup [x, y])) ∧ Rep K F' (.tup [d, f]) (.ref T) := by
  have n1 := s.free n
  refine ⟨upd F1 T (.tup [x, y]), ((Wld.refl s).new n).freeze n1 upd_same n, .tup (.of upd_same) (.cons (Rep.mono (same_upd n1) _ _ r1) (.cons (Rep.mono (same_upd n1) _ _ r2) .nil))⟩
def numbered (ds : List D) : List D := ds.mapIdx fun i d => .tup [.int (i : Nat), d]
theorem itw_enum {c : Addr} {vs : List V} {ds : List D} (r : Reps K F ds vs) : ItW K (Ite K c) (fun H => SqL K H c vs) F (numbered ds) :=
  ⟨fun i H hi g => by
    unfold numbered at hi
    rw [List.length_mapIdx, r.len] at hi
    exact ⟨vs, vs[i], g, by simp [hi]⟩, fun H g => ⟨vs, g, by unfold numbered; rw [List.length_mapIdx, r.len]; exact Nat.le_refl _⟩, fun i d H x H' F1 hd g s1 s2 y => by
    unfold numbered at hd
    rw [List.getElem?_mapIdx] at hd
    obtain ⟨T, z, rfl, n, rfl, y⟩ := y
    cases e : ds[i]? with
    | none => rw [e] at hd; cases hd
    | some f =>
      rw [e] at hd
      cases hd
      obtain ⟨v, hv, rv⟩ := r.get e
      have := y vs g
      rw [hv] at this
      cases this
      exact pair_new s2 n (.int _) (Rep.mono s1 _ _ rv)⟩
def signs (z : List Nat) : List D := z.map fun c => .str [c]
theorem itw_enums {z : List Nat} : ItW K (Ites ⟨z.toArray⟩) (fun _ => True) F (numbered (signs z)) :=
  ⟨fun i H hi _ => by
    unfold numbered signs at hi
    rw [List.length_mapIdx, List.length_map] at hi
    simpa [Ites] using hi, fun H _ => by unfold numbered signs; simp [Ites], fun i d H x H' F1 hd _ s1 s2 y => by
    unfold numbered signs at hd
    rw [List.getElem?_mapIdx, List.getElem?_map] at hd
    obtain ⟨T, c, rfl, n, rfl, y⟩ := y
    have y' : z[i]? = some c := by simpa using y
    rw [y'] at hd
    cases hd
    exact pair_new s2 n (.int _) (.str [c])⟩
theorem itw_str {z : List Nat} : ItW K (Its ⟨z.toArray⟩) (fun _ => True) F (signs z) :=
  ⟨fun i H hi _ => by
    unfold signs at hi
    rw [List.length_map] at hi
    simpa [Its] using hi, fun H _ => by unfold signs; simp [Its], fun i d H x H' F1 hd _ s1 s2 y => by
    unfold signs at hd
    rw [List.getElem?_map] at hd
    obtain ⟨rfl, c, y, rfl⟩ := y
    have y' : z[i]? = some c := by simpa using y
    rw [y'] at hd
    cases hd
    exact ⟨F1, Wld.refl s2, .str [c]⟩⟩
def upto (lo : Int) (n : Nat) : List D := (List.range n).map fun (i : Nat) => .int (lo + (i : Int))
theorem itw_range {lo : Int} {n : Nat} : ItW K (Itr lo n) (fun _ => True) F (upto lo n) :=
  ⟨fun i H hi _ => by
    unfold upto at hi
    rw [List.length_map, List.length_range] at hi
    exact hi, fun H _ => by show n ≤ _; simp [upto], fun i d H x H' F1 hd _ s1 s2 y => by
    unfold upto at hd
    rw [List.getElem?_map] at hd
    obtain ⟨rfl, rfl⟩ := y
    by_cases hi : i < n
    · rw [List.getElem?_range hi] at hd
      cases hd
      exact ⟨F1, Wld.refl s2, .int _⟩
    · rw [List.getElem?_eq_none (by simpa using hi)] at hd
      cases hd⟩

def pItL (p : PR) : PAs := fun st Q => p st fun d => match d with | .lst ds => Q ds | _ => False
def pItT (p : PR) : PAs := fun st Q => p st fun d => match d with | .tup ds => Q ds | _ => False
def pItS (p : PR) : PAs := fun st Q => p st fun d => match d with | .str z => Q (signs z) | _ => False
def pItE (p : PR) : PAs := fun st Q => p st fun d => match d with | .lst ds => Q (numbered ds) | _ => False
def pItES (p : PR) : PAs := fun st Q => p st fun d => match d with | .str z => Q (numbered (signs z)) | _ => False
def small (i : Int) : Prop := -(2 ^ 62) ≤ i ∧ i < 2 ^ 62
def pRng1 (p : PR) : PAs := fun st Q => p st fun d => match d with | .int n => small n ∧ Q (upto 0 n.toNat) | _ => False
def pRng2 (p q : PR) : PAs := fun st Q => p st fun d => q st fun f => match d, f with | .int lo, .int hi => small lo ∧ small hi ∧ Q (upto lo (hi - lo).toNat) | _, _ => False
theorem simIc_list (h : SimR A X e t p) : SimIc A X tg e (iList A.K t) (pItL p) := ⟨h.hK, h.hK ▸ pi_list h.pe, fun F H σ st DQ R ok s hp k => h.rd F H σ st _ _ ok s hp fun x v F1 H1 w1 rx hq => by
  cases x <;> first | exact hq.elim | skip
  obtain ⟨c, vs, rfl, h1, h2⟩ := rx
  exact ⟨c, rfl, ⟨vs, .inl h1⟩, k _ _ _ F1 H1 w1 (itw_list h2) (.inl h1) (fun H1 H2 s g => s.seq g) hq⟩⟩
theorem simIf_list (h : SimD A X e t p) : SimIf A X tg e (iList A.K t) (pItL p) := ⟨h.hK, h.hK ▸ pi_list h.pe, fun F H σ st DQ R ok s hp k => h.rd F H σ st _ _ ok s hp fun x v F1 H1 w1 rx hq => by
  cases x <;> first | exact hq.elim | skip
  cases rx with
  | lst h1 h2 => exact ⟨_, rfl, ⟨_, .inl (sq_mono w1.fh h1)⟩, k _ _ _ F1 H1 w1 (itw_list h2) (fun F2 H2 s1 s2 => .inl (sq_mono (s1.trans s2) h1)) hq⟩⟩
theorem simIf_tup (h : SimD A X e t p) : SimIf A X tg e (iTup A.K t) (pItT p) := ⟨h.hK, h.hK ▸ pi_tup h.pe, fun F H σ st DQ R ok s hp k => h.rd F H σ st _ _ ok s hp fun x v F1 H1 w1 rx hq => by
  cases x <;> first | exact hq.elim | skip
  cases rx with
  | tup h1 h2 => exact ⟨_, rfl, ⟨_, st_mono w1.fh h1⟩, k _ _ _ F1 H1 w1 (itw_tup h2) (fun F2 H2 s1 s2 => st_mono (s1.trans s2) h1) hq⟩⟩
theorem simIc_tup (h : SimD A X e t p) : SimIc A X tg e (iTup A.K t) (pItT p) := ⟨h.hK, h.hK ▸ pi_tup h.pe, fun F H σ st DQ R ok s hp k => h.rd F H σ st _ _ ok s hp fun x v F1 H1 w1 rx hq => by
  cases x <;> first | exact hq.elim | skip
  cases rx with
  | tup h1 h2 => exact ⟨_, rfl, ⟨_, st_mono w1.fh h1⟩, k _ _ _ F1 H1 w1 (itw_tup h2) (st_mono w1.fh h1) (fun H1 H2 s g => st_mono s g) hq⟩⟩
theorem rd_str (h : RdR A t p) : RdIc A (iStr t) (pItS p) := fun F H σ st DQ R ok s hp k => h F H σ st _ _ ok s hp fun x v F1 H1 w1 rx hq => by
  cases x <;> first | exact hq.elim | skip
  cases rx
  exact ⟨_, rfl, k _ _ _ F1 H1 w1 itw_str trivial (fun _ _ _ _ => trivial) hq⟩
theorem simIc_str (h : SimR A X e t p) : SimIc A X tg e (iStr t) (pItS p) := ⟨h.hK, pi_str h.pe, rd_str h.rd⟩
theorem rd_one (h : RdR A t p) : ∀ (F H : Hp) (σ : L2.St) (st : DS) (DQ : D → Prop) (Q : List V → Hp → Prop), StOk A.K A.N F H σ st → Wld A.F0 A.N F H → p st DQ → (∀ d v F' H', Wld F H F' H' → RepR A.K F' H' d v → DQ d → Q [v] H') → tCons t tNil σ H Q :=
  fun F H σ st DQ Q ok s hp k => h F H σ st DQ _ ok s hp fun d v F' H' w r q => k d v F' H' w r q
theorem simIc_enum {pp tpos : Pos} {elts : List Expr} {kk : Nat} (h : SimR A X e t p) (hm : X.mg "enumerate" = none) (hg : Gl X "enumerate" := by rfl) (hs : starEach [e] X.env = [(false, eval e X.env)] := by rfl) :
    SimIc A X (.Tuple elts kk tpos) (.Call (.Name "enumerate" pp) [e] [] pos) (iEnum A.K (tCons t tNil)) (pItE p) := ⟨h.hK, h.hK ▸ pi_enum hg hm (pa_cons h.pe pa_nil hs) hs, fun F H σ st DQ R ok s hp k => rd_one h.rd F H σ st _ _ ok s hp fun x v F1 H1 w1 rx hq => by
  cases x <;> first | exact hq.elim | skip
  obtain ⟨c, vs, rfl, h1, h2⟩ := rx
  exact ⟨c, vs, rfl, .inl h1, k _ _ _ F1 H1 w1 (itw_enum h2) (.inl h1) (fun H1 H2 s g => s.seq g) hq⟩⟩
theorem simIf_enum {pp tpos : Pos} {elts : List Expr} {kk : Nat} (h : SimD A X e t p) (hm : X.mg "enumerate" = none) (hg : Gl X "enumerate" := by rfl) (hs : starEach [e] X.env = [(false, eval e X.env)] := by rfl) :
    SimIf A X (.Tuple elts kk tpos) (.Call (.Name "enumerate" pp) [e] [] pos) (iEnum A.K (tCons t tNil)) (pItE p) := ⟨h.hK, h.hK ▸ pi_enum hg hm (pa_cons h.pe pa_nil hs) hs, fun F H σ st DQ R ok s hp k => h.rd F H σ st _ _ ok s hp fun x v F1 H1 w1 rx hq => by
  cases x <;> first | exact hq.elim | skip
  cases rx with
  | lst h1 h2 => exact ⟨_, _, rfl, .inl (sq_mono w1.fh h1), k _ _ _ F1 H1 w1 (itw_enum h2) (fun F2 H2 s1 s2 => .inl (sq_mono (s1.trans s2) h1)) hq⟩⟩
theorem simIc_enums {pp tpos : Pos} {elts : List Expr} {kk : Nat} (h : SimR A X e t p) (hm : X.mg "enumerate" = none) (hg : Gl X "enumerate" := by rfl) (hs : starEach [e] X.env = [(false, eval e X.env)] := by rfl) :
    SimIc A X (.Tuple elts kk tpos) (.Call (.Name "enumerate" pp) [e] [] pos) (iEnumS (tCons t tNil)) (pItES p) := ⟨h.hK, pi_enums hg hm (pa_cons h.pe pa_nil hs) hs, fun F H σ st DQ R ok s hp k => rd_one h.rd F H σ st _ _ ok s hp fun x v F1 H1 w1 rx hq => by
  cases x <;> first | exact hq.elim | skip
  cases rx
  exact ⟨_, rfl, k _ _ _ F1 H1 w1 itw_enums trivial (fun _ _ _ _ => trivial) hq⟩⟩
theorem simIf_enums {pp tpos : Pos} {elts : List Expr} {kk : Nat} (h : SimR A X e t p) (hm : X.mg "enumerate" = none) (hg : Gl X "enumerate" := by rfl) (hs : starEach [e] X.env = [(false, eval e X.env)] := by rfl) :
    SimIf A X (.Tuple elts kk tpos) (.Call (.Name "enumerate" pp) [e] [] pos) (iEnumS (tCons t tNil)) (pItES p) := ⟨h.hK, pi_enums hg hm (pa_cons h.pe pa_nil hs) hs, fun F H σ st DQ R ok s hp k => rd_one h.rd F H σ st _ _ ok s hp fun x v F1 H1 w1 rx hq => by
  cases x <;> first | exact hq.elim | skip
  cases rx
  exact ⟨_, rfl, k _ _ _ F1 H1 w1 itw_enums (fun _ _ _ _ => trivial) hq⟩⟩
theorem rd_rng1 (h : RdR A t p) : ∀ (F H : Hp) (σ : L2.St) (st : DS) (DQ : List D → Prop) (R : It → Hp → Prop), StOk A.K A.N F H σ st → Wld A.F0 A.N F H → pRng1 p st DQ →
  (∀ ds J F' H', Wld F H F' H' → ItW A.K J (fun _ => True) F' ds → DQ ds → R J H') → iRng1 (tCons t tNil) σ H R := fun F H σ st DQ R ok s hp k => rd_one h F H σ st _ _ ok s hp fun x v F1 H1 w1 rx hq => by
  cases x <;> first | exact hq.elim | skip
  cases rx
  exact ⟨_, rfl, hq.1.1, hq.1.2, k _ _ F1 H1 w1 itw_range hq.2⟩
theorem simIc_rng1 {pp : Pos} (h : SimR A X e t p) (hm : X.mg "range" = none) (hg : Gl X "range" := by rfl) (hs : starEach [e] X.env = (false, eval e X.env) :: starEach [] X.env := by rfl) : SimIc A X tg (.Call (.Name "range" pp) [e] [] pos) (iRng1 (tCons t tNil)) (pRng1 p) :=
  ⟨h.hK, pi_range1 hg hm (pa_cons h.pe pa_nil hs) hs, fun F H σ st DQ R ok s hp k => rd_rng1 h.rd F H σ st DQ R ok s hp fun ds J F' H' w i q => k ds J _ F' H' w i trivial (fun _ _ _ _ => trivial) q⟩
theorem simIf_rng1 {pp : Pos} (h : SimR A X e t p) (hm : X.mg "range" = none) (hg : Gl X "range" := by rfl) (hs : starEach [e] X.env = (false, eval e X.env) :: starEach [] X.env := by rfl) : SimIf A X tg (.Call (.Name "range" pp) [e] [] pos) (iRng1 (tCons t tNil)) (pRng1 p) :=
  ⟨h.hK, pi_range1 hg hm (pa_cons h.pe pa_nil hs) hs, fun F H σ st DQ R ok s hp k => rd_rng1 h.rd F H σ st DQ R ok s hp fun ds J F' H' w i q => k ds J _ F' H' w i (fun _ _ _ _ => trivial) q⟩
end
end Pu
/-! The pure layer, part D: targets, comprehensions, statements, defs and their calls. -/
namespace Pu
open PySem L2

/-! ### targets -/
abbrev Bnd := D → DS → (DS → Prop) → Prop
def bN (j : Nat) : Bnd := fun d st Q => Q (st.set j (some (.dat d)))
def b2 (j k : Nat) : Bnd := fun d st Q => match d with | .tup [a, b] => Q ((st.set j (some (.dat a))).set k (some (.dat b))) | _ => False
def b3 (i j k : Nat) : Bnd := fun d st Q => match d with | .tup [a, b, c] => Q (((st.set i (some (.dat a))).set j (some (.dat b))).set k (some (.dat c))) | _ => False
/-- g binds the slots js as b says -/
def RdG (A : Ax) (g : TG) (b : Bnd) (js : List Nat) : Prop := ∀ (F H : Hp) (σ : L2.St) (st : DS) (d : D) (x : V) (DQ : DS → Prop) (Q : L2.St → Hp → Prop), StOk A.K A.N F H σ st → Wld A.F0 A.N F H → Rep A.K F d x → b d st DQ →
  (∀ σ' st', StOk A.K A.N F H σ' st' → σ'.length = σ.length → (∀ i : Nat, i ∉ js → σ'[i]? = σ[i]?) → DQ st' → Q σ' H) → g x σ H Q
structure SimG (A : Ax) (X : Cx) (tg : Expr) (g : TG) (b : Bnd) (js : List Nat) : Prop where
  hK : X.K = A.K
  pg : PG X tg g
  rd : RdG A g b js
section
variable {A : Ax} {K : PySem.W.Frag} {N F H : Hp}
theorem put_dat {σ : L2.St} {st : DS} {j : Nat} {d : D} {x : V} (ok : StOk K N F H σ st) (r : Rep K F d x) : StOk K N F H (σ.set j (some x)) (st.set j (some (.dat d))) := ok.put (s := .dat d) r fun z => by cases z
theorem rdg_N {j : Nat} : RdG A (gName j) (bN j) [j] := fun F H σ st d x DQ Q ok s r hb k =>
  k _ _ (put_dat ok r) (by simp) (fun i hi => List.getElem?_set_ne (by simpa [eq_comm] using hi)) hb
theorem rdg_2 {j k : Nat} : RdG A (gTup A.K 2 (gCons (gName j) (gCons (gName k) gNil))) (b2 j k) [j, k] := fun F H σ st d x DQ Q ok s r hb kk => by
  cases r <;> first | exact hb.elim | skip
  rename_i h1 h2
  cases h2 with
  | nil => exact hb.elim
  | cons r1 t =>
    cases t with
    | nil => exact hb.elim
    | cons r2 t =>
      cases t with
      | cons r3 t => exact hb.elim
      | nil =>
        refine ⟨_, _, rfl, st_mono s.fh h1, rfl, _, _, rfl, _, _, rfl, rfl, ?_⟩
        refine kk _ _ (put_dat (put_dat ok r1) r2) (by simp) (fun i hi => ?_) hb
        simp only [List.mem_cons, List.not_mem_nil, or_false, not_or] at hi
        rw [List.getElem?_set_ne (Ne.symm hi.2), List.getElem?_set_ne (Ne.symm hi.1)]
theorem rdg_3 {i j k : Nat} : RdG A (gTup A.K 3 (gCons (gName i) (gCons (gName j) (gCons (gName k) gNil)))) (b3 i j k) [i, j, k] := fun F H σ st d x DQ Q ok s r hb kk => by
  cases r <;> first | exact hb.elim | skip
  rename_i h1 h2
  cases h2 with
  | nil => exact hb.elim
  | cons r1 t =>
    cases t with
    | nil => exact hb.elim
    | cons r2 t =>
      cases t with
      | nil => exact hb.elim
      | cons r3 t =>
        cases t with
        | cons r4 t => exact hb.elim
        | nil =>
          refine ⟨_, _, rfl, st_mono s.fh h1, rfl, _, _, rfl, _, _, rfl, _, _, rfl, rfl, ?_⟩
          refine kk _ _ (put_dat (put_dat (put_dat ok r1) r2) r3) (by simp) (fun i hi => ?_) hb
          simp only [List.mem_cons, List.not_mem_nil, or_false, not_or] at hi
          rw [List.getElem?_set_ne (Ne.symm hi.2.2), List.getElem?_set_ne (Ne.symm hi.2.1), List.getElem?_set_ne (Ne.symm hi.1)]
end
section
variable {A : Ax} {X : Cx} {x y z : Str} {p1 p2 p3 pos : Pos}
theorem simG_N (j : Nat) (nd : X.N.Nodup) (hi : X.N[j]? = some x := by rfl) (hx : Loc X.env.scope x := by first | exact Or.inl rfl | exact Or.inr rfl) (hf : X.fn x = true ∨ X.env.scope.names.lookup x = some .local := by first | exact .inl rfl | exact .inr rfl) (hK : X.K = A.K := by rfl) : SimG A X (.Name x pos) (gName j) (bN j) [j] :=
  ⟨hK, pg_name nd hi hx hf, rdg_N⟩
theorem simG_2 {n : Nat} (j k : Nat) (nd : X.N.Nodup) (hc : X.calm = true) (g1 : SimG A X (.Name x p1) (gName j) (bN j) [j]) (g2 : SimG A X (.Name y p2) (gName k) (bN k) [k]) : SimG A X (.Tuple [.Name x p1, .Name y p2] n pos) (gTup A.K 2 (gCons (gName j) (gCons (gName k) gNil))) (b2 j k) [j, k] :=
  ⟨g1.hK, g1.hK ▸ pg_tup hc (pgs_cons g1.pg (pgs_cons g2.pg pgs_nil)), rdg_2⟩
theorem simG_3 {n : Nat} (i j k : Nat) (nd : X.N.Nodup) (hc : X.calm = true) (g1 : SimG A X (.Name x p1) (gName i) (bN i) [i]) (g2 : SimG A X (.Name y p2) (gName j) (bN j) [j]) (g3 : SimG A X (.Name z p3) (gName k) (bN k) [k]) : SimG A X (.Tuple [.Name x p1, .Name y p2, .Name z p3] n pos) (gTup A.K 3 (gCons (gName i) (gCons (gName j) (gCons (gName k) gNil)))) (b3 i j k) [i, j, k] :=
  ⟨g1.hK, g1.hK ▸ pg_tup hc (pgs_cons g1.pg (pgs_cons g2.pg (pgs_cons g3.pg pgs_nil))), rdg_3⟩
end

/-! ### comprehensions -/
def dwipe (st : DS) : List Nat → DS
  | [] => st
  | v :: vs => (dwipe st vs).set v none
theorem wipe_at (σ : L2.St) (i : Nat) : ∀ vs : List Nat, (wipe σ vs)[i]? = if i ∈ vs ∧ i < σ.length then some none else σ[i]?
  | [] => by simp [wipe]
  | v :: vs => by
    unfold wipe
    by_cases h : v = i
    · subst h
      by_cases hv : v < σ.length
      · rw [List.getElem?_set_self (by rw [wipe_length]; exact hv), if_pos ⟨List.mem_cons_self, hv⟩]
      · rw [List.getElem?_eq_none (by rw [List.length_set, wipe_length]; omega), if_neg (fun q => hv q.2), List.getElem?_eq_none (by omega)]
    · rw [List.getElem?_set_ne h, wipe_at σ i vs]
      by_cases hm : i ∈ vs ∧ i < σ.length
      · rw [if_pos hm, if_pos ⟨List.mem_cons_of_mem _ hm.1, hm.2⟩]
      · rw [if_neg hm, if_neg (fun q => hm ⟨by
          rcases List.mem_cons.mp q.1 with e | e
          · exact absurd e.symm h
          · exact e, q.2⟩)]
theorem wipe_back {σ σ' : L2.St} {vs : List Nat} (hl : σ'.length = σ.length) (h : ∀ i : Nat, i ∉ vs → σ'[i]? = (wipe σ vs)[i]?) : wipe σ' vs = wipe σ vs := by
  apply List.ext_getElem?
  intro i
  rw [wipe_at, wipe_at]
  by_cases hm : i ∈ vs
  · by_cases hi : i < σ.length
    · rw [if_pos ⟨hm, by omega⟩, if_pos ⟨hm, hi⟩]
    · rw [if_neg (fun q => hi (by omega)), if_neg (fun q => hi q.2), List.getElem?_eq_none (by omega), List.getElem?_eq_none (by omega)]
  · rw [if_neg (fun q => hm q.1), if_neg (fun q => hm q.1), h i hm, wipe_at, if_neg (fun q => hm q.1)]
theorem stok_wipe {K : PySem.W.Frag} {N F H : Hp} {σ : L2.St} {st : DS} (ok : StOk K N F H σ st) : ∀ vs : List Nat, StOk K N F H (wipe σ vs) (dwipe st vs)
  | [] => ok
  | v :: vs => (stok_wipe ok vs).drop (i := v) (show ((wipe σ vs).set v none).length = _ by rw [List.length_set]) (fun j hj => show ((wipe σ vs).set v none)[j]? = _ by rw [List.getElem?_set_ne (Ne.symm hj)])
def pGo (b : Bnd) (c : PB) (p : PR) (st : DS) : List D → List D → (List D → Prop) → Prop
  | [], acc, Q => Q acc
  | d :: r, acc, Q => b d st fun st1 => c st1 fun k => if k = true then p st1 fun y => acc.length < 100000 ∧ pGo b c p st r (acc ++ [y]) Q else pGo b c p st r acc Q
def pLc (it : PAs) (b : Bnd) (vs : List Nat) (c : PB) (p : PR) : PS_ := fun st Q => it st fun ds => pGo b c p (dwipe st vs) ds [] fun acc => Q (.own acc)
def pYes : PB := fun _ Q => Q true
theorem rd_yes {A : Ax} : RdT A tYes pYes := fun F H σ st DQ Q ok s hp k => k true F H (Wld.refl s.fh) hp
theorem rd_lc {A : Ax} {wi : TI} {g : TG} {tt : TT} {te : TE} {vs js : List Nat} {it : PAs} {b : Bnd} {c : PB} {p : PR} (hi : RdIc A wi it) (hg : RdG A g b js) (hj : ∀ j ∈ js, j ∈ vs) (hc : RdT A tt c) (he : RdD A te p) : RdS A (tLc wi g tt te vs) (pLc it b vs c p) :=
  fun F H σ st DQ Q ok s hp k => hi F H σ st _ _ ok s hp fun ds J G F1 H1 w1 W g1 gm hgo Dl hD => by
    have hF1 : F1 Dl = none := w1.fh.free hD
    refine lc_it (w := (⟨W.go, W.stop, fun _ _ _ _ _ _ y => y⟩ : Walk J ds.length G J.yld))
      (fun i H' => ∃ F' acc vs', Wld F1 H1 F' H' ∧ H' Dl = some (.lst vs') ∧ F' Dl = none ∧ Reps A.K F' acc vs' ∧ pGo b c p (dwipe st vs) (ds.drop i) acc fun acc => DQ (.own acc)) ?_ ?_ ?_ ?_
    · exact ⟨F1, [], [], (Wld.refl w1.fh).new hD, upd_same, hF1, .nil, hgo⟩
    · rintro i H' _ ⟨F', acc, vs', w', -⟩
      exact gm _ _ w'.hh g1
    · rintro i x H2 H3 hi ⟨F2, acc, vs', w2, hl, hf, hr, go⟩ y
      have hd : ds[i]? = some ds[i] := by simp [hi]
      rw [List.drop_eq_getElem_cons hi] at go
      obtain ⟨F3, w3, r3⟩ := W.yld i _ H2 x H3 F2 hd (gm _ _ w2.hh g1) w2.ff w2.fh y
      have w13 := w2.trans w3
      have ok3 := stok_wipe (ok.mono (w1.trans w13)) vs
      refine hg F3 H3 _ _ _ x _ _ ok3 (s.trans (w1.trans w13)) r3 go fun σ' st' ok' hlen hsame hgo2 => ⟨wipe_back (by rw [hlen, wipe_length]) (fun i hi => hsame i fun z => hi (hj i z)), ?_⟩
      refine hc F3 H3 _ _ _ _ ok' (s.trans (w1.trans w13)) hgo2 fun kb F4 H4 w4 hgo3 => ?_
      have w14 := w13.trans w4
      have l4 : H4 Dl = some (.lst vs') := (w3.trans w4).hh _ _ hl
      have f4 : F4 Dl = none := (w3.trans w4).stay hf hl
      cases kb with
      | false => exact ⟨F4, acc, vs', w14, l4, f4, Reps.mono (w3.trans w4).ff _ _ hr, hgo3⟩
      | true =>
        refine he F4 H4 _ _ _ _ (ok'.mono w4) (s.trans (w1.trans w14)) hgo3 fun d v F5 H5 w5 rd hgo4 => ?_
        have l5 : H5 Dl = some (.lst vs') := w5.hh _ _ l4
        have f5 : F5 Dl = none := w5.stay f4 l4
        have rr := Reps.mono ((w3.trans w4).trans w5).ff _ _ hr
        exact ⟨vs', l5, by rw [← rr.len]; exact line_lt hgo4.1, F5, acc ++ [d], vs' ++ [v], (w14.trans w5).write f5 hD, upd_same, f5, rr.app (.cons rd .nil), hgo4.2⟩
    · rintro H' ⟨F', acc, vs', w', hl, hf, hr, go⟩
      rw [List.drop_length] at go
      exact k (.own acc) _ F' H' (w1.trans w') ⟨Dl, vs', rfl, hl, hf, same_none w1.hh hD, hr⟩ go
section
variable {A : Ax} {X : Cx} {elt tg iter : Expr} {ifs : List Expr} {scope : Scope} {own : List (Str × Nat)} {pos : Pos} {wi : TI} {g : TG} {tt : TT} {te : TE} {js : List Nat} {it : PAs} {b : Bnd} {c : PB} {p : PR}
structure SimC (A : Ax) (X : Cx) (ifs : List Expr) (tt : TT) (c : PB) : Prop where
  hK : X.K = A.K
  pt : PTs X ifs tt
  rd : RdT A tt c
theorem simC_nil (hK : X.K = A.K := by rfl) : SimC A X [] tYes pYes := ⟨hK, pts_nil, rd_yes⟩
theorem simC_one {e : Expr} (h : SimT A X e tt c) : SimC A X [e] tt c := ⟨h.hK, pts_one h.pt, h.rd⟩
theorem simS_lc (hc : X.calm = true) (hN : X.N.Nodup) (ok : BlkOk X.N X.env.scope scope own) (hi : SimIc A X tg iter wi it)
    (hg : ∀ (s : Shared) (H : Hp) (C : Addr) (cl : List (Str × Addr)) (fp : List Addr), SimG A (X.blk s H scope (compEnvC scope cl C X.env) fp) tg g b js) (hj : ∀ j ∈ js, j ∈ own.map (·.2))
    (ht : ∀ (s : Shared) (H : Hp) (C : Addr) (cl : List (Str × Addr)) (fp : List Addr), SimC A (X.blk s H scope (compEnvC scope cl C X.env) fp) ifs tt c)
    (he : ∀ (s : Shared) (H : Hp) (C : Addr) (cl : List (Str × Addr)) (fp : List Addr), SimD A (X.blk s H scope (compEnvC scope cl C X.env) fp) elt te p) (hs : ∀ x, foldedSetIterable iter X.env x = pure x := by intro _; rfl) :
    SimS A X (.ListComp elt [⟨tg, iter, ifs, 0⟩] scope pos) (tLc wi g tt te (own.map (·.2))) (pLc it b (own.map (·.2)) c p) := by
  have s0 : Shared := {}
  exact ⟨hi.hK, pe_lc hc hN hi.pi ok (fun s H C cl fp => (hg s H C cl fp).pg) (fun s H C cl fp => (ht s H C cl fp).pt) (fun s H C cl fp => (he s H C cl fp).pe) hs,
    rd_lc hi.rd (hg s0 (fun _ => none) 0 [] []).rd hj (ht s0 (fun _ => none) 0 [] []).rd (he s0 (fun _ => none) 0 [] []).rd⟩
end
end Pu
/-! The pure layer, part E: statements, defs, calls. -/
namespace Pu
open PySem L2

structure DEnds where
  nx : DS → Prop
  rt : SV → Prop
  bk : DS → Prop := fun _ => False
  ct : DS → Prop := fun _ => False
abbrev PSt := DEnds → DS → Prop
/-- the ends, wherever the data of Fb still stand -/
structure Cmp (A : Ax) (Fb : Hp) (DD : DEnds) (E : Ends) : Prop where
  nx : ∀ F H σ st, Same Fb F → StOk A.K A.N F H σ st → Wld A.F0 A.N F H → DD.nx st → E.nx σ H
  bk : ∀ F H σ st, Same Fb F → StOk A.K A.N F H σ st → Wld A.F0 A.N F H → DD.bk st → E.bk σ H
  ct : ∀ F H σ st, Same Fb F → StOk A.K A.N F H σ st → Wld A.F0 A.N F H → DD.ct st → E.ct σ H
  rt : ∀ F H s v, Same Fb F → Wld A.F0 A.N F H → RepS A.K A.N F H s v → DD.rt s → E.rt v H
theorem Cmp.mono {A : Ax} {F F' : Hp} {DD : DEnds} {E : Ends} (c : Cmp A F DD E) (e : Same F F') : Cmp A F' DD E :=
  ⟨fun F H σ st s => c.nx F H σ st (e.trans s), fun F H σ st s => c.bk F H σ st (e.trans s), fun F H σ st s => c.ct F H σ st (e.trans s), fun F H s v q => c.rt F H s v (e.trans q)⟩
def RdSt (A : Ax) (t : TS) (p : PSt) : Prop := ∀ (F H : Hp) (σ : L2.St) (st : DS) (DD : DEnds) (E : Ends), StOk A.K A.N F H σ st → Wld A.F0 A.N F H → Cmp A F DD E → p DD st → t E σ H
structure SimSt (A : Ax) (X : Cx) (s : Stmt) (t : TS) (p : PSt) : Prop where
  hK : X.K = A.K
  ps : PS X s t
  rd : RdSt A t p
structure SimB (A : Ax) (X : Cx) (ss : List Stmt) (t : TS) (p : PSt) : Prop where
  hK : X.K = A.K
  ps : PSs X ss t
  rd : RdSt A t p
section
variable {A : Ax} {X : Cx} {s : Stmt} {rest ss ss' : List Stmt} {t u : TS} {p q : PSt} {e c : Expr} {te : TE} {tc : TT} {pe : PR} {pes : PS_} {pc : PB} {pos : Pos}
def pNext : PSt := fun E st => E.nx st
def pSeq (p q : PSt) : PSt := fun E st => p { E with nx := q E } st
theorem simB_nil (hK : X.K = A.K := by rfl) : SimB A X [] tNext pNext := ⟨hK, pss_nil, fun F H σ st DD E ok w c hp => c.nx F H σ st (Same.refl _) ok w hp⟩
theorem simB_cons (h : SimSt A X s t p) (g : SimB A X rest u q) : SimB A X (s :: rest) (tSeq t u) (pSeq p q) := ⟨h.hK, pss_cons h.ps g.ps, fun F H σ st DD E ok w c hp =>
  h.rd F H σ st { DD with nx := q DD } { E with nx := u E } ok w ⟨fun F1 H1 σ1 st1 s1 ok1 w1 z => g.rd F1 H1 σ1 st1 DD E ok1 w1 (c.mono s1) z, c.bk, c.ct, c.rt⟩ hp⟩
theorem simB_one (h : SimSt A X s t p) : SimB A X [s] t p := ⟨h.hK, pss_one h.ps, h.rd⟩
theorem sim_pass (hK : X.K = A.K := by rfl) : SimSt A X (.Pass pos) tNext pNext := ⟨hK, ps_pass, fun F H σ st DD E ok w c hp => c.nx F H σ st (Same.refl _) ok w hp⟩
def pBreak : PSt := fun E st => E.bk st
def pCont : PSt := fun E st => E.ct st
theorem sim_break (hK : X.K = A.K := by rfl) : SimSt A X (.Break pos) tBreak pBreak := ⟨hK, ps_break, fun F H σ st DD E ok w c hp => c.bk F H σ st (Same.refl _) ok w hp⟩
theorem sim_continue (hK : X.K = A.K := by rfl) : SimSt A X (.Continue pos) tCont pCont := ⟨hK, ps_continue, fun F H σ st DD E ok w c hp => c.ct F H σ st (Same.refl _) ok w hp⟩
/-- code that is never come to -/
def pNever : PSt := fun _ _ => False
theorem sim_never (hK : X.K = A.K := by rfl) : SimSt A X s tNever pNever := ⟨hK, ps_never, fun _ _ _ _ _ _ _ _ _ hp => hp.elim⟩
def pRet (p : PS_) : PSt := fun E st => p st E.rt
theorem sim_ret (h : SimS A X e te pes) : SimSt A X (.Return (some e) pos) (tRet te) (pRet pes) := ⟨h.hK, ps_ret h.pe, fun F H σ st DD E ok w c hp =>
  h.rd F H σ st _ _ ok w hp fun s v F' H' w' r z => c.rt F' H' s v w'.ff (w.trans w') (r.back fun a h => same_none w.hh h) z⟩
/-- a name's value leaves, even if it was its own -/
def pRetV (i : Nat) : PSt := fun E st => match st[i]? with | some (some s) => E.rt s | _ => False
theorem sim_retV (i : Nat) {x : Str} {p0 : Pos} (hN : X.N[i]? = some x := by rfl) (hv : Vis X.env.scope x := by first | exact Or.inl rfl | exact Or.inr (Or.inl rfl) | exact Or.inr (Or.inr rfl)) (hd : (x == ("__debug__" : Str)) = false := by decide)
    (hcd : (x == ("__classdict__" : Str)) = false := by decide) (hK : X.K = A.K := by rfl) : SimSt A X (.Return (some (.Name x p0)) pos) (tRet (tVar i)) (pRetV i) := ⟨hK, ps_ret (pe_var hN hv hd hcd), fun F H σ st DD E ok w c hp => by
  unfold pRetV at hp
  split at hp
  · rename_i s hs
    obtain ⟨v, hv, r⟩ := ok.at_ i s hs
    exact ⟨v, hv, c.rt F H s v (Same.refl _) w r hp⟩
  · exact hp.elim⟩
def pIfSt (c : PB) (p q : PSt) : PSt := fun E st => c st fun b => if b = true then p E st else q E st
theorem sim_if (hc : SimT A X c tc pc) (ha : SimB A X ss t p) (hb : SimB A X ss' u q) : SimSt A X (.If c ss ss' pos) (tIfS tc t u) (pIfSt pc p q) := ⟨hc.hK, ps_if hc.pt ha.ps hb.ps, fun F H σ st DD E ok w c hp =>
  hc.rd F H σ st _ _ ok w hp fun b F1 H1 w1 z => by
    cases b with
    | true => exact ha.rd F1 H1 σ st DD E (ok.mono w1) (w.trans w1) (c.mono w1.ff) z
    | false => exact hb.rd F1 H1 σ st DD E (ok.mono w1) (w.trans w1) (c.mono w1.ff) z⟩
/-- a name is given a value just made -/
theorem put_new {K : PySem.W.Frag} {F H F' H' : Hp} {σ : L2.St} {st : DS} {i : Nat} {s : SV} {v : V} (ok : StOk K A.N F H σ st) (w : Wld A.F0 A.N F H) (w' : Wld F H F' H') (r : RepS K H F' H' s v) : StOk K A.N F' H' (σ.set i (some v)) (st.set i (some s)) :=
  (ok.mono w').put (r.back fun a h => same_none w.hh h) fun m j t e1 m1 e2 => by
    obtain ⟨x, f1, q⟩ := ok.at_ j t e1
    rw [e2] at f1
    cases f1
    cases s <;> cases t <;> first | (cases m; done) | (cases m1; done) | skip
    all_goals
      obtain ⟨l, _, rfl, h1, _⟩ := q
      obtain ⟨l', _, e, _, _, h2, _⟩ := r
      cases e
      rw [h1] at h2
      cases h2
def pSet (i : Nat) (p : PS_) : PSt := fun E st => p st fun s => E.nx (st.set i (some s))
theorem rd_set {i : Nat} (h : RdS A te pes) : RdSt A (tAsg te (gName i)) (pSet i pes) := fun F H σ st DD E ok w c hp =>
  h F H σ st _ _ ok w hp fun s v F' H' w' r z => c.nx F' H' _ _ w'.ff (put_new ok w w' r) (w.trans w') z
theorem sim_set (i : Nat) {x : Str} {pos' : Pos} (hN : X.N.Nodup) (h : SimS A X e te pes) (hi : X.N[i]? = some x := by rfl) (hx : Loc X.env.scope x := by first | exact Or.inl rfl | exact Or.inr rfl) (hs : swapsWith e (some (.Name x pos')) pos.line X.env = pure false := by rfl)
    (hf : X.fn x = true ∨ X.env.scope.names.lookup x = some .local := by first | exact .inl rfl | exact .inr rfl) : SimSt A X (.Assign [.Name x pos'] e pos) (tAsg te (gName i)) (pSet i pes) := ⟨h.hK, ps_set hN hi hx h.pe hs hf, rd_set h.rd⟩
theorem sim_setLc (i : Nat) {y : Str} {py : Pos} {elt tg iter : Expr} {ifs : List Expr} {scope : Scope} {own : List (Str × Nat)} {pos spos : Pos} {wi : TI} {g : TG} {tt : TT} {te : TE} {js : List Nat} {it : PAs} {b : Bnd} {c : PB} {p : PR} (hc : X.calm = true) (hN : X.N.Nodup)
    (ok : BlkOk X.N X.env.scope scope own) (hi : SimIc A X tg iter wi it)
    (hg : ∀ (s : Shared) (H : Hp) (C : Addr) (cl : List (Str × Addr)) (fp : List Addr), SimG A (X.blk s H scope (compEnvC scope cl C X.env) fp) tg g b js) (hj : ∀ j ∈ js, j ∈ own.map (·.2))
    (ht : ∀ (s : Shared) (H : Hp) (C : Addr) (cl : List (Str × Addr)) (fp : List Addr), SimC A (X.blk s H scope (compEnvC scope cl C X.env) fp) ifs tt c)
    (he : ∀ (s : Shared) (H : Hp) (C : Addr) (cl : List (Str × Addr)) (fp : List Addr), SimD A (X.blk s H scope (compEnvC scope cl C X.env) fp) elt te p)
    (hsw : swapsWith (.ListComp elt [⟨tg, iter, ifs, 0⟩] scope pos) (some (.Name y py)) spos.line X.env = pure true) (hy : X.N[i]? = some y := by rfl) (hyl : X.env.scope.names.lookup y = some .local := by rfl) (hs : ∀ x, foldedSetIterable iter X.env x = pure x := by intro _; rfl) :
    SimSt A X (.Assign [.Name y py] (.ListComp elt [⟨tg, iter, ifs, 0⟩] scope pos) spos) (tAsg (tLc wi g tt te (own.map (·.2))) (gName i)) (pSet i (pLc it b (own.map (·.2)) c p)) := by
  have s0 : Shared := {}
  exact ⟨hi.hK, ps_setLc hc hN hy hyl hsw hi.pi ok (fun s H C cl fp => (hg s H C cl fp).pg) (fun s H C cl fp => (ht s H C cl fp).pt) (fun s H C cl fp => (he s H C cl fp).pe) hs,
    rd_set (rd_lc hi.rd (hg s0 (fun _ => none) 0 [] []).rd hj (ht s0 (fun _ => none) 0 [] []).rd (he s0 (fun _ => none) 0 [] []).rd)⟩
def pAsg (p : PR) (b : Bnd) : PSt := fun E st => p st fun d => b d st E.nx
theorem sim_asg {tg : Expr} {g : TG} {b : Bnd} {js : List Nat} (h : SimD A X e te pe) (hg : SimG A X tg g b js) (hs : swapsWithSole [tg] e pos.line X.env = pure false := by rfl) (hw : swappedStores [tg] e X.env = pure none := by rfl) (h1 : (assignEach [tg] X.env).map (·.2) = [assign tg X.env] := by rfl) : SimSt A X (.Assign [tg] e pos) (tAsg te g) (pAsg pe b) :=
  ⟨h.hK, ps_asg h.pe hg.pg hs hw h1, fun F H σ st DD E ok w c hp => h.rd F H σ st _ _ ok w hp fun d v F1 H1 w1 r z =>
    hg.rd F1 H1 σ st d v _ _ (ok.mono w1) (w.trans w1) r z fun σ' st' ok' _ _ y => c.nx F1 H1 σ' st' w1.ff ok' (w.trans w1) y⟩
def pDrop (p : PS_) : PSt := fun E st => p st fun _ => E.nx st
theorem sim_expr (h : SimS A X e te pes) (hs : swapsWith e none pos.line X.env = pure false := by rfl) : SimSt A X (.Expr e pos) (tDrop te) (pDrop pes) := ⟨h.hK, ps_expr h.pe hs, fun F H σ st DD E ok w c hp =>
  h.rd F H σ st _ _ ok w hp fun s v F1 H1 w1 r z => c.nx F1 H1 σ st w1.ff (ok.mono w1) (w.trans w1) z⟩
/-- a ghost: what a name owns becomes data -/
def pFix (i : Nat) (p : PSt) : PSt := fun E st => match st[i]? with | some (some s) => p E (st.set i (some (.dat s.d))) | _ => False
theorem stok_fix {K : PySem.W.Frag} {F H : Hp} {σ : L2.St} {st : DS} {i : Nat} {s : SV} (ok : StOk K A.N F H σ st) (w : Wld A.F0 A.N F H) (e : st[i]? = some (some s)) : ∃ F', Same F F' ∧ Wld A.F0 A.N F' H ∧ StOk K A.N F' H σ (st.set i (some (.dat s.d))) := by
  obtain ⟨v, hv, r⟩ := ok.at_ i s e
  have hi : i < st.length := (List.getElem?_eq_some_iff.mp e).1
  have same : σ.set i (some v) = σ := by
    apply List.ext_getElem?
    intro j
    by_cases z : i = j
    · subst z; rw [List.getElem?_set_self (by rw [← ok.len]; exact hi), hv]
    · rw [List.getElem?_set_ne z]
  -- all others stay when the object at l is put among the data
  have step : ∀ (l : Addr) (o : HO), v = .ref l → s.mut = true → H l = some o → F l = none → A.N l = none → Rep K (upd F l o) s.d v → ∃ F', Same F F' ∧ Wld A.F0 A.N F' H ∧ StOk K A.N F' H σ (st.set i (some (.dat s.d))) := fun l o hl hm h1 h2 h3 hr => by
    subst hl
    refine ⟨upd F l o, same_upd h2, w.freeze h2 h1 h3, ?_, ?_, ?_⟩
    · simpa using ok.len
    · intro j t et
      by_cases z : i = j
      · subst z
        rw [List.getElem?_set_self hi] at et
        cases et
        exact ⟨_, hv, hr⟩
      · rw [List.getElem?_set_ne z] at et
        obtain ⟨x, e1, r1⟩ := ok.at_ j t et
        refine ⟨x, e1, ?_⟩
        cases t with
        | dat d => exact Rep.mono (same_upd h2) _ _ r1
        | own ds =>
          obtain ⟨l', vs, rfl, a1, a2, a3, a4⟩ := r1
          have ne : l' ≠ l := fun q => by subst q; exact ok.apart i j s _ _ z e et hm rfl hv e1
          exact ⟨l', vs, rfl, a1, by rw [upd_ne ne]; exact a2, a3, Reps.mono (same_upd h2) _ _ a4⟩
        | ownK kvs =>
          obtain ⟨l', vs, rfl, a1, a2, a3, a4, a5⟩ := r1
          have ne : l' ≠ l := fun q => by subst q; exact ok.apart i j s _ _ z e et hm rfl hv e1
          exact ⟨l', vs, rfl, a1, by rw [upd_ne ne]; exact a2, a3, a4, Reps.mono (same_upd h2) _ _ a5⟩
    · intro j k t u x hjk e1 e2 m1 m2 f1 f2
      have a : ∀ (m : Nat) (t : SV), (st.set i (some (.dat s.d)))[m]? = some (some t) → t.mut = true → st[m]? = some (some t) := fun m t e m1 => by
        by_cases z : i = m
        · subst z
          rw [List.getElem?_set_self hi] at e
          cases e
          cases m1
        · rw [List.getElem?_set_ne z] at e
          exact e
      exact ok.apart j k t u x hjk (a _ _ e1 m1) (a _ _ e2 m2) m1 m2 f1 f2
  cases s with
  | dat d =>
    refine ⟨F, Same.refl _, w, ?_⟩
    have q := put_dat (j := i) ok (show Rep K F d v from r)
    rw [same] at q
    exact q
  | own ds =>
    obtain ⟨l, vs, hl, h1, h2, h3, h4⟩ := r
    exact step l _ hl rfl h1 h2 h3 (hl ▸ .lst (.inl upd_same) (Reps.mono (same_upd h2) _ _ h4))
  | ownK kvs =>
    obtain ⟨l, vs, hl, h1, h2, h3, h4, h5⟩ := r
    exact step l _ hl rfl h1 h2 h3 (hl ▸ .dct upd_same h4 (Reps.mono (same_upd h2) _ _ h5))
theorem simB_fix (i : Nat) (h : SimB A X ss t p) : SimB A X ss t (pFix i p) := ⟨h.hK, h.ps, fun F H σ st DD E ok w c hp => by
  unfold pFix at hp
  split at hp
  · rename_i s hs
    obtain ⟨F', s1, w1, ok1⟩ := stok_fix ok w hs
    exact h.rd F' H σ _ DD E ok1 w1 (c.mono s1) hp
  · exact hp.elim⟩
theorem simSt_fix (i : Nat) (h : SimSt A X s t p) : SimSt A X s t (pFix i p) := ⟨h.hK, h.ps, fun F H σ st DD E ok w c hp => by
  unfold pFix at hp
  split at hp
  · rename_i s hs
    obtain ⟨F', s1, w1, ok1⟩ := stok_fix ok w hs
    exact h.rd F' H σ _ DD E ok1 w1 (c.mono s1) hp
  · exact hp.elim⟩
/-- an owned object changes in place -/
theorem stok_write {K : PySem.W.Frag} {F H : Hp} {σ : L2.St} {st : DS} {i : Nat} {s s' : SV} {l : Addr} {o : HO} (ok : StOk K A.N F H σ st) (e : st[i]? = some (some s)) (m : s.mut = true) (hv : σ[i]? = some (some (.ref l)))
    (new : RepS K A.N F (upd H l o) s' (.ref l)) : StOk K A.N F (upd H l o) σ (st.set i (some s')) := by
  have hi : i < st.length := (List.getElem?_eq_some_iff.mp e).1
  have ne : ∀ (j : Nat) (t : SV) (l' : Addr), i ≠ j → st[j]? = some (some t) → t.mut = true → σ[j]? = some (some (.ref l')) → l' ≠ l := fun j t l' z et mt ev q => by
    subst q
    exact ok.apart i j s t _ z e et m mt hv ev
  refine ⟨by simpa using ok.len, fun j t et => ?_, fun j k t u x hjk e1 e2 m1 m2 f1 f2 => ?_⟩
  · by_cases z : i = j
    · subst z
      rw [List.getElem?_set_self hi] at et
      cases et
      exact ⟨_, hv, new⟩
    · rw [List.getElem?_set_ne z] at et
      obtain ⟨x, e1, r1⟩ := ok.at_ j t et
      refine ⟨x, e1, ?_⟩
      cases t with
      | dat d => exact r1
      | own ds =>
        obtain ⟨l', vs, rfl, a1, a2, a3, a4⟩ := r1
        exact ⟨l', vs, rfl, by rw [upd_ne (ne j _ l' z et rfl e1)]; exact a1, a2, a3, a4⟩
      | ownK kvs =>
        obtain ⟨l', vs, rfl, a1, a2, a3, a4, a5⟩ := r1
        exact ⟨l', vs, rfl, by rw [upd_ne (ne j _ l' z et rfl e1)]; exact a1, a2, a3, a4, a5⟩
  · have old : ∀ (k : Nat) (t : SV), (st.set i (some s'))[k]? = some (some t) → t.mut = true → ∃ t', st[k]? = some (some t') ∧ t'.mut = true := fun k t ek mk => by
      by_cases z : i = k
      · subst z; exact ⟨s, e, m⟩
      · rw [List.getElem?_set_ne z] at ek; exact ⟨t, ek, mk⟩
    obtain ⟨t', a1, a2⟩ := old j t e1 m1
    obtain ⟨u', b1, b2⟩ := old k u e2 m2
    exact ok.apart j k t' u' x hjk a1 b1 a2 b2 f1 f2
def pApp (i : Nat) (p : PR) : PSt := fun E st => match st[i]? with | some (some (.own ds)) => p st (fun d => ds.length < 100000 ∧ E.nx (st.set i (some (.own (ds ++ [d]))))) | _ => False
theorem rd_app {i : Nat} (h : RdD A te pe) : RdSt A (tDrop (tBM A.K "list" rAppend (tVar i) (tCons te tNil))) (pApp i pe) := fun F H σ st DD E ok w c hp => by
  unfold pApp at hp
  split at hp
  · rename_i ds hs
    obtain ⟨v, hv, l, vs, rfl, h1, h2, h3, h4⟩ := ok.at_ i _ hs
    refine ⟨_, hv, .inl ⟨rfl, vs, .of h1⟩, ?_⟩
    refine h F H σ st _ _ ok w hp fun d x F1 H1 w1 rx z => ?_
    have a1 := w1.hh _ _ h1
    have a2 := w1.stay h2 h1
    refine ⟨l, vs, x, rfl, rfl, a1, by rw [← h4.len]; exact line_lt z.1, ?_⟩
    refine c.nx F1 _ σ _ w1.ff (stok_write (ok.mono w1) hs rfl hv ?_) ((w.trans w1).write a2 h3) z.2
    exact ⟨l, _, rfl, upd_same, a2, h3, (Reps.mono w1.ff _ _ h4).app (.cons rx .nil)⟩
  · exact hp.elim
theorem sim_app (i : Nat) {x : Str} {p0 apos cpos : Pos} (h : SimD A X e te pe) (hN : X.N[i]? = some x := by rfl) (hv : Vis X.env.scope x := by first | exact Or.inl rfl | exact Or.inr (Or.inl rfl) | exact Or.inr (Or.inr rfl)) (hd : (x == ("__debug__" : Str)) = false := by decide)
    (hcd : (x == ("__classdict__" : Str)) = false := by decide) (hsw : swapsWith (.Call (.Attribute (.Name x p0) "append" apos) [e] [] cpos) none pos.line X.env = pure false := by rfl) (hbase : attributeBase (.Name x p0) "append" X.env (eval (.Name x p0) X.env) = eval (.Name x p0) X.env := by rfl)
    (hfew : ((backTo cpos (starEach [e] X.env)).all (fun x => !x.1) && (backToKw cpos (keywordEach [] X.env)).all (fun x => x.1.isSome) && decide ([e].length + ([] : List Keyword).length + (if ([] : List Keyword).isEmpty then 0 else 1) < 30)) = true := by rfl)
    (hline : (apos.endLine == cpos.line) = true := by rfl) (hs : starEach [e] X.env = (false, eval e X.env) :: starEach [] X.env := by rfl) (hplain : (backTo cpos (starEach [] X.env)).any (·.1) = false := by rfl) :
    SimSt A X (.Expr (.Call (.Attribute (.Name x p0) "append" apos) [e] [] cpos) pos) (tDrop (tBM A.K "list" rAppend (tVar i) (tCons te tNil))) (pApp i pe) :=
  ⟨h.hK, h.hK ▸ ps_expr (pe_bm PySem.F.plainAttrs_list PySem.F.slot_list_append PySem.F.type_list_append mt_append (pe_var hN hv hd hcd) (pa_cons h.pe pa_nil hs) hbase hfew hline hs hplain) hsw, rd_app h.rd⟩
end
end Pu
/-! The pure layer, part F: loops, exceptions, defs and their calls. -/
namespace Pu
open PySem L2
section
variable {A : Ax} {X : Cx} {s : Stmt} {rest ss ss' body : List Stmt} {t u tb : TS} {p q pb : PSt} {e c tg iter : Expr} {te : TE} {tc : TT} {pe : PR} {pes : PS_} {pc : PB} {pos : Pos} {wi : TI} {g : TG} {b : Bnd} {js : List Nat} {it : PAs}
/-! ### loops -/
def pForGo (b : Bnd) (body : PSt) (E : DEnds) : List D → DS → Prop
  | [], st => E.nx st
  | d :: r, st => b d st fun st1 => body { nx := pForGo b body E r, rt := E.rt, bk := E.nx, ct := pForGo b body E r } st1
def pFor (it : PAs) (b : Bnd) (body : PSt) : PSt := fun E st => it st fun ds => pForGo b body E ds st
theorem rd_for (hi : RdIf A wi it) (hg : RdG A g b js) (hb : RdSt A tb pb) : RdSt A (tFor wi g tb) (pFor it b pb) := fun F H σ st DD E ok w c hp =>
  hi F H σ st _ _ ok w hp fun ds J G F1 H1 w1 W gg hgo => by
    refine for_it (w := (⟨W.go, W.stop, fun _ _ _ _ _ _ y => y⟩ : Walk J ds.length G J.yld))
      (fun i σ' H' => ∃ F' st', StOk A.K A.N F' H' σ' st' ∧ Wld A.F0 A.N F' H' ∧ Same F1 F' ∧ pForGo b pb DD (ds.drop i) st') ?_ ?_ ?_ ?_
    · exact ⟨F1, st, ok.mono w1, w.trans w1, Same.refl _, hgo⟩
    · rintro i σ' H' _ ⟨F', st', ok', w', s', -⟩
      exact gg _ _ s' w'.fh
    · rintro i x σ' H2 H3 hi ⟨F2, st2, ok2, w2, s2, go⟩ y
      have hd : ds[i]? = some ds[i] := by simp [hi]
      rw [List.drop_eq_getElem_cons hi] at go
      obtain ⟨F3, w3, r3⟩ := W.yld i _ H2 x H3 F2 hd (gg _ _ s2 w2.fh) s2 w2.fh y
      refine hg F3 H3 σ' st2 _ x _ _ (ok2.mono w3) (w2.trans w3) r3 go fun σ4 st4 ok4 _ _ go4 => ?_
      refine hb F3 H3 σ4 st4 _ _ ok4 (w2.trans w3) ⟨?_, ?_, ?_, ?_⟩ go4
      · exact fun F5 H5 σ5 st5 s5 ok5 w5 z => ⟨F5, st5, ok5, w5, (s2.trans w3.ff).trans s5, z⟩
      · exact fun F5 H5 σ5 st5 s5 ok5 w5 z => c.nx F5 H5 σ5 st5 (((w1.ff.trans s2).trans w3.ff).trans s5) ok5 w5 z
      · exact fun F5 H5 σ5 st5 s5 ok5 w5 z => ⟨F5, st5, ok5, w5, (s2.trans w3.ff).trans s5, z⟩
      · exact fun F5 H5 r v s5 w5 rr z => c.rt F5 H5 r v (((w1.ff.trans s2).trans w3.ff).trans s5) w5 rr z
    · rintro σ' H' ⟨F', st', ok', w', s', go⟩
      rw [List.drop_length] at go
      exact c.nx F' H' σ' st' (w1.ff.trans s') ok' w' go
theorem sim_for (hp : PassesOwn (model X.prog X.w) X.A X.env X.xe) (hc : X.calm = true) (hi : SimIf A X tg iter wi it) (hg : SimG A X tg g b js) (hb : SimB A X body tb pb) (hs : ∀ x, foldedSetIterable iter X.env x = pure x := by intro _; rfl) :
    SimSt A X (.For tg iter body [] pos) (tFor wi g tb) (pFor it b pb) := ⟨hi.hK, ps_for hp hc hi.pi hg.pg hb.ps hs, rd_for hi.rd hg.rd hb.rd⟩
def pWhile (c : PB) (body : PSt) : PSt := fun E st => ∃ I : Nat → DS → Prop, (∃ m, I m st) ∧ ∀ m st, I m st → c st fun b => if b = true then body { nx := fun st' => ∃ m', m' < m ∧ I m' st', rt := E.rt, bk := E.nx, ct := fun st' => ∃ m', m' < m ∧ I m' st' } st else E.nx st
theorem sim_while (hp : PassesOwn (model X.prog X.w) X.A X.env X.xe) (hc : SimT A X c tc pc) (hb : SimB A X body tb pb) : SimSt A X (.While c body [] pos) (tWhile tc tb) (pWhile pc pb) := ⟨hc.hK, ps_while hp hc.pt hb.ps, fun F H σ st DD E ok w c hp => by
  obtain ⟨I, ⟨m0, h0⟩, hs⟩ := hp
  refine ⟨fun m σ' H' => ∃ F' st', StOk A.K A.N F' H' σ' st' ∧ Wld A.F0 A.N F' H' ∧ Same F F' ∧ I m st', ⟨m0, F, st, ok, w, Same.refl _, h0⟩, ?_⟩
  rintro m σ' H' ⟨F', st', ok', w', s', hI⟩
  refine hc.rd F' H' σ' st' _ _ ok' w' (hs m st' hI) fun b F1 H1 w1 z => ?_
  cases b with
  | false => exact c.nx F1 H1 σ' st' (s'.trans w1.ff) (ok'.mono w1) (w'.trans w1) z
  | true =>
    refine ⟨fun σ2 H2 => ∃ F2 st2, StOk A.K A.N F2 H2 σ2 st2 ∧ Wld A.F0 A.N F2 H2 ∧ Same F F2 ∧ ∃ m', m' < m ∧ I m' st2, fun σ2 H2 ⟨F2, st2, a1, a2, a3, m', a4, a5⟩ => ⟨m', a4, F2, st2, a1, a2, a3, a5⟩, ?_⟩
    refine hb.rd F1 H1 σ' st' _ _ (ok'.mono w1) (w'.trans w1) ⟨?_, ?_, ?_, ?_⟩ z
    · exact fun F5 H5 σ5 st5 s5 ok5 w5 z => ⟨F5, st5, ok5, w5, (s'.trans w1.ff).trans s5, z⟩
    · exact fun F5 H5 σ5 st5 s5 ok5 w5 z => c.nx F5 H5 σ5 st5 ((s'.trans w1.ff).trans s5) ok5 w5 z
    · exact fun F5 H5 σ5 st5 s5 ok5 w5 z => ⟨F5, st5, ok5, w5, (s'.trans w1.ff).trans s5, z⟩
    · exact fun F5 H5 r v s5 w5 rr z => c.rt F5 H5 r v ((s'.trans w1.ff).trans s5) w5 rr z⟩
/-- x += e of whole numbers -/
def pInc (i : Nat) (p : PR) : PSt := fun E st => match st[i]? with | some (some (.dat (.int a))) => p st fun d => (match d with | .int z => E.nx (st.set i (some (.dat (.int (a + z))))) | _ => False) | _ => False
theorem sim_inc (i : Nat) {x : Str} {pos' : Pos} (hN : X.N.Nodup) (h : SimR A X e te pe) (hi : X.N[i]? = some x := by rfl) (hx : Loc X.env.scope x := by first | exact Or.inl rfl | exact Or.inr rfl) (hf : X.fn x = true ∨ X.env.scope.names.lookup x = some .local := by first | exact .inl rfl | exact .inr rfl) :
    SimSt A X (.AugAssign (.Name x pos') .Add e pos) (tAug i te (ipI fun i j => i + j)) (pInc i pe) := ⟨h.hK, ps_aug hN hi hx h.pe ip_add hf, fun F H σ st DD E ok w c hp => by
  unfold pInc at hp
  split at hp
  · rename_i a hs
    obtain ⟨v, hv, r⟩ := ok.at_ i _ hs
    cases (show Rep A.K F (.int a) v from r)
    refine ⟨_, hv, h.rd F H σ st _ _ ok w hp fun d x F1 H1 w1 rx z => ?_⟩
    cases d <;> first | exact z.elim | skip
    cases rx
    exact ⟨_, _, rfl, rfl, c.nx F1 H1 _ _ w1.ff (put_dat (ok.mono w1) (.int _)) (w.trans w1) z⟩
  · exact hp.elim⟩

/-! ### exceptions -/
/-- what is wanted of exceptions here -/
structure XC (A : Ax) (X : Cx) (XQ : XD → Prop) (E : XK) : Prop where
  pass : Passes (CX X.prog X.w) X E
  takes : ∀ x cls d F H, Wld A.F0 A.N F H → RepX A.K F x cls d → XQ x → E cls d H
abbrev X0 : XD → Prop := fun _ => False
theorem xc0 : XC A X X0 E0 := ⟨passL, fun _ _ _ _ _ _ _ z => z.elim⟩

/-! ### what a def promises -/
abbrev FSpec := List D → (SV → Prop) → (XD → Prop) → Prop
def spP (K : PySem.W.Frag) (φ : FSpec) : Sp := fun vs H Q E => ∃ F ds DQ XQ, Same F H ∧ Reps K F ds vs ∧ φ ds DQ XQ ∧ (∀ s v F' H', Wld F H F' H' → RepS K H F' H' s v → DQ s → Q v H') ∧ ∀ x cls d F' H', Wld F H F' H' → RepX K F' x cls d → XQ x → E cls d H'
def dstart (N : List Str) (ds : List D) : DS := ds.map (fun d => some (.dat d)) ++ List.replicate (N.length - ds.length) none
theorem stok_start {K : PySem.W.Frag} {N : List Str} {F H : Hp} {ds : List D} {vs : List V} (r : Reps K F ds vs) : StOk K H F H (L2.start N vs) (dstart N ds) := by
  have hl := r.len
  refine ⟨by simp [L2.start, dstart, hl], fun i s e => ?_, fun i j s t v hij e1 e2 m1 m2 f1 f2 => ?_⟩
  all_goals
    have key : ∀ (i : Nat) (s : SV), (dstart N ds)[i]? = some (some s) → ∃ d, ds[i]? = some d ∧ s = .dat d := fun i s e => by
      unfold dstart at e
      by_cases hi : i < ds.length
      · rw [List.getElem?_append_left (by simpa using hi), List.getElem?_map] at e
        cases q : ds[i]? with
        | none => rw [q] at e; cases e
        | some d => rw [q] at e; cases e; exact ⟨d, rfl, rfl⟩
      · rw [List.getElem?_append_right (by simpa using hi), List.getElem?_replicate] at e
        split at e <;> cases e
  · obtain ⟨d, hd, rfl⟩ := key i s e
    obtain ⟨v, hv, rv⟩ := r.get hd
    refine ⟨v, ?_, rv⟩
    unfold L2.start
    have hi : i < vs.length := (List.getElem?_eq_some_iff.mp hv).1
    rw [List.getElem?_append_left (by simpa using hi), List.getElem?_map, hv]
    rfl
  · obtain ⟨d, _, rfl⟩ := key i s e1
    cases m1
section
variable {P : Program} {w : World} {K : PySem.W.Frag} {mg : Str → Option Value} {base : Heap}
abbrev ctx (P : Program) (w : World) (K : PySem.W.Frag) (mg : Str → Option Value) (base : Heap) (N : List Str) (qual : Str) (sc : Scope) (f : Addr) (cdv : Value) (B : Around) (outer : List Env) (s : Shared) (H : Hp) (E : XK) : Cx := cxOf (L2.CX P w) P w K mg base N qual sc f cdv B outer s H E
/-- THE RULE for a def: its body read as p, and p shown from the promise -/
theorem okP {x qual : Str} {st : Stmt} {f : Addr} {fd : FuncData} {N ps : List Str} {k : Nat} {φ : FSpec} (Fn : Fun K x qual st f fd) (S : FnScope N ps (defScope st)) (hl : ∀ ds Q XQ, φ ds Q XQ → ds.length = ps.length) (p : (XD → Prop) → PSt)
    (hb : ∀ (cdv : Value) (B : Around) (outer : List Env) (s : Shared) (H : Hp) (E : XK) (A : Ax) (XQ : XD → Prop), A.K = K → Room k (B.deeper (PyProof.Rows.envOfC qual (defScope st) s.heap.objs.size f cdv)) →
      (∀ x cls d F H, Wld A.F0 A.N F H → RepX K F x cls d → XQ x → E cls d H) → ∃ t, SimB A (ctx P w K mg base N qual (defScope st) f cdv B outer s H E) (defBody st) t (p XQ))
    (hp : ∀ ds Q XQ, φ ds Q XQ → p XQ { nx := fun _ => Q (.dat .non), rt := Q } (dstart N ds)) : FnOk P w K mg base (L2.CX P w) (k + 1) f fd ps (spP K φ) := by
  refine Fn.okX S (fun vs H Q E h => ?_) fun cdv B outer s H vs Q E hr h => ?_
  · obtain ⟨F, ds, DQ, XQ, e, r, hφ, _⟩ := h
    rw [← r.len]
    exact hl _ _ _ hφ
  · obtain ⟨F, ds, DQ, XQ, e, r, hφ, k1, k2⟩ := h
    obtain ⟨t, ht⟩ := hb cdv B outer s H E ⟨F, H, K⟩ XQ rfl hr k2
    refine ⟨t, ht.ps, ht.rd F H _ _ _ _ (stok_start r) (Wld.refl e) ⟨?_, ?_, ?_, ?_⟩ (hp ds DQ XQ hφ)⟩
    · exact fun F1 H1 σ st s1 ok w1 z => k1 (.dat .non) .non F1 H1 w1 .non z
    · exact fun F1 H1 σ st s1 ok w1 z => z.elim
    · exact fun F1 H1 σ st s1 ok w1 z => z.elim
    · exact fun F1 H1 r v s1 w1 rr z => k1 r v F1 H1 w1 rr z
end
/-- in a def's body: what may be let out -/
theorem xcE {P : Program} {w : World} {K : PySem.W.Frag} {mg : Str → Option Value} {base : Heap} {N : List Str} {qual : Str} {sc : Scope} {f : Addr} {cdv : Value} {B : Around} {outer : List Env} {s : Shared} {H : Hp} {E : XK} {XQ : XD → Prop}
    (h : ∀ x cls d F H, Wld A.F0 A.N F H → RepX A.K F x cls d → XQ x → E cls d H) : XC A (ctx P w K mg base N qual sc f cdv B outer s H E) XQ E :=
  ⟨passes_call (takes_of rfl rfl rfl rfl) fun _ _ _ _ z => z, h⟩

/-! ### calls -/
def pCall (φ : FSpec) (XQ : XD → Prop) (as : PAs) : PS_ := fun st Q => as st fun ds => φ ds Q XQ
theorem rd_call {ta : TA} {as : PAs} {φ : FSpec} {XQ : XD → Prop} {E : XK} (h : RdA A ta as) (hx : ∀ x cls d F H, Wld A.F0 A.N F H → RepX A.K F x cls d → XQ x → E cls d H) : RdS A (tCall (spP A.K φ) [] E ta) (pCall φ XQ as) := fun F H σ st DQ Q ok w hp k =>
  h F H σ st _ _ ok w hp fun ds vs F1 H1 w1 r z => by
    show spP A.K φ (vs ++ []) H1 Q E
    rw [List.append_nil]
    exact ⟨F1, ds, DQ, XQ, w1.fh, r, z, fun s v F' H' w' rs q => k s v F' H' (w1.trans w') (rs.back fun a h => same_none w1.hh h) q, fun x cls d F' H' w' rx q => hx x cls d F' H' ((w.trans w1).trans w') rx q⟩
theorem sim_call {k : Nat} {f : Addr} {fd : FuncData} {ps : List Str} {φ : FSpec} {XQ : XD → Prop} {E : XK} {x : Str} {p0 : Pos} {es : List Expr} {ta : TA} {as : PAs} (Fn : FnOk X.prog X.w X.K X.mg X.base (CX X.prog X.w) k f fd ps (spP X.K φ)) (hr : Room k X.A) (hm : X.mg x = some (.ref f)) (hk : PySem.W.keepIn X.K (.ref f) = true) (hb : Binds X.K fd ps []) (hx : XC A X XQ E)
    (ha : SimA A X (e :: es) ta as) (hg : Gl X x := by rfl) (hdb : (x == ("__debug__" : Str)) = false := by decide) (he : starEach (e :: es) X.env = (false, eval e X.env) :: starEach es X.env := by rfl) (hpl : (backTo pos (starEach es X.env)).any (·.1) = false := by rfl) :
    SimS A X (.Call (.Name x p0) (e :: es) [] pos) (tCall (spP A.K φ) [] E ta) (pCall φ XQ as) := ⟨ha.hK, ha.hK ▸ pe_call Fn hr hg hm hk hb .nil hx.pass ha.pa hdb he hpl, rd_call ha.rd hx.takes⟩
/-- a def of the module that keeps the promise, to be called by its name -/
def CallOk (P : Program) (w : World) (K : PySem.W.Frag) (mg : Str → Option Value) (base : Heap) (x : Str) (k : Nat) (φ : FSpec) : Prop :=
  ∃ (f : Addr) (fd : FuncData) (ps : List Str), FnOk P w K mg base (L2.CX P w) k f fd ps (spP K φ) ∧ mg x = some (.ref f) ∧ PySem.W.keepIn K (.ref f) = true ∧ Binds K fd ps []
theorem sim_callC {k : Nat} {φ : FSpec} {XQ : XD → Prop} {E : XK} {x : Str} {p0 : Pos} {es : List Expr} {ta : TA} {as : PAs} (C : CallOk X.prog X.w X.K X.mg X.base x k φ) (hr : Room k X.A) (hx : XC A X XQ E)
    (ha : SimA A X (e :: es) ta as) (hg : Gl X x := by rfl) (hdb : (x == ("__debug__" : Str)) = false := by decide) (he : starEach (e :: es) X.env = (false, eval e X.env) :: starEach es X.env := by rfl) (hpl : (backTo pos (starEach es X.env)).any (·.1) = false := by rfl) :
    SimS A X (.Call (.Name x p0) (e :: es) [] pos) (tCall (spP A.K φ) [] E ta) (pCall φ XQ as) := by
  obtain ⟨f, fd, ps, h1, h2, h3, h4⟩ := C
  exact sim_call h1 hr h2 h3 h4 hx ha hg hdb he hpl
theorem callOk {P : Program} {w : World} {K : PySem.W.Frag} {mg : Str → Option Value} {base : Heap} {x qual : Str} {st : Stmt} {f : Addr} {fd : FuncData} {N ps : List Str} {k : Nat} {φ : FSpec} (Fn : Fun K x qual st f fd) (hm : mg x = some (.ref f)) (S : FnScope N ps (defScope st))
    (hl : ∀ ds Q XQ, φ ds Q XQ → ds.length = ps.length) (p : (XD → Prop) → PSt)
    (hb : ∀ (cdv : Value) (B : Around) (outer : List Env) (s : Shared) (H : Hp) (E : XK) (A : Ax) (XQ : XD → Prop), A.K = K → Room k (B.deeper (PyProof.Rows.envOfC qual (defScope st) s.heap.objs.size f cdv)) →
      (∀ x cls d F H, Wld A.F0 A.N F H → RepX K F x cls d → XQ x → E cls d H) → ∃ t, SimB A (ctx P w K mg base N qual (defScope st) f cdv B outer s H E) (defBody st) t (p XQ))
    (hp : ∀ ds Q XQ, φ ds Q XQ → p XQ { nx := fun _ => Q (.dat .non), rt := Q } (dstart N ds))
    (hbd : ∀ (kV doc pm : Value) (an : Option Addr) (cdv ct : Value) (us : List Value), us.length = ps.length → bindArgs (PySem.W.fnOf x qual (defArgs st) (defBody st) (defScope st) .none kV doc pm an cdv ct) ⟨us, []⟩ = pure (ps.zip us)) : CallOk P w K mg base x (k + 1) φ :=
  ⟨f, fd, ps, okP Fn S hl p hb hp, hm, Fn.kp, Fn.binds hbd⟩
end
end Pu
/-! The pure layer, part G: built-ins. -/
namespace Pu
open PySem L2
section
variable {A : Ax} {X : Cx} {K : PySem.W.Frag} {e a b c : Expr} {es : List Expr} {t ta tb : TE} {p q : PR} {ps : PS_} {pos : Pos}
/-! ### one argument -/
def Op1 (K : PySem.W.Frag) (rH : List V → Hp → VK → Prop) (r : D → (D → Prop) → Prop) : Prop := ∀ (F H : Hp) (x : D) (v : V) (DQ : D → Prop) (Q : VK), Same F H → RepR K F H x v → r x DQ → (∀ d w, Rep K F d w → DQ d → Q w H) → rH [v] H Q
def Op1S (K : PySem.W.Frag) (rH : List V → Hp → VK → Prop) (r : D → (SV → Prop) → Prop) : Prop := ∀ (F H : Hp) (x : D) (v : V) (DQ : SV → Prop) (Q : VK), Same F H → RepR K F H x v → r x DQ → (∀ s w F' H', Wld F H F' H' → RepS K H F' H' s w → DQ s → Q w H') → rH [v] H Q
def p1 (r : D → (D → Prop) → Prop) (p : PR) : PR := fun st Q => p st fun x => r x Q
def p1S (r : D → (SV → Prop) → Prop) (p : PR) : PS_ := fun st Q => p st fun x => r x Q
theorem rd_1 {rH : List V → Hp → VK → Prop} {r : D → (D → Prop) → Prop} (ho : Op1 A.K rH r) (h : RdR A t p) : RdD A (tCB rH (tCons t tNil)) (p1 r p) := fun F H σ st DQ Q ok w hp k =>
  h F H σ st _ _ ok w hp fun d v F1 H1 w1 rx z => ho F1 H1 d v DQ Q w1.fh rx z fun d' x r' q => k d' x F1 H1 w1 r' q
theorem rd_1S {rH : List V → Hp → VK → Prop} {r : D → (SV → Prop) → Prop} (ho : Op1S A.K rH r) (h : RdR A t p) : RdS A (tCB rH (tCons t tNil)) (p1S r p) := fun F H σ st DQ Q ok w hp k =>
  h F H σ st _ _ ok w hp fun d v F1 H1 w1 rx z => ho F1 H1 d v DQ Q w1.fh rx z fun s x F2 H2 w2 r' q => k s x F2 H2 (w1.trans w2) (r'.back fun a h => same_none w1.hh h) q
/-- a built-in function of one value: HandS's reading, ours -/
structure FnB (f : Value) (rH : PySem.W.Frag → List V → Hp → VK → Prop) (r : D → (D → Prop) → Prop) : Prop where
  fn : ∀ X : Cx, X.calm = true → CallR X f (rH X.K)
  one : ∀ K, Op1 K (rH K) r
structure FnBS (f : Value) (rH : PySem.W.Frag → List V → Hp → VK → Prop) (r : D → (SV → Prop) → Prop) : Prop where
  fn : ∀ X : Cx, X.calm = true → CallR X f (rH X.K)
  one : ∀ K, Op1S K (rH K) r
theorem simD_fn {id : String} {x : Str} {p0 : Pos} {rH : PySem.W.Frag → List V → Hp → VK → Prop} {r : D → (D → Prop) → Prop} (O : FnB (.builtin id) rH r) (hc : X.calm = true) (hm : X.mg x = none) (h : SimR A X e t p) (hv : bootBuiltins x = some (.builtin id) := by decide +kernel) (hg : Gl X x := by rfl) (hn : x ≠ "__name__" := by decide) (hdb : (x == ("__debug__" : Str)) = false := by decide)
    (he : starEach [e] X.env = (false, eval e X.env) :: starEach [] X.env := by rfl) (hpl : (backTo pos (starEach [] X.env)).any (·.1) = false := by rfl) : SimD A X (.Call (.Name x p0) [e] [] pos) (tCB (rH A.K) (tCons t tNil)) (p1 r p) :=
  ⟨h.hK, h.hK ▸ pe_callB (O.fn X hc) hg hm hv (pa_cons h.pe pa_nil he) hn hdb he hpl, rd_1 (O.one _) h.rd⟩
theorem simS_fn {id : String} {x : Str} {p0 : Pos} {rH : PySem.W.Frag → List V → Hp → VK → Prop} {r : D → (SV → Prop) → Prop} (O : FnBS (.builtin id) rH r) (hc : X.calm = true) (hm : X.mg x = none) (h : SimR A X e t p) (hv : bootBuiltins x = some (.builtin id) := by decide +kernel) (hg : Gl X x := by rfl) (hn : x ≠ "__name__" := by decide) (hdb : (x == ("__debug__" : Str)) = false := by decide)
    (he : starEach [e] X.env = (false, eval e X.env) :: starEach [] X.env := by rfl) (hpl : (backTo pos (starEach [] X.env)).any (·.1) = false := by rfl) : SimS A X (.Call (.Name x p0) [e] [] pos) (tCB (rH A.K) (tCons t tNil)) (p1S r p) :=
  ⟨h.hK, h.hK ▸ pe_callB (O.fn X hc) hg hm hv (pa_cons h.pe pa_nil he) hn hdb he hpl, rd_1S (O.one _) h.rd⟩
theorem simD_ty {id : String} {x : Str} {p0 : Pos} {rH : PySem.W.Frag → List V → Hp → VK → Prop} {r : D → (D → Prop) → Prop} (O : FnB (.type id) rH r) (hc : X.calm = true) (hm : X.mg x = none) (h : SimR A X e t p) (hv : bootBuiltins x = some (.type id) := by decide +kernel) (hg : Gl X x := by rfl) (hn : x ≠ "__name__" := by decide) (hdb : (x == ("__debug__" : Str)) = false := by decide)
    (he : starEach [e] X.env = (false, eval e X.env) :: starEach [] X.env := by rfl) (hpl : (backTo pos (starEach [] X.env)).any (·.1) = false := by rfl) : SimD A X (.Call (.Name x p0) [e] [] pos) (tCB (rH A.K) (tCons t tNil)) (p1 r p) :=
  ⟨h.hK, h.hK ▸ pe_callTy (O.fn X hc) hg hm hv (pa_cons h.pe pa_nil he) hn hdb he hpl, rd_1 (O.one _) h.rd⟩
theorem simS_ty {id : String} {x : Str} {p0 : Pos} {rH : PySem.W.Frag → List V → Hp → VK → Prop} {r : D → (SV → Prop) → Prop} (O : FnBS (.type id) rH r) (hc : X.calm = true) (hm : X.mg x = none) (h : SimR A X e t p) (hv : bootBuiltins x = some (.type id) := by decide +kernel) (hg : Gl X x := by rfl) (hn : x ≠ "__name__" := by decide) (hdb : (x == ("__debug__" : Str)) = false := by decide)
    (he : starEach [e] X.env = (false, eval e X.env) :: starEach [] X.env := by rfl) (hpl : (backTo pos (starEach [] X.env)).any (·.1) = false := by rfl) : SimS A X (.Call (.Name x p0) [e] [] pos) (tCB (rH A.K) (tCons t tNil)) (p1S r p) :=
  ⟨h.hK, h.hK ▸ pe_callTy (O.fn X hc) hg hm hv (pa_cons h.pe pa_nil he) hn hdb he hpl, rd_1S (O.one _) h.rd⟩

/-! len -/
def pLen : D → (D → Prop) → Prop
  | .str z, Q => z.length ≤ 100000 ∧ Q (.int (z.length : Nat))
  | .lst ds, Q => Q (.int (ds.length : Nat))
  | .tup ds, Q => Q (.int (ds.length : Nat))
  | _, _ => False
def rLenA (K : PySem.W.Frag) : List V → Hp → VK → Prop := fun xs H Q => (∃ p ys, xs = [.ref p] ∧ (SqL K H p ys ∨ SqT K H p ys) ∧ Q (.int ys.length) H) ∨ ∃ z, xs = [.str z] ∧ z.length ≤ sizeLine ∧ Q (.int z.length) H
theorem cr_lenA : CallR X (.builtin "len") (rLenA X.K) := call_len_seq.or call_len_str
theorem op1_len : Op1 K (rLenA K) pLen := fun F H x v DQ Q e rx h k => by
  cases x <;> first | exact h.elim | skip
  · cases rx
    exact .inr ⟨_, rfl, by rw [str_len]; exact line_of h.1, by rw [str_len]; exact k _ _ (.int _) h.2⟩
  · obtain ⟨c, vs, rfl, h1, h2⟩ := rx
    refine .inl ⟨_, _, rfl, .inl (.inl h1), ?_⟩
    rw [← h2.len]
    exact k _ _ (.int _) h
  · cases rx with
    | tup h1 h2 =>
      refine .inl ⟨_, _, rfl, .inr (st_mono e h1), ?_⟩
      rw [← h2.len]
      exact k _ _ (.int _) h

/-! lists of one kind -/
def bolL : List D → Option (List Bool)
  | [] => some []
  | .bl b :: r => (bolL r).map (b :: ·)
  | _ :: _ => none
def intL : List D → Option (List Int)
  | [] => some []
  | .int b :: r => (intL r).map (b :: ·)
  | _ :: _ => none
def strL : List D → Option (List (List Nat))
  | [] => some []
  | .str b :: r => (strL r).map (b :: ·)
  | _ :: _ => none
theorem bools_map : ∀ bs : List Bool, bolL (bs.map .bl) = some bs
  | [] => rfl
  | b :: r => by simp [bolL, bools_map r]
theorem ints_map : ∀ bs : List Int, intL (bs.map .int) = some bs
  | [] => rfl
  | b :: r => by simp [intL, ints_map r]
theorem strs_map : ∀ bs : List (List Nat), strL (bs.map .str) = some bs
  | [] => rfl
  | b :: r => by simp [strL, strs_map r]
theorem bools_of : ∀ {ds : List D} {bs : List Bool}, bolL ds = some bs → ds = bs.map .bl
  | [], _, h => by cases h; rfl
  | d :: r, bs, h => by
    cases d <;> first | (simp [bolL] at h; done) | skip
    simp only [bolL, Option.map_eq_some_iff] at h
    obtain ⟨l, h1, rfl⟩ := h
    rw [List.map_cons, ← bools_of h1]
theorem ints_of : ∀ {ds : List D} {bs : List Int}, intL ds = some bs → ds = bs.map .int
  | [], _, h => by cases h; rfl
  | d :: r, bs, h => by
    cases d <;> first | (simp [intL] at h; done) | skip
    simp only [intL, Option.map_eq_some_iff] at h
    obtain ⟨l, h1, rfl⟩ := h
    rw [List.map_cons, ← ints_of h1]
theorem strs_of : ∀ {ds : List D} {bs : List (List Nat)}, strL ds = some bs → ds = bs.map .str
  | [], _, h => by cases h; rfl
  | d :: r, bs, h => by
    cases d <;> first | (simp [strL] at h; done) | skip
    simp only [strL, Option.map_eq_some_iff] at h
    obtain ⟨l, h1, rfl⟩ := h
    rw [List.map_cons, ← strs_of h1]
theorem reps_ints {F : Hp} {ns : List Int} {vs : List V} (r : Reps K F (ns.map .int) vs) : vs = ns.map V.int := All2.eqMap (fun c b h => by cases h; rfl) r
theorem reps_bools {F : Hp} {ns : List Bool} {vs : List V} (r : Reps K F (ns.map .bl) vs) : vs = ns.map V.bl := All2.eqMap (fun c b h => by cases h; rfl) r
abbrev S (z : List Nat) : Str := ⟨z.toArray⟩
theorem reps_strs {F : Hp} {ns : List (List Nat)} {vs : List V} (r : Reps K F (ns.map .str) vs) : vs = ns.map fun z => V.str (S z) := All2.eqMap (fun c b h => by cases h; rfl) r
theorem ints_reps {F : Hp} (ns : List Int) : Reps K F (ns.map .int) (ns.map V.int) := All2.maps fun c _ => .int c
theorem strs_reps {F : Hp} (ns : List (List Nat)) : Reps K F (ns.map .str) (ns.map fun z => V.str (S z)) := All2.maps fun c _ => .str c

def pAny : D → (D → Prop) → Prop
  | .lst ds, Q => match bolL ds with | some bs => Q (.bl (bs.any id)) | none => False
  | _, _ => False
def pAll : D → (D → Prop) → Prop
  | .lst ds, Q => match bolL ds with | some bs => Q (.bl (bs.all id)) | none => False
  | _, _ => False
def pSum : D → (D → Prop) → Prop
  | .lst ds, Q => match intL ds with | some bs => Q (.int bs.sum) | none => False
  | _, _ => False
theorem op1_any : Op1 K (rAny K) pAny := fun F H x v DQ Q e rx h k => by
  cases x <;> first | exact h.elim | skip
  dsimp only [pAny] at h
  split at h
  · rename_i bs hb
    obtain ⟨c, vs, rfl, h1, h2⟩ := rx
    rw [bools_of hb] at h2
    have := reps_bools h2
    subst this
    exact ⟨c, bs, rfl, .inl h1, k _ _ (.bl _) h⟩
  · exact h.elim
theorem op1_all : Op1 K (rAll K) pAll := fun F H x v DQ Q e rx h k => by
  cases x <;> first | exact h.elim | skip
  dsimp only [pAll] at h
  split at h
  · rename_i bs hb
    obtain ⟨c, vs, rfl, h1, h2⟩ := rx
    rw [bools_of hb] at h2
    have := reps_bools h2
    subst this
    exact ⟨c, bs, rfl, .inl h1, k _ _ (.bl _) h⟩
  · exact h.elim
theorem op1_sum : Op1 K (rSum K) pSum := fun F H x v DQ Q e rx h k => by
  cases x <;> first | exact h.elim | skip
  dsimp only [pSum] at h
  split at h
  · rename_i bs hb
    obtain ⟨c, vs, rfl, h1, h2⟩ := rx
    rw [ints_of hb] at h2
    have := reps_ints h2
    subst this
    exact ⟨c, bs, rfl, .inl h1, k _ _ (.int _) h⟩
  · exact h.elim

/-! sorted: whole numbers, texts, of any number -/
def pSorted : D → (SV → Prop) → Prop
  | .lst ds, Q => match intL ds with
    | some ns => ∀ ns' : List Int, ns'.Perm ns → ns'.Pairwise (· ≤ ·) → Q (.own (ns'.map .int))
    | none => match strL ds with
      | some zs => ds.length ≤ 100000 ∧ ∀ zs' : List (List Nat), zs'.Perm zs → PyProof.Rows.sortedS (zs'.map S) = true → Q (.own (zs'.map .str))
      | none => False
  | _, _ => False
def rSortedSA (K : PySem.W.Frag) : List V → Hp → VK → Prop := fun vs H Q => ∃ (a : Addr) (xs : List Str), vs = [V.ref a] ∧ SqL K H a (xs.map V.str) ∧
  ∀ (ys : List Str) (p : Addr), ys.Perm xs → PyProof.Rows.sortedS ys = true → H p = none → Q (.ref p) (upd H p (.lst (ys.map V.str)))
theorem cr_sortedSA : CallR X (.builtin "sorted") (rSortedSA X.K) := by
  intro pins s σ H vs us Q I r h
  obtain ⟨l, xs, rfl, hs, q⟩ := h
  obtain ⟨its, rv, hl, hz⟩ := I.list hs
  rw [Vals.ref1 r]
  have hlen0 := rv.length
  refine PyProof.Rows.sorted_strsAny hl.isList rv.strs (by rw [← hlen0]; exact hz) fun out ys h1 h2 h3 => ?_
  obtain ⟨ep, he'⟩ := PyProof.Rows.sortedAll_at s.heap its out
  have hlen : (ys.map V.str).length ≤ sizeLine := by rw [List.length_map, h2.length_eq]; rw [List.length_map] at hz; exact hz
  exact ⟨.ref _, upd H (s.heap.objs.size + 1) (.lst (ys.map V.str)), I.laid (t' := s.toks) (fun _ _ => PyProof.Rows.sortedAll_old) (Nat.le_succ _) ⟨hlen, out.toList, ep, vals_of_strs h1, he'⟩, rfl, q ys _ h2 h3 (I.hok.fresh (Nat.le_succ _))⟩
def rSortedA (K : PySem.W.Frag) : List V → Hp → VK → Prop := fun xs H Q => rSortedI K xs H Q ∨ rSortedSA K xs H Q
theorem cr_sortedA : CallR X (.builtin "sorted") (rSortedA X.K) := cr_sortedI.or cr_sortedSA
theorem map_S {ys : List Str} : (ys.map fun y => y.cps.toList).map S = ys := by
  rw [List.map_map]
  conv => rhs; rw [← List.map_id ys]
  apply List.map_congr_left
  intro y _
  show (⟨y.cps.toList.toArray⟩ : Str) = y
  simp
theorem op1s_sorted : Op1S K (rSortedA K) pSorted := fun F H x v DQ Q e rx h k => by
  cases x <;> first | exact h.elim | skip
  dsimp only [pSorted] at h
  obtain ⟨c, vs, rfl, h1, h2⟩ := rx
  split at h
  · rename_i ns hb
    rw [ints_of hb] at h2
    have := reps_ints h2
    subst this
    exact .inl ⟨c, ns, rfl, .inl h1, fun ns' p hp hs hn => k _ _ F _ ((Wld.refl e).new hn) (new_lst e hn (ints_reps ns')) (h ns' hp hs)⟩
  · split at h
    · rename_i zs hb
      rw [strs_of hb] at h2
      have := reps_strs h2
      subst this
      refine .inr ⟨c, zs.map S, rfl, ?_, fun ys p hp hs hn => ?_⟩
      · rw [List.map_map]; exact .inl h1
      · have hy := map_S (ys := ys)
        have hp' : (ys.map fun y => y.cps.toList).Perm zs := by
          have := hp.map (fun y : Str => y.cps.toList)
          rw [List.map_map] at this
          have e2 : (zs.map ((fun y : Str => y.cps.toList) ∘ S)) = zs := by
            conv => rhs; rw [← List.map_id zs]
            apply List.map_congr_left
            intro z _
            simp
          rw [e2] at this
          exact this
        have q := h.2 (ys.map fun y => y.cps.toList) hp' (by rw [hy]; exact hs)
        refine k (.own _) _ F _ ((Wld.refl e).new hn) (new_lst e hn ?_) q
        have e3 : ys.map V.str = (ys.map fun y => y.cps.toList).map fun z => V.str (S z) := by
          rw [List.map_map]
          apply List.map_congr_left
          intro y _
          simp [S]
        rw [e3]
        exact strs_reps _
    · exact h.elim

/-! list(x), int(x), str(n) -/
def pListOf : D → (SV → Prop) → Prop
  | .lst ds, Q => Q (.own ds)
  | .tup ds, Q => Q (.own ds)
  | .str z, Q => z.length ≤ 100000 ∧ Q (.own (signs z))
  | _, _ => False
def rListOfS : List V → Hp → VK → Prop := fun xs H Q => ∃ z : Str, xs = [.str z] ∧ z.length ≤ sizeLine ∧ ∀ l, H l = none → Q (.ref l) (upd H l (.lst (z.cps.toList.map fun c => V.str ⟨#[c]⟩)))
theorem call_list_txt (hc : X.calm = true) : CallR X (.type "list") rListOfS := by
  intro pins s σ H xs us Q I r h
  obtain ⟨z, rfl, hz, q⟩ := h
  obtain ⟨u, rfl, t, rfl⟩ := vals1 r
  refine call_list_str (I.ok.hd hc) z t (hn := hz) fun h' tk acc c' hk hS hacc => ?_
  have hv : Vals (z.cps.toList.map fun c => V.str ⟨#[c]⟩) acc.toList := by
    have key : ∀ (l : List Nat) (us : List Value), us.length = l.length → (∀ (j : Nat) (v : Value), us[j]? = some v → ∃ (c : Nat) (u : Tok), l[j]? = some c ∧ v = Value.str ⟨#[c]⟩ u) → Vals (l.map fun c => V.str ⟨#[c]⟩) us := by
      intro l
      induction l with
      | nil =>
        intro us hl _
        cases us with
        | nil => exact .nil
        | cons u us => simp at hl
      | cons c l ih =>
        intro us hl hu
        cases us with
        | nil => simp at hl
        | cons u us =>
          obtain ⟨c', t', h1, h2⟩ := hu 0 u rfl
          simp at h1
          subst h1
          exact .cons ⟨t', h2⟩ (ih us (by simpa using hl) fun j v hj => hu (j + 1) v (by simpa using hj))
    refine key _ _ (by simp [hacc.1]) fun j v hj => ?_
    obtain ⟨c, u, h1, h2⟩ := hacc.2 j v (by simpa using hj)
    exact ⟨c, u, by simpa using h1, h2⟩
  have hlen : (z.cps.toList.map fun c => V.str ⟨#[c]⟩).length ≤ sizeLine := by rw [List.length_map, Array.length_toList]; exact hz
  exact ⟨.ref s.heap.objs.size, upd H s.heap.objs.size (.lst (z.cps.toList.map fun c => V.str ⟨#[c]⟩)), I.laid (t' := tk) hk (Nat.le_refl _) ⟨hlen, acc.toList, c', hv, by simpa using hS⟩, rfl, q _ (I.hok.fresh (Nat.le_refl _))⟩
def rListA (K : PySem.W.Frag) : List V → Hp → VK → Prop := fun xs H Q => (∃ p ys, xs = [.ref p] ∧ (SqL K H p ys ∨ SqT K H p ys) ∧ ∀ l, H l = none → Q (.ref l) (upd H l (.lst ys))) ∨ rListOfS xs H Q
theorem cr_listA (hc : X.calm = true) : CallR X (.type "list") (rListA X.K) := call_list_of.or (call_list_txt hc)
theorem op1s_list : Op1S K (rListA K) pListOf := fun F H x v DQ Q e rx h k => by
  cases x <;> first | exact h.elim | skip
  · cases rx
    refine .inr ⟨_, rfl, by rw [str_len]; exact line_of h.1, fun l hl => k _ _ F _ ((Wld.refl e).new hl) (new_lst e hl ?_) h.2⟩
    exact All2.maps fun c _ => .str [c]
  · obtain ⟨c, vs, rfl, h1, h2⟩ := rx
    exact .inl ⟨c, vs, rfl, .inl (.inl h1), fun l hl => k _ _ F _ ((Wld.refl e).new hl) (new_lst e hl h2) h⟩
  · cases rx with
    | tup h1 h2 => exact .inl ⟨_, _, rfl, .inr (st_mono e h1), fun l hl => k _ _ F _ ((Wld.refl e).new hl) (new_lst e hl h2) h⟩
def pInt : D → (D → Prop) → Prop
  | .int i, Q => Q (.int i)
  | .bl b, Q => Q (.int (if b then 1 else 0))
  | .str z, Q => z.length ≤ 640 ∧ ∃ n, PySem.intText? (S z) = some n ∧ Q (.int n)
  | _, _ => False
def rIntA : List V → Hp → VK → Prop := fun xs H Q => ((∃ i, xs = [.int i] ∧ Q (.int i) H) ∨ ∃ k, xs = [.bl k] ∧ Q (.int (if k then 1 else 0)) H) ∨ ∃ a n, xs = [.str a] ∧ PySem.intText? a = some n ∧ a.length ≤ 640 ∧ Q (.int n) H
theorem cr_intA : CallR X (.type "int") rIntA := call_int1.or call_int_str
theorem op1_int : Op1 K rIntA pInt := fun F H x v DQ Q e rx h k => by
  cases x <;> first | exact h.elim | skip
  · cases rx; exact .inl (.inr ⟨_, rfl, k _ _ (.int _) h⟩)
  · cases rx; exact .inl (.inl ⟨_, rfl, k _ _ (.int _) h⟩)
  · cases rx
    obtain ⟨hz, n, hn, h⟩ := h
    exact .inr ⟨_, n, rfl, hn, by rw [str_len]; exact hz, k _ _ (.int _) h⟩

/-! ### isinstance of a built-in class -/
def isTy (T : String) : D → Option Bool
  | .non => some (T == "NoneType")
  | .bl _ => some (T == "bool" || T == "int")
  | .int _ => some (T == "int")
  | .str _ => some (T == "str")
  | .lst _ => some (T == "list")
  | .tup _ => some (T == "tuple")
  | .dct _ => some (T == "dict")
  | .obj _ _ => none
  | .exc _ => none
  | .ptr _ => none
def tyN : D → String
  | .non => "NoneType"
  | .bl _ => "bool"
  | .int _ => "int"
  | .str _ => "str"
  | .lst _ => "list"
  | .tup _ => "tuple"
  | .dct _ => "dict"
  | .obj _ _ => ""
  | .exc _ => ""
  | .ptr _ => ""
def pIsi (T : String) (p : PR) : PR := fun st Q => p st fun d => match isTy T d with | some b => Q (.bl b) | none => False
/-- T is one of the classes that are asked for here -/
def TyOk (T : String) : Prop := kitB "NoneType" T = some (T == "NoneType") ∧ kitB "bool" T = some (T == "bool" || T == "int") ∧ kitB "int" T = some (T == "int") ∧ kitB "str" T = some (T == "str") ∧ kitB "list" T = some (T == "list") ∧ kitB "tuple" T = some (T == "tuple") ∧ kitB "dict" T = some (T == "dict")
theorem simD_isi {T : String} {x : Str} {p0 p1 : Pos} (ht : TyOk T) (hm : X.mg "isinstance" = none) (hx : X.mg x = none) (h : SimR A X e t p) (hv : bootBuiltins x = some (.type T) := by decide +kernel) (hg : Gl X "isinstance" := by rfl) (hgx : Gl X x := by rfl) (hn : x ≠ "__name__" := by decide) (hdb : (x == ("__debug__" : Str)) = false := by decide)
    (h1 : starEach [e, .Name x p1] X.env = (false, eval e X.env) :: starEach [.Name x p1] X.env := by rfl) (h2 : starEach [.Name x p1] X.env = (false, eval (.Name x p1) X.env) :: starEach [] X.env := by rfl) (hpl : (backTo pos (starEach [.Name x p1] X.env)).any (·.1) = false := by rfl) :
    SimD A X (.Call (.Name "isinstance" p0) [e, .Name x p1] [] pos) (tCB (rIsi A.K) (tCons t (tCons (tC (.ty T)) tNil))) (pIsi T p) :=
  ⟨h.hK, h.hK ▸ pe_callB call_isi hg hm (by decide +kernel) (pa_cons h.pe (pa_cons (pe_bltn hgx hx hv rfl hn hdb) pa_nil h2) h1) (by decide) (by decide) h1 hpl, fun F H σ st DQ Q ok w hp k =>
    h.rd F H σ st _ _ ok w hp fun d v F1 H1 w1 rx z => by
      obtain ⟨k0, k1, k2, k3, k4, k5, k6⟩ := ht
      cases d <;> simp only [isTy] at z
      · cases rx; exact ⟨_, _, _, _, _, rfl, .ty T, .base .non, kit_ty k0, k _ _ F1 H1 w1 (.bl _) z⟩
      · cases rx; exact ⟨_, _, _, _, _, rfl, .ty T, .base (.bl _), kit_ty k1, k _ _ F1 H1 w1 (.bl _) z⟩
      · cases rx; exact ⟨_, _, _, _, _, rfl, .ty T, .base (.int _), kit_ty k2, k _ _ F1 H1 w1 (.bl _) z⟩
      · cases rx; exact ⟨_, _, _, _, _, rfl, .ty T, .base (.str _), kit_ty k3, k _ _ F1 H1 w1 (.bl _) z⟩
      · obtain ⟨c, vs, rfl, h1, h2⟩ := rx
        rcases h1 with h1 | ⟨o, h1⟩
        · exact ⟨_, _, _, _, _, rfl, .ty T, .base (.lst h1), kit_ty k4, k _ _ F1 H1 w1 (.bl _) z⟩
        · exact ⟨_, _, _, _, _, rfl, .ty T, .base (.frz h1), kit_ty k4, k _ _ F1 H1 w1 (.bl _) z⟩
      · cases rx with
        | tup h1 h2 =>
          rcases st_mono w1.fh h1 with (h1 | ⟨o, h1⟩) | ⟨o, its, n, h1, h2, _⟩
          · exact ⟨_, _, _, _, _, rfl, .ty T, .base (.tup h1), kit_ty k5, k _ _ F1 H1 w1 (.bl _) z⟩
          · exact ⟨_, _, _, _, _, rfl, .ty T, .fTuple h1, kit_ty k5, k _ _ F1 H1 w1 (.bl _) z⟩
          · exact ⟨_, _, _, _, _, rfl, .ty T, .kTuple h1 h2, kit_ty k5, k _ _ F1 H1 w1 (.bl _) z⟩
      · obtain ⟨c, us, rfl, h1, h2⟩ := rx
        exact ⟨_, _, _, _, _, rfl, .ty T, .base (.dK h1), kit_ty k6, k _ _ F1 H1 w1 (.bl _) z⟩⟩
theorem ty_str : TyOk "str" := by refine ⟨?_, ?_, ?_, ?_, ?_, ?_, ?_⟩ <;> decide +kernel
theorem ty_bool : TyOk "bool" := by refine ⟨?_, ?_, ?_, ?_, ?_, ?_, ?_⟩ <;> decide +kernel
theorem ty_int : TyOk "int" := by refine ⟨?_, ?_, ?_, ?_, ?_, ?_, ?_⟩ <;> decide +kernel
theorem ty_list : TyOk "list" := by refine ⟨?_, ?_, ?_, ?_, ?_, ?_, ?_⟩ <;> decide +kernel
theorem ty_tuple : TyOk "tuple" := by refine ⟨?_, ?_, ?_, ?_, ?_, ?_, ?_⟩ <;> decide +kernel
theorem B_len : FnB (.builtin "len") rLenA pLen := ⟨fun X hc => cr_lenA, fun K => op1_len⟩
theorem B_any : FnB (.builtin "any") rAny pAny := ⟨fun X hc => cr_any hc, fun K => op1_any⟩
theorem B_all : FnB (.builtin "all") rAll pAll := ⟨fun X hc => cr_all hc, fun K => op1_all⟩
theorem B_sum : FnB (.builtin "sum") rSum pSum := ⟨fun X hc => cr_sum hc, fun K => op1_sum⟩
theorem B_sorted : FnBS (.builtin "sorted") rSortedA pSorted := ⟨fun X hc => cr_sortedA, fun K => op1s_sorted⟩
theorem B_list : FnBS (.type "list") rListA pListOf := ⟨fun X hc => cr_listA hc, fun K => op1s_list⟩
theorem B_int : FnB (.type "int") (fun _ => rIntA) pInt := ⟨fun X hc => cr_intA, fun K => op1_int⟩
end
end Pu
/-! The pure layer, part H: lists, texts: +, in, [i], [i:j], join. -/
namespace Pu
open PySem L2
section
variable {A : Ax} {X : Cx} {K : PySem.W.Frag} {F H : Hp} {e a b c : Expr} {es : List Expr} {t ta tb : TE} {p q : PR} {ps : PS_} {pos : Pos}
/-! list + list, for lists that are read -/
theorem rd_obj {pins : List (Addr × Obj)} {σ : L2.St} {H : Hp} {s : Shared} {l : Addr} {xs : List V} (I : Inv X pins σ H s) (h : Rd H l (.lst xs)) : xs.length ≤ sizeLine ∧ ∃ (its : List Value) (n : Nat), Vals xs its ∧ s.heap.get? l = some { cls := .type "list", data := .seq its.toArray n } := h.ok I.hok
def rCatR : R2 := fun x y H Q => ∃ l b xs zs, x = .ref l ∧ y = .ref b ∧ Rd H l (.lst xs) ∧ Rd H b (.lst zs) ∧ xs.length + zs.length ≤ sizeLine ∧ ∀ p, H p = none → Q (.ref p) (upd H p (.lst (xs ++ zs)))
theorem op_catR : OpR X (binaryOp .Add) rCatR := by
  intro pins s σ H x y v u Q I rx ry h
  obtain ⟨l, b, xs, zs, rfl, rfl, hl, hb, hz, q⟩ := h
  cases rx
  cases ry
  obtain ⟨z1, its, n, r1, e1⟩ := rd_obj I hl
  obtain ⟨z2, its2, n2, r2, e2⟩ := rd_obj I hb
  refine PySem.P.add_list e1 e2 ?_ (by rw [List.size_toArray, List.size_toArray, ← r1.length, ← r2.length]; exact hz)
  rw [show its.toArray ++ its2.toArray = (its ++ its2).toArray from by simp]
  exact ⟨.ref _, _, I.lnew (t' := s.toks) (r1.append r2) (by rw [List.length_append]; exact hz), rfl, q _ I.fresh⟩
def pCat : D → D → (SV → Prop) → Prop
  | .lst xs, .lst ys, Q => xs.length + ys.length ≤ 100000 ∧ Q (.own (xs ++ ys))
  | _, _, _ => False
theorem op2s_cat : Op2S K rCatR pCat := fun F H x y v u DQ Q e rx ry h k => by
  cases x <;> first | exact h.elim | skip
  cases y <;> first | exact h.elim | skip
  obtain ⟨l, vs, rfl, h1, h2⟩ := rx
  obtain ⟨l', vs', rfl, h3, h4⟩ := ry
  refine ⟨l, l', vs, vs', rfl, rfl, h1, h3, by rw [← h2.len, ← h4.len]; exact line_of h.1, fun p hp => ?_⟩
  exact k _ _ F _ ((Wld.refl e).new hp) (new_lst e hp (h2.app h4)) h.2
theorem O_cat : OpBS (binaryOp .Add) (fun _ => rCatR) pCat := ⟨fun X hu => op_catR, fun K => op2s_cat⟩

/-! in, not in: a list or tuple of flat things -/
def flatD : D → Bool
  | .non => true
  | .bl _ => true
  | .int _ => true
  | .str _ => true
  | _ => false
def eqS : D → D → Bool
  | .non, .non => true
  | .bl a, .bl b => a == b
  | .bl a, .int b => (if a then 1 else 0) == b
  | .int a, .bl b => a == (if b then 1 else 0)
  | .int a, .int b => a == b
  | .str a, .str b => a == b
  | _, _ => false
def hasD (ds : List D) (x : D) : Bool := ds.any fun y => eqS y x
theorem flat_rep {d : D} {v : V} (r : Rep K F d v) (h : flatD d = true) : flatV v = true := by cases r <;> first | rfl | exact h
theorem S_beq {x y : List Nat} : ((S x : Str) == S y) = (x == y) := by
  by_cases h : x = y
  · subst h; simp
  · rw [beq_eq_false_iff_ne.mpr h, beq_eq_false_iff_ne.mpr fun z => h (str_inj.mp z)]
theorem eqS_rep {d f : D} {v u : V} (r : Rep K F d v) (q : Rep K F f u) (h1 : flatD d = true) (h2 : flatD f = true) : eqV v u = eqS d f := by
  cases r <;> cases q <;> first | rfl | exact S_beq | (cases h1; done) | (cases h2; done)
theorem hasD_rep {x : D} {v : V} (rx : Rep K F x v) (hx : flatD x = true) {ds : List D} {vs : List V} (r : Reps K F ds vs) (h : ds.all flatD = true) : vs.all flatV = true ∧ inV v vs = hasD ds x := by
  induction r with
  | nil => exact ⟨rfl, rfl⟩
  | cons r t ih =>
    rw [List.all_cons, Bool.and_eq_true] at h
    obtain ⟨i1, i2⟩ := ih h.2
    refine ⟨by rw [List.all_cons, flat_rep r h.1, i1]; rfl, ?_⟩
    show (List.any (_ :: _) _) = _
    unfold hasD
    rw [List.any_cons, List.any_cons, eqS_rep r rx h.1 hx]
    have i2' : (List.any _ fun y => eqV y v) = (List.any _ fun y => eqS y x) := i2
    rw [i2']
def pIn (neg : Bool) : D → D → (D → Prop) → Prop
  | .str [c], .str z, Q => Q (.bl (if neg then !decide (c ∈ z) else decide (c ∈ z)))
  | x, .lst ds, Q => flatD x = true ∧ ds.all flatD = true ∧ Q (.bl (if neg then !hasD ds x else hasD ds x))
  | x, .tup ds, Q => flatD x = true ∧ ds.all flatD = true ∧ Q (.bl (if neg then !hasD ds x else hasD ds x))
  | _, _, _ => False
def rInA (K : PySem.W.Frag) : R2 := fun x y H Q => (∃ (c : Nat) (z : Str), x = .str ⟨#[c]⟩ ∧ y = .str z ∧ Q (.bl (decide (c ∈ z.cps.toList))) H) ∨ rIn K false x y H Q
def rNotInA (K : PySem.W.Frag) : R2 := fun x y H Q => (∃ (c : Nat) (z : Str), x = .str ⟨#[c]⟩ ∧ y = .str z ∧ Q (.bl (!decide (c ∈ z.cps.toList))) H) ∨ rIn K true x y H Q
theorem op_inA : OpR X (compareOp .In) (rInA X.K) := op_in_sign.or op_in_seq
theorem op_notinA : OpR X (compareOp .NotIn) (rNotInA X.K) := op_notIn_sign.or op_notIn_seq
theorem in_core {neg : Bool} {F H : Hp} {x y : D} {v u : V} {DQ : D → Prop} {Q : VK} (e : Same F H) (rx : RepR K F H x v) (ry : RepR K F H y u) (h : pIn neg x y DQ) (k : ∀ d w, Rep K F d w → DQ d → Q w H) :
    (∃ (c : Nat) (z : Str), v = .str ⟨#[c]⟩ ∧ u = .str z ∧ Q (.bl (if neg then !decide (c ∈ z.cps.toList) else decide (c ∈ z.cps.toList))) H) ∨ rIn K neg v u H Q := by
  have seq : ∀ (xs : List D) (p : Addr) (vs : List V), u = .ref p → (SqL K H p vs ∨ SqT K H p vs) → Reps K F xs vs → flatD x = true ∧ xs.all flatD = true ∧ DQ (.bl (if neg then !hasD xs x else hasD xs x)) → rIn K neg v u H Q := fun xs p vs hu hq hr hh => by
    have hxv : Rep K H x v := rx.up e
    have g := hasD_rep hxv hh.1 (Reps.mono e _ _ hr) hh.2.1
    refine ⟨p, vs, hu, hq, flat_rep hxv hh.1, g.1, ?_⟩
    rw [g.2]
    exact k _ _ (.bl _) hh.2.2
  unfold pIn at h
  split at h
  · cases rx; cases ry
    exact .inl ⟨_, _, rfl, rfl, by simpa using k _ _ (.bl _) h⟩
  · obtain ⟨l, vs, rfl, h1, h2⟩ := ry
    exact .inr (seq _ l vs rfl (.inl (.inl h1)) h2 h)
  · cases ry with
    | tup h1 h2 => exact .inr (seq _ _ _ rfl (.inr (st_mono e h1)) h2 h)
  · exact h.elim
theorem op2_in : Op2 K (rInA K) (pIn false) := fun F H x y v u DQ Q e rx ry h k => in_core e rx ry h k
theorem op2_notin : Op2 K (rNotInA K) (pIn true) := fun F H x y v u DQ Q e rx ry h k => in_core e rx ry h k
theorem O_in : OpB (compareOp .In) rInA (pIn false) := ⟨fun X hu => op_inA, fun K => op2_in⟩
theorem O_notin : OpB (compareOp .NotIn) rNotInA (pIn true) := ⟨fun X hu => op_notinA, fun K => op2_notin⟩

/-! x[i] -/
def pIx : D → D → (D → Prop) → Prop
  | .lst ds, .int i, Q => ∃ d, atI ds i = some d ∧ Q d
  | .tup ds, .int i, Q => ∃ d, atI ds i = some d ∧ Q d
  | .str z, .int i, Q => z.length ≤ 100000 ∧ ∃ c, atI z i = some c ∧ Q (.str [c])
  | _, _, _ => False
theorem atI_rep {ds : List D} {vs : List V} {i : Int} {d : D} (r : Reps K F ds vs) (h : atI ds i = some d) : ∃ v, atI vs i = some v ∧ Rep K F d v := by
  unfold atI at h ⊢
  rw [← r.len]
  cases q : ixN ds.length i with
  | none => rw [q] at h; cases h
  | some j =>
    rw [q] at h
    exact r.get h
theorem op2_ix : Op2 K (rIx K) pIx := fun F H x y v u DQ Q e rx ry h k => by
  cases x <;> first | exact h.elim | skip
  all_goals
    cases y <;> first | exact h.elim | skip
    cases ry
  · cases rx
    obtain ⟨hz, c, hc, h⟩ := h
    exact .inr (.inr ⟨_, _, c, rfl, rfl, by rw [str_len]; exact line_of hz, by simpa using hc, k _ _ (.str [c]) h⟩)
  · obtain ⟨l, vs, rfl, h1, h2⟩ := rx
    obtain ⟨d, hd, h⟩ := h
    obtain ⟨v, hv, r⟩ := atI_rep h2 hd
    exact .inl ⟨l, vs, _, v, rfl, rfl, .inl h1, hv, k _ _ r h⟩
  · cases rx with
    | tup h1 h2 =>
      obtain ⟨d, hd, h⟩ := h
      obtain ⟨v, hv, r⟩ := atI_rep h2 hd
      exact .inr (.inl ⟨_, _, _, v, rfl, rfl, st_mono e h1, hv, k _ _ r h⟩)
theorem simD_at (ha : SimR A X a ta p) (hb : SimR A X b tb q) (hs : PlainIx b := by intro _ _; rfl) : SimD A X (.Subscript a b pos) (tOp (rIx A.K) ta tb) (p2 pIx p q) := ⟨ha.hK, ha.hK ▸ pe_ix ix_seq ha.pe hb.pe hs, rd_2 op2_ix ha.rd hb.rd⟩

/-! x[i:j] -/
def cut {α : Type} (xs : List α) (lo hi : Option Int) : List α := (xs.drop (HT.sIx xs.length 0 lo)).take (HT.sIx xs.length xs.length hi - HT.sIx xs.length 0 lo)
abbrev POs := DS → (Option Int → Prop) → Prop
def RdO (A : Ax) (t : TO) (p : POs) : Prop := ∀ (F H : Hp) (σ : L2.St) (st : DS) (DQ : Option Int → Prop) (Q : Option Int → Hp → Prop), StOk A.K A.N F H σ st → Wld A.F0 A.N F H → p st DQ → (∀ o F' H', Wld F H F' H' → DQ o → Q o H') → t σ H Q
structure SimO (A : Ax) (X : Cx) (e : Option Expr) (t : TO) (p : POs) : Prop where
  hK : X.K = A.K
  po : PO X e t
  rd : RdO A t p
def pNo : POs := fun _ Q => Q none
def pPart (p : PR) : POs := fun st Q => p st fun d => match d with | .int i => Q (some i) | _ => False
theorem simO_none (hK : X.K = A.K := by rfl) : SimO A X none tNoPart pNo := ⟨hK, po_none, fun F H σ st DQ Q ok w hp k => k none F H (Wld.refl w.fh) hp⟩
theorem simO_some (h : SimR A X e t p) : SimO A X (some e) (tPart t) (pPart p) := ⟨h.hK, po_some h.pe, fun F H σ st DQ Q ok w hp k => h.rd F H σ st _ _ ok w hp fun d v F1 H1 w1 rx z => by
  cases d <;> first | exact z.elim | skip
  cases rx
  exact ⟨_, rfl, k _ F1 H1 w1 z⟩⟩
variable {lo hi : Option Expr} {tl th : TO} {pl ph : POs} {p2' : Pos}
/-- of a text -/
def pCutS (p : PR) (l h : POs) : PR := fun st Q => p st fun d => l st fun i => h st fun j => match d with | .str z => z.length ≤ 100000 ∧ Q (.str (cut z i j)) | _ => False
/-- of a list -/
def pCutL (p : PR) (l h : POs) : PS_ := fun st Q => p st fun d => l st fun i => h st fun j => match d with | .lst ds => Q (.own (cut ds i j)) | _ => False
theorem cutS_S {z : List Nat} {i j : Option Int} : cutS (S z) i j = S (cut z i j) := by
  unfold cutS cut
  rw [str_len]
theorem simD_cut (h : SimR A X e t p) (hl : SimO A X lo tl pl) (hh : SimO A X hi th ph) : SimD A X (.Subscript e (.Slice lo hi none p2') pos) (tSl rSlS t tl th) (pCutS p pl ph) := ⟨h.hK, pe_slice sl_str h.pe hl.po hh.po, fun F H σ st DQ Q ok w hp k =>
  h.rd F H σ st _ _ ok w hp fun d v F1 H1 w1 rx z => hl.rd F1 H1 σ st _ _ (ok.mono w1) (w.trans w1) z fun i F2 H2 w2 z => hh.rd F2 H2 σ st _ _ (ok.mono (w1.trans w2)) (w.trans (w1.trans w2)) z fun j F3 H3 w3 z => by
    cases d <;> first | exact z.elim | skip
    cases rx
    refine ⟨_, rfl, by rw [str_len]; exact line_of z.1, ?_⟩
    rw [cutS_S]
    exact k _ _ F3 H3 (w1.trans (w2.trans w3)) (.str _) z.2⟩
theorem cutV_rep {ds : List D} {vs : List V} {i j : Option Int} (r : Reps K F ds vs) : Reps K F (cut ds i j) (cutV vs i j) := by
  unfold cut cutV
  rw [r.len]
  exact (r.dr _).tk _
theorem simS_cut (h : SimR A X e t p) (hl : SimO A X lo tl pl) (hh : SimO A X hi th ph) : SimS A X (.Subscript e (.Slice lo hi none p2') pos) (tSl (rSlL A.K) t tl th) (pCutL p pl ph) := ⟨h.hK, h.hK ▸ pe_slice sl_list h.pe hl.po hh.po, fun F H σ st DQ Q ok w hp k =>
  h.rd F H σ st _ _ ok w hp fun d v F1 H1 w1 rx z => hl.rd F1 H1 σ st _ _ (ok.mono w1) (w.trans w1) z fun i F2 H2 w2 z => hh.rd F2 H2 σ st _ _ (ok.mono (w1.trans w2)) (w.trans (w1.trans w2)) z fun j F3 H3 w3 z => by
    cases d <;> first | exact z.elim | skip
    obtain ⟨l, vs, rfl, h1, h2⟩ := rx.mono (w2.trans w3)
    refine ⟨l, vs, rfl, .inl h1, fun p hp => ?_⟩
    have w13 := w1.trans (w2.trans w3)
    exact k _ _ F3 _ (w13.new hp) ((new_lst w13.fh hp (cutV_rep h2)).back fun a h => same_none w13.hh h) z⟩

/-! sep.join(list of texts) -/
def joinD (s : List Nat) : List (List Nat) → List Nat
  | [] => []
  | [x] => x
  | x :: y :: r => x ++ (s ++ joinD s (y :: r))
theorem join_S (s : List Nat) (ys : List (List Nat)) : Txt.join (S s) (ys.map S) = S (joinD s ys) := by
  rw [TL.join_eq]
  have e := TL.tl_join (S s) (ys.map S)
  have e2 : ∀ l : List (List Nat), TL.joinL s l = joinD s l := by
    intro l
    induction l with
    | nil => rfl
    | cons x r ih => cases r with
      | nil => rfl
      | cons y r => show x ++ (s ++ TL.joinL s (y :: r)) = x ++ (s ++ joinD s (y :: r)); rw [ih]
  have e3 : (ys.map S).map TL.tl = ys := by
    rw [List.map_map]
    conv => rhs; rw [← List.map_id ys]
    apply List.map_congr_left
    intro z _
    simp
  rw [e3, show TL.tl (S s) = s by simp, e2] at e
  have : ∀ z : Str, z = S (TL.tl z) := fun z => by show z = ⟨z.cps.toList.toArray⟩; simp
  rw [this (Str.join (S s) (ys.map S)), e]
def pJoin (p q : PR) : PR := fun st Q => p st fun x => match x with
  | .str s => q st fun y => (match y with | .lst ds => (match strL ds with | some zs => (zs.map (·.length)).sum + zs.length * s.length ≤ 100000 ∧ Q (.str (joinD s zs)) | none => False) | _ => False)
  | _ => False
theorem simD_join {apos : Pos} (ha : SimR A X a ta p) (hb : SimR A X b tb q) (hs : starEach [b] X.env = [(false, eval b X.env)] := by rfl) (hbase : attributeBase a "join" X.env (eval a X.env) = eval a X.env := by rfl) (hline : (apos.endLine == pos.line) = true := by rfl) :
    SimD A X (.Call (.Attribute a "join" apos) [b] [] pos) (tM1 (fun x xs H Q => ∃ a p, ∃ ys : List Str, x = .str a ∧ xs = [.ref p] ∧ (SqL A.K H p (ys.map V.str) ∨ SqT A.K H p (ys.map V.str)) ∧ (ys.map (·.length)).sum + ys.length * a.length ≤ 16777216 ∧ Q (.str (Txt.join a ys)) H) ta tb) (pJoin p q) :=
  ⟨ha.hK, ha.hK ▸ pe_join ha.pe hb.pe hs hbase hline, fun F H σ st DQ Q ok w hp k => ha.rd F H σ st _ _ ok w hp fun x v F1 H1 w1 rx z => by
    cases x <;> first | exact z.elim | skip
    cases rx
    refine ⟨⟨_, rfl⟩, hb.rd F1 H1 σ st _ _ (ok.mono w1) (w.trans w1) z fun y u F2 H2 w2 ry z => ?_⟩
    cases y <;> first | exact z.elim | skip
    dsimp only at z
    split at z
    · rename_i zs hzs
      obtain ⟨l, vs, rfl, h1, h2⟩ := ry
      rw [strs_of hzs] at h2
      have := reps_strs h2
      subst this
      refine ⟨_, l, zs.map S, rfl, rfl, .inl (.inl ?_), ?_, ?_⟩
      · rw [List.map_map]; exact h1
      · rw [List.map_map, List.length_map, str_len]
        have e : (zs.map ((·.length) ∘ S)) = zs.map (·.length) := List.map_congr_left fun z _ => str_len z
        rw [e]
        omega
      · rw [join_S]; exact k _ _ F2 H2 (w1.trans w2) (.str _) z.2
    · exact z.elim⟩
end
end Pu
/-! The pure layer, part I: how pure readings are shown. -/
namespace Pu
open PySem L2

/-! ### comprehensions and loops over a known list -/
theorem pGo_of {α : Type} (f : α → D) (keep : α → Bool) (g : α → D) {b : Bnd} {c : PB} {p : PR} {st : DS} {Q : List D → Prop} :
    ∀ (xs : List α) (acc : List D), (∀ a ∈ xs, ∀ (R0 : Prop) (R1 : D → Prop), (keep a = true → R1 (g a)) → (keep a = false → R0) → b (f a) st (fun st1 => c st1 fun k => if k = true then p st1 R1 else R0)) →
    acc.length + xs.length ≤ 100000 → Q (acc ++ (xs.filter keep).map g) → pGo b c p st (xs.map f) acc Q
  | [], acc, _, _, h => by simpa [pGo] using h
  | a :: xs, acc, hs, hl, h => by
    simp only [List.map_cons, pGo]
    simp only [List.length_cons] at hl
    refine hs a List.mem_cons_self _ _ (fun k => ⟨by omega, ?_⟩) fun k => ?_
    · refine pGo_of f keep g xs _ (fun a ha => hs a (List.mem_cons_of_mem _ ha)) (by simp; omega) ?_
      simpa [List.filter_cons, k] using h
    · refine pGo_of f keep g xs _ (fun a ha => hs a (List.mem_cons_of_mem _ ha)) (by omega) ?_
      simpa [List.filter_cons, k] using h
theorem pGo_map {α : Type} (f : α → D) (g : α → D) {b : Bnd} {p : PR} {st : DS} {Q : List D → Prop} (xs : List α) (hs : ∀ a ∈ xs, ∀ R : D → Prop, R (g a) → b (f a) st (fun st1 => p st1 R)) (hl : xs.length ≤ 100000) (h : Q (xs.map g)) : pGo b pYes p st (xs.map f) [] Q :=
  pGo_of f (fun _ => true) g xs [] (fun a ha R0 R1 h1 _ => by simpa [pYes] using hs a ha R1 (h1 rfl)) (by simpa using hl) (by rw [List.filter_eq_self.mpr fun _ _ => rfl]; simpa using h)
theorem pGo_fil {α : Type} (f : α → D) (keep : α → Bool) {b : Bnd} {c : PB} {p : PR} {st : DS} {Q : List D → Prop} (g : α → D) (xs : List α) (hs : ∀ a ∈ xs, ∀ (R0 : Prop) (R1 : D → Prop), (keep a = true → R1 (g a)) → (keep a = false → R0) → b (f a) st (fun st1 => c st1 fun k => if k = true then p st1 R1 else R0))
    (hl : xs.length ≤ 100000) (h : Q ((xs.filter keep).map g)) : pGo b c p st (xs.map f) [] Q :=
  pGo_of f keep g xs [] hs (by simpa using hl) (by simpa using h)
theorem for_of {α : Type} (f : α → D) (I : Nat → DS → Prop) {b : Bnd} {body : PSt} {E : DEnds} : ∀ (xs : List α) (i0 : Nat),
    (∀ i a st, xs[i]? = some a → I (i0 + i) st → ∀ G : DS → Prop, (∀ st', I (i0 + i + 1) st' → G st') → b (f a) st fun st1 => body { nx := G, rt := E.rt, bk := E.nx, ct := G } st1) →
    (∀ st, I (i0 + xs.length) st → E.nx st) → ∀ st, I i0 st → pForGo b body E (xs.map f) st
  | [], i0, _, he, st, h => he st h
  | a :: xs, i0, hs, he, st, h => by
    show b (f a) st fun st1 => body { nx := pForGo b body E (xs.map f), rt := E.rt, bk := E.nx, ct := pForGo b body E (xs.map f) } st1
    refine hs 0 a st rfl h _ fun st' h' => ?_
    refine for_of f I xs (i0 + 1) (fun i a st e h G hG => hs (i + 1) a st (by simpa using e) (by rw [show i0 + (i + 1) = i0 + 1 + i by omega]; exact h) G fun st' h' => hG st' (by rw [show i0 + 1 + i + 1 = i0 + (i + 1) + 1 by omega]; exact h')) (fun st h => he st (by rw [List.length_cons, show i0 + (xs.length + 1) = i0 + 1 + xs.length by omega]; exact h)) st' h'
/-- with an invariant that counts -/
theorem for_idx {α : Type} (f : α → D) (I : Nat → DS → Prop) {b : Bnd} {body : PSt} {E : DEnds} (xs : List α) (st : DS) (h0 : I 0 st)
    (hs : ∀ i a st, xs[i]? = some a → I i st → ∀ G : DS → Prop, (∀ st', I (i + 1) st' → G st') → b (f a) st fun st1 => body { nx := G, rt := E.rt, bk := E.nx, ct := G } st1)
    (he : ∀ st, I xs.length st → E.nx st) : pForGo b body E (xs.map f) st :=
  for_of f I xs 0 (fun i a st e h G hG => hs i a st e (by simpa using h) G fun st' h' => hG st' (by simpa using h')) (fun st h => he st (by simpa using h)) st h0
/-- with one that doesn't -/
theorem for_inv {α : Type} (f : α → D) (I : DS → Prop) {b : Bnd} {body : PSt} {E : DEnds} (xs : List α) (st : DS) (h0 : I st)
    (hs : ∀ a ∈ xs, ∀ st, I st → ∀ G : DS → Prop, (∀ st', I st' → G st') → b (f a) st fun st1 => body { nx := G, rt := E.rt, bk := E.nx, ct := G } st1)
    (he : ∀ st, I st → E.nx st) : pForGo b body E (xs.map f) st :=
  for_idx f (fun _ => I) xs st h0 (fun i a st e h G hG => hs a (List.mem_of_getElem? e) st h G hG) he
theorem upto0 (n : Nat) : upto 0 n = (List.range n).map fun i => D.int (i : Nat) := by
  unfold upto
  apply List.map_congr_left
  intro i _
  rw [Int.zero_add]
theorem numbered_map {α : Type} (f : α → D) (xs : List α) : numbered (xs.map f) = xs.zipIdx.map fun p => D.tup [.int (p.2 : Nat), f p.1] := by
  unfold numbered
  apply List.ext_getElem?
  intro i
  simp only [List.getElem?_mapIdx, List.getElem?_map, List.getElem?_zipIdx]
  cases xs[i]? <;> simp
theorem numbered_signs (z : List Nat) : numbered (signs z) = z.zipIdx.map fun p => D.tup [.int (p.2 : Nat), .str [p.1]] := numbered_map _ z
theorem pRng1_nat {p : PR} {st : DS} {Q : List D → Prop} {n : Nat} (hn : n < 2 ^ 40) (h : Q ((List.range n).map fun i => D.int (i : Nat))) (hp : ∀ R : D → Prop, R (.int (n : Int)) → p st R) : pRng1 p st Q := by
  unfold pRng1
  refine hp _ ⟨⟨by omega, by omega⟩, ?_⟩
  rw [Int.toNat_natCast, upto0]
  exact h
/-! ### parts of texts and lists -/
theorem cut_to {α : Type} (z : List α) (l : Nat) : cut z none (some (l : Int)) = z.take l := by
  unfold cut
  rw [HT.sIx_none, HT.sIx_nat, List.drop_zero, Nat.sub_zero]
  by_cases h : l ≤ z.length
  · rw [Nat.min_eq_left h]
  · rw [Nat.min_eq_right (by omega), List.take_length, List.take_of_length_le (by omega)]
theorem cut_from {α : Type} (z : List α) (l : Nat) : cut z (some (l : Int)) none = z.drop l := by
  unfold cut
  rw [HT.sIx_nat, HT.sIx_none]
  by_cases h : l ≤ z.length
  · rw [Nat.min_eq_left h, List.take_of_length_le (by simp)]
  · rw [Nat.min_eq_right (by omega), List.drop_length, List.drop_of_length_le (by omega)]
    simp
theorem atI_nat {α : Type} (z : List α) (l : Nat) : atI z (l : Int) = z[l]? := by
  unfold atI ixN
  rw [if_pos (by omega)]
  by_cases h : l < z.length
  · rw [if_pos (by omega)]; simp
  · rw [if_neg (by omega)]
    simp [List.getElem?_eq_none (Nat.le_of_not_lt h)]
theorem atI_0 {α : Type} (x : α) (z : List α) : atI (x :: z) 0 = some x := atI_nat (x :: z) 0
/-! ### equal data -/
mutual
/-- no truths, dicts, instances within -/
def D.pln : D → Prop
  | .non => True
  | .bl _ => False
  | .int _ => True
  | .str _ => True
  | .lst ds => D.plns ds
  | .tup ds => D.plns ds
  | .dct _ => False
  | .obj _ _ => False
  | .exc _ => False
  | .ptr _ => False
def D.plns : List D → Prop
  | [] => True
  | d :: ds => D.pln d ∧ D.plns ds
end
mutual
theorem py_eq : ∀ (x y : D), x.pln → y.pln → (PyData.eqv x.py y.py = true ↔ x = y)
  | .non, y, _, hy => by cases y <;> simp [D.py, PyData.eqv, D.pln] at hy ⊢
  | .int i, y, _, hy => by cases y <;> simp [D.py, PyData.eqv, D.pln] at hy ⊢
  | .str z, y, _, hy => by cases y <;> simp [D.py, PyData.eqv, D.pln] at hy ⊢
  | .lst ds, y, hx, hy => by
    cases y with
    | lst es => simpa [D.py, PyData.eqv] using pys_eq ds es (by simpa [D.pln] using hx) (by simpa [D.pln] using hy)
    | _ => simp [D.py, PyData.eqv, D.pln] at hy ⊢
  | .tup ds, y, hx, hy => by
    cases y with
    | tup es => simpa [D.py, PyData.eqv] using pys_eq ds es (by simpa [D.pln] using hx) (by simpa [D.pln] using hy)
    | _ => simp [D.py, PyData.eqv, D.pln] at hy ⊢
  | .bl _, _, hx, _ => by simp [D.pln] at hx
  | .dct _, _, hx, _ => by simp [D.pln] at hx
  | .obj _ _, _, hx, _ => by simp [D.pln] at hx
  | .exc _, _, hx, _ => by simp [D.pln] at hx
  | .ptr _, _, hx, _ => by simp [D.pln] at hx
theorem pys_eq : ∀ (xs ys : List D), D.plns xs → D.plns ys → (PyData.eqvAll (D.pys xs) (D.pys ys) = true ↔ xs = ys)
  | [], [], _, _ => by simp [D.pys, PyData.eqvAll]
  | [], y :: ys, _, _ => by simp [D.pys, PyData.eqvAll]
  | x :: xs, [], _, _ => by simp [D.pys, PyData.eqvAll]
  | x :: xs, y :: ys, hx, hy => by
    simp only [D.plns] at hx hy
    simp only [D.pys, PyData.eqvAll, Bool.and_eq_true, List.cons.injEq]
    rw [py_eq x y hx.1 hy.1, pys_eq xs ys hx.2 hy.2]
end
theorem eqv_iff {x y : D} (hx : x.pln) (hy : y.pln) : D.eqv x y = true ↔ x = y := by
  have h := py_eq x y hx hy
  cases x <;> cases y <;> first | exact h | simp [D.eqv]
theorem eqv_dec {x y : D} {P : Prop} [Decidable P] (hx : x.pln) (hy : y.pln) (h : x = y ↔ P) : D.eqv x y = decide P := by
  rw [Bool.eq_iff_iff, eqv_iff hx hy, h, decide_eq_true_iff]
theorem plns_map {α : Type} {f : α → D} : ∀ {l : List α}, (∀ a ∈ l, (f a).pln) → D.plns (l.map f)
  | [], _ => trivial
  | a :: l, h => ⟨h a List.mem_cons_self, plns_map fun b hb => h b (List.mem_cons_of_mem _ hb)⟩
theorem flats_map {α : Type} {n : Nat} {f : α → D} : ∀ {l : List α}, (∀ a ∈ l, D.flat n (f a)) → D.flats n (l.map f)
  | [], _ => trivial
  | a :: l, h => ⟨h a List.mem_cons_self, flats_map fun b hb => h b (List.mem_cons_of_mem _ hb)⟩
theorem map_int_inj {xs ys : List Int} : (D.lst (xs.map .int) = .lst (ys.map .int)) ↔ xs = ys := by
  constructor
  · intro h
    injection h with h
    exact List.map_inj_right (fun a b e => by injection e) |>.mp h
  · rintro rfl; rfl
theorem map_str_inj {xs ys : List (List Nat)} : (D.lst (xs.map .str) = .lst (ys.map .str)) ↔ xs = ys := by
  constructor
  · intro h
    injection h with h
    exact List.map_inj_right (fun a b e => by injection e) |>.mp h
  · rintro rfl; rfl
theorem hasD_nat (xs : List Nat) (s : Nat) : hasD (xs.map fun i => D.int (i : Nat)) (.int (s : Nat)) = decide (s ∈ xs) := by
  unfold hasD
  rw [List.any_map, Bool.eq_iff_iff, List.any_eq_true, decide_eq_true_iff]
  constructor
  · rintro ⟨a, ha, e⟩
    have : a = s := by simp [eqS] at e; omega
    exact this ▸ ha
  · intro h
    exact ⟨s, h, by simp [eqS]⟩
/-! ### bits -/
def bitN (s l : Nat) : Nat := s / 2 ^ l % 2
theorem bit_of (s l : Nat) : Builtin.bitAnd ((s : Int) / 2 ^ ((l : Int).toNat)) 1 = (bitN s l : Nat) := by
  rw [PyProof.Rows.bitAnd_m1, Int.toNat_natCast]
  unfold bitN
  simp
theorem dstart_eq (N : List Str) (ds : List D) : dstart N ds = ds.map (fun d => some (.dat d)) ++ List.replicate (N.length - ds.length) none := rfl
theorem svd_dat (d : D) : (SV.dat d).d = d := id rfl
theorem svd_own (d : List D) : (SV.own d).d = .lst d := id rfl
theorem svd_ownK (d : List (Key × D)) : (SV.ownK d).d = .dct d := id rfl
theorem ok_ii (i j : Int) : okEq (.int i) (.int j) = True := id rfl
theorem ok_ss (i j : List Nat) : okEq (.str i) (.str j) = True := id rfl
theorem ok_bb (i j : Bool) : okEq (.bl i) (.bl j) = True := id rfl
theorem ok_nn : okEq .non .non = True := id rfl
theorem ok_ns (i : List Nat) : okEq .non (.str i) = True := id rfl
theorem ok_sn (i : List Nat) : okEq (.str i) .non = True := id rfl
theorem ok_ni (i : Int) : okEq .non (.int i) = True := id rfl
theorem ok_in (i : Int) : okEq (.int i) .non = True := id rfl
theorem ok_ll (i j : List D) : okEq (.lst i) (.lst j) = (D.flat 60 (.lst i) ∧ D.flat 60 (.lst j)) := id rfl
theorem ok_tt (i j : List D) : okEq (.tup i) (.tup j) = (D.flat 60 (.tup i) ∧ D.flat 60 (.tup j)) := id rfl
theorem ev_ii (i j : Int) : D.eqv (.int i) (.int j) = decide (i = j) := id rfl
theorem ev_ss (i j : List Nat) : D.eqv (.str i) (.str j) = decide (i = j) := id rfl
theorem ev_bb (i j : Bool) : D.eqv (.bl i) (.bl j) = decide (i = j) := id rfl
theorem ev_nn : D.eqv .non .non = true := id rfl
theorem ev_ns (i : List Nat) : D.eqv .non (.str i) = false := id rfl
theorem ev_sn (i : List Nat) : D.eqv (.str i) .non = false := id rfl
theorem ev_ni (i : Int) : D.eqv .non (.int i) = false := id rfl
theorem ev_in (i : Int) : D.eqv (.int i) .non = false := id rfl
theorem at_mod {α : Type} {P : α → Prop} {L : List α} (h : ∀ x ∈ L, P x) {n : Nat} (i : Int) (e : L.length = n) (hn : 0 < n) : ∃ x, atI L (i % (n : Int)) = some x ∧ P x := by
  obtain ⟨k, hk, hl⟩ : ∃ k : Nat, i % (n : Int) = (k : Int) ∧ k < n := ⟨(i % n).toNat, by rw [Int.toNat_of_nonneg (Int.emod_nonneg _ (by omega))], by have := Int.emod_lt_of_pos i (show (0 : Int) < n by omega); have := Int.emod_nonneg i (show (n : Int) ≠ 0 by omega); omega⟩
  rw [hk, atI_nat]
  exact ⟨L[k]'(by omega), by simp, h _ (List.getElem_mem _)⟩
theorem bools_mapf {α : Type} (f : α → Bool) (l : List α) : bolL (l.map fun c => D.bl (f c)) = some (l.map f) := by rw [← bools_map, List.map_map]; rfl
theorem ints_mapf {α : Type} (f : α → Int) (l : List α) : intL (l.map fun c => D.int (f c)) = some (l.map f) := by rw [← ints_map, List.map_map]; rfl
theorem strs_mapf {α : Type} (f : α → List Nat) (l : List α) : strL (l.map fun c => D.str (f c)) = some (l.map f) := by rw [← strs_map, List.map_map]; rfl
end Pu
/-! The pure layer, part J: the end. -/
namespace Pu
open PySem L2
def noList (K : PySem.W.Frag) : Bool := K.all fun p => match p.2.cls with
  | .type n => !(n == "list")
  | _ => true
theorem sq_rd {K : PySem.W.Frag} {H : Hp} {a : Addr} {xs : List V} (nl : noList K = true) (h : SqL K H a xs) : Rd H a (.lst xs) := by
  rcases h with h | ⟨o, its, n, hk, hc, _⟩
  · exact h
  · exfalso
    have key : ∀ K : PySem.W.Frag, noList K = true → K.lookup a = some o → False := by
      intro K
      induction K with
      | nil => intro _ e; cases e
      | cons p r ih =>
        intro e1 e2
        obtain ⟨b, x⟩ := p
        unfold noList at e1
        rw [List.all_cons, Bool.and_eq_true] at e1
        rw [List.lookup_cons] at e2
        cases q : (a == b) with
        | true =>
          rw [q] at e2
          cases e2
          have := e1.1
          dsimp only at this
          rw [hc] at this
          exact absurd this (by decide)
        | false =>
          rw [q] at e2
          exact ih e1.2 e2
    exact key K nl hk
theorem law_spec {K : PySem.W.Frag} {φ : FSpec} {H : Hp} {a : Addr} {ns : List Int} (nl : noList K = true) (hS : SqL K H a (ns.map V.int)) (h : φ [.lst (ns.map .int)] (fun s => s = .dat (.bl true)) fun _ => False) : spP K φ [.ref a] H (fun v _ => v = .bl true) fun _ _ _ => False :=
  ⟨H, [.lst (ns.map .int)], _, _, Same.refl _, .cons (.lst (sq_rd nl hS) (ints_reps ns)) .nil, h, fun s v F' H' w r e => by subst e; cases r; rfl, fun x cls d F' H' w r e => e⟩
theorem cx_no {P : Program} {w : World} {outer : List Env} {H : Hp} {s : Shared} {u : Value} {s' : Shared} (h : L2.CX P w outer H s (fun _ _ _ => False) u s') : False := by
  obtain ⟨a, B, H', cls, d, _, _, _, _, _, _, _, z⟩ := h
  exact z
end Pu
/-! The pure layer, part K: attributes, methods, new objects, exceptions. -/
namespace Pu
open PySem L2

/-! ### attributes -/
section
variable {A : Ax} {X : Cx} {K : PySem.W.Frag} {F H : Hp} {e a b c : Expr} {es : List Expr} {t ta tb : TE} {p q : PR} {ps : PS_} {pos : Pos}
theorem lookup_rep : ∀ {fs : List (Str × D)} {us : List (Str × V)} {f : Str} {x : D}, us.map (·.1) = fs.map (·.1) → Reps K F (fs.map (·.2)) (us.map (·.2)) → fs.lookup f = some x → ∃ v, us.lookup f = some v ∧ Rep K F x v
  | [], us, f, x, _, _, h => by cases h
  | (g, y) :: fs, [], f, x, e, _, _ => by cases e
  | (g, y) :: fs, (g', u) :: us, f, x, e, r, h => by
    simp only [List.map_cons, List.cons.injEq] at e
    obtain ⟨rfl, e⟩ := e
    cases r with
    | cons r1 r2 =>
      rw [List.lookup_cons] at h ⊢
      cases z : (f == g') with
      | true => rw [z] at h; cases h; exact ⟨u, rfl, r1⟩
      | false => rw [z] at h; exact lookup_rep e r2 h
theorem lookup_none : ∀ {fs : List (Str × D)} {us : List (Str × V)} {f : Str}, us.map (·.1) = fs.map (·.1) → fs.lookup f = none → us.lookup f = none
  | [], [], f, _, _ => rfl
  | [], u :: us, f, e, _ => by cases e
  | (g, y) :: fs, [], f, e, _ => by cases e
  | (g, y) :: fs, (g', u) :: us, f, e, h => by
    simp only [List.map_cons, List.cons.injEq] at e
    obtain ⟨rfl, e⟩ := e
    rw [List.lookup_cons] at h ⊢
    cases z : (f == g') with
    | true => rw [z] at h; cases h
    | false => rw [z] at h; exact lookup_none e h
def pFld (cn f : Str) (p : PR) : PR := fun st Q => p st fun d => match d with
  | .obj C fs => C = cn ∧ ∃ x, fs.lookup f = some x ∧ Q x
  | _ => False
theorem simD_fld (cn f : Str) (h : SimR A X e t p) (hc : Cls X.K (clsA X.K cn)) (hn : NoAttr X.K (clsA X.K cn) f) (hb : attributeBase e f X.env (eval e X.env) = eval e X.env := by rfl) : SimD A X (.Attribute e f pos) (tFld A.K t f) (pFld cn f p) :=
  ⟨h.hK, h.hK ▸ pe_fld h.pe hb, fun F H σ st DQ Q ok w hp k => h.rd F H σ st _ _ ok w hp fun d v F1 H1 w1 rx z => by
    cases d <;> first | exact z.elim | skip
    cases rx with
    | obj h1 h2 h3 =>
      obtain ⟨rfl, x, hl, z⟩ := z
      obtain ⟨u, hu, ru⟩ := lookup_rep h2 h3 hl
      rw [h.hK] at hc hn
      exact ⟨_, _, _, _, u, rfl, w1.fh _ _ h1, hc, hn, hu, k x u F1 H1 w1 ru z⟩⟩

/-! ### calls that may let exceptions out -/
def RdX (A : Ax) (te : XK → TE) (p : (XD → Prop) → PS_) : Prop := ∀ (F H : Hp) (σ : L2.St) (st : DS) (DQ : SV → Prop) (Q : VK) (XQ : XD → Prop) (E : XK), StOk A.K A.N F H σ st → Wld A.F0 A.N F H → p XQ st DQ →
  (∀ s v F' H', Wld F H F' H' → RepS A.K H F' H' s v → DQ s → Q v H') → (∀ x cls d F' H', Wld F H F' H' → RepX A.K F' x cls d → XQ x → E cls d H') → te E σ H Q
structure SimX (A : Ax) (X : Cx) (e : Expr) (te : XK → TE) (p : (XD → Prop) → PS_) : Prop where
  hK : X.K = A.K
  pe : ∀ E, Passes (CX X.prog X.w) X E → PE X e (te E)
  rd : RdX A te p
theorem SimX.s {te : XK → TE} {pp : (XD → Prop) → PS_} {XQ : XD → Prop} {E : XK} (h : SimX A X e te pp) (hx : XC A X XQ E) : SimS A X e (te E) (pp XQ) :=
  ⟨h.hK, h.pe E hx.pass, fun F H σ st DQ Q ok w hp k => h.rd F H σ st DQ Q XQ E ok w hp (fun s v F' H' w' r z => k s v F' H' w' r z) fun x cls d F' H' w' r z => hx.takes x cls d F' H' (w.trans w') r z⟩
theorem rdx_call {ta : TA} {as : PAs} {φ : FSpec} (h : RdA A ta as) : RdX A (fun E => tCall (spP A.K φ) [] E ta) (fun XQ => pCall φ XQ as) := fun F H σ st DQ Q XQ E ok w hp k kx =>
  h F H σ st _ _ ok w hp fun ds vs F1 H1 w1 r z => by
    show spP A.K φ (vs ++ []) H1 Q E
    rw [List.append_nil]
    exact ⟨F1, ds, DQ, XQ, w1.fh, r, z, fun s v F' H' w' rs q => k s v F' H' (w1.trans w') (rs.back fun a h => same_none w1.hh h) q, fun x cls d F' H' w' rx q => kx x cls d F' H' (w1.trans w') rx q⟩
theorem simX_call {k : Nat} {φ : FSpec} {x : Str} {p0 : Pos} {es : List Expr} {ta : TA} {as : PAs} (C : CallOk X.prog X.w X.K X.mg X.base x k φ) (hr : Room k X.A)
    (ha : SimA A X (e :: es) ta as) (hg : Gl X x := by rfl) (hdb : (x == ("__debug__" : Str)) = false := by decide) (he : starEach (e :: es) X.env = (false, eval e X.env) :: starEach es X.env := by rfl) (hpl : (backTo pos (starEach es X.env)).any (·.1) = false := by rfl) :
    SimX A X (.Call (.Name x p0) (e :: es) [] pos) (fun E => tCall (spP A.K φ) [] E ta) (fun XQ => pCall φ XQ as) := by
  obtain ⟨f, fd, ps, h1, h2, h3, h4⟩ := C
  exact ⟨ha.hK, fun E hx => ha.hK ▸ pe_call h1 hr hg h2 h3 h4 .nil hx ha.pa hdb he hpl, rdx_call ha.rd⟩

/-! ### methods -/
def MethOk (P : Program) (w : World) (K : PySem.W.Frag) (mg : Str → Option Value) (base : Heap) (cn m : Str) (k : Nat) (φ : FSpec) : Prop :=
  ∃ (f : Addr) (fd : FuncData) (ps : List Str), FnOk P w K mg base (L2.CX P w) k f fd ps (spP K φ) ∧ Cls K (clsA K cn) ∧ Meth K (clsA K cn) m f ∧ Binds K fd ps []
def pMeth (cn m : Str) (φ : FSpec) (XQ : XD → Prop) (p : PR) (as : PAs) : PS_ := fun st Q => p st fun o => match o with
  | .obj C fs => C = cn ∧ fs.lookup m = none ∧ as st fun ds => φ (.obj C fs :: ds) Q XQ
  | _ => False
theorem rdx_meth {cn m : Str} {ta : TA} {as : PAs} {φ : FSpec} (ho : RdD A t p) (h : RdA A ta as) : RdX A (fun E => tMeth (clsA A.K cn) m (spP A.K φ) [] E t ta) (fun XQ => pMeth cn m φ XQ p as) := fun F H σ st DQ Q XQ E ok w hp k kx =>
  ho F H σ st _ _ ok w hp fun d v F1 H1 w1 rx z => by
    cases d <;> first | exact z.elim | skip
    cases rx with
    | obj h1 h2 h3 =>
      obtain ⟨rfl, hm, z⟩ := z
      refine ⟨_, _, _, rfl, w1.fh _ _ h1, lookup_none h2 hm, ?_⟩
      refine h F1 H1 σ st _ _ (ok.mono w1) (w.trans w1) z fun ds vs F2 H2 w2 r z => ?_
      show spP A.K φ (_ :: (vs ++ [])) H2 Q E
      rw [List.append_nil]
      have w12 := w1.trans w2
      exact ⟨F2, _ :: ds, DQ, XQ, w2.fh, .cons (Rep.mono w2.ff _ _ (.obj h1 h2 h3)) r, z, fun s v F' H' w' rs q => k s v F' H' (w12.trans w') (rs.back fun a h => same_none w12.hh h) q, fun x cls d F' H' w' rx q => kx x cls d F' H' (w12.trans w') rx q⟩
theorem simX_meth {k : Nat} {cn m : Str} {φ : FSpec} {o : Expr} {apos : Pos} {es : List Expr} {ta : TA} {as : PAs} {pl : Sem Bool} (C : MethOk X.prog X.w X.K X.mg X.base cn m k φ) (hr : Room k X.A) (ho : SimD A X o t p) (ha : SimA A X (e :: es) ta as)
    (hst : starEach (e :: es) X.env = (false, eval e X.env) :: starEach es X.env := by rfl) (hpl : (backTo pos (starEach es X.env)).any (·.1) = false := by rfl)
    (ht : eval (.Call (.Attribute o m apos) (e :: es) [] pos) X.env = (do let ov ← eval o X.env; standAt apos.atName; let (f, first) ← holding [ov] (getMethod ov m pl); callWith pos f first (backTo pos (starEach (e :: es) X.env)) (backToKw pos (keywordEach [] X.env))) := by rfl) :
    SimX A X (.Call (.Attribute o m apos) (e :: es) [] pos) (fun E => tMeth (clsA A.K cn) m (spP A.K φ) [] E t ta) (fun XQ => pMeth cn m φ XQ p as) := by
  obtain ⟨f, fd, ps, h1, h2, h3, h4⟩ := C
  exact ⟨ha.hK, fun E hx => ha.hK ▸ pe_meth ho.pe h2 h3 h1 hr h4 .nil hx ha.pa hst hpl ht, rdx_meth ho.rd ha.rd⟩
theorem simX_meth0 {k : Nat} {cn m : Str} {φ : FSpec} {o : Expr} {apos : Pos} {pl : Sem Bool} (C : MethOk X.prog X.w X.K X.mg X.base cn m k φ) (hr : Room k X.A) (ho : SimD A X o t p)
    (ht : eval (.Call (.Attribute o m apos) [] [] pos) X.env = (do let ov ← eval o X.env; standAt apos.atName; let (f, first) ← holding [ov] (getMethod ov m pl); callWith pos f first (backTo pos (starEach [] X.env)) (backToKw pos (keywordEach [] X.env))) := by rfl) :
    SimX A X (.Call (.Attribute o m apos) [] [] pos) (fun E => tMeth (clsA A.K cn) m (spP A.K φ) [] E t tNil) (fun XQ => pMeth cn m φ XQ p pNil) := by
  obtain ⟨f, fd, ps, h1, h2, h3, h4⟩ := C
  exact ⟨ho.hK, fun E hx => ho.hK ▸ pe_meth0 ho.pe h2 h3 h1 hr h4 .nil hx ht, rdx_meth ho.rd (simA_nil (A := A) (X := X) ho.hK).rd⟩

/-! ### raise -/
def pRaise (XQ : XD → Prop) (x : XD) : PSt := fun _ _ => XQ x
/-- an own class over ValueError, without own __init__ -/
structure ExcOk (K : PySem.W.Frag) (mg : Str → Option Value) (cn : Str) : Prop where
  gC : mg cn = some (.ref (clsA K cn))
  kC : PySem.W.keepIn K (.ref (clsA K cn)) = true
  xC : PySem.W.excIn K (clsA K cn) [.type "ValueError", .type "Exception", .type "BaseException", .type "object"] "ValueError.__new__" = true
  bC : PySem.W.subIn K (.ref (clsA K cn)) (.type "BaseException") = some true
  tC : PySem.W.typeIn K (.ref (clsA K cn)) = some (.type "type")
theorem sim_raise (kk : Nat) {cn m : Str} {j : Nat} {p1 p2 p3 : Pos} {XQ : XD → Prop} {E : XK} (O : ExcOk X.K X.mg cn) (hc : X.calm = true) (tk : Takes X fun cls d _ H => E cls d H) (hx : ∀ x cls d F H, Wld A.F0 A.N F H → RepX A.K F x cls d → XQ x → E cls d H) (hg : Gl X cn := by rfl)
    (hdb : (cn == ("__debug__" : Str)) = false := by decide) (he : errN kk = cn := by rfl) (hK : X.K = A.K := by rfl) : SimSt A X (.Raise (some (.Call (.Name cn p1) [.Constant (.str m) j p2] [] p3)) none pos) (fun _ σ H => E (.ref (clsA A.K cn)) none H) (pRaise XQ (.own kk)) :=
  ⟨hK, hK ▸ ps_raise hc tk (pmk_own PySem.F.excBase_ValueError O.xC O.gC O.kC (raises_own O.bC O.tC) hg hdb), fun F H σ st DD EE ok w c hp => hx (.own kk) _ none F H w ⟨by rw [he], rfl⟩ hp⟩
end
end Pu
/-! The pure layer, part L: a caught exception is kept. -/
namespace Pu
open PySem L2 PyProof.Rows
section
variable {X : Cx} {pins : List (Addr × Obj)} {σ : L2.St} {H : Hp} {s : Shared}
/-- a caught exception becomes one of the things that are tracked -/
theorem inv_hold {a : Addr} {cls : Value} {d : Option Addr} {oe : Obj} {vs : Array Value} (I : Inv X pins σ H s) (h0 : X.s_0.heap.get? a = none) (hn : H a = none) (he : s.heap.get? a = some oe) (hz : Zc cls d oe) (hd : oe.data = .fields vs)
    (nL : a ≠ X.env.locals) (np : ∀ p ∈ X.pn ++ pins, p.1 ≠ a) : Inv X pins σ (upd H a (ExV cls d a)) s := by
  have ne : ∀ b u, H b = some u → b ≠ a := fun b u e z => by rw [z, hn] at e; cases e
  have n0 : ∀ b o, X.s_0.heap.get? b = some o → b ≠ a := fun b o e z => by rw [z, h0] at e; cases e
  have new : ObjOk X.prog X.w (upd H a (ExV cls d a)) s.heap a (ExV cls d a) := ⟨⟨oe, vs, he, hz, hd⟩, ⟨oe, he⟩, fun _ _ ⟨o, v, q, r⟩ k => ⟨o, v, k o q, r⟩⟩
  refine ⟨I.ok, I.os, I.bare, ⟨fun b o e n => I.base.keep b o e n, fun b o e n => I.base.slot b o e n, fun b o e n hb => ?_, I.base.there, fun b xs e => ?_, fun b o u e => ?_, fun b ps e => ?_⟩, I.loc, I.cell, ?_, fun x c e => ?_, fun p hp => ?_, I.hok.laidN (fun _ _ z => z) hn new, I.len⟩
  · rw [upd_ne (n0 b o e)]; exact I.base.free b o e n hb
  · have q := I.base.tups b xs e
    rw [upd_ne (ne _ _ q)]; exact q
  · have q := I.base.frzs b o u e
    rw [upd_ne (ne _ _ q)]; exact q
  · obtain ⟨m, q⟩ := I.base.tbls b ps e
    exact ⟨m, by rw [upd_ne (ne _ _ q)]; exact q⟩
  · rw [upd_ne (Ne.symm nL)]; exact I.free
  · obtain ⟨v, o, ho, hv⟩ := I.cell x c e
    have hc : c ≠ a := fun z => by rw [z, he] at ho; cases ho; rw [hd] at hv; cases hv
    rw [upd_ne hc]; exact I.freeC x c e
  · obtain ⟨e1, n1, r⟩ := I.pin p hp
    exact ⟨e1, by rw [upd_ne (np p hp)]; exact n1, r⟩
end

/-- what the clause wishes: the exception is of the class c; afterwards it stands in slot j, tracked -/
def wHold (K : PySem.W.Frag) (c : Value) (i j n : Nat) (D : Ends) : XK := fun cls d H =>
  PySem.W.exmOne K cls c = some true ∧ ∀ (a : Addr) (σ : L2.St), H a = none → σ.length = n → D.nx (((σ.set i (some (.ref a))).set j (some (.ref a))).set i none) (upd H a (ExV cls d a))
section
variable {X : Cx} {x n : Str} {c : Value} {i j : Nat} {body : List Stmt} {b₀ : Stmt} {np pos pos' : Pos} {tb : XK → TS}
theorem ps_try_hold (hs : X.stack = X.env :: X.outer) (hf : X.env.frame = some X.env.locals) (hex : X.ex = []) (hN : X.N.Nodup) (hi : X.N[i]? = some n) (hln : X.env.kindOf n = some .local) (hc : Names X x c)
    (hb : ∀ (E : XK) (pn : List (Addr × Obj)) (xe : Value → Shared → Prop), Passes (CX X.prog X.w) (X.tr pn xe) E → PSs (X.tr pn xe) body (tb E))
    (hsu : ∀ (a : Addr) (oe : Obj) (pn : List (Addr × Obj)), PSs (X.suite a ((a, oe) :: pn)) [b₀] (fun D σ H => ∃ v, σ[i]? = some (some v) ∧ D.nx (σ.set j (some v)) H)) :
    PS X (.Try body [.ExceptHandler (some (.Name x np)) (some n) [b₀] pos'] [] [] pos) (fun D σ H => tb (wHold X.K c i j X.N.length D) D σ H) := by
  refine ⟨fun pins s σ H D I h => ?_⟩
  have fr0 : X.A.frames = some (X.env :: X.outer) := I.ok.frames.trans (by rw [hs])
  have wish : Passes (CX X.prog X.w) (X.tr (X.pn ++ pins) fun e s₁ => wpAny (model X.prog X.w) X.A (noteFrame e X.env) (fun _ s₂ => wpAny (model X.prog X.w) X.A (setFlight e none) (fun _ s₃ => wpAny (model X.prog X.w) X.A (handleBy e X.env [.ExceptHandler (some (.Name x np)) (some n) [b₀] pos']) (SP X pins D) X.xe s₃) X.xe s₂) X.xe s₁)
      (wHold X.K c i j X.N.length D) := by
    refine passes_call (W := fun cls d _ H => wHold X.K c i j X.N.length D cls d H) (fun u s' air => ?_) fun _ _ _ _ z => z
    obtain ⟨a, G, sI, pins', σ', H', cls, d, rfl, J', nb, up, sky, na, os, ag, hcl, hgo⟩ := air
    have J : Inv X pins σ' H' sI := J'.ofTry I.ok
    have sky' : Sky G (X.env :: X.outer) a (Zc cls d) X.env.locals s'.heap := hs ▸ sky
    show wpAny (model X.prog X.w) X.A (noteFrame (.ref a) X.env) _ _ _
    refine Sky.land Zc.steady fr0 hf sky' fun h3 fl3 up3 => ?_
    have gA : G.get? a = none := fl3.2.1
    have J3 : Inv X pins σ' H' { s' with heap := h3 } := J.landed nb fl3.1 (up.trans up3) os ag
    obtain ⟨o3, w3, get3, z3, d3⟩ := fl3.there
    have offFr : a ∉ frs (X.env :: X.outer) := fun hm => by
      obtain ⟨_, o', e', q⟩ := fl3.2.2.1.mem hm
      rw [get3] at e'; cases e'; exact q _ d3
    have nL : a ≠ X.env.locals := fun z => offFr (List.mem_filterMap.mpr ⟨X.env, List.mem_cons_self, hf.trans (by rw [z])⟩)
    have nF : a ∉ X.fs := fun hm => by
      obtain ⟨e, he, q⟩ := List.mem_filterMap.mp hm
      exact offFr (List.mem_filterMap.mpr ⟨e, List.mem_cons_of_mem _ he, q⟩)
    -- nothing of old stands there
    have old : ∀ b o, sI.heap.get? b = some o → b ≠ a := fun b o e z => by
      subst z
      have := nb b o e (by rw [hs]; exact offFr)
      rw [gA] at this; cases this
    have h0 : X.s_0.heap.get? a = none := by
      cases q : X.s_0.heap.get? a with
      | none => rfl
      | some o =>
        obtain ⟨o', q'⟩ := J.base.there a o q (by rw [hex]; exact fun z => nomatch z)
        exact absurd rfl (old a o' q')
    have S3 := J3.suite get3 d3 na nL nF
    refine wpAny_handleBy_cons (codeAny_handlers_test ?_) (by intro q; cases q)
    have LT : PySem.W.Looks (model X.prog X.w) h3 (typeOf (.ref a)) cls := fun _ _ _ _ k q => wpAny_typeOf_ref (k _ _ get3) (by rw [z3.1]; exact q)
    have LM := PySem.W.exm_one (M := model X.prog X.w) J3.kIn LT hcl
    have test : ∀ {Q : Value → Shared → Prop} {E : Value → Shared → Prop}, Q c { s' with heap := h3 } → wpAny (model X.prog X.w) (X.A.mark (some (.ref a))) (eval (.Name x np) X.env) Q E { s' with heap := h3 } := fun {Q E} q => by
      rcases hc with ⟨hg, hdb, hm | ⟨hm, hv, hnn⟩⟩
      · exact ld_glob (X := X.suite a ((a, o3) :: (X.pn ++ pins))) S3 hg hm q hdb
      · exact ld_blt (X := X.suite a ((a, o3) :: (X.pn ++ pins))) S3 hg hm hv q hnn hdb
    refine test (LM.here (codeAny_handlers_suite_as (HandSPX.lands_againZ fl3 fun h4 fl4 up4 => ?_)))
    have J4 : Inv X pins σ' H' { s' with heap := h4 } := J.landed nb fl4.1 ((up.trans up3).trans up4) os ag
    obtain ⟨o4, w4, get4, z4, d4⟩ := fl4.there
    refine store_ok (X := X.suite a ((a, o4) :: (X.pn ++ pins))) (v := .ref a) (J4.suite get4 d4 na nL nF) hN hi (.inl hln) rfl (fun s5 S5 => ?_) (.inr hln)
    have hi2 : i < σ'.length := by rw [J.len]; exact (List.getElem?_eq_some_iff.mp hi).1
    refine wpAny_mono ((hsu a o4 (X.pn ++ pins)).run [] s5 _ H' { nx := fun σ6 H6 => σ6 = (σ'.set i (some (.ref a))).set j (some (.ref a)) ∧ H6 = H', rt := fun _ _ => False, bk := fun _ _ => False, ct := fun _ _ => False } S5 ⟨_, List.getElem?_set_self hi2, rfl, rfl⟩) (fun f s6 hsp => ?_) (fun _ _ z => False.elim z)
    cases f with
    | next =>
      obtain ⟨σ6, H6, S6, rfl, rfl⟩ := hsp
      have p6 := (S6.pin (a, o4) (List.mem_append_left _ List.mem_cons_self)).1
      have T6 : Inv X pins _ (upd H6 a (ExV cls d a)) s6 := inv_hold (S6.unsuite I.ok) h0 na p6 z4 d4 nL fun p hp => by
        have := (J.pin p hp).1
        exact old _ _ this
      exact gone_ok T6 hN hi hln fun s7 J7 => ⟨_, _, J7, hgo a σ' na J.len⟩
    | brk => obtain ⟨_, _, _, z⟩ := hsp; exact z.elim
    | cont => obtain ⟨_, _, _, z⟩ := hsp; exact z.elim
    | ret u => obtain ⟨_, _, _, _, _, z⟩ := hsp; exact z.elim
  refine wpAny_Try_except (wpAny_mono ((hb _ (X.pn ++ pins) _ wish).run [] s σ H D (I.toTry _) h) (fun f s1 hsp => ?_) (fun e s1 he => he))
  cases f with
  | next =>
    obtain ⟨σ', H', J', q⟩ := hsp
    exact wpAny_execs_nil ⟨σ', H', J'.ofTry I.ok, q⟩
  | brk =>
    obtain ⟨σ', H', J', q⟩ := hsp
    exact ⟨σ', H', J'.ofTry I.ok, q⟩
  | cont =>
    obtain ⟨σ', H', J', q⟩ := hsp
    exact ⟨σ', H', J'.ofTry I.ok, q⟩
  | ret u =>
    obtain ⟨v, σ', H', J', r, q⟩ := hsp
    exact ⟨v, σ', H', J'.ofTry I.ok, r, q⟩
end
end Pu
/-! The pure layer, part M: more operators. -/
namespace Pu
open PySem L2 PyProof.Rows
section
variable {A : Ax} {X : Cx} {K : PySem.W.Frag} {F H : Hp} {e a b c : Expr} {es : List Expr} {t ta tb tc : TE} {p q r : PR} {ps : PS_} {pos : Pos}
/-! text * number -/
def pRep : D → D → (D → Prop) → Prop
  | .str z, .int n, Q => 0 ≤ n ∧ n ≤ 1000 ∧ z.length ≤ 100 ∧ Q (.str (List.replicate n.toNat z).flatten)
  | _, _, _ => False
def rRepS : R2 := fun x y H Q => ∃ z n, x = .str z ∧ y = .int n ∧ MulOk z n ∧ Q (.str (Txt.mul z n)) H
theorem op_repS : OpR X (binaryOp .Mult) rRepS := by
  intro pins s σ H x y v u Q I rx ry h
  obtain ⟨z, n, rfl, rfl, ok, q⟩ := h
  obtain ⟨t, rfl⟩ := rx
  obtain ⟨t', rfl⟩ := ry
  exact SB.mul ok fun t' k => ⟨.str _, H, I.tok _, ⟨_, rfl⟩, q⟩
theorem fold_rep (z : List Nat) : ∀ (n : Nat) (a : Array Nat), (List.replicate n z.toArray).foldl (· ++ ·) a = (a.toList ++ (List.replicate n z).flatten).toArray
  | 0, a => by simp
  | n + 1, a => by
    rw [List.replicate_succ, List.foldl_cons, fold_rep z n, List.replicate_succ, List.flatten_cons]
    simp
theorem mul_S (z : List Nat) (n : Int) (h : 0 ≤ n) : Txt.mul (S z) n = S (List.replicate n.toNat z).flatten := by
  unfold Txt.mul
  by_cases h1 : n < 1
  · have : n = 0 := by omega
    subst this
    rfl
  · rw [if_neg h1]
    by_cases h2 : (n == 1 || (S z).length == 0) = true
    · rw [if_pos h2]
      rw [Bool.or_eq_true, beq_iff_eq, beq_iff_eq, str_len] at h2
      rcases h2 with rfl | h2
      · simp
      · have : z = [] := List.length_eq_zero_iff.mp h2
        subst this
        simp
    · rw [if_neg h2, fold_rep]
      simp
theorem op2_rep : Op2 K rRepS pRep := fun F H x y v u DQ Q e rx ry h k => by
  cases x <;> cases y <;> first | exact h.elim | skip
  cases rx; cases ry
  rename_i z n
  obtain ⟨h0, h1, h2, h3⟩ := h
  refine ⟨_, _, rfl, rfl, ⟨?_, fun _ _ => ?_, fun _ _ => ?_⟩, ?_⟩
  · rw [decide_eq_false (by omega), decide_eq_false (by omega)]; rfl
  · rw [str_len]
    have : (9223372036854775 : Int) ≤ (2 ^ 63 - 1) / n := by
      rw [Int.le_ediv_iff_mul_le (by omega)]
      omega
    omega
  · rw [str_len]
    have : z.length * n.toNat ≤ 100 * 1000 := Nat.mul_le_mul h2 (by omega)
    unfold PySem.Builtin.Str.tooLong
    have g := sizeLine_eq
    simp only [decide_eq_false_iff_not]
    omega
  · rw [mul_S z n h0]; exact k _ _ (.str _) h3
theorem O_repS : OpB (binaryOp .Mult) (fun _ => rRepS) pRep := ⟨fun X hu => op_repS, fun K => op2_rep⟩

/-! least <= x <= most -/
def pChain (p q r : PR) : PR := fun st Q => p st fun x => q st fun y => match x, y with
  | .int i, .int j => if i ≤ j then r st fun z => (match z with | .int k => Q (.bl (decide (j ≤ k))) | _ => False) else Q (.bl false)
  | _, _ => False
theorem simD_chain (ha : SimR A X a ta p) (hb : SimR A X b tb q) (hc : SimR A X c tc r) (hm : lastMarks [.LtE, .LtE] [b, c] = false := by with_unfolding_all rfl) :
    SimD A X (.Compare a [.LtE, .LtE] [b, c] pos) (tChain (rI0 fun i j => .bl (decide (i ≤ j))) (rI0 fun i j => .bl (decide (i ≤ j))) ta tb tc) (pChain p q r) := ⟨ha.hK, pe_chain op_le op_le ha.pe hb.pe hc.pe hm, fun F H σ st DQ Q ok w hp k =>
  ha.rd F H σ st _ _ ok w hp fun x v F1 H1 w1 rx z0 => hb.rd F1 H1 σ st _ _ (ok.mono w1) (w.trans w1) z0 fun y u F2 H2 w2 ry z => by
    clear z0
    cases x <;> cases y <;> first | exact z.elim | skip
    cases rx; cases ry
    refine ⟨_, _, rfl, rfl, _, rfl, ?_⟩
    rename_i i j
    by_cases hij : i ≤ j
    · rw [decide_eq_true hij]
      dsimp only at z
      rw [if_pos hij] at z
      rw [if_pos rfl]
      refine hc.rd F2 H2 σ st _ _ (ok.mono (w1.trans w2)) (w.trans (w1.trans w2)) z fun z' u F3 H3 w3 rz z => ?_
      cases z' <;> first | exact z.elim | skip
      cases rz
      exact ⟨_, _, rfl, rfl, k _ _ F3 H3 (w1.trans (w2.trans w3)) (.bl _) z⟩
    · rw [decide_eq_false hij]
      dsimp only at z
      rw [if_neg hij] at z
      rw [if_neg (by decide)]
      exact k _ _ F2 H2 (w1.trans w2) (.bl _) z⟩

/-! -x -/
def pNeg : D → (D → Prop) → Prop
  | .int i, Q => Q (.int (-i))
  | _, _ => False
theorem simD_neg (h : SimR A X e t p) : SimD A X (.UnaryOp .USub e pos) (tUn (rU fun i => .int (-i)) t) (p1 pNeg p) := ⟨h.hK, pe_un un_neg h.pe, fun F H σ st DQ Q ok w hp k => h.rd F H σ st _ _ ok w hp fun d v F1 H1 w1 rx z => by
  cases d <;> first | exact z.elim | skip
  cases rx
  exact ⟨_, rfl, k _ _ F1 H1 w1 (.int _) z⟩⟩

/-! {} -/
def pDict0 : PS_ := fun _ Q => Q (.ownK [])
theorem simS_dict0 (hK : X.K = A.K := by rfl) : SimS A X (.Dict [] [] pos) tDNewK pDict0 := ⟨hK, pe_dnewK, fun F H σ st DQ Q ok w hp k p hn =>
  k (.ownK []) _ F _ ((Wld.refl w.fh).new hn) ⟨p, [], rfl, upd_same, w.fh.free hn, hn, rfl, .nil⟩ hp⟩

/-! len(set(list of numbers)) -/
def nub (ns : List Int) : List Int := ns.foldl step_dedup []
def pLenSet : D → (D → Prop) → Prop
  | .lst ds, Q => match intL ds with | some ns => ns.length ≤ 4000 ∧ Q (.int ((nub ns).length : Nat)) | none => False
  | _, _ => False
def tLenSetN (K : PySem.W.Frag) (ta : TE) : TE := fun σ H Q => ta σ H fun x H1 => ∃ (l : Addr) (ns : List Int), x = V.ref l ∧ SqL K H1 l (ns.map V.int) ∧ ns.length ≤ 4000 ∧ Q (.int ((nub ns).length : Nat)) H1
theorem nub_firstMet (ns : List Int) : firstMet (fun i => ns.getD i 0) ns.length = nub ns := by
  unfold firstMet nub
  congr 1
  apply List.ext_getElem?
  intro i
  by_cases h : i < ns.length
  · simp [h]
  · simp [h, List.getElem?_eq_none (Nat.le_of_not_lt h)]
theorem pe_lenSetN {p1 p2 q : Pos} (hc : X.calm = true) (hg : Gl X "len") (hm : X.mg "len" = none) (hg2 : Gl X "set") (hm2 : X.mg "set" = none) (ha : PE X a ta)
    (na : starEach [a] X.env = (false, eval a X.env) :: starEach [] X.env := by rfl) : PE X (.Call (.Name "len" p1) [.Call (.Name "set" p2) [a] [] q] [] pos) (tLenSetN X.K ta) := by
  refine ⟨fun pins s σ H Q I h => Call_ (ld_blt I hg hm PySem.boot_len (callWith_builtin1 (args_cons (Call_ (ld_blt I hg2 hm2 boot_set (callWith_type1 (args_cons (thn (ha.run pins s σ H _ I h) fun v s1 hh => args_nil ?_) na) na rfl))) rfl) rfl rfl))⟩
  obtain ⟨x, H1, I1, r1, l, ns, rfl, hq, hz, q1⟩ := hh
  cases r1
  obtain ⟨its, rv, pl, hz2⟩ := I1.list hq
  have hl : its.toArray.size = ns.length := by rw [List.size_toArray, ← rv.length, List.length_map]
  refine call_set_list (I1.ok.hd hc) pl.isList (ns := ns) (by simpa using rv.ints) (by unfold scanBound; omega) fun h' tk hS hk => ?_
  rw [hl, nub_firstMet] at hS
  obtain ⟨o, es, ep, t, ho, hex, hd, _, _, _, hf, hn⟩ := hS
  have I2 : Inv X pins σ H1 { s1 with heap := h', toks := tk } := I1.kept fun b o e => hk b o (Heap.lt_size e) e
  have hb := firstMet_length_le (fun i => ns.getD i 0) ns.length
  rw [nub_firstMet] at hb
  exact args_nil (call_len_set ho hex hd hf (by rw [hn] <;> omega) ⟨.int (nub ns).length, H1, I2.tok _, ⟨_, by rw [hn]⟩, q1⟩)
theorem simD_lenset {p1' p2' q' : Pos} (hm : X.mg "len" = none) (hm2 : X.mg "set" = none) (h : SimR A X a ta p) (hc : X.calm = true := by rfl) (hg : Gl X "len" := by rfl) (hg2 : Gl X "set" := by rfl)
    (na : starEach [a] X.env = (false, eval a X.env) :: starEach [] X.env := by rfl) : SimD A X (.Call (.Name "len" p1') [.Call (.Name "set" p2') [a] [] q'] [] pos) (tLenSetN A.K ta) (p1 pLenSet p) :=
  ⟨h.hK, h.hK ▸ pe_lenSetN hc hg hm hg2 hm2 h.pe na, fun F H σ st DQ Q ok w hp k => h.rd F H σ st _ _ ok w hp fun d v F1 H1 w1 rx z => by
    cases d <;> first | exact z.elim | skip
    dsimp only [pLenSet] at z
    split at z
    · rename_i ns hns
      obtain ⟨l, vs, rfl, h1, h2⟩ := rx
      rw [ints_of hns] at h2
      rw [reps_ints h2] at h1
      exact ⟨l, ns, rfl, .inl h1, z.1, k _ _ F1 H1 w1 (.int _) z.2⟩
    · exact z.elim⟩
theorem dedup_step (σ : List Int) (v : Int) : step_dedup σ v = if v ∈ σ then σ else σ ++ [v] := by
  unfold step_dedup
  by_cases h : v ∈ σ
  · rw [if_pos h, if_pos (by simpa using h)]
  · rw [if_neg h, if_neg (by simpa using h)]
theorem nub_len : ∀ (ns σ : List Int), σ.Nodup → (ns.foldl step_dedup σ).length ≤ σ.length + ns.length ∧ ((ns.foldl step_dedup σ).length = σ.length + ns.length ↔ (σ ++ ns).Nodup)
  | [], σ, h => by simpa using h
  | n :: ns, σ, h => by
    rw [List.foldl_cons, dedup_step]
    by_cases hn : n ∈ σ
    · rw [if_pos hn]
      have ih := nub_len ns σ h
      refine ⟨by simp only [List.length_cons]; omega, ⟨fun e => ?_, fun e => ?_⟩⟩
      · simp only [List.length_cons] at e; omega
      · rw [List.nodup_append] at e
        exact absurd rfl (e.2.2 n hn n List.mem_cons_self)
    · rw [if_neg hn]
      have h2 : (σ ++ [n]).Nodup := by
        rw [List.nodup_append]
        exact ⟨h, by simp, fun a ha b hb e => hn (by simp at hb; rw [← hb, ← e]; exact ha)⟩
      have ih := nub_len ns (σ ++ [n]) h2
      simp only [List.length_append, List.length_singleton, List.append_assoc, List.singleton_append] at ih
      refine ⟨by simp only [List.length_cons]; omega, ?_⟩
      rw [← ih.2]
      simp only [List.length_cons]
      constructor <;> intro e <;> omega
theorem nub_lt (ns : List Int) : ((nub ns).length : Int) < (ns.length : Int) ↔ ¬ ns.Nodup := by
  have h := nub_len ns [] List.nodup_nil
  unfold nub
  simp only [List.length_nil, Nat.zero_add, List.nil_append] at h
  rw [← h.2]
  omega

/-! tuple(list) -/
def pTupleOf : D → (D → Prop) → Prop
  | .lst ds, Q => ds.length ≤ 100000 ∧ Q (.tup ds)
  | .tup ds, Q => Q (.tup ds)
  | _, _ => False
def rTupOf (K : PySem.W.Frag) : List V → Hp → VK → Prop := fun xs H Q => ∃ p ys, xs = [.ref p] ∧ ((SqL K H p ys ∧ ∀ l, H l = none → Q (.ref l) (upd H l (.tup ys))) ∨ (SqT K H p ys ∧ Q (.ref p) H))
theorem simD_tuple {p0 : Pos} (hm : X.mg "tuple" = none) (h : SimR A X e t p) (hv : bootBuiltins "tuple" = some (.type "tuple") := by decide +kernel) (hg : Gl X "tuple" := by rfl)
    (he : starEach [e] X.env = (false, eval e X.env) :: starEach [] X.env := by rfl) (hpl : (backTo pos (starEach [] X.env)).any (·.1) = false := by rfl) : SimD A X (.Call (.Name "tuple" p0) [e] [] pos) (tCB (rTupOf A.K) (tCons t tNil)) (p1 pTupleOf p) :=
  ⟨h.hK, h.hK ▸ pe_callTy call_tuple_of hg hm hv (pa_cons h.pe pa_nil he) (by decide) (by decide) he hpl, fun F H σ st DQ Q ok w hp k => h.rd F H σ st _ _ ok w hp fun d v F1 H1 w1 rx z => by
    cases d <;> first | exact z.elim | skip
    · obtain ⟨l, vs, rfl, h1, h2⟩ := rx
      refine ⟨l, vs, rfl, .inl ⟨.inl h1, fun l' hn => ?_⟩⟩
      have n1 := w1.fh.free hn
      have w2 : Wld F1 H1 (upd F1 l' (.tup vs)) (upd H1 l' (.tup vs)) := ((Wld.refl w1.fh).new hn).freeze n1 upd_same hn
      exact k _ _ _ _ (w1.trans w2) (.tup (.inl (.of upd_same)) (Reps.mono (same_upd n1) _ _ h2)) z.2
    · cases rx with
      | tup h1 h2 => exact ⟨_, _, rfl, .inr ⟨st_mono w1.fh h1, k _ _ F1 H1 w1 (.tup h1 h2) z⟩⟩⟩
end
end Pu
/-! The pure layer, part N: caught errors asked for their class; try. -/
namespace Pu
open PySem L2
section
variable {A : Ax} {X : Cx} {K : PySem.W.Frag} {F H : Hp} {e a b c : Expr} {es : List Expr} {t ta tb tc : TE} {p q r : PR} {ps : PS_} {pos : Pos}
def rIsX (K : PySem.W.Frag) : List V → Hp → VK → Prop := fun xs H Q => ∃ (x : Addr) (D : Addr) (d : Option Addr) (c : V) (u : Value) (b : Bool), xs = [.ref x, c] ∧ H x = some (ExV (.ref D) d x) ∧ (d = none ∨ ∃ dd fs, d = some dd ∧ H dd = some (.xd fs)) ∧ ExcC K D ∧ ClsV c u ∧ PySem.W.kitOne K (.ref D) u = some b ∧ Q (.bl b) H
theorem call_isX : CallR X (.builtin "isinstance") (rIsX X.K) := by
  intro pins s σ H xs us Q I r h
  obtain ⟨x, D, d, c, u, b, rfl, hx, hd0, O, k, e, q⟩ := h
  obtain ⟨u1, u2, rfl, r1, r2⟩ := vals2 r
  cases r1
  have e2 := k.eq r2
  subst e2
  obtain ⟨⟨oe, vs, he, hz, hd⟩, _⟩ := (show ObjOk X.prog X.w H s.heap x (ExV (.ref D) d x) from I.hok x _ hx)
  have hcl : (PySem.W.clsIn X.K D).isSome = true := by
    obtain ⟨cd, hc, _⟩ := PySem.W.any_some O.hd
    rw [hc]
    rfl
  have J : ∃ od, PySem.W.InstAt s.heap x oe D od := by
    obtain ⟨oc, odi, oda, osl⟩ := oe
    obtain ⟨h1, h2⟩ := hz
    dsimp only at h1 h2 hd
    subst h1 h2 hd
    rcases hd0 with rfl | ⟨dd, fs, rfl, hdd⟩
    · exact ⟨none, he, rfl, rfl, trivial⟩
    · obtain ⟨mA, ⟨od, es, ep, hod, _⟩, _⟩ := (show ObjOk X.prog X.w H s.heap dd (.xd fs) from I.hok dd _ hdd)
      exact ⟨some od, he, rfl, rfl, hod⟩
  obtain ⟨od, J⟩ := J
  exact PySem.W.kia_one (PySem.W.kitx_exc hcl O.hg O.hk O.hs O.ha O.hn O.ht O.hm) I.kIn J e (fun z => nomatch z) fun tk => ⟨.bl b, H, I.kept (t' := tk) fun _ _ z => z, rfl, q⟩
def XD.kind : XD → Nat
  | .own k => k
  | .row k _ => k
theorem repX_out {K : PySem.W.Frag} {F H : Hp} {x : XD} {cls : Value} {d : Option Addr} (e : Same F H) (r : RepX K F x cls d) : cls = .ref (clsA K (errN x.kind)) ∧ (d = none ∨ ∃ dd fs, d = some dd ∧ H dd = some (.xd fs)) := by
  cases x with
  | own k => exact ⟨r.1, .inl r.2⟩
  | row k m =>
    obtain ⟨h1, dd, fs, h2, h3, _⟩ := r
    exact ⟨h1, .inr ⟨dd, fs, h2, e _ _ h3⟩⟩
/-- what is asked of the classes of errors, ks those that may be caught -/
structure ErrOk (K : PySem.W.Frag) (ks : List Nat) : Prop where
  exc : ∀ k ∈ ks, ExcC K (clsA K (errN k))
  cls : ∀ k ∈ ks, PySem.W.isClsIn K (clsA K (errN k)) = true
  ty : ∀ k ∈ ks, PySem.W.typeIn K (.ref (clsA K (errN k))) = some (.type "type")
  val : ∀ k ∈ ks, PySem.W.subIn K (.ref (clsA K (errN k))) (.type "ValueError") = some true
/-- .. of the class that is asked for -/
structure AskOk (K : PySem.W.Frag) (mg : Str → Option Value) (ks : List Nat) (j : Nat) : Prop where
  mgC : mg (errN j) = some (.ref (clsA K (errN j)))
  cls : PySem.W.isClsIn K (clsA K (errN j)) = true
  ty : PySem.W.typeIn K (.ref (clsA K (errN j))) = some (.type "type")
  slf : PySem.W.subIn K (.ref (clsA K (errN j))) (.ref (clsA K (errN j))) = some true
  sub : ∀ k ∈ ks, PySem.W.subIn K (.ref (clsA K (errN k))) (.ref (clsA K (errN j))) = some (decide (k = j))
theorem kit_err {ks : List Nat} {j k : Nat} {mg : Str → Option Value} (O : AskOk K mg ks j) (hk : k ∈ ks) : PySem.W.kitOne K (.ref (clsA K (errN k))) (.ref (clsA K (errN j))) = some (decide (k = j)) := by
  unfold PySem.W.kitOne
  by_cases e : ((Value.ref (clsA K (errN k))) == (Value.ref (clsA K (errN j)))) = true
  · rw [if_pos e]
    have e' : clsA K (errN k) = clsA K (errN j) := Value.ref.inj (beq_iff_eq.mp e)
    have h := O.sub k hk
    rw [e', O.slf] at h
    exact h
  · rw [if_neg e]
    unfold PySem.W.kitCls
    dsimp only
    have c1 : (PySem.W.clsIn K (clsA K (errN j))).isSome = true := O.cls
    have e2 : ((PySem.W.clsIn K (clsA K (errN j))).isSome && PySem.W.typeIn K (.ref (clsA K (errN j))) == some (.type "type")) = true := by rw [c1, O.ty] <;> rfl
    rw [if_pos e2]
    exact O.sub k hk
def pIsx (ks : List Nat) (j : Nat) (p : PR) : PR := fun st Q => p st fun d => match d with
  | .exc x => x.kind ∈ ks ∧ Q (.bl (decide (x.kind = j)))
  | _ => False
def pIsv (ks : List Nat) (p : PR) : PR := fun st Q => p st fun d => match d with
  | .exc x => x.kind ∈ ks ∧ Q (.bl true)
  | _ => False
theorem simD_isx {ks : List Nat} (j : Nat) {x : Str} {p0 p1 : Pos} (R : ErrOk X.K ks) (O : AskOk X.K X.mg ks j) (hm : X.mg "isinstance" = none) (h : SimR A X e t p) (hx : errN j = x := by rfl) (hg : Gl X "isinstance" := by rfl) (hgx : Gl X x := by rfl) (hdb : (x == ("__debug__" : Str)) = false := by decide)
    (h1 : starEach [e, .Name x p1] X.env = (false, eval e X.env) :: starEach [.Name x p1] X.env := by rfl) (h2 : starEach [.Name x p1] X.env = (false, eval (.Name x p1) X.env) :: starEach [] X.env := by rfl) (hpl : (backTo pos (starEach [.Name x p1] X.env)).any (·.1) = false := by rfl) :
    SimD A X (.Call (.Name "isinstance" p0) [e, .Name x p1] [] pos) (tCB (rIsX A.K) (tCons t (tCons (tC (.ref (clsA A.K (errN j)))) tNil))) (pIsx ks j p) := by
  subst hx
  exact ⟨h.hK, h.hK ▸ pe_callB call_isX hg hm (by decide +kernel) (pa_cons h.pe (pa_cons (pe_glob hgx O.mgC rfl hdb) pa_nil h2) h1) (by decide) (by decide) h1 hpl, fun F H σ st DQ Q ok w hp k =>
    h.rd F H σ st _ _ ok w hp fun d v F1 H1 w1 rx z => by
      cases d <;> first | exact z.elim | skip
      obtain ⟨hk, z⟩ := z
      cases rx with
      | exc hh hr =>
        obtain ⟨rfl, hd0⟩ := repX_out w1.fh hr
        exact ⟨_, _, _, _, _, _, rfl, w1.fh _ _ hh, hd0, h.hK ▸ R.exc _ hk, .own _, h.hK ▸ kit_err O hk, k _ _ F1 H1 w1 (.bl _) z⟩⟩
theorem simD_isv {ks : List Nat} {p0 p1 : Pos} (R : ErrOk X.K ks) (hm : X.mg "isinstance" = none) (hmv : X.mg "ValueError" = none) (h : SimR A X e t p) (hg : Gl X "isinstance" := by rfl) (hgx : Gl X "ValueError" := by rfl)
    (h1 : starEach [e, .Name "ValueError" p1] X.env = (false, eval e X.env) :: starEach [.Name "ValueError" p1] X.env := by rfl) (h2 : starEach [.Name "ValueError" p1] X.env = (false, eval (.Name "ValueError" p1) X.env) :: starEach [] X.env := by rfl) (hpl : (backTo pos (starEach [.Name "ValueError" p1] X.env)).any (·.1) = false := by rfl) :
    SimD A X (.Call (.Name "isinstance" p0) [e, .Name "ValueError" p1] [] pos) (tCB (rIsX A.K) (tCons t (tCons (tC (.ty "ValueError")) tNil))) (pIsv ks p) :=
  ⟨h.hK, h.hK ▸ pe_callB call_isX hg hm (by decide +kernel) (pa_cons h.pe (pa_cons (pe_bltn hgx hmv (u := .type "ValueError") (by decide +kernel) rfl (by decide) (by decide)) pa_nil h2) h1) (by decide) (by decide) h1 hpl, fun F H σ st DQ Q ok w hp k =>
    h.rd F H σ st _ _ ok w hp fun d v F1 H1 w1 rx z => by
      cases d <;> first | exact z.elim | skip
      obtain ⟨hk, z⟩ := z
      cases rx with
      | exc hh hr =>
        obtain ⟨rfl, hd0⟩ := repX_out w1.fh hr
        refine ⟨_, _, _, _, _, true, rfl, w1.fh _ _ hh, hd0, h.hK ▸ R.exc _ hk, .ty _, ?_, k _ _ F1 H1 w1 (.bl _) z⟩
        have hv := h.hK ▸ R.val _ hk
        unfold PySem.W.kitOne
        rw [if_neg (by simp)]
        unfold PySem.W.kitCls
        dsimp only
        rw [if_pos (by decide +kernel)]
        exact hv⟩

/-! ### try: a call / except TermError as e: caught = e -/
structure CatchOk (K : PySem.W.Frag) (mg : Str → Option Value) (ks : List Nat) (T : Str) : Prop where
  mgC : mg T = some (.ref (clsA K T))
  one : ∀ k ∈ ks, PySem.W.exmOne K (.ref (clsA K (errN k))) (.ref (clsA K T)) = some true
/-- behind the clause: nothing is known but what was caught -/
def held (n j : Nat) (x : XD) : DS := (List.replicate n none).set j (some (.dat (.exc x)))
theorem stok_held {N H F' : Hp} {n i j a : Nat} {σ : L2.St} {x : XD} (hl : σ.length = n) (hij : i ≠ j) (hj : j < n) (r : Rep K F' (.exc x) (.ref a)) : StOk K N F' H (((σ.set i (some (V.ref a))).set j (some (V.ref a))).set i none) (held n j x) := by
  have key : ∀ (m : Nat) (s : SV), (held n j x)[m]? = some (some s) → m = j ∧ s = .dat (.exc x) := fun m s e => by
    unfold held at e
    by_cases hm : m = j
    · subst hm
      rw [List.getElem?_set_self (by simpa using hj)] at e
      cases e
      exact ⟨rfl, rfl⟩
    · rw [List.getElem?_set_ne (Ne.symm hm), List.getElem?_replicate] at e
      split at e <;> cases e
  refine ⟨by simp [held, hl], fun m s e => ?_, fun m m' s t v hij' e1 e2 m1 m2 f1 f2 => ?_⟩
  · obtain ⟨rfl, rfl⟩ := key m s e
    refine ⟨.ref a, ?_, r⟩
    rw [List.getElem?_set_ne hij, List.getElem?_set_self (by simp [hl]; exact hj)]
  · obtain ⟨_, rfl⟩ := key m s e1
    cases m1
/-- the wish of the clause is met -/
theorem hold_met {ks : List Nat} {T : Str} {mg : Str → Option Value} {n i j : Nat} {DD : DEnds} {D : Ends} {F H : Hp} {Q : XD → Prop} (O : CatchOk A.K mg ks T) (hij : i ≠ j) (hj : j < n) (w : Wld A.F0 A.N F H) (c : Cmp A F DD D)
    (hQ : ∀ x, Q x → x.kind ∈ ks ∧ DD.nx (held n j x)) :
    ∀ x cls d F' H', Wld F H F' H' → RepX A.K F' x cls d → Q x → wHold A.K (.ref (clsA A.K T)) i j n D cls d H' := fun x cls d F' H' w' rx z => by
  obtain ⟨hk, z⟩ := hQ x z
  have hc : cls = .ref (clsA A.K (errN x.kind)) := by
    cases x with
    | own k => exact rx.1
    | row k m => exact rx.1
  subst hc
  refine ⟨O.one _ hk, fun a σ hn hl => ?_⟩
  have nF := w'.fh.free hn
  have w2 : Wld F' H' (upd F' a (ExV (.ref (clsA A.K (errN x.kind))) d a)) (upd H' a (ExV (.ref (clsA A.K (errN x.kind))) d a)) := ((Wld.refl w'.fh).new hn).freeze nF upd_same hn
  exact c.nx _ _ _ _ (w'.ff.trans w2.ff) (stok_held hl hij hj (Rep.exc (x := x) upd_same (rx.mono w2.ff))) ((w.trans w').trans w2) z
def pTryE (n j : Nat) (ks : List Nat) (p : (XD → Prop) → PS_) : PSt := fun E st => p (fun x => x.kind ∈ ks ∧ E.nx (held n j x)) st fun _ => E.nx st
def pTryA (n j y : Nat) (ks : List Nat) (p : (XD → Prop) → PS_) : PSt := fun E st => p (fun x => x.kind ∈ ks ∧ E.nx (held n j x)) st fun s => E.nx (st.set y (some s))
theorem sim_tryE (i j : Nat) {ks : List Nat} {T n y : Str} {te : XK → TE} {pp : (XD → Prop) → PS_} {np p0 p1 p2 p3 pos' : Pos} (O : CatchOk X.K X.mg ks T) (hs : X.stack = X.env :: X.outer) (hf : X.env.frame = some X.env.locals) (hex : X.ex = []) (hN : X.N.Nodup)
    (hb : ∀ (pn : List (Addr × Obj)) (xe : Value → Shared → Prop), SimX A (X.tr pn xe) e te pp)
    (hi : X.N[i]? = some n := by rfl) (hjn : X.N[j]? = some y := by rfl) (hij : i ≠ j := by decide) (hln : X.env.kindOf n = some .local := by rfl) (hyl : Loc X.env.scope y := by first | exact Or.inl rfl | exact Or.inr rfl) (hg : Gl X T := by rfl) (hdb : (T == ("__debug__" : Str)) = false := by decide)
    (hv : Vis X.env.scope n := by first | exact Or.inl rfl | exact Or.inr (Or.inl rfl) | exact Or.inr (Or.inr rfl)) (hd2 : (n == ("__debug__" : Str)) = false := by decide) (hcd : (n == ("__classdict__" : Str)) = false := by decide)
    (hsw : swapsWith e none p0.line X.env = pure false := by rfl) (hsw2 : swapsWith (.Name n p2) (some (.Name y p1)) p3.line X.env = pure false := by rfl) (hfy : X.fn y = true ∨ X.env.scope.names.lookup y = some .local := by first | exact .inl rfl | exact .inr rfl) (hK : X.K = A.K := by rfl) :
    SimSt A X (.Try [.Expr e p0] [.ExceptHandler (some (.Name T np)) (some n) [.Assign [.Name y p1] (.Name n p2) p3] pos'] [] [] pos) (fun D σ H => tDrop (te (wHold X.K (.ref (clsA X.K T)) i j X.N.length D)) D σ H) (pTryE X.N.length j ks pp) := by
  refine ⟨hK, ps_try_hold (tb := fun E => tDrop (te E)) hs hf hex hN hi hln ⟨hg, hdb, .inl O.mgC⟩ (fun E pn xe hx => pss_one (ps_expr ((hb pn xe).pe E hx) hsw)) (fun a oe pn => pss_one (ps_set (X := X.suite a ((a, oe) :: pn)) (i := j) hN hjn hyl (pe_var (X := X.suite a ((a, oe) :: pn)) hi hv hd2 hcd) hsw2 hfy)), fun F H σ st DD D ok w c hp => ?_⟩
  have s0 : Shared := {}
  have hjl : j < X.N.length := (List.getElem?_eq_some_iff.mp hjn).1
  rw [hK] at O ⊢
  refine (hb [] fun _ _ => True).rd F H σ st _ _ _ _ ok w hp (fun s v F' H' w' r z => c.nx F' H' σ st w'.ff (ok.mono w') (w.trans w') z) (hold_met O hij hjl w c (fun x z => z))
theorem sim_tryA (i j y' : Nat) {ks : List Nat} {T n y z' : Str} {te : XK → TE} {pp : (XD → Prop) → PS_} {np p0 p1 p2 p3 p4 pos' : Pos} (O : CatchOk X.K X.mg ks T) (hs : X.stack = X.env :: X.outer) (hf : X.env.frame = some X.env.locals) (hex : X.ex = []) (hN : X.N.Nodup)
    (hb : ∀ (pn : List (Addr × Obj)) (xe : Value → Shared → Prop), SimX A (X.tr pn xe) e te pp)
    (hi : X.N[i]? = some n := by rfl) (hjn : X.N[j]? = some y := by rfl) (hzn : X.N[y']? = some z' := by rfl) (hij : i ≠ j := by decide) (hln : X.env.kindOf n = some .local := by rfl) (hyl : Loc X.env.scope y := by first | exact Or.inl rfl | exact Or.inr rfl) (hzl : Loc X.env.scope z' := by first | exact Or.inl rfl | exact Or.inr rfl) (hg : Gl X T := by rfl) (hdb : (T == ("__debug__" : Str)) = false := by decide)
    (hv : Vis X.env.scope n := by first | exact Or.inl rfl | exact Or.inr (Or.inl rfl) | exact Or.inr (Or.inr rfl)) (hd2 : (n == ("__debug__" : Str)) = false := by decide) (hcd : (n == ("__classdict__" : Str)) = false := by decide)
    (hsw : swapsWith e (some (.Name z' p4)) p0.line X.env = pure false := by rfl) (hsw2 : swapsWith (.Name n p2) (some (.Name y p1)) p3.line X.env = pure false := by rfl) (hfy : X.fn y = true ∨ X.env.scope.names.lookup y = some .local := by first | exact .inl rfl | exact .inr rfl)
    (hfz : X.fn z' = true ∨ X.env.scope.names.lookup z' = some .local := by first | exact .inl rfl | exact .inr rfl) (hK : X.K = A.K := by rfl) :
    SimSt A X (.Try [.Assign [.Name z' p4] e p0] [.ExceptHandler (some (.Name T np)) (some n) [.Assign [.Name y p1] (.Name n p2) p3] pos'] [] [] pos) (fun D σ H => tAsg (te (wHold X.K (.ref (clsA X.K T)) i j X.N.length D)) (gName y') D σ H) (pTryA X.N.length j y' ks pp) := by
  refine ⟨hK, ps_try_hold (tb := fun E => tAsg (te E) (gName y')) hs hf hex hN hi hln ⟨hg, hdb, .inl O.mgC⟩ (fun E pn xe hx => pss_one (ps_set (i := y') hN hzn hzl ((hb pn xe).pe E hx) hsw hfz)) (fun a oe pn => pss_one (ps_set (X := X.suite a ((a, oe) :: pn)) (i := j) hN hjn hyl (pe_var (X := X.suite a ((a, oe) :: pn)) hi hv hd2 hcd) hsw2 hfy)), fun F H σ st DD D ok w c hp => ?_⟩
  have hjl : j < X.N.length := (List.getElem?_eq_some_iff.mp hjn).1
  rw [hK] at O ⊢
  refine (hb [] fun _ _ => True).rd F H σ st _ _ _ _ ok w hp (fun s v F' H' w' r z => c.nx F' H' _ _ w'.ff (put_new ok w w' r) (w.trans w') z) (hold_met O hij hjl w c (fun x z => z))
end
end Pu
/-! The pure layer, part O: new objects. -/
namespace Pu
open PySem L2
section
variable {A : Ax} {X : Cx} {K : PySem.W.Frag} {F H : Hp} {e a b c : Expr} {es : List Expr} {t ta tb tc : TE} {p q r : PR} {ps : PS_} {pos : Pos}
abbrev MSpec := List D → (List (Str × D) → Prop) → (XD → Prop) → Prop
/-- what an __init__ promises: the fields, all but numbers and texts new -/
def spMk (K : PySem.W.Frag) (cn : Str) (φ : MSpec) : Sp := fun vs H Q E => ∃ (p dx : Addr) (ws : List V) (F : Hp) (ds : List D) (DQ : List (Str × D) → Prop) (XQ : XD → Prop),
  vs = .ref p :: ws ∧ H p = some (.ins (clsA K cn) dx []) ∧ F p = none ∧ Same F H ∧ Reps K F ds ws ∧ φ ds DQ XQ ∧
  (∀ (fs : List (Str × D)) (us : List (Str × V)) (Fn H' : Hp), us.map (·.1) = fs.map (·.1) → Reps K Fn (fs.map (·.2)) (us.map (·.2)) → (∀ a o, Fn a = some o → H a = none ∧ H' a = some o) → H' p = some (.ins (clsA K cn) dx us) → (∀ a o, a ≠ p → H a = some o → H' a = some o) → DQ fs → Q .non H') ∧
  ∀ x cls d F' H', Wld F H F' H' → RepX K F' x cls d → XQ x → E cls d H'
def MkOk (P : Program) (w : World) (K : PySem.W.Frag) (mg : Str → Option Value) (base : Heap) (cn : Str) (k : Nat) (φ : MSpec) (dfs : List Value) : Prop :=
  ∃ (f : Addr) (fd : FuncData) (ps : List Str), FnOk P w K mg base (L2.CX P w) k f fd ps (spMk K cn φ) ∧ Mk K (clsA K cn) f ∧ mg cn = some (.ref (clsA K cn)) ∧ Binds K fd ps dfs
def pMake (cn : Str) (φ : MSpec) (dd : List D) (XQ : XD → Prop) (as : PAs) : PS_ := fun st Q => as st fun ds => φ (ds ++ dd) (fun fs => Q (.dat (.obj cn fs))) XQ
theorem make_met {cn : Str} {φ : MSpec} {ds : List D} {vs : List V} {DQ : SV → Prop} {XQ : XD → Prop} {Q : VK} {E : XK} (e : Same F H) (r : Reps K F ds vs) (h : φ ds (fun fs => DQ (.dat (.obj cn fs))) XQ)
    (k : ∀ s v F' H', Wld F H F' H' → RepS K H F' H' s v → DQ s → Q v H') (kx : ∀ x cls d F' H', Wld F H F' H' → RepX K F' x cls d → XQ x → E cls d H') (x dx : Addr) (nx : H x = none) (ndx : H dx = none) (ne : dx ≠ x) :
    spMk K cn φ (.ref x :: vs) (upd (upd H dx (.own x)) x (.ins (clsA K cn) dx [])) (fun v H2 => v = .non ∧ Q (.ref x) H2) E := by
  have old : ∀ a o, H a = some o → a ≠ x ∧ a ≠ dx := fun a o q => ⟨ne_of_none q nx, ne_of_none q ndx⟩
  have up : ∀ a o, H a = some o → (upd (upd H dx (.own x)) x (.ins (clsA K cn) dx [])) a = some o := fun a o q => by rw [upd_ne (old a o q).1, upd_ne (old a o q).2]; exact q
  refine ⟨x, dx, vs, F, ds, _, XQ, rfl, upd_same, e.free nx, fun a o q => up a o (e a o q), r, h, fun fs us Fn H' en rn hn hp hk z => ⟨rfl, ?_⟩, fun y cls d F' H' w' rx z => kx y cls d F' H' ((((Wld.refl e).new ndx).new (by rw [upd_ne ne.symm]; exact nx)).trans w') rx z⟩
  have nH : ∀ a o, Fn a = some o → H a = none := fun a o q => by
    cases z : H a with
    | none => rfl
    | some u => have := (hn a o q).1; rw [up a u z] at this; cases this
  have nF : ∀ a o, Fn a = some o → F a = none ∧ a ≠ x := fun a o q => ⟨e.free (nH a o q), fun z => by subst z; have := (hn _ o q).1; rw [upd_same] at this; cases this⟩
  let F2 : Hp := fun a => if a = x then some (.ins (clsA K cn) dx us) else match F a with | some o => some o | none => Fn a
  have fx : F2 x = some (.ins (clsA K cn) dx us) := if_pos rfl
  have fF : ∀ a o, F a = some o → F2 a = some o := fun a o q => by
    show (if a = x then _ else _) = _
    rw [if_neg (old a o (e a o q)).1, q]
  have fN : ∀ a o, Fn a = some o → F2 a = some o := fun a o q => by
    show (if a = x then _ else _) = _
    rw [if_neg (nF a o q).2, (nF a o q).1]
    exact q
  have inv : ∀ a o, F2 a = some o → (a = x ∧ o = .ins (clsA K cn) dx us) ∨ F a = some o ∨ Fn a = some o := fun a o q => by
    have q' : (if a = x then some (HO.ins (clsA K cn) dx us) else match F a with | some o => some o | none => Fn a) = some o := q
    by_cases z : a = x
    · rw [if_pos z] at q'; cases q'; exact .inl ⟨z, rfl⟩
    · rw [if_neg z] at q'
      cases f : F a with
      | some u => rw [f] at q'; exact .inr (.inl (by simpa using q'))
      | none => rw [f] at q'; exact .inr (.inr q')
  have w2 : Wld F H F2 H' := ⟨fF, fun a o q => hk a o (old a o q).1 (up a o q), fun a o q => by
    rcases inv a o q with ⟨rfl, rfl⟩ | q | q
    · exact hp
    · have := e a o q; exact hk a o (old a o this).1 (up a o this)
    · exact (hn a o q).2, fun a o q => by
    rcases inv a o q with ⟨rfl, rfl⟩ | q | q
    · exact .inr nx
    · exact .inl q
    · exact .inr (nH a o q)⟩
  exact k (.dat (.obj cn fs)) _ F2 H' w2 (show Rep K F2 (.obj cn fs) (.ref x) from .obj fx en (Reps.mono fN _ _ rn)) z
theorem simX_make {k : Nat} {cn : Str} {φ : MSpec} {dfs : List Value} {dd : List D} {dvs : List V} {p0 : Pos} {ta : TA} {as : PAs} (C : MkOk X.prog X.w X.K X.mg X.base cn k φ dfs) (hr : Room (k + 1) X.A) (hd : Vals dvs dfs) (hdd : ∀ F, Reps A.K F dd dvs) (ha : SimA A X (e :: es) ta as)
    (hg : Gl X cn := by rfl) (hdb : (cn == ("__debug__" : Str)) = false := by decide) (he : starEach (e :: es) X.env = (false, eval e X.env) :: starEach es X.env := by rfl) (hpl : (backTo pos (starEach es X.env)).any (·.1) = false := by rfl) :
    SimX A X (.Call (.Name cn p0) (e :: es) [] pos) (fun E => tMake (clsA A.K cn) (spMk A.K cn φ) dvs E ta) (fun XQ => pMake cn φ dd XQ as) := by
  obtain ⟨f, fd, ps, h1, h2, h3, h4⟩ := C
  refine ⟨ha.hK, fun E hx => ha.hK ▸ pe_make h2 h1 hr hg h3 h4 hd hx ha.pa hdb he hpl, fun F H σ st DQ Q XQ E ok w hp k kx => ?_⟩
  exact ha.rd F H σ st _ _ ok w hp fun ds vs F1 H1 w1 r z x dx nx ndx ne => make_met w1.fh (r.app (hdd F1)) z (fun s v F' H' w' rs q => k s v F' H' (w1.trans w') (rs.back fun a h => same_none w1.hh h) q) (fun y cls d F' H' w' rx q => kx y cls d F' H' (w1.trans w') rx q) x dx nx ndx ne

/-! ### a block with a tail of its own -/
def RdZ (A : Ax) (u : TS) (E : Ends) (q : DS → Prop) : Prop := ∀ (F H : Hp) (σ : L2.St) (st : DS), StOk A.K A.N F H σ st → Wld A.F0 A.N F H → q st → u E σ H
def pZ (pp : PSt) (q : DS → Prop) : DS → Prop := fun st => pp { nx := q, rt := fun _ => False } st
theorem rdz_cons {t u : TS} {pp : PSt} {E : Ends} {q : DS → Prop} (h : RdSt A t pp) (g : RdZ A u E q) : RdZ A (tSeq t u) E (pZ pp q) := fun F H σ st ok w hp =>
  h F H σ st { nx := q, rt := fun _ => False } { E with nx := u E } ok w ⟨fun F1 H1 σ1 st1 _ ok1 w1 z => g F1 H1 σ1 st1 ok1 w1 z, fun _ _ _ _ _ _ _ z => z.elim, fun _ _ _ _ _ _ _ z => z.elim, fun _ _ _ _ _ _ _ z => z.elim⟩ hp
end
end Pu
/-! The pure layer, part P: an __init__ that ends with three attributes; methods' promises. -/
namespace Pu
open PySem L2
section
variable {P : Program} {w : World} {K : PySem.W.Frag} {mg : Str → Option Value} {base : Heap}
theorem methOk {cn m qual : Str} {st : Stmt} {f : Addr} {fd : FuncData} {N ps : List Str} {k : Nat} {φ : FSpec} (Fn : Fun K m qual st f fd) (hc : Cls K (clsA K cn)) (hm : Meth K (clsA K cn) m f) (S : FnScope N ps (defScope st))
    (hl : ∀ ds Q XQ, φ ds Q XQ → ds.length = ps.length) (p : (XD → Prop) → PSt)
    (hb : ∀ (cdv : Value) (B : Around) (outer : List Env) (s : Shared) (H : Hp) (E : XK) (A : Ax) (XQ : XD → Prop), A.K = K → Room k (B.deeper (PyProof.Rows.envOfC qual (defScope st) s.heap.objs.size f cdv)) →
      (∀ x cls d F H, Wld A.F0 A.N F H → RepX K F x cls d → XQ x → E cls d H) → ∃ t, SimB A (ctx P w K mg base N qual (defScope st) f cdv B outer s H E) (defBody st) t (p XQ))
    (hp : ∀ ds Q XQ, φ ds Q XQ → p XQ { nx := fun _ => Q (.dat .non), rt := Q } (dstart N ds))
    (hbd : ∀ (kV doc pm : Value) (an : Option Addr) (cdv ct : Value) (us : List Value), us.length = ps.length → bindArgs (PySem.W.fnOf m qual (defArgs st) (defBody st) (defScope st) .none kV doc pm an cdv ct) ⟨us, []⟩ = pure (ps.zip us)) : MethOk P w K mg base cn m (k + 1) φ :=
  ⟨f, fd, ps, okP Fn S hl p hb hp, hc, hm, Fn.binds hbd⟩
end
/-- H without what stands at p -/
def without (H : Hp) (p : Addr) : Hp := fun a => if a = p then none else H a
theorem without_same {H : Hp} {p : Addr} : without H p p = none := if_pos rfl
theorem without_ne {H : Hp} {p a : Addr} (h : a ≠ p) : without H p a = H a := if_neg h
theorem without_some {H : Hp} {p a : Addr} {o : HO} (h : without H p a = some o) : a ≠ p ∧ H a = some o := by
  by_cases z : a = p
  · subst z; rw [without_same] at h; cases h
  · exact ⟨z, by rw [without_ne z] at h; exact h⟩
theorem without_none {H : Hp} {p a : Addr} (h : H a = none) : without H p a = none := by
  by_cases z : a = p
  · subst z; exact without_same
  · rw [without_ne z]; exact h
/-- an instance under way is written: the slots know nothing of it -/
theorem stok_ins {K : PySem.W.Frag} {N F H : Hp} {σ : L2.St} {st : DS} {p C dx : Addr} {us : List (Str × V)} {o : HO} (ok : StOk K N F H σ st) (h : H p = some (.ins C dx us)) : StOk K (without N p) F (upd H p o) σ st := by
  refine ⟨ok.len, fun i s e => ?_, ok.apart⟩
  obtain ⟨v, e1, r⟩ := ok.at_ i s e
  refine ⟨v, e1, ?_⟩
  cases s with
  | dat d => exact r
  | own ds =>
    obtain ⟨l, vs, rfl, h1, h2, h3, h4⟩ := r
    have ne : l ≠ p := fun z => by subst z; rw [h] at h1; cases h1
    exact ⟨l, vs, rfl, by rw [upd_ne ne]; exact h1, h2, without_none h3, h4⟩
  | ownK kvs =>
    obtain ⟨l, us', rfl, h1, h2, h3, h4, h5⟩ := r
    have ne : l ≠ p := fun z => by subst z; rw [h] at h1; cases h1
    exact ⟨l, us', rfl, by rw [upd_ne ne]; exact h1, h2, without_none h3, h4, h5⟩
theorem wld_ins {F0 N F H : Hp} {p C dx : Addr} {us : List (Str × V)} {o : HO} (w : Wld F0 N F H) (h : H p = some (.ins C dx us)) (f : F p = none) : Wld F0 (without N p) F (upd H p o) :=
  ⟨w.ff, fun a u e => by
    obtain ⟨ne, e⟩ := without_some e
    rw [upd_ne ne]; exact w.hh a u e, fun a u e => by
    have ne : a ≠ p := fun z => by subst z; rw [f] at e; cases e
    rw [upd_ne ne]; exact w.fh a u e, fun a u e => by
    rcases w.nw a u e with z | z
    · exact .inl z
    · exact .inr (without_none z)⟩
theorem putF1 (f : Str) (v : V) : putF f v [] = [(f, v)] := rfl
theorem putF_ne {f g : Str} {u v : V} {r : List (Str × V)} (h : ¬ g = f) : putF f v ((g, u) :: r) = (g, u) :: putF f v r := by
  show (if g = f then (g, v) :: r else (g, u) :: putF f v r) = _
  rw [if_neg h]
theorem rdz_init3 {K : PySem.W.Frag} {F0 N : Hp} {cn f1 f2 f3 : Str} {p dx : Addr} {t2 t4 : TE} {E : Ends} {Qn : Hp → Prop} {DQ : List (Str × D) → Prop}
    (hp : N p = some (.ins (clsA K cn) dx [])) (hF0 : F0 p = none) (cl : Cls K (clsA K cn)) (n1 : NoAttr K (clsA K cn) f1) (n2 : NoAttr K (clsA K cn) f2) (n3 : NoAttr K (clsA K cn) f3) (d12 : ¬ f1 = f2) (d13 : ¬ f1 = f3) (d23 : ¬ f2 = f3)
    (r2 : ∀ N', RdS ⟨F0, N', K⟩ t2 (p1S pSorted (pVar 2))) (r4 : ∀ N', RdS ⟨F0, N', K⟩ t4 (p1S pSorted (pVar 4))) (hE : ∀ σ H', Qn H' → E.nx σ H')
    (fin : ∀ (fs : List (Str × D)) (us : List (Str × V)) (Fn H' : Hp), us.map (·.1) = fs.map (·.1) → Reps K Fn (fs.map (·.2)) (us.map (·.2)) → (∀ a o, Fn a = some o → N a = none ∧ H' a = some o) → H' p = some (.ins (clsA K cn) dx us) → (∀ a o, a ≠ p → N a = some o → H' a = some o) → DQ fs → Qn H') :
    RdZ ⟨F0, N, K⟩ (tSeq (sFld K (tVar 0) (tVar 1) f1) (tSeq (sFld K (tVar 0) t2 f2) (sFld K (tVar 0) t4 f3))) E (fun st => ∃ (n : Int) (xs ys : List Int), st[0]? = some (some (.dat (.ptr p))) ∧ st[1]? = some (some (.dat (.int n))) ∧ st[2]? = some (some (.dat (.lst (xs.map .int)))) ∧ st[4]? = some (some (.dat (.lst (ys.map .int)))) ∧
      ∀ xs' ys' : List Int, xs'.Perm xs → xs'.Pairwise (· ≤ ·) → ys'.Perm ys → ys'.Pairwise (· ≤ ·) → DQ [(f1, .int n), (f2, .lst (xs'.map .int)), (f3, .lst (ys'.map .int))]) := by
  rintro F H σ st ok w ⟨n, xs, ys, e0, e1, e2, e4, hq⟩
  obtain ⟨v0, hv0, rv0⟩ := ok.at_ 0 _ e0
  cases (show Rep K F (.ptr p) v0 from rv0)
  obtain ⟨v1, hv1, rv1⟩ := ok.at_ 1 _ e1
  cases (show Rep K F (.int n) v1 from rv1)
  have hHp : H p = some (.ins (clsA K cn) dx []) := w.hh _ _ hp
  have fp : F p = none := by
    cases q : F p with
    | none => rfl
    | some o =>
      rcases w.nw p o q with z | z
      · exact absurd (z.symm.trans hF0) (by simp)
      · exact absurd (z.symm.trans hp) (by simp)
  refine ⟨_, hv1, _, hv0, p, _, dx, [], rfl, hHp, cl, n1, by decide, ?_⟩
  rw [putF1]
  have ok1 := stok_ins (o := .ins (clsA K cn) dx [(f1, V.int n)]) ok hHp
  have w1 := wld_ins (o := .ins (clsA K cn) dx [(f1, V.int n)]) w hHp fp
  refine r2 (without N p) F _ σ st (fun s => ∃ xs' : List Int, s = .own (xs'.map .int) ∧ xs'.Perm xs ∧ xs'.Pairwise (· ≤ ·)) _ ok1 w1 ?_ ?_
  · show pVar 2 st _
    unfold pVar
    rw [e2]
    show pSorted (.lst (xs.map .int)) _
    simp only [pSorted, ints_map]
    exact fun ns' h1 h2 => ⟨ns', rfl, h1, h2⟩
  rintro s v F2 H2 w2 r ⟨xs', rfl, px, sx⟩
  obtain ⟨l2, vs2, rfl, a1, a2, a3, a4⟩ := r
  have hp2 : H2 p = some (.ins (clsA K cn) dx [(f1, V.int n)]) := w2.hh _ _ upd_same
  have fp2 : F2 p = none := by
    cases q : F2 p with
    | none => rfl
    | some o =>
      rcases w2.nw p o q with z | z
      · exact absurd (z.symm.trans fp) (by simp)
      · rw [upd_same] at z; cases z
  have ne2 : l2 ≠ p := fun z => by subst z; rw [upd_same] at a3; cases a3
  refine ⟨_, hv0, p, _, dx, _, rfl, hp2, cl, n2, by simp, ?_⟩
  rw [putF_ne d12, putF1]
  have ok2 := stok_ins (o := .ins (clsA K cn) dx [(f1, V.int n), (f2, V.ref l2)]) (ok1.mono w2) hp2
  have w02 := wld_ins (o := .ins (clsA K cn) dx [(f1, V.int n), (f2, V.ref l2)]) (w1.trans w2) hp2 fp2
  refine r4 (without (without N p) p) F2 _ σ st (fun s => ∃ ys' : List Int, s = .own (ys'.map .int) ∧ ys'.Perm ys ∧ ys'.Pairwise (· ≤ ·)) _ ok2 w02 ?_ ?_
  · show pVar 4 st _
    unfold pVar
    rw [e4]
    show pSorted (.lst (ys.map .int)) _
    simp only [pSorted, ints_map]
    exact fun ns' h1 h2 => ⟨ns', rfl, h1, h2⟩
  rintro s v F3 H3 w3 r ⟨ys', rfl, py, sy⟩
  obtain ⟨l3, vs3, rfl, b1, b2, b3, b4⟩ := r
  have hp3 : H3 p = some (.ins (clsA K cn) dx [(f1, V.int n), (f2, V.ref l2)]) := w3.hh _ _ upd_same
  have ne3 : l3 ≠ p := fun z => by subst z; rw [upd_same] at b3; cases b3
  have l2H3 : H3 l2 = some (.lst vs2) := w3.hh _ _ (by rw [upd_ne ne2]; exact a1)
  have ne23 : l2 ≠ l3 := fun z => by subst z; rw [upd_ne ne2, a1] at b3; cases b3
  refine ⟨_, hv0, p, _, dx, _, rfl, hp3, cl, n3, by simp, hE _ _ ?_⟩
  rw [putF_ne d13, putF_ne d23, putF1]
  have v2 := reps_ints a4
  have v3 := reps_ints b4
  let Fn : Hp := fun a => if a = l2 then some (.lst vs2) else if a = l3 then some (.lst vs3) else none
  have f2' : Fn l2 = some (.lst vs2) := if_pos rfl
  have f3' : Fn l3 = some (.lst vs3) := by show (if l3 = l2 then _ else _) = _; rw [if_neg (Ne.symm ne23), if_pos rfl]
  have keep : ∀ a o, a ≠ p → H a = some o → H3 a = some o := fun a o ne e => w3.hh _ _ (by rw [upd_ne ne]; exact w2.hh _ _ (by rw [upd_ne ne]; exact e))
  have new2 : N l2 = none := by
    cases q : N l2 with
    | none => rfl
    | some o => have := w.hh _ _ q; rw [upd_ne ne2, this] at a3; cases a3
  have new3 : N l3 = none := by
    cases q : N l3 with
    | none => rfl
    | some o => have := w2.hh _ _ (show (upd H p (.ins (clsA K cn) dx [(f1, V.int n)])) l3 = some o from by rw [upd_ne ne3]; exact w.hh _ _ q); rw [upd_ne ne3, this] at b3; cases b3
  refine fin [(f1, .int n), (f2, .lst (xs'.map .int)), (f3, .lst (ys'.map .int))] [(f1, V.int n), (f2, V.ref l2), (f3, V.ref l3)] Fn _ rfl ?_ (fun a o q => ?_) upd_same (fun a o ne q => by rw [upd_ne ne]; exact keep a o ne (w.hh _ _ q)) (hq xs' ys' px sx py sy)
  · refine .cons (.int n) (.cons (.lst (.of f2') ?_) (.cons (.lst (.of f3') ?_) .nil))
    · rw [v2]; exact ints_reps xs'
    · rw [v3]; exact ints_reps ys'
  · have q' : (if a = l2 then some (HO.lst vs2) else if a = l3 then some (.lst vs3) else none) = some o := q
    by_cases z : a = l2
    · subst z; rw [if_pos rfl] at q'; cases q'
      exact ⟨new2, by rw [upd_ne ne2]; exact l2H3⟩
    · rw [if_neg z] at q'
      by_cases z : a = l3
      · subst z; rw [if_pos rfl] at q'; cases q'
        exact ⟨new3, by rw [upd_ne ne3]; exact b1⟩
      · rw [if_neg z] at q'; cases q'
/-! reading a slot, step by step -/
theorem pv_at {i : Nat} {s : SV} {st : DS} {Q : D → Prop} (h : st[i]? = some (some s)) : pVar i st Q = Q s.d := by unfold pVar; rw [h]
theorem pvd_at {i : Nat} {d : D} {st : DS} {Q : D → Prop} (h : st[i]? = some (some (.dat d))) : pVarD i st Q = Q d := by unfold pVarD; rw [h]
theorem pv_0 (s : SV) (st : DS) (Q : D → Prop) : pVar 0 (some s :: st) Q = Q s.d := rfl
theorem pv_s (i : Nat) (x : Option SV) (st : DS) (Q : D → Prop) : pVar (i + 1) (x :: st) Q = pVar i st Q := rfl
theorem pvd_0 (d : D) (st : DS) (Q : D → Prop) : pVarD 0 (some (.dat d) :: st) Q = Q d := rfl
theorem pvd_s (i : Nat) (x : Option SV) (st : DS) (Q : D → Prop) : pVarD (i + 1) (x :: st) Q = pVarD i st Q := rfl
/-! readings that give one thing -/
def Det (p : PR) (st : DS) (x : D) : Prop := ∀ R : D → Prop, R x → p st R
def DetA (as : PAs) (st : DS) (xs : List D) : Prop := ∀ R : List D → Prop, R xs → as st R
theorem det_c {d : D} {st : DS} : Det (pC d) st d := fun _ h => h
theorem det_var {i : Nat} {s : SV} {st : DS} (h : st[i]? = some (some s)) : Det (pVar i) st s.d := fun R hR => by rw [pv_at h]; exact hR
theorem det_vd {i : Nat} {d : D} {st : DS} (h : st[i]? = some (some (.dat d))) : Det (pVar i) st d := fun R hR => by rw [pv_at h]; exact hR
theorem det_varD {i : Nat} {d : D} {st : DS} (h : st[i]? = some (some (.dat d))) : Det (pVarD i) st d := fun R hR => by rw [pvd_at h]; exact hR
theorem detA_nil {st : DS} : DetA pNil st [] := fun _ h => h
theorem detA_cons {p : PR} {as : PAs} {st : DS} {x : D} {xs : List D} (h : Det p st x) (g : DetA as st xs) : DetA (pCons p as) st (x :: xs) := fun R hR => h _ (g _ hR)
theorem det_lst {as : PAs} {st : DS} {xs : List D} (h : DetA as st xs) (hl : xs.length ≤ 100000) : Det (pSD (pLst as)) st (.lst xs) := fun R hR => h _ ⟨hl, hR⟩
theorem det_tup {as : PAs} {st : DS} {xs : List D} (h : DetA as st xs) (hl : xs.length ≤ 100000) : Det (pTup as) st (.tup xs) := fun R hR => h _ ⟨hl, hR⟩
theorem det_cat {p q : PR} {st : DS} {xs ys : List D} (h : Det p st (.lst xs)) (g : Det q st (.lst ys)) (hl : xs.length + ys.length ≤ 100000) : Det (pSD (p2S pCat p q)) st (.lst (xs ++ ys)) := fun R hR => h _ (g _ ⟨hl, hR⟩)
theorem det_dict {st : DS} : Det (pSD pDict0) st (.dct []) := fun _ h => h
theorem det_neg {p : PR} {st : DS} {i : Int} (h : Det p st (.int i)) : Det (p1 pNeg p) st (.int (-i)) := fun R hR => h _ hR
theorem det_tupleOf {p : PR} {st : DS} {xs : List D} (h : Det p st (.lst xs)) (hl : xs.length ≤ 100000) : Det (p1 pTupleOf p) st (.tup xs) := fun R hR => h _ ⟨hl, hR⟩
theorem det_I {C : Int → Int → Prop} {g : Int → Int → Int} {p q : PR} {st : DS} {i j : Int} (h : Det p st (.int i)) (k : Det q st (.int j)) (hc : C i j) : Det (p2 (pI C g) p q) st (.int (g i j)) := fun R hR => h _ (k _ ⟨hc, hR⟩)
theorem det_I0 {g : Int → Int → Int} {p q : PR} {st : DS} {i j : Int} (h : Det p st (.int i)) (k : Det q st (.int j)) : Det (p2 (pI0 g) p q) st (.int (g i j)) := fun R hR => h _ (k _ hR)
theorem det_add {p q : PR} {st : DS} {i j : Int} (h : Det p st (.int i)) (k : Det q st (.int j)) : Det (p2 pAdd p q) st (.int (i + j)) := fun R hR => h _ (k _ hR)
theorem det_ix {p q : PR} {st : DS} {xs : List D} {i : Int} {x : D} (h : Det p st (.lst xs)) (k : Det q st (.int i)) (hx : atI xs i = some x) : Det (p2 pIx p q) st x := fun R hR => h _ (k _ ⟨x, hx, hR⟩)
theorem det_rep {p q : PR} {st : DS} {z : List Nat} {n : Int} (h : Det p st (.str z)) (k : Det q st (.int n)) (h0 : 0 ≤ n) (h1 : n ≤ 1000) (hz : z.length ≤ 100) : Det (p2 pRep p q) st (.str (List.replicate n.toNat z).flatten) := fun R hR => h _ (k _ ⟨h0, h1, hz, hR⟩)
theorem seq_set {i : Nat} {p : PR} {q : PSt} {E : DEnds} {st : DS} {x : D} (h : Det p st x) (k : q E (st.set i (some (.dat x)))) : pSeq (pSet i (pDS p)) q E st := h _ k
theorem ret_at {p : PR} {E : DEnds} {st : DS} {x : D} (h : Det p st x) (k : E.rt (.dat x)) : pRet (pDS p) E st := h _ k
def DetB (c : PB) (st : DS) (b : Bool) : Prop := ∀ R : Bool → Prop, R b → c st R
theorem detT_eq {p q : PR} {st : DS} {i j : Int} (h : Det p st (.int i)) (k : Det q st (.int j)) : DetB (pT (p2 pEq p q)) st (decide (i = j)) := fun R hR => h _ (k _ ⟨trivial, hR⟩)
theorem detT_b0 {g : Int → Int → Bool} {p q : PR} {st : DS} {i j : Int} (h : Det p st (.int i)) (k : Det q st (.int j)) : DetB (pT (p2 (pB0 g) p q)) st (g i j) := fun R hR => h _ (k _ hR)
theorem seq_if {c : PB} {p r : PSt} {E : DEnds} {st : DS} {b : Bool} (h : DetB c st b) (ht : b = true → p { E with nx := r E } st) (hf : b = false → r E st) : pSeq (pIfSt c p pNext) r E st := h _ (by
  cases b with
  | true => exact ht rfl
  | false => exact hf rfl)
theorem ifs_at {c : PB} {p q : PS_} {st : DS} {b : Bool} {R : SV → Prop} (h : DetB c st b) (ht : b = true → p st R) (hf : b = false → q st R) : pIfS c p q st R := h _ (by
  cases b with
  | true => exact ht rfl
  | false => exact hf rfl)
theorem cons_at {p : PR} {as : PAs} {st : DS} {x : D} {R : List D → Prop} (h : Det p st x) (k : as st fun xs => R (x :: xs)) : pCons p as st R := h _ k
theorem cons_call {φ : FSpec} {XQ : XD → Prop} {bs as : PAs} {st : DS} {R : List D → Prop} (k : bs st fun ds => φ ds (fun s => as st fun xs => R (s.d :: xs)) XQ) : pCons (pSD (pCall φ XQ bs)) as st R := k
theorem cons_ifs {c : PB} {p q : PS_} {as : PAs} {st : DS} {R : List D → Prop} (k : pIfS c p q st fun s => as st fun xs => R (s.d :: xs)) : pCons (pSD (pIfS c p q)) as st R := k
theorem call_at {φ : FSpec} {XQ : XD → Prop} {as : PAs} {st : DS} {R : SV → Prop} (k : as st fun ds => φ ds R XQ) : pCall φ XQ as st R := k
theorem ds_at {p : PR} {st : DS} {x : D} {R : SV → Prop} (h : Det p st x) (k : R (.dat x)) : pDS p st R := h _ k
theorem set_call {i : Nat} {φ : FSpec} {XQ : XD → Prop} {as : PAs} {q : PSt} {E : DEnds} {st : DS} (k : as st fun ds => φ ds (fun s => q E (st.set i (some (.dat s.d)))) XQ) : pSeq (pSet i (pDS (pSD (pCall φ XQ as)))) q E st := k
theorem ret_eq_call {φ : FSpec} {XQ : XD → Prop} {as : PAs} {c : D} {E : DEnds} {st : DS} (k : as st fun ds => φ ds (fun s => okEq s.d c ∧ E.rt (.dat (.bl (D.eqv s.d c)))) XQ) : pRet (pDS (p2 pEq (pSD (pCall φ XQ as)) (pC c))) E st := k
theorem ret_or_call {a : PR} {φ : FSpec} {XQ : XD → Prop} {as : PAs} {c : D} {b : Bool} {E : DEnds} {st : DS} (h : Det a st (.bl b)) (k1 : b = true → E.rt (.dat (.bl true))) (k : b = false → as st fun ds => φ ds (fun s => okEq s.d c ∧ E.rt (.dat (.bl (D.eqv s.d c)))) XQ) : pRet (pDS (pOrV a (p2 pEq (pSD (pCall φ XQ as)) (pC c)))) E st := h _ (by
  cases b with
  | true => exact k1 rfl
  | false => exact k rfl)
theorem seq_for {it : PAs} {b : Bnd} {body q : PSt} {E : DEnds} {st : DS} (k : it st fun ds => pForGo b body { E with nx := q E } ds st) : pSeq (pFor it b body) q E st := k
theorem meth_at {cn m : Str} {φ : FSpec} {XQ : XD → Prop} {p : PR} {as : PAs} {st : DS} {fs : List (Str × D)} {R : SV → Prop} (h : Det p st (.obj cn fs)) (hm : fs.lookup m = none) (k : as st fun ds => φ (.obj cn fs :: ds) R XQ) : pMeth cn m φ XQ p as st R := h _ ⟨rfl, hm, k⟩
theorem set_meth {i : Nat} {cn m : Str} {φ : FSpec} {XQ : XD → Prop} {p : PR} {as : PAs} {q : PSt} {E : DEnds} {st : DS} {fs : List (Str × D)} (h : Det p st (.obj cn fs)) (hm : fs.lookup m = none) (k : as st fun ds => φ (.obj cn fs :: ds) (fun s => q E (st.set i (some (.dat s.d)))) XQ) : pSeq (pSet i (pDS (pSD (pMeth cn m φ XQ p as)))) q E st := h _ ⟨rfl, hm, k⟩
theorem nil_at {st : DS} {R : List D → Prop} (h : R []) : pNil st R := h
structure SimZ (A : Ax) (X : Cx) (ss : List Stmt) (t : TS) (E : Ends) (q : DS → Prop) : Prop where
  ps : PSs X ss t
  rd : RdZ A t E q
theorem simZ_cons {A : Ax} {X : Cx} {s : Stmt} {rest : List Stmt} {t u : TS} {pp : PSt} {E : Ends} {q : DS → Prop} (h : SimSt A X s t pp) (g : SimZ A X rest u E q) : SimZ A X (s :: rest) (tSeq t u) E (pZ pp q) :=
  ⟨pss_cons h.ps g.ps, rdz_cons h.rd g.rd⟩
end Pu
/-! The pure layer, part Q: lists within a list that are changed behind. -/
namespace Pu
open PySem L2
section
variable {K : PySem.W.Frag} {F0 N F H H' : Hp} {σ : L2.St} {st : DS} {L : Addr → Prop}
/-- only at L, where no data and nothing of a name's own stand, a change was made -/
theorem stok_fresh (ok : StOk K N F H σ st) (hk : ∀ a o, ¬ L a → H a = some o → H' a = some o) (hown : ∀ (i : Nat) (s : SV) (l : Addr), st[i]? = some (some s) → s.mut = true → σ[i]? = some (some (.ref l)) → ¬ L l) : StOk K N F H' σ st := by
  refine ⟨ok.len, fun i s e => ?_, ok.apart⟩
  obtain ⟨v, e1, r⟩ := ok.at_ i s e
  refine ⟨v, e1, ?_⟩
  cases s with
  | dat d => exact r
  | own ds =>
    obtain ⟨l, vs, rfl, h1, h2, h3, h4⟩ := r
    exact ⟨l, vs, rfl, hk _ _ (hown i _ l e rfl e1) h1, h2, h3, h4⟩
  | ownK kvs =>
    obtain ⟨l, us, rfl, h1, h2, h3, h4, h5⟩ := r
    exact ⟨l, us, rfl, hk _ _ (hown i _ l e rfl e1) h1, h2, h3, h4, h5⟩
theorem wld_fresh (w : Wld F0 N F H) (hk : ∀ a o, ¬ L a → H a = some o → H' a = some o) (hF : ∀ a, L a → F a = none) (hN : ∀ a, L a → N a = none) : Wld F0 N F H' :=
  ⟨w.ff, fun a o e => hk a o (fun z => by rw [hN a z] at e; cases e) (w.hh a o e), fun a o e => hk a o (fun z => by rw [hF a z] at e; cases e) (w.fh a o e), w.nw⟩
/-- what a name owns was tracked -/
theorem own_tracked (ok : StOk K N F H σ st) {i : Nat} {s : SV} {l : Addr} (e : st[i]? = some (some s)) (m : s.mut = true) (e1 : σ[i]? = some (some (.ref l))) : H l ≠ none := by
  obtain ⟨v, e2, r⟩ := ok.at_ i s e
  rw [e1] at e2
  cases e2
  cases s with
  | dat d => cases m
  | own ds => obtain ⟨l', vs, z, h1, _⟩ := r; cases z; rw [h1]; simp
  | ownK kvs => obtain ⟨l', us, z, h1, _⟩ := r; cases z; rw [h1]; simp
end
/-- slots i, k unknown -/
def hid (i k : Nat) (st : DS) : DS := (st.set i none).set k none
theorem stok_hid {K : PySem.W.Frag} {N F H : Hp} {σ σ' : L2.St} {st : DS} {i k : Nat} (ok : StOk K N F H σ st) (hl : σ'.length = σ.length) (hs : ∀ j : Nat, j ≠ i → j ≠ k → σ'[j]? = σ[j]?) : StOk K N F H σ' (hid i k st) := by
  refine ⟨by simp [hid, ok.len, hl], fun j t e => ?_, fun j m t u v hjm e1 e2 m1 m2 f1 f2 => ?_⟩
  all_goals
    have key : ∀ (j : Nat) (t : SV), (hid i k st)[j]? = some (some t) → j ≠ i ∧ j ≠ k ∧ st[j]? = some (some t) := fun j t e => by
      unfold hid at e
      by_cases z : k = j
      · subst z
        have := (List.getElem?_eq_some_iff.mp e).1
        rw [List.getElem?_set_self (by simpa using this)] at e
        cases e
      · rw [List.getElem?_set_ne z] at e
        by_cases z' : i = j
        · subst z'
          have := (List.getElem?_eq_some_iff.mp e).1
          rw [List.getElem?_set_self (by simpa using this)] at e
          cases e
        · rw [List.getElem?_set_ne z'] at e
          exact ⟨Ne.symm z', Ne.symm z, e⟩
  · obtain ⟨a, b, c⟩ := key j t e
    rw [hs j a b]
    exact ok.at_ j t c
  · obtain ⟨a, b, c⟩ := key j t e1
    obtain ⟨a', b', c'⟩ := key m u e2
    rw [hs j a b] at f1
    rw [hs m a' b'] at f2
    exact ok.apart j m t u v hjm c c' m1 m2 f1 f2
def pTold (i k : Nat) (ps1 ps2 ps3 : PS_) (pc : PB) (pr : PR) : PSt := fun E st => i < st.length ∧ k < st.length ∧ ps1 (hid i k st) fun s1 => ps2 (hid i k st) fun s2 => ps3 (hid i k st) fun s3 => match s1, s2, s3 with
  | .own a, .own b, .own c => a.length ≤ 1000 ∧ b.length ≤ 1000 ∧ c.length ≤ 1000 ∧ pc (hid i k st) fun z => z = false ∧ pr (hid i k st) fun d => okEq (.lst [.lst a, .lst b, .lst c]) d ∧ D.eqv (.lst [.lst a, .lst b, .lst c]) d = true ∧ E.nx (hid i k st)
  | _, _, _ => False
theorem rd_told {A : Ax} {t1 t2 t3 tr : TE} {tc : TT} {ps1 ps2 ps3 : PS_} {pc : PB} {pr : PR} {i k : Nat} (h1 : RdS A t1 ps1) (h2 : RdS A t2 ps2) (h3 : RdS A t3 ps3) (hc : RdT A tc pc) (hr : RdR A tr pr) (hik : i ≠ k) :
    RdSt A (tSeq (tAsg (tLst (tCons t1 (tCons t2 (tCons t3 tNil)))) (gName i)) (tSeq (tIfS (tOr tc (tTest (tOp (rNeA A.K) (tVar i) tr))) (tRet (tC (.bl false))) tNext) (tFor (iList A.K (tVar i)) (gName k) (tDrop (tBM A.K "list" rAppend (tVar k) (tCons (tC .non) tNil)))))) (pTold i k ps1 ps2 ps3 pc pr) := by
  intro F H σ st DD E ok w c hp
  obtain ⟨hil, hkl, hp⟩ := hp
  have ok0 : StOk A.K A.N F H σ (hid i k st) := stok_hid ok rfl fun _ _ _ => rfl
  refine h1 F H σ _ _ _ ok0 w hp fun s1 v1 F1 H1 w1 r1 z1 => ?_
  refine h2 F1 H1 σ _ _ _ (ok0.mono w1) (w.trans w1) z1 fun s2 v2 F2 H2 w2 r2 z2 => ?_
  refine h3 F2 H2 σ _ _ _ (ok0.mono (w1.trans w2)) (w.trans (w1.trans w2)) z2 fun s3 v3 F3 H3 w3 r3 z => ?_
  cases s1 with
  | dat _ => exact z.elim
  | ownK _ => exact z.elim
  | own a =>
  cases s2 with
  | dat _ => exact z.elim
  | ownK _ => exact z.elim
  | own b =>
  cases s3 with
  | dat _ => exact z.elim
  | ownK _ => exact z.elim
  | own c' =>
  obtain ⟨la, lb, lc, z⟩ := z
  obtain ⟨l1, vs1, rfl, a1, a2, a3, a4⟩ := r1.mono (w2.trans w3)
  obtain ⟨l2, vs2, rfl, b1, b2, b3, b4⟩ := r2.mono w3
  obtain ⟨l3, vs3, rfl, c1, c2, c3, c4⟩ := r3
  have w13 := w1.trans (w2.trans w3)
  have n1 : H l1 = none := a3
  have n2 : H l2 = none := same_none w1.hh b3
  have n3 : H l3 = none := same_none (w1.trans w2).hh c3
  refine ⟨line_of (by simp), fun p hp => ?_⟩
  -- the outer list stands in slot i
  have wp : Wld F3 H3 F3 (upd H3 p (.lst [.ref l1, .ref l2, .ref l3])) := (Wld.refl w3.fh).new hp
  have ok4 : StOk A.K A.N F3 (upd H3 p (.lst [.ref l1, .ref l2, .ref l3])) (σ.set i (some (.ref p))) (hid i k st) := by
    have := stok_hid (i := i) (k := k) (σ' := σ.set i (some (.ref p))) (ok.mono (w13.trans wp)) (by simp) fun j hj _ => List.getElem?_set_ne (Ne.symm hj)
    exact this
  have hσi : (σ.set i (some (V.ref p)))[i]? = some (some (V.ref p)) := List.getElem?_set_self (by rw [← ok.len]; exact hil)
  have w04 := w.trans (w13.trans wp)
  refine hc F3 _ _ _ _ _ ok4 w04 z fun bb F5 H5 w5 z5 => ?_
  obtain ⟨rfl, z5⟩ := z5
  refine ⟨_, hσi, ?_⟩
  refine hr F5 H5 _ _ _ _ (ok4.mono w5) (w04.trans w5) z5 fun d v F6 H6 w6 rr z6 => ?_
  obtain ⟨q1, q2, q3⟩ := z6
  have s36 : Same H3 H6 := wp.hh.trans (w5.hh.trans w6.hh)
  have p6 : H6 p = some (.lst [.ref l1, .ref l2, .ref l3]) := w6.hh _ _ (w5.hh _ _ upd_same)
  have all6 : RepR A.K H6 H6 (.lst [.lst a, .lst b, .lst c']) (.ref p) :=
    .of (Same.refl _) (.lst (.of p6) (.cons (.lst (.of (s36 _ _ a1)) (Reps.mono (w3.fh.trans s36) _ _ a4)) (.cons (.lst (.of (s36 _ _ b1)) (Reps.mono (w3.fh.trans s36) _ _ b4)) (.cons (.lst (.of (s36 _ _ c1)) (Reps.mono (w3.fh.trans s36) _ _ c4)) .nil))))
  refine (O_ne.two A.K) H6 H6 _ d _ v (fun x => x = .bl false) _ (Same.refl _) all6 (.of (Same.refl _) (rr.up w6.fh)) ⟨q1, by rw [q2]; rfl⟩ fun x u ru hx => ?_
  subst hx
  cases ru
  refine ⟨false, rfl, ?_⟩
  have w36 : Wld F3 H3 F6 H6 := wp.trans (w5.trans w6)
  have w06 := w13.trans w36
  let L : Addr → Prop := fun a => a = l1 ∨ a = l2 ∨ a = l3
  have LH : ∀ a, L a → H a = none := fun a z => by rcases z with rfl | rfl | rfl <;> assumption
  have LF : ∀ a, L a → F6 a = none := fun a z => by
    rcases z with rfl | rfl | rfl
    · exact w36.stay a2 a1
    · exact w36.stay b2 b1
    · exact w36.stay c2 c1
  have Lp : ¬ L p := fun z => by
    rcases z with z | z | z <;> subst z
    · rw [hp] at a1; cases a1
    · rw [hp] at b1; cases b1
    · rw [hp] at c1; cases c1
  show tFor (iList A.K (tVar i)) (gName k) _ E (σ.set i (some (.ref p))) H6
  refine ⟨_, hσi, p, rfl, ⟨_, .inl (.of p6)⟩, ?_⟩
  refine for_list (K := A.K) (a := p) (xs := [.ref l1, .ref l2, .ref l3]) (fun j σ' H' => σ'.length = σ.length ∧ (∀ m : Nat, m ≠ i → m ≠ k → σ'[m]? = σ[m]?) ∧ (∀ a o, ¬ L a → H6 a = some o → H' a = some o) ∧ ∀ a, L a → ∃ xs, H' a = some (.lst xs) ∧ xs.length ≤ 1000 + j) ?_ ?_ ?_ ?_
  · refine ⟨by simp, fun m hm _ => List.getElem?_set_ne (Ne.symm hm), fun a o _ e => e, fun a z => ?_⟩
    rcases z with rfl | rfl | rfl
    · exact ⟨vs1, s36 _ _ a1, by rw [← a4.len]; omega⟩
    · exact ⟨vs2, s36 _ _ b1, by rw [← b4.len]; omega⟩
    · exact ⟨vs3, s36 _ _ c1, by rw [← c4.len]; omega⟩
  · rintro j σ' H' _ ⟨_, _, hk', _⟩
    exact .inl (.of (hk' p _ Lp p6))
  · rintro j x σ' H' hx ⟨e1, e2, e3, e4⟩
    have hxl : ∃ l, x = .ref l ∧ L l := by
      have := List.mem_of_getElem? hx
      simp only [List.mem_cons, List.not_mem_nil, or_false] at this
      rcases this with rfl | rfl | rfl
      · exact ⟨_, rfl, .inl rfl⟩
      · exact ⟨_, rfl, .inr (.inl rfl)⟩
      · exact ⟨_, rfl, .inr (.inr rfl)⟩
    have hj : j < 3 := by have := (List.getElem?_eq_some_iff.mp hx).1; simpa using this
    obtain ⟨l, rfl, hl⟩ := hxl
    obtain ⟨xs, f1, f2⟩ := e4 l hl
    refine ⟨_, List.getElem?_set_self (by rw [e1, ← ok.len]; exact hkl), .inl ⟨rfl, xs, .of f1⟩, l, xs, _, rfl, rfl, f1, line_lt (by omega), ?_⟩
    refine ⟨by simp [e1], fun m hm hm' => by rw [List.getElem?_set_ne (Ne.symm hm')]; exact e2 m hm hm', fun a o na e => by rw [upd_ne (fun z => na (by rw [z]; exact hl))]; exact e3 a o na e, fun a za => ?_⟩
    by_cases zz : a = l
    · subst zz
      exact ⟨_, upd_same, by simp; omega⟩
    · obtain ⟨ys, g1, g2⟩ := e4 a za
      exact ⟨ys, by rw [upd_ne zz]; exact g1, by omega⟩
  · rintro σ' H' ⟨e1, e2, e3, e4⟩
    have okN : StOk A.K A.N F H σ' (hid i k st) := stok_hid ok e1 e2
    refine c.nx F6 H' σ' (hid i k st) w06.ff (stok_fresh (L := L) (okN.mono w06) e3 fun m s l q1 q2 q3 z => own_tracked okN q1 q2 q3 (LH l z)) (wld_fresh (L := L) (w.trans w06) e3 LF fun a z => same_none w.hh (LH a z)) q3
theorem simB_told {A : Ax} {X : Cx} {e1 e2 e3 c1 rhs : Expr} {t1 t2 t3 tr : TE} {tc : TT} {ps1 ps2 ps3 : PS_} {pc : PB} {pr : PR} (i k : Nat) {x y : Str} {j j2 : Nat} {p1 p2 p3 p4 p5 p6 p7 p8 p9 q1 q2 q3 q4 q5 q6 q7 q8 : Pos}
    (hp : PassesOwn (model X.prog X.w) X.A X.env X.xe) (hcm : X.calm = true) (hN : X.N.Nodup) (hu : X.A.units + 64 < cLine) (h1 : SimS A X e1 t1 ps1) (h2 : SimS A X e2 t2 ps2) (h3 : SimS A X e3 t3 ps3) (hc : SimT A X c1 tc pc) (hr : SimR A X rhs tr pr)
    (hi : X.N[i]? = some x := by rfl) (hk : X.N[k]? = some y := by rfl) (hik : i ≠ k := by decide) (hxl : Loc X.env.scope x := by first | exact Or.inl rfl | exact Or.inr rfl) (hyl : Loc X.env.scope y := by first | exact Or.inl rfl | exact Or.inr rfl)
    (hvx : Vis X.env.scope x := by first | exact Or.inl rfl | exact Or.inr (Or.inl rfl) | exact Or.inr (Or.inr rfl)) (hvy : Vis X.env.scope y := by first | exact Or.inl rfl | exact Or.inr (Or.inl rfl) | exact Or.inr (Or.inr rfl))
    (dx : (x == ("__debug__" : Str)) = false := by decide) (dy : (y == ("__debug__" : Str)) = false := by decide) (cx : (x == ("__classdict__" : Str)) = false := by decide) (cy : (y == ("__classdict__" : Str)) = false := by decide)
    (hfx : X.fn x = true ∨ X.env.scope.names.lookup x = some .local := by first | exact .inl rfl | exact .inr rfl) (hfy : X.fn y = true ∨ X.env.scope.names.lookup y = some .local := by first | exact .inl rfl | exact .inr rfl)
    (hsw : swapsWith (.List [e1, e2, e3] p2) (some (.Name x p1)) p3.line X.env = pure false := by rfl) (m1 : starEach [e1, e2, e3] X.env = (false, eval e1 X.env) :: starEach [e2, e3] X.env := by rfl) (m2 : starEach [e2, e3] X.env = (false, eval e2 X.env) :: starEach [e3] X.env := by rfl) (m3 : starEach [e3] X.env = (false, eval e3 X.env) :: starEach [] X.env := by rfl)
    (hbm : behindInMarks .NotEq rhs = false := by rfl) (hln : (q4.endLine == q6.line) = true := by rfl) :
    SimB A X [.Assign [.Name x p1] (.List [e1, e2, e3] p2) p3, .If (.BoolOp .Or [c1, .Compare (.Name x p4) [.NotEq] [rhs] p5] p6) [.Return (some (.Constant (.bool false) j p7)) p8] [] p9,
      .For (.Name y q1) (.Name x q2) [.Expr (.Call (.Attribute (.Name y q3) "append" q4) [.Constant .none j2 q5] [] q6) q7] [] q8] (tSeq (tAsg (tLst (tCons t1 (tCons t2 (tCons t3 tNil)))) (gName i)) (tSeq (tIfS (tOr tc (tTest (tOp (rNeA A.K) (tVar i) tr))) (tRet (tC (.bl false))) tNext) (tFor (iList A.K (tVar i)) (gName k) (tDrop (tBM A.K "list" rAppend (tVar k) (tCons (tC .non) tNil)))))) (pTold i k ps1 ps2 ps3 pc pr) :=
  ⟨h1.hK, h1.hK ▸ pss_cons (ps_set hN hi hxl (pe_lst (pa_cons h1.pe (pa_cons h2.pe (pa_cons h3.pe pa_nil m3) m2) m1)) hsw hfx)
    (pss_cons (ps_if (pw_or hc.pt (pw_or1 (pt_cmpR (O_ne.op X hu) (pe_var hi hvx dx cx) hr.pe hbm))).pt (pss_one (ps_ret pe_bl)) pss_nil)
    (pss_one (ps_for hp hcm (pi_list (pe_var hi hvx dx cx)) (pg_name hN hk hyl) (pss_one (ps_expr (pe_bm PySem.F.plainAttrs_list PySem.F.slot_list_append PySem.F.type_list_append mt_append (pe_var hk hvy dy cy) (pa_cons pe_non pa_nil) (hline := hln))))))),
    rd_told h1.rd h2.rd h3.rd hc.rd hr.rd hik⟩
end Pu
/-! The pure layer, part R: two lists within a list that are handed to a new object and changed behind. -/
namespace Pu
open PySem L2
/-- an object is made of what is tracked, be it data or not -/
theorem make_met2 {K : PySem.W.Frag} {F H : Hp} {cn : Str} {φ : MSpec} {ds : List D} {vs : List V} {P : List (Str × D) → Prop} {Q : VK} {E : XK} (e : Same F H) (r : Reps K H ds vs) (h : φ ds P fun _ => False)
    (k : ∀ fs v F' H', Wld F H F' H' → Rep K F' (.obj cn fs) v → P fs → Q v H') (x dx : Addr) (nx : H x = none) (ndx : H dx = none) (ne : dx ≠ x) (hm : ∀ (fs : List (Str × D)) (us : List (Str × V)) (Fn : Hp), True) :
    spMk K cn φ (.ref x :: vs) (upd (upd H dx (.own x)) x (.ins (clsA K cn) dx [])) (fun v H2 => v = .non ∧ Q (.ref x) H2) E := by
  have old : ∀ a o, H a = some o → a ≠ x ∧ a ≠ dx := fun a o q => ⟨ne_of_none q nx, ne_of_none q ndx⟩
  have up : ∀ a o, H a = some o → (upd (upd H dx (.own x)) x (.ins (clsA K cn) dx [])) a = some o := fun a o q => by rw [upd_ne (old a o q).1, upd_ne (old a o q).2]; exact q
  refine ⟨x, dx, vs, H, ds, _, _, rfl, upd_same, nx, fun a o q => up a o q, r, h, fun fs us Fn H' en rn hn hp hk z => ⟨rfl, ?_⟩, fun y cls d F' H' w' rx z => z.elim⟩
  have nH : ∀ a o, Fn a = some o → H a = none := fun a o q => by
    cases z : H a with
    | none => rfl
    | some u => have := (hn a o q).1; rw [up a u z] at this; cases this
  have nF : ∀ a o, Fn a = some o → F a = none ∧ a ≠ x := fun a o q => ⟨e.free (nH a o q), fun z => by subst z; have := (hn _ o q).1; rw [upd_same] at this; cases this⟩
  let F2 : Hp := fun a => if a = x then some (.ins (clsA K cn) dx us) else match F a with | some o => some o | none => Fn a
  have fx : F2 x = some (.ins (clsA K cn) dx us) := if_pos rfl
  have fF : ∀ a o, F a = some o → F2 a = some o := fun a o q => by
    show (if a = x then _ else _) = _
    rw [if_neg (old a o (e a o q)).1, q]
  have fN : ∀ a o, Fn a = some o → F2 a = some o := fun a o q => by
    show (if a = x then _ else _) = _
    rw [if_neg (nF a o q).2, (nF a o q).1]
    exact q
  have inv : ∀ a o, F2 a = some o → (a = x ∧ o = .ins (clsA K cn) dx us) ∨ F a = some o ∨ Fn a = some o := fun a o q => by
    have q' : (if a = x then some (HO.ins (clsA K cn) dx us) else match F a with | some o => some o | none => Fn a) = some o := q
    by_cases z : a = x
    · rw [if_pos z] at q'; cases q'; exact .inl ⟨z, rfl⟩
    · rw [if_neg z] at q'
      cases f : F a with
      | some u => rw [f] at q'; exact .inr (.inl (by simpa using q'))
      | none => rw [f] at q'; exact .inr (.inr q')
  have w2 : Wld F H F2 H' := ⟨fF, fun a o q => hk a o (old a o q).1 (up a o q), fun a o q => by
    rcases inv a o q with ⟨rfl, rfl⟩ | q | q
    · exact hp
    · have := e a o q; exact hk a o (old a o this).1 (up a o this)
    · exact (hn a o q).2, fun a o q => by
    rcases inv a o q with ⟨rfl, rfl⟩ | q | q
    · exact .inr nx
    · exact .inl q
    · exact .inr (nH a o q)⟩
  exact k fs _ F2 H' w2 (show Rep K F2 (.obj cn fs) (.ref x) from .obj fx en (Reps.mono fN _ _ rn)) z
def pHanded (i j : Nat) (cn : Str) (psA psB : PS_) (pm : PR) (φ : MSpec) (pr : PR) (q : PSt) : PSt := fun E st => i < st.length ∧ j < st.length ∧ psA (hid i j st) fun s1 => psB (hid i j st) fun s2 => match s1, s2 with
  | .own a, .own b => a.length ≤ 1000 ∧ b.length ≤ 1000 ∧ pm (hid i j st) fun m => φ [m, .lst a, .lst b] (fun fs => pr ((hid i j st).set j (some (.dat (.obj cn fs)))) fun d => okEq (.lst [.lst a, .lst b]) d ∧ D.eqv (.lst [.lst a, .lst b]) d = true ∧ q E ((hid i j st).set j (some (.dat (.obj cn fs))))) fun _ => False
  | _, _ => False
theorem rd_handed {A : Ax} {tA tB tm tr : TE} {u : TS} {psA psB : PS_} {pm pr : PR} {q : PSt} {φ : MSpec} {cn : Str} {i j : Nat} {XE : XK} (hA : RdS A tA psA) (hB : RdS A tB psB) (hm : RdR A tm pm) (hr : RdR A tr pr) (hu : RdSt A u q) (hm2 : RdD A tm pm) (hij : i ≠ j) :
    RdSt A (tSeq (tAsg (tLst (tCons tA (tCons tB tNil))) (gName i)) (tSeq (tAsg (tMake (clsA A.K cn) (spMk A.K cn φ) [] XE (tCons tm (tCons (tOp (rIx A.K) (tVar i) (tC (.int 0))) (tCons (tOp (rIx A.K) (tVar i) (tC (.int 1))) tNil)))) (gName j))
      (tSeq (tIfS (tTest (tOp (rNeA A.K) (tVar i) tr)) (tRet (tC (.bl false))) tNext) (tSeq (tDrop (tBM A.K "list" rAppend (tOp (rIx A.K) (tVar i) (tC (.int 0))) (tCons (tC (.int 0)) tNil))) (tSeq (tDrop (tBM0 A.K "list" rClear (tOp (rIx A.K) (tVar i) (tC (.int 1))))) u)))))
      (pHanded i j cn psA psB pm φ pr q) := by
  intro F H σ st DD E ok w c hp
  obtain ⟨hil, hjl, hp⟩ := hp
  have ok0 : StOk A.K A.N F H σ (hid i j st) := stok_hid ok rfl fun _ _ _ => rfl
  refine hA F H σ _ _ _ ok0 w hp fun s1 v1 F1 H1 w1 r1 z1 => ?_
  refine hB F1 H1 σ _ _ _ (ok0.mono w1) (w.trans w1) z1 fun s2 v2 F2 H2 w2 r2 z => ?_
  cases s1 with
  | dat _ => exact z.elim
  | ownK _ => exact z.elim
  | own a =>
  cases s2 with
  | dat _ => exact z.elim
  | ownK _ => exact z.elim
  | own b =>
  obtain ⟨la, lb, z⟩ := z
  have r1' := r1.mono w2
  obtain ⟨l1, vs1, rfl, a1, a2, a3, a4⟩ := r1'
  obtain ⟨l2, vs2, rfl, b1, b2, b3, b4⟩ := r2
  have w12 := w1.trans w2
  have n1 : H l1 = none := a3
  have n2 : H l2 = none := same_none w1.hh b3
  have ne12 : l2 ≠ l1 := fun z => by
    subst z
    obtain ⟨l, vs, e, q1, _⟩ := r1
    cases e
    rw [q1] at b3; cases b3
  refine ⟨line_of (by simp), fun p hp => ?_⟩
  have wp : Wld F2 H2 F2 (upd H2 p (.lst [.ref l1, .ref l2])) := (Wld.refl w2.fh).new hp
  have ok4 : StOk A.K A.N F2 (upd H2 p (.lst [.ref l1, .ref l2])) (σ.set i (some (.ref p))) (hid i j st) :=
    stok_hid (i := i) (k := j) (σ' := σ.set i (some (.ref p))) (ok.mono (w12.trans wp)) (by simp) fun m hm _ => List.getElem?_set_ne (Ne.symm hm)
  have hσi : (σ.set i (some (V.ref p)))[i]? = some (some (V.ref p)) := List.getElem?_set_self (by rw [← ok.len]; exact hil)
  have w04 := w.trans (w12.trans wp)
  refine hm2 F2 _ _ _ _ _ ok4 w04 z fun m vm F4 H4 w4 rm z4 => ?_
  have p4 : H4 p = some (.lst [.ref l1, .ref l2]) := w4.hh _ _ upd_same
  refine ⟨_, hσi, .inl ⟨p, _, 0, .ref l1, rfl, rfl, .inl (.of p4), rfl, ⟨_, hσi, .inl ⟨p, _, 1, .ref l2, rfl, rfl, .inl (.of p4), rfl, ?_⟩⟩⟩⟩
  intro x dx nx ndx nex
  have s24 : Same H2 H4 := wp.hh.trans w4.hh
  have rr4 : Reps A.K H4 [m, .lst a, .lst b] [vm, .ref l1, .ref l2] :=
    .cons (Rep.mono w4.fh _ _ rm) (.cons (.lst (.of (s24 _ _ a1)) (Reps.mono (w2.fh.trans s24) _ _ a4)) (.cons (.lst (.of (s24 _ _ b1)) (Reps.mono (w2.fh.trans s24) _ _ b4)) .nil))
  rw [List.append_nil]
  refine make_met2 (cn := cn) (F := F4) (Q := fun x H1 => gName j x (List.set σ i (some (V.ref p))) H1 (tSeq (tIfS (tTest (tOp (rNeA A.K) (tVar i) tr)) (tRet (tC (.bl false))) tNext) (tSeq (tDrop (tBM A.K "list" rAppend (tOp (rIx A.K) (tVar i) (tC (.int 0))) (tCons (tC (.int 0)) tNil))) (tSeq (tDrop (tBM0 A.K "list" rClear (tOp (rIx A.K) (tVar i) (tC (.int 1))))) u)) E)) w4.fh rr4 z4 (fun fs v F5 H5 w5 ro z5 => ?_) x dx nx ndx nex (fun _ _ _ => trivial)
  have ok5 : StOk A.K A.N F5 H5 ((σ.set i (some (.ref p))).set j (some v)) ((hid i j st).set j (some (.dat (.obj cn fs)))) := put_dat (ok4.mono (w4.trans w5)) ro
  have w05 := w04.trans (w4.trans w5)
  have hσ2 : ((σ.set i (some (V.ref p))).set j (some v))[i]? = some (some (V.ref p)) := by rw [List.getElem?_set_ne (Ne.symm hij)]; exact hσi
  refine ⟨_, hσ2, ?_⟩
  refine hr F5 H5 _ _ _ _ ok5 w05 z5 fun d v' F6 H6 w6 rr z6 => ?_
  obtain ⟨q1, q2, q3⟩ := z6
  have w26 : Wld F2 H2 F6 H6 := wp.trans (w4.trans (w5.trans w6))
  have s26 : Same H2 H6 := w26.hh
  have p6 : H6 p = some (.lst [.ref l1, .ref l2]) := w6.hh _ _ (w5.hh _ _ p4)
  have a6 : H6 l1 = some (.lst vs1) := s26 _ _ a1
  have b6 : H6 l2 = some (.lst vs2) := s26 _ _ b1
  have all6 : RepR A.K H6 H6 (.lst [.lst a, .lst b]) (.ref p) :=
    .of (Same.refl _) (.lst (.of p6) (.cons (.lst (.of a6) (Reps.mono (w2.fh.trans s26) _ _ a4)) (.cons (.lst (.of b6) (Reps.mono (w2.fh.trans s26) _ _ b4)) .nil)))
  refine (O_ne.two A.K) H6 H6 _ d _ v' (fun x => x = .bl false) _ (Same.refl _) all6 (.of (Same.refl _) (rr.up w6.fh)) ⟨q1, by rw [q2]; rfl⟩ fun x u ru hx => ?_
  subst hx
  cases ru
  refine ⟨false, rfl, ?_⟩
  let L : Addr → Prop := fun a => a = l1 ∨ a = l2
  have LH : ∀ a, L a → H a = none := fun a z => by rcases z with rfl | rfl <;> assumption
  have LF : ∀ a, L a → F6 a = none := fun a z => by
    rcases z with rfl | rfl
    · exact w26.stay a2 a1
    · exact w26.stay b2 b1
  have np1 : p ≠ l1 := fun z => by subst z; rw [hp] at a1; cases a1
  have np2 : p ≠ l2 := fun z => by subst z; rw [hp] at b1; cases b1
  have len1 : vs1.length < sizeLine := line_lt (by rw [← a4.len]; omega)
  refine ⟨_, hσ2, .inl ⟨p, _, 0, .ref l1, rfl, rfl, .inl (.of p6), rfl, .inl ⟨rfl, vs1, .of a6⟩, l1, vs1, _, rfl, rfl, a6, len1, ?_⟩⟩
  have p7 : (upd H6 l1 (.lst (vs1 ++ [V.int 0]))) p = some (.lst [.ref l1, .ref l2]) := by rw [upd_ne np1]; exact p6
  have b7 : (upd H6 l1 (.lst (vs1 ++ [V.int 0]))) l2 = some (.lst vs2) := by rw [upd_ne ne12]; exact b6
  refine ⟨_, hσ2, .inl ⟨p, _, 1, .ref l2, rfl, rfl, .inl (.of p7), rfl, .inl ⟨rfl, vs2, .of b7⟩, l2, vs2, rfl, rfl, b7, ?_⟩⟩
  have e3 : ∀ a o, ¬ L a → H6 a = some o → (upd (upd H6 l1 (.lst (vs1 ++ [V.int 0]))) l2 (.lst [])) a = some o := fun a o na e => by
    rw [upd_ne (fun z => na (.inr z)), upd_ne (fun z => na (.inl z))]; exact e
  have w06 := w12.trans w26
  have okN : StOk A.K A.N F H ((σ.set i (some (.ref p))).set j (some v)) (hid i j st) := stok_hid ok (by simp) fun m hm hm' => by rw [List.getElem?_set_ne (Ne.symm hm'), List.getElem?_set_ne (Ne.symm hm)]
  refine hu F6 _ _ _ DD E (stok_fresh (L := L) (ok5.mono w6) e3 fun m s l k1 k2 k3 zl => ?_) (wld_fresh (L := L) (w.trans w06) e3 LF fun a z => same_none w.hh (LH a z)) (c.mono w06.ff) q3
  by_cases hmj : j = m
  · subst hmj
    have := (List.getElem?_eq_some_iff.mp k1).1
    rw [List.getElem?_set_self (by simpa using this)] at k1
    cases k1
    cases k2
  · rw [List.getElem?_set_ne hmj] at k1
    exact own_tracked okN k1 k2 k3 (LH l zl)
theorem simB_handed {A : Ax} {X : Cx} {eA eB em rhs : Expr} {tA tB tm tr : TE} {u : TS} {psA psB : PS_} {pm pr : PR} {q : PSt} {φ : MSpec} {cn : Str} {k : Nat} {rest : List Stmt} (i j : Nat) {x y : Str} {j1 j2 j3 j4 j5 j6 : Nat} {o1 o2 o3 o4 o5 o6 o7 o8 o9 o3' o4' o7' o9' p1 p2 p3 p4 p5 p6 p7 p8 p9 q1 q2 q3 q4 q5 q6 q7 q8 q9 : Pos}
    (C : MkOk X.prog X.w X.K X.mg X.base cn k φ []) (hroom : Room (k + 1) X.A) (hN : X.N.Nodup) (hun : X.A.units + 64 < cLine) (hA : SimS A X eA tA psA) (hB : SimS A X eB tB psB) (hm : SimD A X em tm pm) (hr : SimR A X rhs tr pr) (hu : SimB A X rest u q)
    (hi : X.N[i]? = some x := by rfl) (hj : X.N[j]? = some y := by rfl) (hij : i ≠ j := by decide) (hxl : Loc X.env.scope x := by first | exact Or.inl rfl | exact Or.inr rfl) (hyl : Loc X.env.scope y := by first | exact Or.inl rfl | exact Or.inr rfl)
    (hvx : Vis X.env.scope x := by first | exact Or.inl rfl | exact Or.inr (Or.inl rfl) | exact Or.inr (Or.inr rfl)) (hg : Gl X cn := by rfl) (hdb : (cn == ("__debug__" : Str)) = false := by decide)
    (dx : (x == ("__debug__" : Str)) = false := by decide) (cx : (x == ("__classdict__" : Str)) = false := by decide)
    (hfx : X.fn x = true ∨ X.env.scope.names.lookup x = some .local := by first | exact .inl rfl | exact .inr rfl) (hfy : X.fn y = true ∨ X.env.scope.names.lookup y = some .local := by first | exact .inl rfl | exact .inr rfl)
    (hsw : swapsWith (.List [eA, eB] p2) (some (.Name x p1)) p3.line X.env = pure false := by rfl) (m1 : starEach [eA, eB] X.env = (false, eval eA X.env) :: starEach [eB] X.env := by rfl) (m2 : starEach [eB] X.env = (false, eval eB X.env) :: starEach [] X.env := by rfl)
    (hsw2 : swapsWith (.Call (.Name cn q1) [em, .Subscript (.Name x q2) (.Constant (.int 0) j1 q3) q4, .Subscript (.Name x q5) (.Constant (.int 1) j2 q6) q7] [] q8) (some (.Name y q9)) p9.line X.env = pure false := by rfl)
    (m3 : starEach [em, .Subscript (.Name x q2) (.Constant (.int 0) j1 q3) q4, .Subscript (.Name x q5) (.Constant (.int 1) j2 q6) q7] X.env = (false, eval em X.env) :: starEach [.Subscript (.Name x q2) (.Constant (.int 0) j1 q3) q4, .Subscript (.Name x q5) (.Constant (.int 1) j2 q6) q7] X.env := by rfl)
    (hpl : (backTo q8 (starEach [.Subscript (.Name x q2) (.Constant (.int 0) j1 q3) q4, .Subscript (.Name x q5) (.Constant (.int 1) j2 q6) q7] X.env)).any (·.1) = false := by rfl)
    (hbm : behindInMarks .NotEq rhs = false := by rfl) (hln : (o1.endLine == o2.line) = true := by rfl) (hln2 : (o5.endLine == o6.line) = true := by rfl) :
    SimB A X (.Assign [.Name x p1] (.List [eA, eB] p2) p3 :: .Assign [.Name y q9] (.Call (.Name cn q1) [em, .Subscript (.Name x q2) (.Constant (.int 0) j1 q3) q4, .Subscript (.Name x q5) (.Constant (.int 1) j2 q6) q7] [] q8) p9 ::
      .If (.Compare (.Name x p4) [.NotEq] [rhs] p5) [.Return (some (.Constant (.bool false) j3 p6)) p7] [] p8 ::
      .Expr (.Call (.Attribute (.Subscript (.Name x o3) (.Constant (.int 0) j4 o4) o7) "append" o1) [.Constant (.int 0) j5 o8] [] o2) o9 :: .Expr (.Call (.Attribute (.Subscript (.Name x o3') (.Constant (.int 1) j6 o4') o7') "clear" o5) [] [] o6) o9' :: rest)
      (tSeq (tAsg (tLst (tCons tA (tCons tB tNil))) (gName i)) (tSeq (tAsg (tMake (clsA A.K cn) (spMk A.K cn φ) [] E0 (tCons tm (tCons (tOp (rIx A.K) (tVar i) (tC (.int 0))) (tCons (tOp (rIx A.K) (tVar i) (tC (.int 1))) tNil)))) (gName j))
      (tSeq (tIfS (tTest (tOp (rNeA A.K) (tVar i) tr)) (tRet (tC (.bl false))) tNext) (tSeq (tDrop (tBM A.K "list" rAppend (tOp (rIx A.K) (tVar i) (tC (.int 0))) (tCons (tC (.int 0)) tNil))) (tSeq (tDrop (tBM0 A.K "list" rClear (tOp (rIx A.K) (tVar i) (tC (.int 1))))) u)))))
      (pHanded i j cn psA psB pm φ pr q) := by
  obtain ⟨f, fd, ps, h1, h2, h3, h4⟩ := C
  have v : PE X (.Name x p4) (tVar i) := pe_var hi hvx dx cx
  refine ⟨hA.hK, hA.hK ▸ pss_cons (ps_set hN hi hxl (pe_lst (pa_cons hA.pe (pa_cons hB.pe pa_nil m2) m1)) hsw hfx) ?_, rd_handed hA.rd hB.rd hm.r.rd hr.rd hu.rd hm.rd hij⟩
  refine pss_cons (ps_set hN hj hyl (pe_make h2 h1 hroom hg h3 h4 .nil (xc0 (A := A)).pass (pa_cons hm.pe (pa_cons (pe_ix ix_seq (pe_var hi hvx dx cx) pe_int (fun _ _ => rfl)) (pa_cons (pe_ix ix_seq (pe_var hi hvx dx cx) pe_int (fun _ _ => rfl)) pa_nil)) m3) hdb m3 hpl) hsw2 hfy) ?_
  refine pss_cons (ps_if (pt_cmpR (O_ne.op X hun) v hr.pe hbm) (pss_one (ps_ret pe_bl)) pss_nil) ?_
  refine pss_cons (ps_expr (pe_bm PySem.F.plainAttrs_list PySem.F.slot_list_append PySem.F.type_list_append mt_append (pe_ix ix_seq (pe_var hi hvx dx cx) pe_int (fun _ _ => rfl)) (pa_cons pe_int pa_nil) (hline := hln))) ?_
  exact pss_cons (ps_expr (pe_bm0 PySem.F.plainAttrs_list PySem.F.slot_list_clear PySem.F.type_list_clear mt_clear (pe_ix ix_seq (pe_var hi hvx dx cx) pe_int (fun _ _ => rfl)) (hline := hln2))) hu.ps
/-! more readings that give one thing -/
theorem det_call {φ : FSpec} {XQ : XD → Prop} {as : PAs} {st : DS} {xs : List D} {s : SV} (h : DetA as st xs) (k : ∀ R : SV → Prop, R s → φ xs R XQ) : Det (pSD (pCall φ XQ as)) st s.d := fun R hR => h _ (k _ hR)
theorem det_callD {φ : FSpec} {XQ : XD → Prop} {as : PAs} {st : DS} {xs : List D} {d : D} (h : DetA as st xs) (k : ∀ R : SV → Prop, R (.dat d) → φ xs R XQ) : Det (pSD (pCall φ XQ as)) st d := fun R hR => h _ (k _ hR)
theorem detB_T {p : PR} {st : DS} {b : Bool} (h : Det p st (.bl b)) : DetB (pT p) st b := fun R hR => h _ hR
theorem detB_not {c : PB} {st : DS} {b : Bool} (h : DetB c st b) : DetB (pNot c) st (!b) := fun R hR => h _ hR
theorem detB_or {c d : PB} {st : DS} {b e : Bool} (h : DetB c st b) (g : b = false → DetB d st e) : DetB (pOr c d) st (b || e) := fun R hR => h _ (by
  cases b with
  | true => exact hR
  | false => exact g rfl _ hR)
theorem detB_and {c d : PB} {st : DS} {b e : Bool} (h : DetB c st b) (g : b = true → DetB d st e) : DetB (pAnd c d) st (b && e) := fun R hR => h _ (by
  cases b with
  | false => exact hR
  | true => exact g rfl _ hR)
theorem det_notV {p : PR} {st : DS} {b : Bool} (h : Det p st (.bl b)) : Det (pNotV p) st (.bl (!b)) := fun R hR => h _ hR
theorem det_andV {p q : PR} {st : DS} {b e : Bool} (h : Det p st (.bl b)) (g : b = true → Det q st (.bl e)) : Det (pAndV p q) st (.bl (b && e)) := fun R hR => h _ (by
  cases b with
  | false => exact hR
  | true => exact g rfl _ hR)
theorem det_orV {p q : PR} {st : DS} {b e : Bool} (h : Det p st (.bl b)) (g : b = false → Det q st (.bl e)) : Det (pOrV p q) st (.bl (b || e)) := fun R hR => h _ (by
  cases b with
  | true => exact hR
  | false => exact g rfl _ hR)
theorem det_eqp {p q : PR} {st : DS} {x y : D} (h : Det p st x) (k : Det q st y) (o : okEq x y) : Det (p2 pEq p q) st (.bl (D.eqv x y)) := fun R hR => h _ (k _ ⟨o, hR⟩)
theorem det_nep {p q : PR} {st : DS} {x y : D} (h : Det p st x) (k : Det q st y) (o : okEq x y) : Det (p2 pNe p q) st (.bl (!D.eqv x y)) := fun R hR => h _ (k _ ⟨o, hR⟩)
theorem det_b0 {g : Int → Int → Bool} {p q : PR} {st : DS} {i j : Int} (h : Det p st (.int i)) (k : Det q st (.int j)) : Det (p2 (pB0 g) p q) st (.bl (g i j)) := fun R hR => h _ (k _ hR)
theorem det_if {c : PB} {p q : PR} {st : DS} {b : Bool} {x : D} (h : DetB c st b) (ht : b = true → Det p st x) (hf : b = false → Det q st x) : Det (pIf c p q) st x := fun R hR => h _ (by
  cases b with
  | true => exact ht rfl _ hR
  | false => exact hf rfl _ hR)
theorem if_at {c : PB} {p r : PSt} {E : DEnds} {st : DS} {b : Bool} (h : DetB c st b) (ht : b = true → p E st) (hf : b = false → r E st) : pIfSt c p r E st := h _ (by
  cases b with
  | true => exact ht rfl
  | false => exact hf rfl)
theorem seq_ifE {c : PB} {p p' r : PSt} {E : DEnds} {st : DS} {b : Bool} (h : DetB c st b) (ht : b = true → p { E with nx := r E } st) (hf : b = false → p' { E with nx := r E } st) : pSeq (pIfSt c p p') r E st := h _ (by
  cases b with
  | true => exact ht rfl
  | false => exact hf rfl)
theorem fix_at {i : Nat} {p : PSt} {E : DEnds} {st : DS} {s : SV} (h : st[i]? = some (some s)) (k : p E (st.set i (some (.dat s.d)))) : pFix i p E st := by unfold pFix; rw [h]; exact k
theorem seq_fix {i : Nat} {p q : PSt} {E : DEnds} {st : DS} {s : SV} (h : st[i]? = some (some s)) (k : pSeq p q E (st.set i (some (.dat s.d)))) : pSeq (pFix i p) q E st := fix_at (E := { E with nx := q E }) h k
theorem asg_call {φ : FSpec} {XQ : XD → Prop} {as : PAs} {b : Bnd} {q : PSt} {E : DEnds} {st : DS} (k : as st fun ds => φ ds (fun s => b s.d st (q E)) XQ) : pSeq (pAsg (pSD (pCall φ XQ as)) b) q E st := k
theorem asg_at {p : PR} {b : Bnd} {q : PSt} {E : DEnds} {st : DS} {x : D} (h : Det p st x) (k : b x st (q E)) : pSeq (pAsg p b) q E st := h _ k
theorem set_lc {i : Nat} {it : PAs} {b : Bnd} {vs : List Nat} {c : PB} {p : PR} {q : PSt} {E : DEnds} {st : DS} (k : it st fun ds => pGo b c p (dwipe st vs) ds [] fun acc => q E (st.set i (some (.own acc)))) : pSeq (pSet i (pLc it b vs c p)) q E st := k
theorem set_S {i : Nat} {p : PS_} {q : PSt} {E : DEnds} {st : DS} (k : p st fun s => q E (st.set i (some s))) : pSeq (pSet i p) q E st := k
/-- .. readings that give one thing, maybe a name's own -/
def DetS (p : PS_) (st : DS) (s : SV) : Prop := ∀ R : SV → Prop, R s → p st R
theorem DetS.d {p : PS_} {st : DS} {s : SV} (h : DetS p st s) : Det (pSD p) st s.d := fun R hR => h _ hR
theorem DetS.l {p : PS_} {st : DS} {ds : List D} (h : DetS p st (.own ds)) : Det (pSD p) st (.lst ds) := fun R hR => h _ hR
theorem Det.s {p : PR} {st : DS} {d : D} (h : Det p st d) : DetS (pDS p) st (.dat d) := fun R hR => h _ hR
theorem seq_setS {i : Nat} {p : PS_} {q : PSt} {E : DEnds} {st : DS} {s : SV} (h : DetS p st s) (k : q E (st.set i (some s))) : pSeq (pSet i p) q E st := h _ k
theorem dets_list {p : PR} {st : DS} {ds : List D} (h : Det p st (.lst ds)) : DetS (p1S pListOf p) st (.own ds) := fun R hR => h _ hR
theorem dets_call {φ : FSpec} {XQ : XD → Prop} {as : PAs} {st : DS} {xs : List D} {s : SV} (h : DetA as st xs) (k : ∀ R : SV → Prop, R s → φ xs R XQ) : DetS (pCall φ XQ as) st s := fun R hR => h _ (k _ hR)
theorem dets_lst {as : PAs} {st : DS} {xs : List D} (h : DetA as st xs) (hl : xs.length ≤ 100000) : DetS (pLst as) st (.own xs) := fun R hR => h _ ⟨hl, hR⟩
theorem dets_cat {p q : PR} {st : DS} {xs ys : List D} (h : Det p st (.lst xs)) (g : Det q st (.lst ys)) (hl : xs.length + ys.length ≤ 100000) : DetS (p2S pCat p q) st (.own (xs ++ ys)) := fun R hR => h _ (g _ ⟨hl, hR⟩)
theorem drop_at {p : PS_} {E : DEnds} {st : DS} {s : SV} (h : DetS p st s) (k : E.nx st) : pDrop p E st := h _ k
theorem retS_at {p : PS_} {E : DEnds} {st : DS} {s : SV} (h : DetS p st s) (k : E.rt s) : pRet p E st := h _ k
end Pu
/-! The pure layer, part S: tuple * number. -/
namespace L2
open PySem PySem.Spec PyProof.Rows
theorem tuple_mul1 (l : Addr) (items : Array Value) (n : Nat) (dd : Option Addr) (sl : Array (Option Value)) (u : Tok) :
    Meets (Builtin.«tuple.__mul__» ⟨[.ref l, .int 1 u], []⟩) (fun _ R s => s.heap.get? l = some { cls := .type "tuple", dict := dd, data := .seq items n, slots := sl } ∧ R (.ok (.ret (Value.ref l))) s) :=
  .of_wp fun prog w A R s h => by
    obtain ⟨hp, g, d, tk, os⟩ := s
    obtain ⟨hl, h⟩ := h
    have f1 := AutoSeq1.idx_int
    wp_walk using wpAny_loadPart' hl
    repeat (first
      | (refine wpAny_ite_false (by decide) ?_; wp_walk using wpAny_loadPart' hl)
      | (refine wpAny_ite_true (by simp) ?_; wp_walk using wpAny_loadPart' hl))
    exact ⟨_, rfl, h⟩
def rRepT1 (K : PySem.W.Frag) : R2 := fun x y H Q => ∃ l xs, x = .ref l ∧ y = .int 1 ∧ SqT K H l xs ∧ Q (.ref l) H
theorem op_repT1 {X : Cx} : OpR X (binaryOp .Mult) (rRepT1 X.K) := by
  intro pins s σ H x y v u Q I rx ry h
  obtain ⟨l, xs, rfl, rfl, hT, q⟩ := h
  cases rx
  obtain ⟨t, rfl⟩ := ry
  obtain ⟨its, r, ⟨⟨cls, dd, data, sl⟩, ho, hc, n, hd⟩, hs⟩ := I.tuple hT
  simp only at hc hd
  subst hc hd
  refine wpAny_binaryOp_repeat_ref (T := "tuple") (U := "int") (by decide) ⟨_, ho, rfl⟩ (fun s' => typeIs_int s' 1 t) noFill_tuple_mul F.fills_int_mul F.slot_int_rmul repeat_tuple F.slot_int_index.lookup
    (call_meets F.slot_int_rmul (typeIs_int s 1 t) F.entry_int_rmul (F.args_int_rmul_2 _ _) (int_rmul_tuple 1 t l its.toArray n dd sl)
      ⟨ho, rfl, ⟨_, ho, rfl⟩, call_meets F.slot_tuple_mul ⟨_, ho, rfl⟩ F.entry_tuple_mul (F.args_tuple_mul_2 _ _) (tuple_mul1 l its.toArray n dd sl t) ⟨ho, ?_⟩⟩)
  exact ⟨.ref l, H, I, rfl, q⟩
end L2
namespace Pu
open PySem L2
section
variable {A : Ax} {X : Cx} {a b : Expr} {ta tb : TE} {p q : PR} {pos : Pos}
def pRepT : D → D → (D → Prop) → Prop
  | .tup ds, .int n, Q => ds ≠ [] ∧ 1 ≤ n ∧ n ≤ 1000 ∧ ds.length ≤ 1000 ∧ Q (.tup (List.replicate n.toNat ds).flatten)
  | _, _, _ => False
theorem all2_rep {K : PySem.W.Frag} {F : Hp} {ds : List D} {vs : List V} (r : Reps K F ds vs) : ∀ n : Nat, Reps K F (List.replicate n ds).flatten (List.replicate n vs).flatten
  | 0 => .nil
  | n + 1 => by rw [List.replicate_succ, List.flatten_cons, List.replicate_succ, List.flatten_cons]; exact r.app (all2_rep r n)
theorem simD_repT (ha : SimR A X a ta p) (hb : SimR A X b tb q) : SimD A X (.BinOp a .Mult b pos) (tOp (fun x y H Q => rRepT A.K x y H Q ∨ rRepT1 A.K x y H Q) ta tb) (p2 pRepT p q) := ⟨ha.hK, ha.hK ▸ pe_op (op_repT.or op_repT1) ha.pe hb.pe, fun F H σ st DQ Q ok w hp k =>
  ha.rd F H σ st _ _ ok w hp fun x v F1 H1 w1 rx z => hb.rd F1 H1 σ st _ _ (ok.mono w1) (w.trans w1) z fun y u F2 H2 w2 ry z0 => by
    have rx2 := rx.mono w2
    have z := z0
    clear z0
    cases x <;> first | exact z.elim | skip
    cases y <;> first | exact z.elim | skip
    rename_i ds _ n
    obtain ⟨h0, h1, h2, h3, z⟩ := z
    cases ry
    cases (show Rep A.K F2 (.tup ds) v from rx2) with
    | @tup a vs _ g1 g2 =>
      by_cases e : n = 1
      · subst e
        have : (List.replicate (1 : Int).toNat ds).flatten = ds := by simp
        rw [this] at z
        exact .inr ⟨a, vs, rfl, rfl, st_mono w2.fh g1, k _ _ F2 H2 (w1.trans w2) (.tup g1 g2) z⟩
      · have hv : vs ≠ [] := fun q => h0 (by have := g2.len; rw [q] at this; exact List.length_eq_zero_iff.mp this)
        refine .inl ⟨a, n, vs, rfl, rfl, st_mono w2.fh g1, hv, by omega, h2, by rw [← g2.len]; exact h3, fun p hp => ?_⟩
        have n1 := w2.fh.free hp
        have w3 : Wld F2 H2 (upd F2 p (.tup (List.replicate n.toNat vs).flatten)) (upd H2 p (.tup (List.replicate n.toNat vs).flatten)) := ((Wld.refl w2.fh).new hp).freeze n1 upd_same hp
        exact k _ _ _ _ ((w1.trans w2).trans w3) (.tup (.inl (.of upd_same)) (all2_rep (Reps.mono (same_upd n1) _ _ g2) _)) z⟩
theorem det_repT {st : DS} {p q : PR} {ds : List D} {n : Int} (h : Det p st (.tup ds)) (g : Det q st (.int n)) (h0 : ds ≠ []) (h1 : 1 ≤ n) (h2 : n ≤ 1000) (h3 : ds.length ≤ 1000) : Det (p2 pRepT p q) st (.tup (List.replicate n.toNat ds).flatten) := fun R hR => h _ (g _ ⟨h0, h1, h2, h3, hR⟩)
end
end Pu
/-! The pure layer, part T: walks and comprehensions that give one thing. -/
namespace Pu
open PySem L2
def DetI (it : PAs) (st : DS) (ds : List D) : Prop := ∀ R : List D → Prop, R ds → it st R
theorem detI_list {p : PR} {st : DS} {ds : List D} (h : Det p st (.lst ds)) : DetI (pItL p) st ds := fun R hR => h _ hR
theorem detI_tup {p : PR} {st : DS} {ds : List D} (h : Det p st (.tup ds)) : DetI (pItT p) st ds := fun R hR => h _ hR
theorem detI_str {p : PR} {st : DS} {z : List Nat} (h : Det p st (.str z)) : DetI (pItS p) st (z.map fun c => .str [c]) := fun R hR => h _ hR
theorem detI_enum {α : Type} {f : α → D} {p : PR} {st : DS} {xs : List α} (h : Det p st (.lst (xs.map f))) : DetI (pItE p) st (xs.zipIdx.map fun q => .tup [.int (q.2 : Nat), f q.1]) := fun R hR => h _ (by
  show R (numbered (xs.map f))
  rw [numbered_map]; exact hR)
theorem detI_enums {p : PR} {st : DS} {z : List Nat} (h : Det p st (.str z)) : DetI (pItES p) st (z.zipIdx.map fun q => .tup [.int (q.2 : Nat), .str [q.1]]) := fun R hR => h _ (by
  show R (numbered (signs z))
  rw [numbered_signs]; exact hR)
theorem detI_rng {p : PR} {st : DS} {n : Nat} (hn : n < 2 ^ 40) (h : Det p st (.int (n : Int))) : DetI (pRng1 p) st ((List.range n).map fun i => .int (i : Nat)) := fun R hR => pRng1_nat hn hR h
theorem det_shl1 {p : PR} {st : DS} {n : Nat} (hn : n ≤ 100) (h : Det p st (.int (n : Int))) : Det (p2 oShl (pC (.int 1)) p) st (.int ((2 ^ n : Nat) : Int)) := fun R hR => h _ ⟨⟨by omega, by omega, by decide⟩, by
  have e : (1 : Int) * 2 ^ ((n : Int).toNat) = ((2 ^ n : Nat) : Int) := by rw [Int.toNat_natCast, Int.one_mul]; simp
  show R (.int ((1 : Int) * 2 ^ ((n : Int).toNat)))
  rw [e]; exact hR⟩
theorem pow_lt40 {n : Nat} (h : n ≤ 16) : 2 ^ n < 2 ^ 40 := Nat.pow_lt_pow_right (by decide) (by omega)
theorem detI_shl {p : PR} {st : DS} {n : Nat} (hn : n ≤ 16) (h : Det p st (.int (n : Int))) : DetI (pRng1 (p2 oShl (pC (.int 1)) p)) st ((List.range (2 ^ n)).map fun i => .int (i : Nat)) := detI_rng (pow_lt40 hn) (det_shl1 (by omega) h)
theorem seq_forI {it : PAs} {b : Bnd} {body q : PSt} {E : DEnds} {st : DS} {ds : List D} (hi : DetI it st ds) (k : pForGo b body { E with nx := q E } ds st) : pSeq (pFor it b body) q E st := hi _ k
theorem for_at {it : PAs} {b : Bnd} {body : PSt} {E : DEnds} {st : DS} {ds : List D} (hi : DetI it st ds) (k : pForGo b body E ds st) : pFor it b body E st := hi _ k
theorem dets_lc {it : PAs} {b : Bnd} {vs : List Nat} {c : PB} {p : PR} {st : DS} {ds L : List D} (hi : DetI it st ds) (k : ∀ R : List D → Prop, R L → pGo b c p (dwipe st vs) ds [] R) : DetS (pLc it b vs c p) st (.own L) := fun R hR => hi _ (k (fun acc => R (.own acc)) hR)
/-- [g a for a in xs] -/
theorem dets_map {α : Type} {it : PAs} {b : Bnd} {vs : List Nat} {p : PR} {st : DS} {xs : List α} {f g : α → D} (hi : DetI it st (xs.map f)) (hl : xs.length ≤ 100000) (hs : ∀ a ∈ xs, ∀ R : D → Prop, R (g a) → b (f a) (dwipe st vs) fun st1 => p st1 R) : DetS (pLc it b vs pYes p) st (.own (xs.map g)) :=
  dets_lc hi fun R hR => pGo_map f g xs hs hl hR
/-- .. bound to one name -/
theorem dets_map1 {α : Type} {it : PAs} {j : Nat} {vs : List Nat} {p : PR} {st : DS} {xs : List α} {f g : α → D} (hi : DetI it st (xs.map f)) (hl : xs.length ≤ 100000) (hs : ∀ a ∈ xs, Det p ((dwipe st vs).set j (some (.dat (f a)))) (g a)) : DetS (pLc it (bN j) vs pYes p) st (.own (xs.map g)) :=
  dets_map hi hl fun a ha R hR => hs a ha R hR
/-- [g a for a in xs if keep a] -/
theorem dets_fil1 {α : Type} {it : PAs} {j : Nat} {vs : List Nat} {c : PB} {p : PR} {st : DS} {xs : List α} {f g : α → D} (keep : α → Bool) (hi : DetI it st (xs.map f)) (hl : xs.length ≤ 100000) (hc : ∀ a ∈ xs, DetB c ((dwipe st vs).set j (some (.dat (f a)))) (keep a))
    (hs : ∀ a ∈ xs, keep a = true → Det p ((dwipe st vs).set j (some (.dat (f a)))) (g a)) : DetS (pLc it (bN j) vs c p) st (.own ((xs.filter keep).map g)) :=
  dets_lc hi fun R hR => pGo_fil f keep g xs (fun a ha R0 R1 k1 k0 => hc a ha _ (by
    cases e : keep a with
    | true => exact hs a ha e _ (k1 e)
    | false => exact k0 e)) hl hR
/-- .. bound to two names, of pairs -/
theorem dets_fil2 {α : Type} {it : PAs} {j k : Nat} {vs : List Nat} {c : PB} {p : PR} {st : DS} {xs : List α} {f1 f2 g : α → D} (keep : α → Bool) (hi : DetI it st (xs.map fun a => .tup [f1 a, f2 a])) (hl : xs.length ≤ 100000) (hc : ∀ a ∈ xs, DetB c (((dwipe st vs).set j (some (.dat (f1 a)))).set k (some (.dat (f2 a)))) (keep a))
    (hs : ∀ a ∈ xs, keep a = true → Det p (((dwipe st vs).set j (some (.dat (f1 a)))).set k (some (.dat (f2 a)))) (g a)) : DetS (pLc it (b2 j k) vs c p) st (.own ((xs.filter keep).map g)) :=
  dets_lc hi fun R hR => pGo_fil (fun a => D.tup [f1 a, f2 a]) keep g xs (fun a ha R0 R1 k1 k0 => hc a ha _ (by
    cases e : keep a with
    | true => exact hs a ha e _ (k1 e)
    | false => exact k0 e)) hl hR
theorem dets_map2 {α : Type} {it : PAs} {j k : Nat} {vs : List Nat} {p : PR} {st : DS} {xs : List α} {f1 f2 g : α → D} (hi : DetI it st (xs.map fun a => .tup [f1 a, f2 a])) (hl : xs.length ≤ 100000) (hs : ∀ a ∈ xs, Det p (((dwipe st vs).set j (some (.dat (f1 a)))).set k (some (.dat (f2 a)))) (g a)) : DetS (pLc it (b2 j k) vs pYes p) st (.own (xs.map g)) :=
  dets_map (f := fun a => D.tup [f1 a, f2 a]) hi hl fun a ha R hR => hs a ha R hR
theorem det_any {α : Type} {f : α → Bool} {l : List α} {p : PR} {st : DS} (h : Det p st (.lst (l.map fun a => .bl (f a)))) : Det (p1 pAny p) st (.bl (l.any f)) := fun R hR => h _ (by
  unfold pAny
  dsimp only
  rw [bools_mapf]
  dsimp only
  rw [List.any_map]
  exact hR)
theorem det_all {α : Type} {f : α → Bool} {l : List α} {p : PR} {st : DS} (h : Det p st (.lst (l.map fun a => .bl (f a)))) : Det (p1 pAll p) st (.bl (l.all f)) := fun R hR => h _ (by
  unfold pAll
  dsimp only
  rw [bools_mapf]
  dsimp only
  rw [List.all_map]
  exact hR)
theorem det_sum {α : Type} {f : α → Int} {l : List α} {p : PR} {st : DS} (h : Det p st (.lst (l.map fun a => .int (f a)))) : Det (p1 pSum p) st (.int (l.map f).sum) := fun R hR => h _ (by
  unfold pSum
  dsimp only
  rw [ints_mapf]
  exact hR)
theorem det_lenL {p : PR} {st : DS} {ds : List D} (h : Det p st (.lst ds)) : Det (p1 pLen p) st (.int (ds.length : Nat)) := fun R hR => h _ hR
theorem det_lenT {p : PR} {st : DS} {ds : List D} (h : Det p st (.tup ds)) : Det (p1 pLen p) st (.int (ds.length : Nat)) := fun R hR => h _ hR
theorem det_lenS {p : PR} {st : DS} {z : List Nat} (h : Det p st (.str z)) (hl : z.length ≤ 100000) : Det (p1 pLen p) st (.int (z.length : Nat)) := fun R hR => h _ ⟨hl, hR⟩
theorem detB_is_non {p : PR} {st : DS} {d : D} (h : Det p st d) (hd : d ≠ .non) : DetB (pT (p2 (pIs false) p (pC .non))) st false := fun R hR => h _ (by
  cases d with
  | non => exact absurd rfl hd
  | _ => exact hR)
theorem detB_is_non' {p : PR} {st : DS} (h : Det p st .non) : DetB (pT (p2 (pIs false) p (pC .non))) st true := fun R hR => h _ hR
theorem detB_not_non {p : PR} {st : DS} {d : D} (h : Det p st d) (hd : d ≠ .non) : DetB (pT (p2 (pIs true) p (pC .non))) st true := fun R hR => h _ (by
  cases d with
  | non => exact absurd rfl hd
  | _ => exact hR)
theorem detB_not_non' {p : PR} {st : DS} (h : Det p st .non) : DetB (pT (p2 (pIs true) p (pC .non))) st false := fun R hR => h _ hR
theorem detB_is_bl {p q : PR} {st : DS} {a b : Bool} (h : Det p st (.bl a)) (g : Det q st (.bl b)) : DetB (pT (p2 (pIs false) p q)) st (decide (a = b)) := fun R hR => h _ (g _ hR)
theorem detB_isnot_bl {p q : PR} {st : DS} {a b : Bool} (h : Det p st (.bl a)) (g : Det q st (.bl b)) : DetB (pT (p2 (pIs true) p q)) st (!decide (a = b)) := fun R hR => h _ (g _ hR)
theorem det_meth {cn m : Str} {φ : FSpec} {XQ : XD → Prop} {p : PR} {as : PAs} {st : DS} {fs : List (Str × D)} {xs : List D} {s : SV} (h : Det p st (.obj cn fs)) (hm : fs.lookup m = none) (ha : DetA as st xs) (k : ∀ R : SV → Prop, R s → φ (.obj cn fs :: xs) R XQ) : Det (pSD (pMeth cn m φ XQ p as)) st s.d := fun R hR => h _ ⟨rfl, hm, ha _ (k _ hR)⟩
theorem not_meth_bad {cn m : Str} {φ : FSpec} {XQ : XD → Prop} {p : PR} {as : PAs} {st : DS} {fs : List (Str × D)} {a b r : PSt} {E : DEnds} (h : Det p st (.obj cn fs)) (hm : fs.lookup m = none) (k : ∀ R : SV → Prop, as st fun ds => φ (.obj cn fs :: ds) R XQ) : pSeq (pIfSt (pNot (pT (pSD (pMeth cn m φ XQ p as)))) a b) r E st := h _ ⟨rfl, hm, k _⟩
theorem not_call_bad {φ : FSpec} {XQ : XD → Prop} {as : PAs} {st : DS} {a b r : PSt} {E : DEnds} (k : ∀ R : SV → Prop, as st fun ds => φ ds R XQ) : pSeq (pIfSt (pNot (pT (pSD (pCall φ XQ as)))) a b) r E st := k _
theorem app_at {i : Nat} {p : PR} {E : DEnds} {st : DS} {ds : List D} {d : D} (h : st[i]? = some (some (.own ds))) (hl : ds.length < 100000) (hd : Det p st d) (k : E.nx (st.set i (some (.own (ds ++ [d]))))) : pApp i p E st := by
  unfold pApp
  rw [h]
  exact hd _ ⟨hl, k⟩
theorem seq_app {i : Nat} {p : PR} {q : PSt} {E : DEnds} {st : DS} {ds : List D} {d : D} (h : st[i]? = some (some (.own ds))) (hl : ds.length < 100000) (hd : Det p st d) (k : q E (st.set i (some (.own (ds ++ [d]))))) : pSeq (pApp i p) q E st := app_at (E := { E with nx := q E }) h hl hd k
theorem set_at {i : Nat} {p : PR} {E : DEnds} {st : DS} {x : D} (h : Det p st x) (k : E.nx (st.set i (some (.dat x)))) : pSet i (pDS p) E st := h _ k
theorem setS_at {i : Nat} {p : PS_} {E : DEnds} {st : DS} {s : SV} (h : DetS p st s) (k : E.nx (st.set i (some s))) : pSet i p E st := h _ k
theorem inc_at {i : Nat} {p : PR} {E : DEnds} {st : DS} {a z : Int} (h : st[i]? = some (some (.dat (.int a)))) (hp : Det p st (.int z)) (k : E.nx (st.set i (some (.dat (.int (a + z)))))) : pInc i p E st := by
  unfold pInc
  rw [h]
  exact hp _ k
theorem seq_inc {i : Nat} {p : PR} {q : PSt} {E : DEnds} {st : DS} {a z : Int} (h : st[i]? = some (some (.dat (.int a)))) (hp : Det p st (.int z)) (k : q E (st.set i (some (.dat (.int (a + z)))))) : pSeq (pInc i p) q E st := inc_at (E := { E with nx := q E }) h hp k
theorem ret_var {i : Nat} {E : DEnds} {st : DS} {s : SV} (h : st[i]? = some (some s)) (k : E.rt s) : pRetV i E st := by unfold pRetV; rw [h]; exact k
theorem dets_if {c : PB} {p q : PS_} {st : DS} {b : Bool} {s : SV} (h : DetB c st b) (ht : b = true → DetS p st s) (hf : b = false → DetS q st s) : DetS (pIfS c p q) st s := fun R hR => h _ (by
  cases b with
  | true => exact ht rfl _ hR
  | false => exact hf rfl _ hR)
theorem dets_cut_to {st : DS} {p : PR} {xs : List D} {i : Int} {k : Nat} (h : Det p st (.lst xs)) (hi : i = (k : Int)) : DetS (pCutL p pNo (pPart (pC (.int i)))) st (.own (xs.take k)) := fun R hR => h _ (by
  subst hi
  show R (.own (cut xs none (some (k : Int))))
  rw [cut_to]; exact hR)
theorem dets_cutl_to {st : DS} {p q : PR} {xs : List D} {k : Nat} (h : Det p st (.lst xs)) (g : Det q st (.int (k : Int))) : DetS (pCutL p pNo (pPart q)) st (.own (xs.take k)) := fun R hR => h _ (g _ (by
  show R (.own (cut xs none (some (k : Int))))
  rw [cut_to]; exact hR))
theorem dets_cutl_from {st : DS} {p q : PR} {xs : List D} {k : Nat} (h : Det p st (.lst xs)) (g : Det q st (.int (k : Int))) : DetS (pCutL p (pPart q) pNo) st (.own (xs.drop k)) := fun R hR => h _ (g _ (by
  show R (.own (cut xs (some (k : Int)) none))
  rw [cut_from]; exact hR))
theorem det_cuts_to {st : DS} {p q : PR} {z : List Nat} {k : Nat} (h : Det p st (.str z)) (hz : z.length ≤ 100000) (g : Det q st (.int (k : Int))) : Det (pCutS p pNo (pPart q)) st (.str (z.take k)) := fun R hR => h _ (g _ (by
  refine ⟨hz, ?_⟩
  rw [cut_to]; exact hR))
theorem det_cuts_from {st : DS} {p q : PR} {z : List Nat} {k : Nat} (h : Det p st (.str z)) (hz : z.length ≤ 100000) (g : Det q st (.int (k : Int))) : Det (pCutS p (pPart q) pNo) st (.str (z.drop k)) := fun R hR => h _ (g _ (by
  refine ⟨hz, ?_⟩
  rw [cut_from]; exact hR))
theorem det_cats {p q : PR} {st : DS} {x y : List Nat} (h : Det p st (.str x)) (g : Det q st (.str y)) (hl : x.length + y.length ≤ 100000) : Det (p2 pAdd p q) st (.str (x ++ y)) := fun R hR => h _ (g _ ⟨hl, hR⟩)
theorem det_ixT {p q : PR} {st : DS} {xs : List D} {i : Int} {x : D} (h : Det p st (.tup xs)) (k : Det q st (.int i)) (hx : atI xs i = some x) : Det (p2 pIx p q) st x := fun R hR => h _ (k _ ⟨x, hx, hR⟩)
theorem det_ixS {p q : PR} {st : DS} {z : List Nat} {i : Int} {c : Nat} (h : Det p st (.str z)) (k : Det q st (.int i)) (hz : z.length ≤ 100000) (hx : atI z i = some c) : Det (p2 pIx p q) st (.str [c]) := fun R hR => h _ (k _ ⟨hz, c, hx, hR⟩)
theorem det_inL {neg : Bool} {p q : PR} {st : DS} {x : D} {ds : List D} (h : Det p st x) (g : Det q st (.lst ds)) (hx : flatD x = true) (hd : ds.all flatD = true) (ns : ∀ c z, ¬ (x = .str [c] ∧ D.lst ds = .str z)) : Det (p2 (pIn neg) p q) st (.bl (if neg then !hasD ds x else hasD ds x)) := fun R hR => h _ (g _ (by
  show pIn neg x (.lst ds) R
  cases x with
  | str z =>
    match z with
    | [] => exact ⟨hx, hd, hR⟩
    | [c] => exact ⟨hx, hd, hR⟩
    | c :: c2 :: r => exact ⟨hx, hd, hR⟩
  | _ => exact ⟨hx, hd, hR⟩))
theorem tryA_call {n j y : Nat} {ks : List Nat} {φ : FSpec} {as : PAs} {q : PSt} {E : DEnds} {st : DS} (k : as st fun ds => φ ds (fun s => q E (st.set y (some s))) (fun x => x.kind ∈ ks ∧ q E (held n j x))) : pSeq (pTryA n j y ks fun XQ => pCall φ XQ as) q E st := k
theorem tryE_call {n j : Nat} {ks : List Nat} {φ : FSpec} {as : PAs} {q : PSt} {E : DEnds} {st : DS} (k : as st fun ds => φ ds (fun _ => q E st) (fun x => x.kind ∈ ks ∧ q E (held n j x))) : pSeq (pTryE n j ks fun XQ => pCall φ XQ as) q E st := k
theorem range_at {n i j : Nat} (h : (List.range n)[i]? = some j) : j = i ∧ i < n := by
  have hi := (List.getElem?_eq_some_iff.mp h).1
  rw [List.length_range] at hi
  rw [List.getElem?_range hi] at h
  cases h
  exact ⟨rfl, hi⟩
theorem det_joinf {α : Type} {f : α → List Nat} {l : List α} {p q : PR} {st : DS} {s : List Nat} (h : Det p st (.str s)) (g : Det q st (.lst (l.map fun a => .str (f a)))) (hl : ((l.map f).map (·.length)).sum + l.length * s.length ≤ 100000) : Det (pJoin p q) st (.str (joinD s (l.map f))) := fun R hR => h _ (by
  dsimp only
  refine g _ ?_
  dsimp only
  rw [strs_mapf]
  exact ⟨by rw [List.length_map]; exact hl, hR⟩)
theorem det_and {p q : PR} {st : DS} {i j : Int} (h : Det p st (.int i)) (k : Det q st (.int j)) : Det (p2 oAnd p q) st (.int (Builtin.bitAnd i j)) := fun R hR => h _ (k _ hR)
theorem det_shr {p q : PR} {st : DS} {i : Int} {j : Nat} (h : Det p st (.int i)) (k : Det q st (.int (j : Int))) : Det (p2 oShr p q) st (.int (i / 2 ^ j)) := fun R hR => h _ (k _ ⟨by omega, hR⟩)
theorem det_bit {p q : PR} {st : DS} {s l : Nat} (h : Det p st (.int (s : Int))) (k : Det q st (.int (l : Int))) : Det (p2 oAnd (p2 oShr p q) (pC (.int 1))) st (.int (bitN s l : Nat)) := fun R hR => det_and (det_shr h k) det_c _ (by
  have := bit_of s l
  rw [Int.toNat_natCast] at this
  rw [this]; exact hR)
theorem det_div {st : DS} {p : PR} {x k : Int} (h : Det p st (.int x)) (hk : CDiv x k) : Det (p2 oDiv p (pC (.int k))) st (.int (x / k)) := det_I (g := fun i j => i / j) h det_c hk
theorem det_mod {st : DS} {p : PR} {x k : Int} (h : Det p st (.int x)) (hk : 0 < k) : Det (p2 oMod p (pC (.int k))) st (.int (x % k)) := det_I (g := fun i j => i % j) h det_c hk
theorem det_modv {st : DS} {p q : PR} {x k : Int} (h : Det p st (.int x)) (g : Det q st (.int k)) (hk : 0 < k) : Det (p2 oMod p q) st (.int (x % k)) := det_I (g := fun i j => i % j) h g hk
theorem det_sub {p q : PR} {st : DS} {i j : Int} (h : Det p st (.int i)) (k : Det q st (.int j)) : Det (p2 oSub p q) st (.int (i - j)) := fun R hR => h _ (k _ hR)
end Pu
/-! The pure layer, part U: more of lists that change: append(pop(i)), extend; xs[:-1]. -/
namespace L2
open PySem PySem.Spec PyProof.Rows
def rExtendR : V → List V → Hp → VK → Prop := fun x vs H Q => ∃ l b xs zs, x = .ref l ∧ vs = [.ref b] ∧ H l = some (.lst xs) ∧ Rd H b (.lst zs) ∧ xs.length + zs.length ≤ sizeLine ∧ Q .non (upd H l (.lst (xs ++ zs)))
theorem mt_extendR {X : Cx} : MtM X "list.extend" rExtendR := by
  intro pins s σ H x vs v us Q I rx rv h
  obtain ⟨l, b, xs, zs, rfl, rfl, hH, hB, hz, q⟩ := h
  cases rx
  obtain ⟨u, rfl, ru⟩ := rv.one
  cases ru
  obtain ⟨z, its, n, r, hl, e⟩ := I.lstM hH
  obtain ⟨z2, its2, n2, r2, e2⟩ := Pu.rd_obj I hB
  have hl2 := r2.length
  have hsz : its.toArray.size + its2.toArray.size ≤ sizeLine := by rw [List.size_toArray, List.size_toArray]; omega
  have hlong : ¬ (!its.toArray.isEmpty && Builtin.List.listTooLong (its.toArray.size + its2.toArray.size)) = true := by
    rw [notLongL hsz, Bool.and_false]
    exact Bool.false_ne_true
  refine call_meets F.slot_list_extend ⟨_, e, rfl⟩ F.entry_list_extend (F.args_list_extend_2 _ _)
    (AutoSeq1.list_extend_list_list_0 l its.toArray n b its2.toArray n2 hlong (by rw [List.size_toArray]; omega) (by omega)) ⟨e, e2, ?_⟩
  refine ⟨.non, _, I.lset (its' := its ++ its2) hH e (by simp) (r.append r2) ?_, rfl, q⟩
  rw [List.length_append]
  omega
end L2
namespace Pu
open PySem L2
section
variable {A : Ax} {X : Cx} {e : Expr} {te : TE} {pe : PR} {pos : Pos}
def pAppPop (i j : Nat) (p : PR) : PSt := fun E st => match st[i]?, st[j]? with
  | some (some (.own ds)), some (some (.own es)) => i ≠ j ∧ es.length ≤ 100000 ∧ ds.length < 100000 ∧ p st fun d => (match d with | .int n => ∃ (k : Nat) (x : D), n = (k : Int) ∧ es[k]? = some x ∧ E.nx ((st.set j (some (.own (es.eraseIdx k)))).set i (some (.own (ds ++ [x])))) | _ => False)
  | _, _ => False
theorem rd_appPop {i j : Nat} (h : RdR A te pe) : RdSt A (tDrop (tBM A.K "list" rAppend (tVar i) (tCons (tBM A.K "list" rPopAt (tVar j) (tCons te tNil)) tNil))) (pAppPop i j pe) := fun F H σ st DD E ok w c hp => by
  unfold pAppPop at hp
  split at hp
  · rename_i ds es hs he
    obtain ⟨hij, he1, hd1, hp⟩ := hp
    obtain ⟨v, hv, l, vs, rfl, h1, h2, h3, h4⟩ := ok.at_ i _ hs
    obtain ⟨v', hv', l', vs', rfl, g1, g2, g3, g4⟩ := ok.at_ j _ he
    refine ⟨_, hv, .inl ⟨rfl, vs, .of h1⟩, _, hv', .inl ⟨rfl, vs', .of g1⟩, ?_⟩
    refine h F H σ st _ _ ok w hp fun d x F1 H1 w1 rx z => ?_
    cases d <;> first | exact z.elim | skip
    obtain ⟨k, y, rfl, hy, z⟩ := z
    cases rx
    have a1 := w1.hh _ _ h1
    have a2 := w1.stay h2 h1
    have b1 := w1.hh _ _ g1
    have b2 := w1.stay g2 g1
    have a4 := Reps.mono w1.ff _ _ h4
    have b4 := Reps.mono w1.ff _ _ g4
    have hk : k < es.length := (List.getElem?_eq_some_iff.mp hy).1
    obtain ⟨u, hu, ru⟩ := b4.get hy
    have ne : l ≠ l' := fun q => by subst q; exact ok.apart i j _ _ _ hij hs he rfl rfl hv hv'
    refine ⟨l', vs', _, k, u, rfl, rfl, b1, by omega, by omega, ?_, hu, ?_⟩
    · unfold seqIndex?
      rw [← g4.len]
      have c1 : ¬ ((k : Int) < 0) := by omega
      rw [if_neg c1]
      have c2 : (decide (0 ≤ (k : Int)) && decide ((k : Int) < (es.length : Int))) = true := by simp; omega
      rw [if_pos c2]
      simp
    have okW : StOk A.K A.N F1 (upd H1 l' (.lst (vs'.eraseIdx k))) σ (st.set j (some (.own (es.eraseIdx k)))) := stok_write (ok.mono w1) he rfl hv' ⟨l', _, rfl, upd_same, b2, g3, b4.er k⟩
    refine ⟨l, vs, u, rfl, rfl, by rw [upd_ne ne]; exact a1, by rw [← h4.len]; exact line_lt hd1, ?_⟩
    have hs2 : (st.set j (some (SV.own (es.eraseIdx k))))[i]? = some (some (.own ds)) := by rw [List.getElem?_set_ne (Ne.symm hij)]; exact hs
    refine c.nx F1 _ σ _ w1.ff (stok_write okW hs2 rfl hv ?_) (((w.trans w1).write b2 g3).write a2 h3) z
    exact ⟨l, _, rfl, upd_same, a2, h3, a4.app (.cons ru .nil)⟩
  · exact hp.elim
theorem sim_appPop (i j : Nat) {x y : Str} {p0 apos cpos p0' apos' cpos' : Pos} (h : SimR A X e te pe) (hN : X.N[i]? = some x := by rfl) (hN' : X.N[j]? = some y := by rfl) (hv : Vis X.env.scope x := by first | exact Or.inl rfl | exact Or.inr (Or.inl rfl) | exact Or.inr (Or.inr rfl)) (hv' : Vis X.env.scope y := by first | exact Or.inl rfl | exact Or.inr (Or.inl rfl) | exact Or.inr (Or.inr rfl)) (hd : (x == ("__debug__" : Str)) = false := by decide)
    (hcd : (x == ("__classdict__" : Str)) = false := by decide) (hd' : (y == ("__debug__" : Str)) = false := by decide) (hcd' : (y == ("__classdict__" : Str)) = false := by decide) (hsw : swapsWith (.Call (.Attribute (.Name x p0) "append" apos) [.Call (.Attribute (.Name y p0') "pop" apos') [e] [] cpos'] [] cpos) none pos.line X.env = pure false := by rfl)
    (hline : (apos.endLine == cpos.line) = true := by rfl) (hline' : (apos'.endLine == cpos'.line) = true := by rfl)
    (hs : starEach [.Call (.Attribute (.Name y p0') "pop" apos') [e] [] cpos'] X.env = (false, eval (.Call (.Attribute (.Name y p0') "pop" apos') [e] [] cpos') X.env) :: starEach [] X.env := by rfl) (hs' : starEach [e] X.env = (false, eval e X.env) :: starEach [] X.env := by rfl)
    (hf2 : ((backTo cpos' (starEach [e] X.env)).all (fun x => !x.1) && (backToKw cpos' (keywordEach [] X.env)).all (fun x => x.1.isSome) && decide ([e].length + ([] : List Keyword).length + (if ([] : List Keyword).isEmpty then 0 else 1) < 30)) = true := by rfl)
    (hf1 : ((backTo cpos (starEach [.Call (.Attribute (.Name y p0') "pop" apos') [e] [] cpos'] X.env)).all (fun x => !x.1) && (backToKw cpos (keywordEach [] X.env)).all (fun x => x.1.isSome) && decide ([Expr.Call (.Attribute (.Name y p0') "pop" apos') [e] [] cpos'].length + ([] : List Keyword).length + (if ([] : List Keyword).isEmpty then 0 else 1) < 30)) = true := by rfl)
    (hp1 : (backTo cpos (starEach [] X.env)).any (·.1) = false := by rfl) (hp2 : (backTo cpos' (starEach [] X.env)).any (·.1) = false := by rfl) :
    SimSt A X (.Expr (.Call (.Attribute (.Name x p0) "append" apos) [.Call (.Attribute (.Name y p0') "pop" apos') [e] [] cpos'] [] cpos) pos) (tDrop (tBM A.K "list" rAppend (tVar i) (tCons (tBM A.K "list" rPopAt (tVar j) (tCons te tNil)) tNil))) (pAppPop i j pe) :=
  ⟨h.hK, h.hK ▸ ps_expr (pe_bm PySem.F.plainAttrs_list PySem.F.slot_list_append PySem.F.type_list_append mt_append (pe_var hN hv hd hcd) (pa_cons (pe_bm PySem.F.plainAttrs_list PySem.F.slot_list_pop PySem.F.type_list_pop mt_popAt (pe_var hN' hv' hd' hcd') (pa_cons h.pe pa_nil hs') (hline := hline') (hfew := hf2) (hs := hs') (hplain := hp2)) pa_nil hs) (hline := hline) (hfew := hf1) (hs := hs) (hplain := hp1)) hsw, rd_appPop h.rd⟩
theorem appPop_at {i j k : Nat} {p : PR} {E : DEnds} {st : DS} {ds es : List D} {x : D} (h : st[i]? = some (some (.own ds))) (g : st[j]? = some (some (.own es))) (hij : i ≠ j) (h1 : es.length ≤ 100000) (h2 : ds.length < 100000) (hp : Det p st (.int (k : Int))) (hx : es[k]? = some x) (kk : E.nx ((st.set j (some (.own (es.eraseIdx k)))).set i (some (.own (ds ++ [x]))))) : pAppPop i j p E st := by
  unfold pAppPop
  rw [h, g]
  exact ⟨hij, h1, h2, hp _ ⟨k, x, rfl, hx, kk⟩⟩
/-! xs.extend(ys) -/
def pExt (i : Nat) (p : PR) : PSt := fun E st => match st[i]? with | some (some (.own ds)) => p st (fun d => (match d with | .lst es => ds.length + es.length ≤ 100000 ∧ E.nx (st.set i (some (.own (ds ++ es)))) | _ => False)) | _ => False
theorem rd_ext {i : Nat} (h : RdR A te pe) : RdSt A (tDrop (tBM A.K "list" rExtendR (tVar i) (tCons te tNil))) (pExt i pe) := fun F H σ st DD E ok w c hp => by
  unfold pExt at hp
  split at hp
  · rename_i ds hs
    obtain ⟨v, hv, l, vs, rfl, h1, h2, h3, h4⟩ := ok.at_ i _ hs
    refine ⟨_, hv, .inl ⟨rfl, vs, .of h1⟩, ?_⟩
    refine h F H σ st _ _ ok w hp fun d x F1 H1 w1 rx z => ?_
    cases d <;> first | exact z.elim | skip
    obtain ⟨b, zs, rfl, g1, g2⟩ := rx
    have a1 := w1.hh _ _ h1
    have a2 := w1.stay h2 h1
    refine ⟨l, b, vs, zs, rfl, rfl, a1, g1, by rw [← h4.len, ← g2.len]; exact line_of z.1, ?_⟩
    refine c.nx F1 _ σ _ w1.ff (stok_write (ok.mono w1) hs rfl hv ?_) ((w.trans w1).write a2 h3) z.2
    exact ⟨l, _, rfl, upd_same, a2, h3, (Reps.mono w1.ff _ _ h4).app g2⟩
  · exact hp.elim
theorem sim_ext (i : Nat) {x : Str} {p0 apos cpos : Pos} (h : SimR A X e te pe) (hN : X.N[i]? = some x := by rfl) (hv : Vis X.env.scope x := by first | exact Or.inl rfl | exact Or.inr (Or.inl rfl) | exact Or.inr (Or.inr rfl)) (hd : (x == ("__debug__" : Str)) = false := by decide)
    (hcd : (x == ("__classdict__" : Str)) = false := by decide) (hsw : swapsWith (.Call (.Attribute (.Name x p0) "extend" apos) [e] [] cpos) none pos.line X.env = pure false := by rfl) (hline : (apos.endLine == cpos.line) = true := by rfl) (hs : starEach [e] X.env = (false, eval e X.env) :: starEach [] X.env := by rfl) (hf2 : ((backTo cpos (starEach [e] X.env)).all (fun x => !x.1) && (backToKw cpos (keywordEach [] X.env)).all (fun x => x.1.isSome) && decide ([e].length + ([] : List Keyword).length + (if ([] : List Keyword).isEmpty then 0 else 1) < 30)) = true := by rfl) (hp1 : (backTo cpos (starEach [] X.env)).any (·.1) = false := by rfl) :
    SimSt A X (.Expr (.Call (.Attribute (.Name x p0) "extend" apos) [e] [] cpos) pos) (tDrop (tBM A.K "list" rExtendR (tVar i) (tCons te tNil))) (pExt i pe) :=
  ⟨h.hK, h.hK ▸ ps_expr (pe_bm PySem.F.plainAttrs_list PySem.F.slot_list_extend PySem.F.type_list_extend mt_extendR (pe_var hN hv hd hcd) (pa_cons h.pe pa_nil hs) (hline := hline) (hfew := hf2) (hs := hs) (hplain := hp1)) hsw, rd_ext h.rd⟩
theorem ext_at {i : Nat} {p : PR} {E : DEnds} {st : DS} {ds es : List D} (h : st[i]? = some (some (.own ds))) (hl : ds.length + es.length ≤ 100000) (hp : Det p st (.lst es)) (k : E.nx (st.set i (some (.own (ds ++ es))))) : pExt i p E st := by
  unfold pExt
  rw [h]
  exact hp _ ⟨hl, k⟩
/-! xs[:-1] -/
theorem cut_last {α : Type} (z : List α) : cut z none (some (-1)) = z.dropLast := by
  unfold cut
  rw [HT.sIx_none, List.drop_zero, Nat.sub_zero, List.dropLast_eq_take]
  have : HT.sIx z.length z.length (some (-1)) = z.length - 1 := by
    show (if (-1 : Int) < 0 then ((-1 : Int) + (z.length : Int)).toNat else min (-1 : Int).toNat z.length) = _
    rw [if_pos (by decide)]
    omega
  rw [this]
theorem dets_cut_last {st : DS} {p : PR} {xs : List D} (h : Det p st (.lst xs)) : DetS (pCutL p pNo (pPart (p1 pNeg (pC (.int 1))))) st (.own xs.dropLast) := fun R hR => h _ (by
  show R (.own (cut xs none (some (-1))))
  rw [cut_last]; exact hR)
end
end Pu
/-! The pure layer, part V: a name's own list goes to another name, leaves; calls that only look at it. -/
namespace Pu
open PySem L2
section
variable {A : Ax} {X : Cx} {e c : Expr} {es : List Expr} {te t tb : TE} {tc : TT} {pe p : PR} {pc : PB} {pes : PS_} {pos : Pos}
/-! x = y, y being forgotten -/
def pMove (i j : Nat) : PSt := fun E st => i ≠ j ∧ match st[j]? with | some (some s) => E.nx ((st.set j none).set i (some s)) | _ => False
theorem stok_move {K : PySem.W.Frag} {N F H : Hp} {σ : L2.St} {st : DS} {i j : Nat} {s : SV} {v : V} (ok : StOk K N F H σ st) (hij : i ≠ j) (hj : st[j]? = some (some s)) (hv : σ[j]? = some (some v)) : StOk K N F H (σ.set i (some v)) ((st.set j none).set i (some s)) := by
  have hjl : j < st.length := (List.getElem?_eq_some_iff.mp hj).1
  have old : ∀ (m : Nat) (t : SV), ((st.set j none).set i (some s))[m]? = some (some t) → (m = i ∧ t = s) ∨ (m ≠ i ∧ m ≠ j ∧ st[m]? = some (some t)) := fun m t e => by
    by_cases z : i = m
    · subst z
      have hl := (List.getElem?_eq_some_iff.mp e).1
      rw [List.getElem?_set_self (by simpa using hl)] at e
      cases e
      exact .inl ⟨rfl, rfl⟩
    · rw [List.getElem?_set_ne z] at e
      by_cases y : j = m
      · subst y
        rw [List.getElem?_set_self hjl] at e
        cases e
      · rw [List.getElem?_set_ne y] at e
        exact .inr ⟨Ne.symm z, Ne.symm y, e⟩
  obtain ⟨v', hv', rj⟩ := ok.at_ j s hj
  rw [hv] at hv'
  cases hv'
  refine ⟨by simpa using ok.len, fun m t e => ?_, fun m k t u x hmk e1 e2 m1 m2 f1 f2 => ?_⟩
  · rcases old m t e with ⟨rfl, rfl⟩ | ⟨n1, n2, e'⟩
    · have hl := (List.getElem?_eq_some_iff.mp e).1
      exact ⟨v, List.getElem?_set_self (by rw [← ok.len]; simpa using hl), rj⟩
    · obtain ⟨x, e1, r⟩ := ok.at_ m t e'
      exact ⟨x, by rw [List.getElem?_set_ne (Ne.symm n1)]; exact e1, r⟩
  · rcases old m t e1 with ⟨rfl, rfl⟩ | ⟨n1, n2, e1'⟩
    · rcases old k u e2 with ⟨rfl, _⟩ | ⟨k1, k2, e2'⟩
      · exact hmk rfl
      · have hl := (List.getElem?_eq_some_iff.mp e1).1
        rw [List.getElem?_set_self (by rw [← ok.len]; simpa using hl)] at f1
        cases f1
        rw [List.getElem?_set_ne (Ne.symm k1)] at f2
        exact ok.apart j k _ u v (Ne.symm k2) hj e2' m1 m2 hv f2
    · rw [List.getElem?_set_ne (Ne.symm n1)] at f1
      rcases old k u e2 with ⟨rfl, rfl⟩ | ⟨k1, k2, e2'⟩
      · have hl := (List.getElem?_eq_some_iff.mp e2).1
        rw [List.getElem?_set_self (by rw [← ok.len]; simpa using hl)] at f2
        cases f2
        exact ok.apart m j t _ v n2 e1' hj m1 m2 f1 hv
      · rw [List.getElem?_set_ne (Ne.symm k1)] at f2
        exact ok.apart m k t u x hmk e1' e2' m1 m2 f1 f2
theorem sim_move (i j : Nat) {x y : Str} {p0 p1 : Pos} (hN : X.N.Nodup) (hi : X.N[i]? = some x := by rfl) (hj : X.N[j]? = some y := by rfl) (hx : Loc X.env.scope x := by first | exact Or.inl rfl | exact Or.inr rfl) (hv : Vis X.env.scope y := by first | exact Or.inl rfl | exact Or.inr (Or.inl rfl) | exact Or.inr (Or.inr rfl)) (hd : (y == ("__debug__" : Str)) = false := by decide)
    (hcd : (y == ("__classdict__" : Str)) = false := by decide) (hs : swapsWith (.Name y p1) (some (.Name x p0)) pos.line X.env = pure false := by rfl) (hf : X.fn x = true ∨ X.env.scope.names.lookup x = some .local := by first | exact .inl rfl | exact .inr rfl) (hK : X.K = A.K := by rfl) :
    SimSt A X (.Assign [.Name x p0] (.Name y p1) pos) (tAsg (tVar j) (gName i)) (pMove i j) := ⟨hK, ps_set hN hi hx (pe_var hj hv hd hcd) hs hf, fun F H σ st DD E ok w c hp => by
  obtain ⟨hij, hp⟩ := hp
  split at hp
  · rename_i s hs
    obtain ⟨v, hv, r⟩ := ok.at_ j s hs
    exact ⟨v, hv, c.nx F H _ _ (Same.refl _) (stok_move ok hij hs hv) w hp⟩
  · exact hp.elim⟩
theorem move_at {i j : Nat} {E : DEnds} {st : DS} {s : SV} (hij : i ≠ j) (h : st[j]? = some (some s)) (k : E.nx ((st.set j none).set i (some s))) : pMove i j E st := ⟨hij, by rw [h]; exact k⟩
/-! return x if c else e -/
def pRetIf (pc : PB) (i : Nat) (q : PS_) : PSt := fun E st => pc st fun b => if b = true then (match st[i]? with | some (some s) => E.rt s | _ => False) else q st E.rt
theorem sim_retIf (i : Nat) {x : Str} {p0 pos' : Pos} {e2 : Expr} {te2 : TE} (hc : SimT A X c tc pc) (hb : SimS A X e2 te2 pes) (hN : X.N[i]? = some x := by rfl) (hv : Vis X.env.scope x := by first | exact Or.inl rfl | exact Or.inr (Or.inl rfl) | exact Or.inr (Or.inr rfl)) (hd : (x == ("__debug__" : Str)) = false := by decide)
    (hcd : (x == ("__classdict__" : Str)) = false := by decide) : SimSt A X (.Return (some (.IfExp c (.Name x p0) e2 pos')) pos) (tRet (tIf tc (tVar i) te2)) (pRetIf pc i pes) := ⟨hc.hK, ps_ret (pe_ifExp hc.pt (pe_var hN hv hd hcd) hb.pe), fun F H σ st DD E ok w c hp =>
  hc.rd F H σ st _ _ ok w hp fun b F1 H1 w1 z => by
    cases b with
    | true =>
      rw [if_pos rfl] at z
      split at z
      · rename_i s hs
        obtain ⟨v, hv, r⟩ := ok.at_ i s hs
        exact ⟨v, hv, c.rt F1 H1 s v w1.ff (w.trans w1) (r.mono w1) z⟩
      · exact z.elim
    | false => exact hb.rd F1 H1 σ st _ _ (ok.mono w1) (w.trans w1) z fun s v F' H' w' r z => c.rt F' H' s v (w1.ff.trans w'.ff) ((w.trans w1).trans w') (r.back fun a h => same_none (w.trans w1).hh h) z⟩
theorem retIf_at {pc : PB} {i : Nat} {q : PS_} {E : DEnds} {st : DS} {b : Bool} (h : DetB pc st b) (ht : b = true → ∃ s, st[i]? = some (some s) ∧ E.rt s) (hf : b = false → q st E.rt) : pRetIf pc i q E st := h _ (by
  cases b with
  | true =>
    obtain ⟨s, hs, k⟩ := ht rfl
    show (match st[i]? with | some (some s) => E.rt s | _ => False)
    rw [hs]; exact k
  | false => exact hf rfl)
/-! a call that looks at what it is given, and answers flatly -/
def RdRA (A : Ax) (t : TA) (p : PAs) : Prop := ∀ (F H : Hp) (σ : L2.St) (st : DS) (DQ : List D → Prop) (Q : List V → Hp → Prop), StOk A.K A.N F H σ st → Wld A.F0 A.N F H → p st DQ → (∀ ds vs F' H', Wld F H F' H' → All2 (RepR A.K F' H') ds vs → DQ ds → Q vs H') → t σ H Q
structure SimRA (A : Ax) (X : Cx) (es : List Expr) (t : TA) (p : PAs) : Prop where
  hK : X.K = A.K
  pa : PA X es t
  rd : RdRA A t p
variable {tas ta : TA} {pas as : PAs}
theorem simRA_nil (hK : X.K = A.K := by rfl) : SimRA A X [] tNil pNil := ⟨hK, pa_nil, fun F H σ st DQ Q ok e hp k => k [] [] F H (Wld.refl e.fh) .nil hp⟩
theorem simRA_cons (h : SimR A X e te p) (g : SimRA A X es tas pas) (hs : starEach (e :: es) X.env = (false, eval e X.env) :: starEach es X.env := by rfl) : SimRA A X (e :: es) (tCons te tas) (pCons p pas) := ⟨h.hK, pa_cons h.pe g.pa hs, fun F H σ st DQ Q ok e hp k =>
  h.rd F H σ st _ _ ok e hp fun x v F1 H1 w1 rx hq => g.rd F1 H1 σ st _ _ (ok.mono w1) (e.trans w1) hq fun ds vs F2 H2 w2 rs hr => k _ _ F2 H2 (w1.trans w2) (.cons (rx.mono w2) rs) hr⟩
def flatS : SV → Option D
  | .dat (.bl b) => some (.bl b)
  | .dat (.int i) => some (.int i)
  | .dat (.str z) => some (.str z)
  | .dat .non => some .non
  | _ => none
def pPeek (φ : FSpec) (as : PAs) : PR := fun st Q => as st fun ds => φ ds (fun s => match flatS s with | some d => Q d | none => False) X0
theorem simD_peek {k : Nat} {φ : FSpec} {x : Str} {p0 : Pos} (C : CallOk X.prog X.w X.K X.mg X.base x k φ) (hr : Room k X.A)
    (ha : SimRA A X (e :: es) ta as) (hg : Gl X x := by rfl) (hdb : (x == ("__debug__" : Str)) = false := by decide) (he : starEach (e :: es) X.env = (false, eval e X.env) :: starEach es X.env := by rfl) (hpl : (backTo pos (starEach es X.env)).any (·.1) = false := by rfl) :
    SimD A X (.Call (.Name x p0) (e :: es) [] pos) (tCall (spP A.K φ) [] E0 ta) (pPeek φ as) := by
  obtain ⟨f, fd, ps, h1, h2, h3, h4⟩ := C
  refine ⟨ha.hK, ha.hK ▸ pe_call h1 hr hg h2 h3 h4 .nil (xc0 (A := A)).pass ha.pa hdb he hpl, fun F H σ st DQ Q ok w hp kk => ?_⟩
  refine ha.rd F H σ st _ _ ok w hp fun ds vs F1 H1 w1 r z => ?_
  show spP A.K φ (vs ++ []) H1 Q E0
  rw [List.append_nil]
  refine ⟨H1, ds, _, X0, Same.refl _, r.imp fun a b q => q.up w1.fh, z, fun s v F' H' w' rs q => ?_, fun _ _ _ _ _ _ _ z => z.elim⟩
  have w2 : Wld F1 H1 F1 H' := ⟨Same.refl _, w'.hh, w1.fh.trans w'.hh, fun _ _ h => .inl h⟩
  cases s with
  | own _ => exact q.elim
  | ownK _ => exact q.elim
  | dat d =>
    cases d <;> first | exact q.elim | skip
    all_goals
      cases (show Rep A.K F' _ v from rs)
      exact kk _ _ F1 H' (w1.trans w2) (by constructor) q
theorem det_peek {φ : FSpec} {as : PAs} {st : DS} {xs : List D} {d : D} (h : DetA as st xs) (hd : flatS (.dat d) = some d) (k : ∀ R : SV → Prop, R (.dat d) → φ xs R X0) : Det (pPeek φ as) st d := fun R hR => h _ (k _ (by
  show (match flatS (.dat d) with | some d => R d | none => False)
  rw [hd]; exact hR))
end
end Pu
/-! The pure layer, part W: dicts; list(range(n)), list(d). -/
namespace L2
open PySem PySem.Spec PyProof.Rows
def tListRange (ta : TE) : TE := fun σ H Q => ta σ H fun x H1 => ∃ n : Nat, x = .int (n : Int) ∧ n ≤ 1000 ∧ ∀ l, H1 l = none → Q (.ref l) (upd H1 l (.lst ((List.range n).map fun i => V.int (i : Nat))))
theorem vals_range {acc : Array Value} {n : Nat} (h : ItemsOf (fun i v => ∃ t, v = Value.int (0 + i * 1) t) acc n) : Vals ((List.range n).map fun i => V.int (i : Nat)) acc.toList := by
  have key : ∀ (m : Nat) (us : List Value) (k : Nat), us.length = m → (∀ (j : Nat) (v : Value), us[j]? = some v → ∃ t, v = Value.int ((k : Int) + j) t) → Vals ((List.range' k m).map fun i => V.int (i : Nat)) us := by
    intro m
    induction m with
    | zero =>
      intro us k hl _
      cases us with
      | nil => exact .nil
      | cons u us => simp at hl
    | succ m ih =>
      intro us k hl hu
      cases us with
      | nil => simp at hl
      | cons u us =>
        obtain ⟨t, ht⟩ := hu 0 u rfl
        rw [List.range'_succ, List.map_cons]
        refine .cons ⟨t, by simpa using ht⟩ (ih us (k + 1) (by simpa using hl) fun j v hj => ?_)
        obtain ⟨t, ht⟩ := hu (j + 1) v (by simpa using hj)
        exact ⟨t, by rw [ht]; congr 1; omega⟩
  rw [List.range_eq_range']
  refine key n acc.toList 0 (by simp [h.1]) fun j v hj => ?_
  obtain ⟨t, ht⟩ := h.2 j v (by simpa using hj)
  exact ⟨t, by rw [ht]; congr 1; omega⟩
theorem pe_listRange {X : Cx} {a : Expr} {ta : TE} {p1 p2 q pos : Pos} (hc : X.calm = true) (hg : Gl X "list") (hm : X.mg "list" = none) (hg2 : Gl X "range") (hm2 : X.mg "range" = none) (ha : PE X a ta)
    (na : starEach [a] X.env = (false, eval a X.env) :: starEach [] X.env := by rfl) : PE X (.Call (.Name "list" p1) [.Call (.Name "range" p2) [a] [] q] [] pos) (tListRange ta) := by
  refine ⟨fun pins s σ H Q I h => Call_ (ld_blt I hg hm (u := .type "list") (by decide +kernel) (callWith_type1 (args_cons (Call_ (ld_blt I hg2 hm2 boot_range (callWith_type1 (args_cons (thn (ha.run pins s σ H _ I h) fun v s1 hh => args_nil ?_) na) na rfl))) rfl) rfl rfl))⟩
  obtain ⟨x, H1, I1, r1, n, rfl, hn, q1⟩ := hh
  obtain ⟨t, rfl⟩ := r1
  refine call_range_1 ?_
  refine args_nil (call_list_range (I1.ok.hd hc) (IsRange.new _ _ _ _ _ _ _) (small_one (by omega) (by omega) (by omega) (by omega)) (n := n) (by rw [rangeSize_one]; split <;> omega) (by omega) fun h' tk acc c hk hS hacc => ?_)
  have hlen : ((List.range n).map fun i => V.int (i : Nat)).length ≤ sizeLine := by rw [List.length_map, List.length_range, sizeLine_eq]; omega
  have hsz : s1.heap.objs.size ≤ (s1.heap.push { cls := .type "range", data := .fields #[.int 0 s1.toks, .int (n : Int) t, .int 1 (s1.toks + 1)] }).objs.size := by
    show s1.heap.objs.size ≤ (s1.heap.objs.push _).size
    rw [Array.size_push]
    exact Nat.le_succ _
  exact ⟨.ref _, _, I1.laid (t' := tk) (o := .lst ((List.range n).map fun i => V.int (i : Nat))) (fun b o e => hk b o (Heap.get?_push_of_some _ e)) hsz ⟨hlen, acc.toList, c, vals_range hacc, by simpa using hS⟩, rfl, q1 _ (I1.hok.fresh hsz)⟩
/-! list(d) -/
def rListKeys : List V → Hp → VK → Prop := fun xs H Q => ∃ (d : Addr) (kvs : List (Key × V)), xs = [.ref d] ∧ H d = some (.dK kvs) ∧ ∀ l, H l = none → Q (.ref l) (upd H l (.lst (kvs.map fun p => kV p.1)))
theorem vals_ix : ∀ {xs : List V} {us : List Value}, us.length = xs.length → (∀ (j : Nat) (x : V) (u : Value), xs[j]? = some x → us[j]? = some u → RelV x u) → Vals xs us
  | [], [], _, _ => .nil
  | [], u :: us, h, _ => by simp at h
  | x :: xs, [], h, _ => by simp at h
  | x :: xs, u :: us, h, k => .cons (k 0 x u rfl rfl) (vals_ix (by simpa using h) fun j y v h1 h2 => k (j + 1) y v (by simpa using h1) (by simpa using h2))
theorem call_list_keys {X : Cx} (hc : X.calm = true) : CallR X (.type "list") rListKeys := by
  intro pins s σ H xs us Q I r h
  obtain ⟨d, kvs, rfl, hd, q⟩ := h
  rw [Vals.ref1 r]
  obtain ⟨hsz, hsys, vs, kv, hm⟩ := dk_of I.hok hd
  obtain ⟨es, ep, hraw, hes, hent⟩ := hm.raw
  have hl : kvs.length = vs.length := Paired.length kv
  refine PySem.W.kdl_call (KdlSrc.rawDict hsys) (I.ok.hd hc) hraw (by rw [hes, ← hl]; exact hsz) fun h' tk acc c hk hS hacc => ?_
  have hv : Vals (kvs.map fun p => kV p.1) acc.toList := by
    refine vals_ix (by simp [hacc.1, hes, hl]) fun j x u hx hu => ?_
    rw [List.getElem?_map] at hx
    obtain ⟨⟨k, v⟩, hkv, rfl⟩ := Option.map_eq_some_iff.mp hx
    obtain ⟨w, hw, rw_⟩ := kv_get kv hkv
    obtain ⟨hi, rfl⟩ := hacc.2 j u (by simpa using hu)
    exact relV_key (hent j hi k w hw).1
  have hlen : (kvs.map fun p => kV p.1).length ≤ sizeLine := by rw [List.length_map]; exact hsz
  exact ⟨.ref _, _, I.laid (t' := tk) (o := .lst (kvs.map fun p => kV p.1)) hk (Nat.le_refl _) ⟨hlen, acc.toList, c, hv, by simpa using hS⟩, rfl, q _ (I.hok.fresh (Nat.le_refl _))⟩
end L2
namespace Pu
open PySem L2
section
variable {A : Ax} {X : Cx} {K : PySem.W.Frag} {F H : Hp} {e a b : Expr} {te ta tb : TE} {pe p q : PR} {pos : Pos}
theorem u1 {n : Nat} (h : n + 64 < cLine) : n + 1 < cLine := by omega
/-! list(range(n)) -/
def pListRange (p : PR) : PS_ := fun st Q => p st fun d => match d with | .int i => ∃ n : Nat, i = (n : Int) ∧ n ≤ 1000 ∧ Q (.own ((List.range n).map fun i => .int (i : Nat))) | _ => False
theorem simS_listRange {p1 p2 q' : Pos} (hm : X.mg "list" = none) (hm2 : X.mg "range" = none) (h : SimR A X a ta p) (hc : X.calm = true := by rfl) (hg : Gl X "list" := by rfl) (hg2 : Gl X "range" := by rfl)
    (na : starEach [a] X.env = (false, eval a X.env) :: starEach [] X.env := by rfl) : SimS A X (.Call (.Name "list" p1) [.Call (.Name "range" p2) [a] [] q'] [] pos) (tListRange ta) (pListRange p) :=
  ⟨h.hK, pe_listRange hc hg hm hg2 hm2 h.pe na, fun F H σ st DQ Q ok w hp k => h.rd F H σ st _ _ ok w hp fun d v F1 H1 w1 rx z => by
    cases d <;> first | exact z.elim | skip
    obtain ⟨n, rfl, hn, z⟩ := z
    cases rx
    refine ⟨n, rfl, hn, fun l hl => k _ _ F1 _ (w1.new hl) ((new_lst w1.fh hl ?_).back fun a h => same_none w1.hh h) z⟩
    exact All2.maps fun c _ => .int _⟩
theorem dets_listRange {st : DS} {n : Nat} (h : Det p st (.int (n : Int))) (hn : n ≤ 1000) : DetS (pListRange p) st (.own ((List.range n).map fun i => .int (i : Nat))) := fun R hR => h _ ⟨n, rfl, hn, hR⟩
/-! keys -/
def keyD : Key → D
  | .inl i => .int i
  | .inr x => .str x.cps.toList
def toKey : D → Option Key
  | .int i => some (.inl i)
  | .str z => some (.inr (S z))
  | _ => none
theorem key_rep {d : D} {v : V} {k : Key} (r : Rep K F d v) (h : toKey d = some k) : v = kV k := by
  cases r <;> first | (cases h; done) | (cases h; rfl)
theorem keyD_rep (k : Key) : Rep K F (keyD k) (kV k) := by
  cases k with
  | inl i => exact .int i
  | inr x =>
    have := Rep.str (K := K) (F := F) x.cps.toList
    have e : (⟨x.cps.toList.toArray⟩ : Str) = x := by simp
    rw [e] at this
    exact this
def valD (kvs : List (Key × D)) (k : Key) : Option D := (kvs.find? fun kv => decide (kv.1 = k)).map (·.2)
def putD (kvs : List (Key × D)) (k : Key) (v : D) : List (Key × D) :=
  if (kvs.any fun kv => decide (kv.1 = k)) = true then kvs.map (fun kv => if kv.1 = k then (kv.1, v) else kv) else kvs ++ [(k, v)]
theorem val_rep : ∀ {us : List (Key × V)} {kvs : List (Key × D)} {k : Key}, us.map (·.1) = kvs.map (·.1) → Reps K F (kvs.map (·.2)) (us.map (·.2)) → (valV us k = none ∧ valD kvs k = none) ∨ ∃ v d, valV us k = some v ∧ valD kvs k = some d ∧ Rep K F d v
  | [], [], k, _, _ => .inl ⟨rfl, rfl⟩
  | u :: us, [], k, e, _ => by cases e
  | [], kv :: kvs, k, e, _ => by cases e
  | (k1, u) :: us, (k2, d) :: kvs, k, e, r => by
    simp only [List.map_cons, List.cons.injEq] at e
    obtain ⟨rfl, e⟩ := e
    cases r with
    | cons r1 r2 =>
      unfold valV valD
      by_cases h : k1 = k
      · exact .inr ⟨u, d, by simp [List.find?_cons, h], by simp [List.find?_cons, h], r1⟩
      · have := val_rep (k := k) e r2
        unfold valV valD at this
        simpa [List.find?_cons, h] using this
theorem any_rep : ∀ {us : List (Key × V)} {kvs : List (Key × D)} (k : Key), us.map (·.1) = kvs.map (·.1) → (us.any fun kv => decide (kv.1 = k)) = kvs.any fun kv => decide (kv.1 = k)
  | [], [], k, _ => rfl
  | u :: us, [], k, e => by cases e
  | [], kv :: kvs, k, e => by cases e
  | (k1, u) :: us, (k2, d) :: kvs, k, e => by
    simp only [List.map_cons, List.cons.injEq] at e
    obtain ⟨rfl, e⟩ := e
    rw [List.any_cons, List.any_cons, any_rep k e]
theorem map_put_rep : ∀ {us : List (Key × V)} {kvs : List (Key × D)} {k : Key} {v : V} {d : D}, us.map (·.1) = kvs.map (·.1) → Reps K F (kvs.map (·.2)) (us.map (·.2)) → Rep K F d v →
    (us.map fun kv => if kv.1 = k then (kv.1, v) else kv).map (·.1) = (kvs.map fun kv => if kv.1 = k then (kv.1, d) else kv).map (·.1) ∧ Reps K F ((kvs.map fun kv => if kv.1 = k then (kv.1, d) else kv).map (·.2)) ((us.map fun kv => if kv.1 = k then (kv.1, v) else kv).map (·.2))
  | [], [], k, v, d, _, _, _ => ⟨rfl, .nil⟩
  | u :: us, [], k, v, d, e, _, _ => by cases e
  | [], kv :: kvs, k, v, d, e, _, _ => by cases e
  | (k1, u) :: us, (k2, d2) :: kvs, k, v, d, e, r, rd => by
    simp only [List.map_cons, List.cons.injEq] at e
    obtain ⟨rfl, e⟩ := e
    cases r with
    | cons r1 r2 =>
      have ih := map_put_rep (k := k) e r2 rd
      by_cases h : k1 = k
      · simp only [List.map_cons, h, if_true]
        exact ⟨by rw [ih.1], .cons rd ih.2⟩
      · simp only [List.map_cons, h, if_false]
        exact ⟨by rw [ih.1], .cons r1 ih.2⟩
theorem put_rep {us : List (Key × V)} {kvs : List (Key × D)} {k : Key} {v : V} {d : D} (e : us.map (·.1) = kvs.map (·.1)) (r : Reps K F (kvs.map (·.2)) (us.map (·.2))) (rd : Rep K F d v) :
    (putK us k v).map (·.1) = (putD kvs k d).map (·.1) ∧ Reps K F ((putD kvs k d).map (·.2)) ((putK us k v).map (·.2)) := by
  unfold putK putD
  rw [any_rep k e]
  split
  · exact map_put_rep e r rd
  · simp only [List.map_append, List.map_cons, List.map_nil]
    exact ⟨by rw [e], r.app (.cons rd .nil)⟩
/-! k in d, k not in d -/
def pInK (neg : Bool) : D → D → (D → Prop) → Prop := fun x y Q => match toKey x, y with
  | some k, .dct kvs => Q (.bl (if neg then !(valD kvs k).isSome else (valD kvs k).isSome))
  | _, _ => False
theorem in_K {neg : Bool} {x y : D} {v u : V} {DQ : D → Prop} {Q : VK} (e : Same F H) (rx : RepR K F H x v) (ry : RepR K F H y u) (h : pInK neg x y DQ) (k : ∀ d w, Rep K F d w → DQ d → Q w H) :
    ∃ a o, u = .ref a ∧ DGet H a v o ∧ Q (.bl (if neg then !o.isSome else o.isSome)) H := by
  unfold pInK at h
  split at h
  · rename_i kk kvs hk
    obtain ⟨a, us, rfl, h1, h2, h3⟩ := ry
    have hv := key_rep (rx.up e) hk
    subst hv
    refine ⟨a, _, rfl, DGet.k h1, ?_⟩
    rcases val_rep (k := kk) h2 h3 with ⟨g1, g2⟩ | ⟨v, d, g1, g2, _⟩
    · rw [g1]
      rw [g2] at h
      exact k _ _ (.bl _) h
    · rw [g1]
      rw [g2] at h
      exact k _ _ (.bl _) h
  · exact h.elim
theorem rd_inK (ha : RdR A ta p) (hb : RdR A tb q) : RdD A (tDIn ta tb) (p2 (pInK false) p q) := fun F H σ st DQ Q ok w hp k =>
  ha F H σ st _ _ ok w hp fun x v F1 H1 w1 rx hq => hb F1 H1 σ st _ _ (ok.mono w1) (w.trans w1) hq fun y u F2 H2 w2 ry hr => in_K (neg := false) w2.fh (rx.mono w2) ry hr fun d z rz hd => k d z F2 H2 (w1.trans w2) rz hd
theorem rd_notinK (ha : RdR A ta p) (hb : RdR A tb q) : RdD A (tDNotIn ta tb) (p2 (pInK true) p q) := fun F H σ st DQ Q ok w hp k =>
  ha F H σ st _ _ ok w hp fun x v F1 H1 w1 rx hq => hb F1 H1 σ st _ _ (ok.mono w1) (w.trans w1) hq fun y u F2 H2 w2 ry hr => in_K (neg := true) w2.fh (rx.mono w2) ry hr fun d z rz hd => k d z F2 H2 (w1.trans w2) rz hd
theorem simD_inK (hu : X.A.units + 1 < cLine) (ha : SimR A X a ta p) (hb : SimR A X b tb q) (hm : behindInMarks .In b = false := by rfl) : SimD A X (.Compare a [.In] [b] pos) (tDIn ta tb) (p2 (pInK false) p q) := ⟨ha.hK, pe_cmp (pc_din hu ha.pe hb.pe) hm, rd_inK ha.rd hb.rd⟩
theorem simD_notinK (hu : X.A.units + 1 < cLine) (ha : SimR A X a ta p) (hb : SimR A X b tb q) (hm : behindInMarks .NotIn b = false := by rfl) : SimD A X (.Compare a [.NotIn] [b] pos) (tDNotIn ta tb) (p2 (pInK true) p q) := ⟨ha.hK, pe_cmp (pc_dnotin hu ha.pe hb.pe) hm, rd_notinK ha.rd hb.rd⟩
theorem simT_inK (hu : X.A.units + 1 < cLine) (ha : SimR A X a ta p) (hb : SimR A X b tb q) (hm : behindInMarks .In b = false := by rfl) : SimT A X (.Compare a [.In] [b] pos) (tTest (tDIn ta tb)) (pT (p2 (pInK false) p q)) := ⟨ha.hK, pt_cmp (pc_din hu ha.pe hb.pe) hm, rd_T fun F H σ st DQ Q ok e hp k => (rd_inK ha.rd hb.rd) F H σ st DQ Q ok e hp fun d v F' H' w r q => k d v F' H' w (.of w.fh r) q⟩
theorem simT_notinK (hu : X.A.units + 1 < cLine) (ha : SimR A X a ta p) (hb : SimR A X b tb q) (hm : behindInMarks .NotIn b = false := by rfl) : SimT A X (.Compare a [.NotIn] [b] pos) (tTest (tDNotIn ta tb)) (pT (p2 (pInK true) p q)) := ⟨ha.hK, pt_cmp (pc_dnotin hu ha.pe hb.pe) hm, rd_T fun F H σ st DQ Q ok e hp k => (rd_notinK ha.rd hb.rd) F H σ st DQ Q ok e hp fun d v F' H' w r q => k d v F' H' w (.of w.fh r) q⟩
theorem det_inK {neg : Bool} {st : DS} {x : D} {k : Key} {kvs : List (Key × D)} (h : Det p st x) (g : Det q st (.dct kvs)) (hk : toKey x = some k) : Det (p2 (pInK neg) p q) st (.bl (if neg then !(valD kvs k).isSome else (valD kvs k).isSome)) := fun R hR => h _ (g _ (by
  unfold pInK
  rw [hk]
  exact hR))
/-! d[k] -/
def pGetK : D → D → (D → Prop) → Prop := fun x y Q => match x, toKey y with
  | .dct kvs, some k => ∃ d, valD kvs k = some d ∧ Q d
  | _, _ => False
theorem simD_getK (hu : X.A.units + 1 < cLine) (ha : SimR A X a ta p) (hb : SimR A X b tb q) (hs : NoSl b := by intro _ _; rfl) : SimD A X (.Subscript a b pos) (tDGet ta tb) (p2 pGetK p q) := ⟨ha.hK, pe_dget hu ha.pe hb.pe hs, fun F H σ st DQ Q ok w hp k =>
  ha.rd F H σ st _ _ ok w hp fun x v F1 H1 w1 rx hq => hb.rd F1 H1 σ st _ _ (ok.mono w1) (w.trans w1) hq fun y u F2 H2 w2 ry z => by
    have rx2 := rx.mono w2
    unfold pGetK at z
    split at z
    · rename_i kvs kk hk
      obtain ⟨d, hd, z⟩ := z
      obtain ⟨a, us, rfl, h1, h2, h3⟩ := rx2
      have hv := key_rep (ry.up w2.fh) hk
      subst hv
      rcases val_rep (k := kk) h2 h3 with ⟨g1, g2⟩ | ⟨v, d', g1, g2, r⟩
      · rw [g2] at hd; cases hd
      · rw [g2] at hd
        cases hd
        have := DGet.k (k := kk) h1
        rw [g1] at this
        exact ⟨a, v, rfl, this, k d v F2 H2 (w1.trans w2) r z⟩
    · exact z.elim⟩
theorem det_getK {st : DS} {x d : D} {k : Key} {kvs : List (Key × D)} (h : Det p st (.dct kvs)) (g : Det q st x) (hk : toKey x = some k) (hd : valD kvs k = some d) : Det (p2 pGetK p q) st d := fun R hR => h _ (g _ (by
  unfold pGetK
  rw [hk]
  exact ⟨d, hd, hR⟩))
/-! list(d) -/
def pKeysOf : D → (SV → Prop) → Prop
  | .dct kvs, Q => Q (.own (kvs.map fun p => keyD p.1))
  | _, _ => False
theorem reps_keys : ∀ {us : List (Key × V)} {kvs : List (Key × D)}, us.map (·.1) = kvs.map (·.1) → Reps K F (kvs.map fun p => keyD p.1) (us.map fun p => kV p.1)
  | [], [], _ => .nil
  | u :: us, [], e => by cases e
  | [], kv :: kvs, e => by cases e
  | (k1, u) :: us, (k2, d2) :: kvs, e => by
    simp only [List.map_cons, List.cons.injEq] at e
    obtain ⟨rfl, e⟩ := e
    exact .cons (keyD_rep k1) (reps_keys e)
theorem simS_keys {p0 : Pos} (hm : X.mg "list" = none) (h : SimR A X a ta p) (hc : X.calm = true := by rfl) (hg : Gl X "list" := by rfl)
    (he : starEach [a] X.env = (false, eval a X.env) :: starEach [] X.env := by rfl) (hpl : (backTo pos (starEach [] X.env)).any (·.1) = false := by rfl) : SimS A X (.Call (.Name "list" p0) [a] [] pos) (tCB rListKeys (tCons ta tNil)) (p1S pKeysOf p) :=
  ⟨h.hK, pe_callTy (call_list_keys hc) hg hm (by decide +kernel) (pa_cons h.pe pa_nil he) (by decide) (by decide) he hpl, fun F H σ st DQ Q ok w hp k => h.rd F H σ st _ _ ok w hp fun d v F1 H1 w1 rx z => by
    cases d <;> first | exact z.elim | skip
    obtain ⟨a, us, rfl, h1, h2, h3⟩ := rx
    exact ⟨a, us, rfl, h1, fun l hl => k _ _ F1 _ (w1.new hl) ((new_lst w1.fh hl (reps_keys h2)).back fun a h => same_none w1.hh h) z⟩⟩
theorem dets_keys {st : DS} {kvs : List (Key × D)} (h : Det p st (.dct kvs)) : DetS (p1S pKeysOf p) st (.own (kvs.map fun p => keyD p.1)) := fun R hR => h _ hR
/-! d[k] = v, d a name's own -/
def pPutK (i : Nat) (pk pv : PR) : PSt := fun E st => match st[i]? with
  | some (some (.ownK kvs)) => pv st fun v => pk st fun x => (match toKey x with | some k => kvs.length ≤ 100000 ∧ E.nx (st.set i (some (.ownK (putD kvs k v)))) | none => False)
  | _ => False
theorem simSt_putK (i : Nat) {x : Str} {p0 p1 : Pos} {ek ev : Expr} {tk tv : TE} {pk pv : PR} (hu : X.A.units + 1 < cLine) (hk : SimR A X ek tk pk) (hv' : SimD A X ev tv pv) (hN : X.N[i]? = some x := by rfl) (hv : Vis X.env.scope x := by first | exact Or.inl rfl | exact Or.inr (Or.inl rfl) | exact Or.inr (Or.inr rfl)) (hd : (x == ("__debug__" : Str)) = false := by decide)
    (hcd : (x == ("__classdict__" : Str)) = false := by decide) (hs : swapsWith ev (some (.Subscript (.Name x p0) ek p1)) pos.line X.env = pure false := by rfl) :
    SimSt A X (.Assign [.Subscript (.Name x p0) ek p1] ev pos) (sDPut (tVar i) tk tv) (pPutK i pk pv) := ⟨hk.hK, ps_dput hu (pe_var hN hv hd hcd) hk.pe hv'.pe hs, fun F H σ st DD E ok w c hp => by
  unfold pPutK at hp
  split at hp
  · rename_i kvs hst
    obtain ⟨v0, hv0, l, us, rfl, h1, h2, h3, h4, h5⟩ := ok.at_ i _ hst
    refine hv'.rd F H σ st _ _ ok w hp fun d v F1 H1 w1 rd z => ?_
    refine ⟨_, hv0, ?_⟩
    refine hk.rd F1 H1 σ st _ _ (ok.mono w1) (w.trans w1) z fun x u F2 H2 w2 rx z => ?_
    split at z
    · rename_i kk hkk
      have hku := key_rep (rx.up w2.fh) hkk
      subst hku
      have w12 := w1.trans w2
      have a1 := w12.hh _ _ h1
      have a2 := w12.stay h2 h1
      have hl : us.length = kvs.length := by have := congrArg List.length h4; simpa using this
      refine ⟨l, _, rfl, DPut.k a1 (by rw [hl]; exact Nat.lt_of_le_of_lt z.1 (by rw [sizeLine_eq]; decide)), ?_⟩
      have pr := put_rep (k := kk) h4 (Reps.mono w12.ff _ _ h5) (Rep.mono w2.ff _ _ rd)
      refine c.nx F2 _ σ _ w12.ff (stok_write (ok.mono w12) hst rfl hv0 ?_) ((w.trans w12).write a2 h3) z.2
      exact ⟨l, _, rfl, upd_same, a2, h3, pr.1, pr.2⟩
    · exact z.elim
  · exact hp.elim⟩
theorem putK_at {i : Nat} {pk pv : PR} {E : DEnds} {st : DS} {kvs : List (Key × D)} {x v : D} {k : Key} (h : st[i]? = some (some (.ownK kvs))) (hl : kvs.length ≤ 100000) (hv : Det pv st v) (hk : Det pk st x) (hx : toKey x = some k) (kk : E.nx (st.set i (some (.ownK (putD kvs k v))))) : pPutK i pk pv E st := by
  unfold pPutK
  rw [h]
  refine hv _ (hk _ ?_)
  rw [hx]
  exact ⟨hl, kk⟩
theorem seq_putK {i : Nat} {pk pv : PR} {r : PSt} {E : DEnds} {st : DS} {kvs : List (Key × D)} {x v : D} {k : Key} (h : st[i]? = some (some (.ownK kvs))) (hl : kvs.length ≤ 100000) (hv : Det pv st v) (hk : Det pk st x) (hx : toKey x = some k) (kk : r E (st.set i (some (.ownK (putD kvs k v))))) : pSeq (pPutK i pk pv) r E st := putK_at (E := { E with nx := r E }) h hl hv hk hx kk
theorem detS_dict {st : DS} : DetS pDict0 st (.ownK []) := fun _ h => h
end
end Pu
/-! The pure layer, part X: str(n), split, xs[::-1], range(a, b), a module's tuple of texts, the keys of a dict that hold a text. -/
namespace Pu
open PySem L2
section
variable {A : Ax} {X : Cx} {K : PySem.W.Frag} {F H : Hp} {e a b : Expr} {te ta tb : TE} {pe p q : PR} {pos : Pos}
/-! str(n) of one sign -/
def pStr : D → (D → Prop) → Prop
  | .int i, Q => 0 ≤ i ∧ i ≤ 9 ∧ Q (.str [48 + i.toNat])
  | _, _ => False
def rStrI : List V → Hp → VK → Prop := fun xs H Q => ∃ i : Int, xs = [.int i] ∧ i.natAbs.log2 < 1920 ∧ Q (.str (toString i)) H
theorem digit_S : ∀ n : Nat, n ≤ 9 → (Str.ofString (toString ((n : Nat) : Int)) : Str) = S [48 + n] ∧ n.log2 < 1920 := by
  intro n hn
  have : ∀ n : Nat, n < 10 → (Str.ofString (toString ((n : Nat) : Int)) : Str) = S [48 + n] ∧ n.log2 < 1920 := by decide +kernel
  exact this n (by omega)
theorem op1_str : Op1 K rStrI pStr := fun F H x v DQ Q e rx h k => by
  cases x <;> first | exact h.elim | skip
  cases rx
  rename_i i
  obtain ⟨h0, h9, h⟩ := h
  obtain ⟨n, rfl⟩ : ∃ n : Nat, i = (n : Int) := ⟨i.toNat, by omega⟩
  obtain ⟨e1, e2⟩ := digit_S n (by omega)
  refine ⟨(n : Int), rfl, by simpa using e2, ?_⟩
  show Q (.str (Str.ofString (toString ((n : Nat) : Int)))) H
  rw [e1]
  rw [Int.toNat_natCast] at h
  exact k _ _ (.str _) h
theorem B_str : FnB (.type "str") (fun _ => rStrI) pStr := ⟨fun X hc => call_str_int, fun K => op1_str⟩
theorem det_str {st : DS} {n : Nat} (h : Det p st (.int (n : Int))) (hn : n ≤ 9) : Det (p1 pStr p) st (.str [48 + n]) := fun R hR => h _ ⟨by omega, by omega, by rw [Int.toNat_natCast]; exact hR⟩
/-! z.split(c) -/
def splitM (c : Nat) (z : List Nat) : List (List Nat) := TL.spl [c] 0 [] z
def pSplit (c : Nat) (p : PR) : PS_ := fun st Q => p st fun d => match d with
  | .str z => z.length ≤ 50000 ∧ Q (.own ((splitM c z).map .str))
  | _ => False
theorem split_S (c : Nat) (z : List Nat) (hc : c < 256) : Txt.split (S z) (S [c]) = (splitM c z).map S := by
  have h := TL.split_spl (S z) (S [c]) (by simp) (TL.kind_ok (by simp; exact hc))
  have e1 : TL.tl (S [c]) = [c] := by simp
  have e2 : TL.tl (S z) = z := by simp
  rw [e1, e2] at h
  unfold splitM
  rw [← h, List.map_map]
  conv => lhs; rw [← List.map_id (Txt.split (S z) (S [c]))]
  apply List.map_congr_left
  intro y _
  show y = (⟨y.cps.toList.toArray⟩ : Str)
  simp
theorem simS_split (c : Nat) {x : Str} {j : Nat} {p1 apos : Pos} (ha : SimR A X a ta p) (hx : x = S [c] := by first | rfl | decide +kernel) (hc : c < 256 := by decide) (hs : starEach [.Constant (.str x) j p1] X.env = [(false, eval (.Constant (.str x) j p1) X.env)] := by rfl) (hbase : attributeBase a "split" X.env (eval a X.env) = eval a X.env := by rfl) (hline : (apos.endLine == pos.line) = true := by rfl) :
    SimS A X (.Call (.Attribute a "split" apos) [.Constant (.str x) j p1] [] pos) (tM1 (fun x xs H Q => ∃ a b, x = .str a ∧ xs = [.str b] ∧ (b.length == 0) = false ∧ a.length + 2 ≤ sizeLine ∧ rNewStrs (Txt.split a b) H Q) ta (tC (.str x))) (pSplit c p) :=
  ⟨ha.hK, pe_split ha.pe pe_str hs hbase hline, fun F H σ st DQ Q ok w hp k => ha.rd F H σ st _ _ ok w hp fun d v F1 H1 w1 rx z => by
    subst hx
    cases d <;> first | exact z.elim | skip
    cases rx
    rename_i z'
    refine ⟨⟨_, rfl⟩, S z', S [c], rfl, rfl, by rw [str_len]; rfl, by rw [str_len]; have := z.1; rw [sizeLine_eq]; omega, fun l hl => ?_⟩
    rw [split_S c z' hc, List.map_map]
    exact k _ _ F1 _ (w1.new hl) ((new_lst w1.fh hl (strs_reps (splitM c z'))).back fun a h => same_none w1.hh h) z.2⟩
theorem dets_split {st : DS} {c : Nat} {z : List Nat} (h : Det p st (.str z)) (hz : z.length ≤ 50000) : DetS (pSplit c p) st (.own ((splitM c z).map .str)) := fun R hR => h _ ⟨hz, hR⟩
/-! xs[::-1] -/
def pRev : D → (SV → Prop) → Prop
  | .lst ds, Q => Q (.own ds.reverse)
  | _, _ => False
theorem simS_rev {k : Nat} {p1 p2 p3 : Pos} (h : SimR A X e te p) : SimS A X (.Subscript e (.Slice none none (some (.UnaryOp .USub (.Constant (.int 1) k p1) p2)) p3) pos) (tRevL A.K te) (p1S pRev p) :=
  ⟨h.hK, h.hK ▸ pe_revL h.pe, fun F H σ st DQ Q ok w hp k => h.rd F H σ st _ _ ok w hp fun d v F1 H1 w1 rx z => by
    cases d <;> first | exact z.elim | skip
    obtain ⟨a, vs, rfl, h1, h2⟩ := rx
    exact ⟨a, vs, rfl, .inl h1, fun l hl => k _ _ F1 _ (w1.new hl) ((new_lst w1.fh hl h2.rev).back fun a h => same_none w1.hh h) z⟩⟩
theorem dets_rev {st : DS} {ds : List D} (h : Det p st (.lst ds)) : DetS (p1S pRev p) st (.own ds.reverse) := fun R hR => h _ hR
/-! range(a, b) -/
theorem simIf_rng2 {tg : Expr} {pp : Pos} (ha : SimR A X a ta p) (hb : SimR A X b tb q) (hm : X.mg "range" = none) (hg : Gl X "range" := by rfl) (hs : starEach [a, b] X.env = [(false, eval a X.env), (false, eval b X.env)] := by rfl) (hs2 : starEach [b] X.env = [(false, eval b X.env)] := by rfl) :
    SimIf A X tg (.Call (.Name "range" pp) [a, b] [] pos) (iRng2 (tCons ta (tCons tb tNil))) (pRng2 p q) :=
  ⟨ha.hK, pi_range2 hg hm (pa_cons ha.pe (pa_cons hb.pe pa_nil (by rw [hs2]; rfl)) (by rw [hs, hs2])) hs hs2, fun F H σ st DQ R ok s hp k => ha.rd F H σ st _ _ ok s hp fun x v F1 H1 w1 rx hq => hb.rd F1 H1 σ st _ _ (ok.mono w1) (s.trans w1) hq fun y u F2 H2 w2 ry z => by
    have rx2 := rx.mono w2
    cases x <;> cases y <;> first | exact z.elim | skip
    cases ry
    cases rx2
    obtain ⟨⟨a1, a2⟩, ⟨b1, b2⟩, z⟩ := z
    exact ⟨_, _, rfl, ⟨a1, a2, b1, b2⟩, k _ _ _ F2 H2 (w1.trans w2) itw_range (fun _ _ _ _ => trivial) z⟩⟩
theorem detI_rng2 {st : DS} {lo hi : Nat} (h : Det p st (.int (lo : Int))) (g : Det q st (.int (hi : Int))) (hh : hi < 2 ^ 40) (hl : lo ≤ hi) : DetI (pRng2 p q) st ((List.range (hi - lo)).map fun i => .int ((lo + i : Nat) : Int)) := fun R hR => h _ (g _ ⟨⟨by omega, by omega⟩, ⟨by omega, by omega⟩, by
  have e : ((hi : Int) - (lo : Int)).toNat = hi - lo := by omega
  rw [e]
  unfold upto
  have : (List.map (fun (i : Nat) => D.int ((lo : Int) + (i : Int))) (List.range (hi - lo))) = (List.range (hi - lo)).map fun i => .int ((lo + i : Nat) : Int) := by
    apply List.map_congr_left
    intro i _
    simp
  rw [this]
  exact hR⟩)
/-! a tuple of texts of the module's -/
structure GTup (K : PySem.W.Frag) (mg : Str → Option Value) (x : Str) (zs : List (List Nat)) : Prop where
  gm : mg x = some (.ref (clsA K x))
  lk : ∃ (o : Obj) (its : Array Value) (n : Nat), K.lookup (clsA K x) = some o ∧ o.cls = .type "tuple" ∧ o.data = .seq its n ∧ its.size ≤ sizeLine ∧ Vals (zs.map fun z => V.str (S z)) its.toList
theorem simD_gtup {zs : List (List Nat)} {x : Str} (hm : GTup X.K X.mg x zs) (hg : Gl X x := by rfl) (hd : (x == ("__debug__" : Str)) = false := by decide) (hK : X.K = A.K := by rfl) : SimD A X (.Name x pos) (tC (.ref (clsA X.K x))) (pC (.tup (zs.map .str))) := by
  obtain ⟨o, its, n, h2, h3, h4, h5, h6⟩ := hm.lk
  exact ⟨hK, pe_glob hg hm.gm rfl hd, rd_c fun F => .tup (.inr ⟨o, its, n, hK ▸ h2, h3, h4, h5, h6⟩) (strs_reps zs)⟩
/-! the keys of a name's own dict that hold the text c -/
def isT (c : List Nat) : D → Bool
  | .str w => decide (w = c)
  | _ => false
def pKeysEq (i j : Nat) (c : List Nat) : PS_ := fun st Q => match st[i]? with
  | some (some (.ownK kvs)) => j < st.length ∧ (kvs.map (·.1)).Nodup ∧ (∀ p ∈ kvs, ∃ w, p.2 = .str w) ∧ kvs.length ≤ 1000 ∧ Q (.own ((kvs.filter fun p => isT c p.2).map fun p => keyD p.1))
  | _ => False
theorem val_at {us : List (Key × V)} : ∀ {i : Nat} {k : Key} {u : V}, (us.map (·.1)).Nodup → us[i]? = some (k, u) → valV us k = some u := by
  induction us with
  | nil => intro i k u _ h; simp at h
  | cons p us ih =>
    intro i k u nd h
    rw [List.map_cons, List.nodup_cons] at nd
    unfold valV
    cases i with
    | zero =>
      simp at h
      subst h
      simp
    | succ i =>
      simp at h
      have hk : k ∈ us.map (·.1) := List.mem_map.mpr ⟨(k, u), List.mem_of_getElem? h, rfl⟩
      have hne : ¬ p.1 = k := fun z => nd.1 (z ▸ hk)
      have := ih nd.2 h
      unfold valV at this
      simpa [List.find?_cons, hne] using this
theorem keys_core {σ : L2.St} {F H0 : Hp} {i j : Nat} {l : Addr} {od : Obj} {us : List (Key × V)} {kvs : List (Key × D)} {c : List Nat} {x : Str} {QQ : VK} (hx : x = S c) (hij : i ≠ j) (hjl : j < σ.length) (hv : σ[i]? = some (some (V.ref l))) (hl : H0 l = some (.frz od (.dK us))) (hn : us.length ≤ 1000) (nd : (kvs.map (·.1)).Nodup)
    (h4 : us.map (·.1) = kvs.map (·.1)) (h5 : Reps K F (kvs.map (·.2)) (us.map (·.2))) (hs : ∀ p ∈ kvs, ∃ w, p.2 = .str w)
    (k : ∀ Dl H' vs, H0 Dl = none → H' Dl = some (.lst vs) → Reps K F ((kvs.filter fun p => isT c p.2).map fun p => keyD p.1) vs → (∀ a o, a ≠ Dl → H0 a = some o → H' a = some o) → QQ (.ref Dl) H') :
    tLc (iKeys (tVar i)) (gName j) (tTest (tOp (rEqA K) (tDGet (tVar i) (tVar j)) (tC (.str x)))) (tVar j) [j] σ H0 QQ := by
  refine ⟨_, hv, l, od, rfl, .inl ⟨us, hl, fun Dl hD => ?_⟩⟩
  have hDl : Dl ≠ l := fun z => by subst z; rw [hl] at hD; cases hD
  refine lc_it (w := (⟨fun i H hi g => ⟨g, hi⟩, fun H g => ⟨g, Nat.le_refl _⟩, fun _ _ _ _ _ _ y => y⟩ : Walk (Itk l od us) us.length (fun H => H l = some (.frz od (.dK us))) (Itk l od us).yld))
    (fun m H' => ∃ vs, H' Dl = some (.lst vs) ∧ vs.length ≤ m ∧ Reps K F (((kvs.take m).filter fun p => isT c p.2).map fun p => keyD p.1) vs ∧ ∀ a o, a ≠ Dl → H0 a = some o → H' a = some o) ?_ ?_ ?_ ?_
  · exact ⟨[], upd_same, Nat.le_refl _, .nil, fun a o ne e => by rw [upd_ne ne]; exact e⟩
  · rintro m H' _ ⟨vs, _, _, _, g⟩
    exact g l _ (Ne.symm hDl) hl
  · rintro m y H2 H3 hm ⟨vs, g1, g2, g3, g4⟩ ⟨rfl, kk, u, hku, rfl⟩
    have hl2 := g4 l _ (Ne.symm hDl) hl
    have hk2 : (kvs.map (·.1))[m]? = some kk := by rw [← h4, List.getElem?_map, hku]; rfl
    rw [List.getElem?_map] at hk2
    obtain ⟨⟨kk', d⟩, hkd, ek⟩ := Option.map_eq_some_iff.mp hk2
    have ek' : kk = kk' := ek.symm
    subst ek'
    have ru : Rep K F d u := by
      obtain ⟨u', hu', r⟩ := h5.get (i := m) (a := d) (by rw [List.getElem?_map, hkd]; rfl)
      rw [List.getElem?_map, hku] at hu'
      cases hu'
      exact r
    obtain ⟨w, hw⟩ := hs _ (List.mem_of_getElem? hkd)
    dsimp only at hw
    subst hw
    cases ru
    have hwi : (wipe σ [j])[i]? = some (some (V.ref l)) := by
      rw [wipe_at, if_neg (by simp; intro z; exact absurd z hij)]
      exact hv
    have hσi : ((wipe σ [j]).set j (some (kV kk)))[i]? = some (some (V.ref l)) := by rw [List.getElem?_set_ne (Ne.symm hij)]; exact hwi
    have hσj : ((wipe σ [j]).set j (some (kV kk)))[j]? = some (some (kV kk)) := List.getElem?_set_self (by rw [wipe_length]; exact hjl)
    refine ⟨wipe_back (by rw [List.length_set, wipe_length]) fun m hm => List.getElem?_set_ne (by simp at hm; exact Ne.symm hm), ?_⟩
    have nd' : (us.map (·.1)).Nodup := by rw [h4]; exact nd
    refine ⟨_, hσi, _, hσj, l, .str (S w), rfl, .inl ⟨us, kk, .inr ⟨od, hl2⟩, rfl, (val_at nd' hku).symm⟩, ?_⟩
    refine .inl ⟨rfl, _, rfl, ?_⟩
    subst hx
    rw [dec_vstr]
    have etake : kvs.take (m + 1) = kvs.take m ++ [(kk, .str w)] := by rw [List.take_add_one, hkd]; rfl
    by_cases z : w = c
    · rw [if_pos (by simpa using z)]
      refine ⟨_, hσj, vs, g1, by have := (List.getElem?_eq_some_iff.mp hku).1; exact line_lt (by omega), ?_⟩
      refine ⟨vs ++ [kV kk], upd_same, by rw [List.length_append, List.length_singleton]; omega, ?_, fun a o ne e => by rw [upd_ne ne]; exact g4 a o ne e⟩
      rw [etake, List.filter_append, List.map_append]
      refine g3.app ?_
      rw [show [(kk, D.str w)].filter (fun p => isT c p.2) = [(kk, D.str w)] by simp [isT, z]]
      exact .cons (keyD_rep kk) .nil
    · rw [if_neg (by simpa using z)]
      refine ⟨vs, g1, by omega, ?_, g4⟩
      rw [etake, List.filter_append, show [(kk, D.str w)].filter (fun p => isT c p.2) = [] by simp [isT, z], List.append_nil]
      exact g3
  · rintro H' ⟨vs, g1, g2, g3, g4⟩
    have hlen : us.length = kvs.length := by have := congrArg List.length h4; simpa using this
    rw [hlen, List.take_length] at g3
    exact k Dl H' vs hD g1 g3 g4
/-- what is left behind, the dict free again -/
theorem keys_left {N F H H' : Hp} {l Dl : Addr} {od : Obj} {us : List (Key × V)} {vs : List V} {ds : List D} (s : Same F H) (h1 : H l = some (.dK us)) (h2 : F l = none) (hD : (upd H l (.frz od (.dK us))) Dl = none) (g1 : H' Dl = some (.lst vs)) (g3 : Reps K F ds vs) (g4 : ∀ a o, a ≠ Dl → (upd H l (.frz od (.dK us))) a = some o → H' a = some o) :
    H' l = some (.frz od (.dK us)) ∧ Wld F H F (upd H' l (.dK us)) ∧ RepS K H F (upd H' l (.dK us)) (.own ds) (.ref Dl) := by
  have ne : Dl ≠ l := fun z => by subst z; rw [upd_same] at hD; cases hD
  have hD' : H Dl = none := by rw [upd_ne ne] at hD; exact hD
  refine ⟨g4 l _ (Ne.symm ne) upd_same, ⟨Same.refl _, fun a o e => ?_, fun a o e => ?_, fun _ _ h => .inl h⟩, ⟨Dl, vs, rfl, by rw [upd_ne ne]; exact g1, s.free hD', hD', g3⟩⟩
  · by_cases z : a = l
    · subst z; rw [h1] at e; cases e; exact upd_same
    · rw [upd_ne z]
      exact g4 a o (fun y => by rw [y, hD'] at e; cases e) (by rw [upd_ne z]; exact e)
  · have z : a ≠ l := fun y => by rw [y, h2] at e; cases e
    have e2 := s _ _ e
    rw [upd_ne z]
    exact g4 a o (fun y => by rw [y, hD'] at e2; cases e2) (by rw [upd_ne z]; exact e2)
theorem rd_keysEq {i j : Nat} {c : List Nat} {x : Str} (hx : x = S c) (hij : i ≠ j) :
    RdS A (tLockE (tLc (iKeys (tVar i)) (gName j) (tTest (tOp (rEqA A.K) (tDGet (tVar i) (tVar j)) (tC (.str x)))) (tVar j) [j])) (pKeysEq i j c) := fun F H σ st DQ Q ok w hp kk => by
  unfold pKeysEq at hp
  split at hp
  · rename_i kvs hs
    obtain ⟨hst, nd, hw, hl, hp⟩ := hp
    obtain ⟨v, hv, l, us, rfl, h1, h2, h3, h4, h5⟩ := ok.at_ i _ hs
    have hlen : us.length = kvs.length := by have := congrArg List.length h4; simpa using this
    refine ⟨l, .dK us, h1, trivial, fun od => ?_⟩
    refine keys_core (F := F) hx hij (by rw [← ok.len]; exact hst) hv upd_same (by omega) nd h4 h5 hw fun Dl H' vs hD g1 g3 g4 => ?_
    obtain ⟨q1, q2, q3⟩ := keys_left (N := A.N) w.fh h1 h2 hD g1 g3 g4
    exact ⟨q1, kk _ _ F _ q2 q3 hp⟩
  · exact hp.elim
/-- .. given to a name -/
theorem rd_setKeysEq {i j m : Nat} {c : List Nat} {x : Str} (hx : x = S c) (hij : i ≠ j) : RdSt A (tLock (tAsg (tLc (iKeys (tVar i)) (gName j) (tTest (tOp (rEqA A.K) (tDGet (tVar i) (tVar j)) (tC (.str x)))) (tVar j) [j]) (gName m))) (pSet m (pKeysEq i j c)) := fun F H σ st DD E ok w cc hp => by
  have hp' : pKeysEq i j c st fun s => DD.nx (st.set m (some s)) := hp
  unfold pKeysEq at hp'
  split at hp'
  · rename_i kvs hs
    obtain ⟨hst, nd, hw, hl, hp2⟩ := hp'
    obtain ⟨v, hv, l, us, rfl, h1, h2, h3, h4, h5⟩ := ok.at_ i _ hs
    have hlen : us.length = kvs.length := by have := congrArg List.length h4; simpa using this
    refine ⟨l, .dK us, h1, trivial, fun od => ?_⟩
    refine keys_core (F := F) hx hij (by rw [← ok.len]; exact hst) hv upd_same (by omega) nd h4 h5 hw fun Dl H' vs hD g1 g3 g4 => ?_
    obtain ⟨q1, q2, q3⟩ := keys_left (N := A.N) w.fh h1 h2 hD g1 g3 g4
    exact ⟨q1, cc.nx F _ _ _ q2.ff (put_new ok w q2 q3) (w.trans q2) hp2⟩
  · exact hp'.elim
section
variable {x y cst : Str} {c : List Nat} {i j m : Nat} {scope : Scope} {p1 p2 p3 p4 p5 p6 p7 py spos : Pos} {jj : Nat}
theorem simS_keysEq (i j : Nat) (c : List Nat) (hc : X.calm = true) (hN : X.N.Nodup) (ok : BlkOk X.N X.env.scope scope [(y, j)]) (hu : X.A.units + 64 < cLine) (hij : i ≠ j := by decide) (hx : cst = S c := by first | rfl | decide +kernel) (hi : X.N[i]? = some x := by rfl) (hj : X.N[j]? = some y := by rfl) (hv : Vis X.env.scope x := by first | exact Or.inl rfl | exact Or.inr (Or.inl rfl) | exact Or.inr (Or.inr rfl)) (hd : (x == ("__debug__" : Str)) = false := by decide) (hcd : (x == ("__classdict__" : Str)) = false := by decide)
    (hg : ∀ (s : Shared) (H : Hp) (C : Addr) (cl : List (Str × Addr)) (fp : List Addr), PG (X.blk s H scope (compEnvC scope cl C X.env) fp) (.Name y p2) (gName j))
    (ht : ∀ (s : Shared) (H : Hp) (C : Addr) (cl : List (Str × Addr)) (fp : List Addr), PTs (X.blk s H scope (compEnvC scope cl C X.env) fp) [.Compare (.Subscript (.Name x p4) (.Name y p5) p6) [.Eq] [.Constant (.str cst) jj p7] py] (tTest (tOp (rEqA X.K) (tDGet (tVar i) (tVar j)) (tC (.str cst)))))
    (he : ∀ (s : Shared) (H : Hp) (C : Addr) (cl : List (Str × Addr)) (fp : List Addr), PE (X.blk s H scope (compEnvC scope cl C X.env) fp) (.Name y p1) (tVar j)) (hs : ∀ z, foldedSetIterable (.Name x p3) X.env z = pure z := by intro _; rfl) (hK : X.K = A.K := by rfl) :
    SimS A X (.ListComp (.Name y p1) [⟨.Name y p2, .Name x p3, [.Compare (.Subscript (.Name x p4) (.Name y p5) p6) [.Eq] [.Constant (.str cst) jj p7] py], 0⟩] scope spos) (tLockE (tLc (iKeys (tVar i)) (gName j) (tTest (tOp (rEqA A.K) (tDGet (tVar i) (tVar j)) (tC (.str cst)))) (tVar j) [j])) (pKeysEq i j c) :=
  ⟨hK, pe_lock (pe_lc (own := [(y, j)]) hc hN (pi_keys (pe_var hi hv hd hcd)) ok hg (hK ▸ ht) he hs), rd_keysEq hx hij⟩
theorem sim_setKeysEq (m i j : Nat) (c : List Nat) {z : Str} {pz pos' : Pos} (hc : X.calm = true) (hN : X.N.Nodup) (ok : BlkOk X.N X.env.scope scope [(y, j)]) (hu : X.A.units + 64 < cLine) (hsw : swapsWith (.ListComp (.Name y p1) [⟨.Name y p2, .Name x p3, [.Compare (.Subscript (.Name x p4) (.Name y p5) p6) [.Eq] [.Constant (.str cst) jj p7] py], 0⟩] scope spos) (some (.Name z pz)) pos'.line X.env = pure true)
    (hg : ∀ (s : Shared) (H : Hp) (C : Addr) (cl : List (Str × Addr)) (fp : List Addr), PG (X.blk s H scope (compEnvC scope cl C X.env) fp) (.Name y p2) (gName j))
    (ht : ∀ (s : Shared) (H : Hp) (C : Addr) (cl : List (Str × Addr)) (fp : List Addr), PTs (X.blk s H scope (compEnvC scope cl C X.env) fp) [.Compare (.Subscript (.Name x p4) (.Name y p5) p6) [.Eq] [.Constant (.str cst) jj p7] py] (tTest (tOp (rEqA X.K) (tDGet (tVar i) (tVar j)) (tC (.str cst)))))
    (he : ∀ (s : Shared) (H : Hp) (C : Addr) (cl : List (Str × Addr)) (fp : List Addr), PE (X.blk s H scope (compEnvC scope cl C X.env) fp) (.Name y p1) (tVar j))
    (hij : i ≠ j := by decide) (hx : cst = S c := by first | rfl | decide +kernel) (hi : X.N[i]? = some x := by rfl) (hj : X.N[j]? = some y := by rfl) (hz : X.N[m]? = some z := by rfl) (hzl : X.env.scope.names.lookup z = some .local := by rfl) (hv : Vis X.env.scope x := by first | exact Or.inl rfl | exact Or.inr (Or.inl rfl) | exact Or.inr (Or.inr rfl)) (hd : (x == ("__debug__" : Str)) = false := by decide) (hcd : (x == ("__classdict__" : Str)) = false := by decide)
    (hs : ∀ z, foldedSetIterable (.Name x p3) X.env z = pure z := by intro _; rfl) (hK : X.K = A.K := by rfl) :
    SimSt A X (.Assign [.Name z pz] (.ListComp (.Name y p1) [⟨.Name y p2, .Name x p3, [.Compare (.Subscript (.Name x p4) (.Name y p5) p6) [.Eq] [.Constant (.str cst) jj p7] py], 0⟩] scope spos) pos') (tLock (tAsg (tLc (iKeys (tVar i)) (gName j) (tTest (tOp (rEqA A.K) (tDGet (tVar i) (tVar j)) (tC (.str cst)))) (tVar j) [j]) (gName m))) (pSet m (pKeysEq i j c)) :=
  ⟨hK, ps_lock (ps_setLc (own := [(y, j)]) hc hN hz hzl hsw (pi_keys (pe_var hi hv hd hcd)) ok hg (hK ▸ ht) he hs), rd_setKeysEq hx hij⟩
end
theorem dets_keysEq {i j : Nat} {c : List Nat} {st : DS} {kvs : List (Key × D)} (h : st[i]? = some (some (.ownK kvs))) (hj : j < st.length) (nd : (kvs.map (·.1)).Nodup) (hw : ∀ p ∈ kvs, ∃ w, p.2 = .str w) (hl : kvs.length ≤ 1000) : DetS (pKeysEq i j c) st (.own ((kvs.filter fun p => isT c p.2).map fun p => keyD p.1)) := fun R hR => by
  unfold pKeysEq
  rw [h]
  exact ⟨hj, nd, hw, hl, hR⟩
end
end Pu
/-! The pure layer, part Y: sorted and min by a bound method as key. -/
namespace Pu
open PySem L2 PyProof.Rows
section
variable {X : Cx} {pins : List (Addr × Obj)} {σ : L2.St} {H : Hp} {s : Shared} {n : Nat} {h' : Heap} {t' : Nat}
/-- the key's call, from any state that is ours and knows what H0 knows -/
def KeyAt (X : Cx) (n : Nat) (σ : L2.St) (H0 : Hp) (q : Addr) (kf : Int → Int) (ns : List Int) : Prop :=
  ∀ (A : Around) (pins : List (Addr × Obj)) (s : Shared) (H : Hp) (i : Int) (t : Tok), Sub X n A → Same H0 H → i ∈ ns → Inv X pins σ H s →
    wpAny (model X.prog X.w) A (call (.ref q) [.int i t]) (fun u s' => ∃ H' t', Inv X pins σ H' s' ∧ Same H H' ∧ u = .int (kf i) t') (fun _ _ => False) s
/-- what FpOk says beside the heap -/
def FpS (X : Cx) (pins : List (Addr × Obj)) (b : Addr) : Prop := b ≠ X.env.locals ∧ b ∉ X.fs ∧ (b ∈ X.ex ∨ X.s_0.heap.objs.size ≤ b) ∧ (∀ x c, X.env.cells.lookup x = some c → c ≠ b) ∧ ∀ p ∈ X.pn ++ pins, p.1 ≠ b
theorem fps_new (I : Inv X pins σ H s) {b : Addr} (hb : s.heap.objs.size ≤ b) : FpS X pins b := (I.fpOk (H' := H) hb (I.hok.fresh hb)).2
theorem FpS.ok {b : Addr} (f : FpS X pins b) (n : H b = none) : FpOk X pins H b := ⟨n, f⟩
theorem FpS.cons {a b : Addr} {o : Obj} (f : FpS X pins b) (h : a ≠ b) : FpS X ((a, o) :: pins) b := ⟨f.1, f.2.1, f.2.2.1, f.2.2.2.1, fun p hp => by
  rcases List.mem_append.mp hp with z | z
  · exact f.2.2.2.2 p (List.mem_append_left _ z)
  · rcases List.mem_cons.mp z with rfl | z
    · exact h
    · exact f.2.2.2.2 p (List.mem_append_right _ z)⟩
theorem FpS.base (I : Inv X pins σ H s) {b : Addr} (f : FpS X pins b) : X.base.get? b = none := by
  cases e : X.base.get? b with
  | none => rfl
  | some o =>
    rcases f.2.2.1 with z | z
    · exact absurd z (I.ok.noex b o e)
    · have := Heap.lt_size (I.ok.bs b o e).1
      exact absurd (Nat.lt_of_lt_of_le this z) (Nat.lt_irrefl _)
theorem inv_unpin {p : Addr × Obj} (I : Inv X (p :: pins) σ H s) : Inv X pins σ H s := I.pins_of fun q hq => I.pin q (List.mem_append_right _ (List.mem_cons_of_mem _ hq))
theorem inv_pin {b : Addr} {o : Obj} (I : Inv X pins σ H s) (e : s.heap.get? b = some o) (hn : H b = none) (f : FpS X pins b) (hd : ∀ v, o.data ≠ .cell v) : Inv X ((b, o) :: pins) σ H s := I.pins_of fun p hp => by
  rcases List.mem_cons.mp hp with rfl | hp
  · exact ⟨e, hn, f.1, f.2.1, hd⟩
  · exact I.pin p (List.mem_append_right _ hp)
/-- a pinned record is written -/
theorem inv_repin {b : Addr} {o o' : Obj} (I : Inv X ((b, o) :: pins) σ H s) (f : FpS X pins b) (k : ∀ c u, c ≠ b → s.heap.get? c = some u → h'.get? c = some u) (e : h'.get? b = some o') (hd : ∀ v, o'.data ≠ .cell v) :
    Inv X ((b, o') :: pins) σ H { s with heap := h', toks := t' } := by
  have hn : H b = none := (I.pin (b, o) (List.mem_append_right _ List.mem_cons_self)).2.1
  have I1 := (inv_unpin I).turnedL (ch := [b]) (h' := h') (t' := t') (fun c u hc q => k c u (fun z => hc (by simp [z])) q) (fun c hc => by
    have : c = b := by simpa using hc
    subst this
    exact f.ok hn)
  exact inv_pin I1 e hn f hd
/-- behind one of OpenK's rules that wrote the frame, kS and a: a is tracked from now on -/
theorem inv_two {kS a : Addr} {m : Str → Option Value} {o : HO} (I : Inv X pins σ H s) (F : Fr X.base X.env.locals s.heap m) (F' : Fr X.base X.env.locals h' m) (k : ∀ b u, b ≠ X.env.locals → b ≠ kS → b ≠ a → s.heap.get? b = some u → h'.get? b = some u)
    (fk : FpOk X pins H kS) (fa : FpOk X pins H a) (new : ObjOk X.prog X.w (upd H a o) h' a o) : Inv X pins σ (upd H a o) { s with heap := h', toks := t' } := by
  have ni : ∀ b u, H b = some u → b ≠ X.env.locals ∧ b ≠ kS ∧ b ≠ a := fun b u e => ⟨fun z => (by rw [z, I.free] at e; cases e), fun z => (by rw [z, fk.1] at e; cases e), fun z => (by rw [z, fa.1] at e; cases e)⟩
  have up : ∀ b u, H b = some u → upd H a o b = some u := fun b u e => by rw [upd_ne (ni b u e).2.2]; exact e
  refine I.step (g' := s.gens) (d' := s.drawn) (ch := [kS, a]) (fun b hb => ?_) (fun b ob hL _ hc e _ => k b ob hL (fun z => hc (by simp [z])) (fun z => hc (by simp [z])) e) (fun b ob hL _ hc e _ => ⟨ob.slots, k b ob hL (fun z => hc (by simp [z])) (fun z => hc (by simp [z])) e⟩)
    (fun b ob hc _ n => by rw [upd_ne (fun z => hc (by simp [z]))]; exact n) (fun b ob hc e => ?_) (fun b _ e => up b _ e) (fun b _ _ e => up b _ e) (fun b ps e => ⟨#[], by rw [up b _ e]; simp⟩) (fun m' hm => ?_) (fun b u e => ?_) I.bare
  · rcases List.mem_cons.mp hb with rfl | hb
    · exact ⟨fk.2.2.2.1, fk.2.1, fk.2.2.2.2.1, fk.2.2.2.2.2⟩
    · have e : b = a := by simpa using hb
      subst e
      exact ⟨fa.2.2.2.1, fa.2.1, fa.2.2.2.2.1, fa.2.2.2.2.2⟩
  · by_cases z : b = X.env.locals
    · obtain ⟨o2, _, _, ho2, _⟩ := F'.ns
      exact ⟨o2, by rw [z]; exact ho2⟩
    · exact ⟨ob, k b ob z (fun y => hc (by simp [y])) (fun y => hc (by simp [y])) e⟩
  · rw [SlX.ns_only hm F.ns]; exact F'.ns
  · by_cases hb : b = a
    · subst hb; rw [upd_same] at e; cases e; exact new
    · rw [upd_ne hb] at e
      refine (I.hok b u e).stay (fun c v hc q => ?_) (fun c q => up c _ q) fun c xs q => up c _ q
      have z : c ≠ X.env.locals ∧ c ≠ kS ∧ c ≠ a := by
        rcases hc with rfl | hc
        · exact ni _ _ e
        · exact ni _ _ hc
      exact k c v z.1 z.2.1 z.2.2 q
theorem vals_intsAre : ∀ {its : List Value} {ns : List Int}, IntsAre its ns → Vals (ns.map V.int) its
  | _, _, .nil => .nil
  | _, _, .cons n t h => .cons ⟨t, rfl⟩ (vals_intsAre h)
/-- what sort by keys gives, of ints -/
theorem ks_out {kf : Int → Int} {vs out : List Value} {ns : List Int} (hi : IntsAre vs ns) (ko : KskOutSt false (ns.map kf) vs out) :
    ∃ ns', IntsAre out ns' ∧ ns'.Perm ns ∧ ns'.Pairwise (fun x y => kf x ≤ kf y) ∧ ∀ z, ns'.filter (fun x => kf x == z) = ns.filter (fun x => kf x == z) := by
  have hlen := hi.length
  obtain ⟨ps, hp, ho, hs, hst⟩ := ko
  have hrel : ∀ p, p ∈ (ns.map kf).zip vs → p.1 = kf (numOf p.2) ∧ p.2 ∈ vs := by
    rw [← hi.nums, List.map_map, List.zip_map_left]
    intro p hp
    obtain ⟨⟨u, v⟩, hq, rfl⟩ := List.mem_map.mp hp
    have h1 : u = v ∧ u ∈ vs := mem_zip_self hq
    refine ⟨?_, ?_⟩
    · show kf (numOf u) = kf (numOf v)
      rw [h1.1]
    · show v ∈ vs
      rw [← h1.1]
      exact h1.2
  refine ⟨(ps.map Prod.snd).map numOf, ?_, ?_, ?_, fun z => ?_⟩
  · rw [ho]
    exact intsAre_map _ fun v hv => by
      obtain ⟨p, hp', rfl⟩ := List.mem_map.mp hv
      exact hi.all _ (hrel p (hp.mem_iff.mp hp')).2
  · have h1 := (hp.map Prod.snd).map numOf
    rw [List.map_snd_zip (by rw [List.length_map]; omega), hi.nums] at h1
    exact h1
  · rw [List.pairwise_map, List.pairwise_map]
    refine hs.imp_of_mem fun {p q} hp' hq' hr => ?_
    have hr' : p.1 ≤ q.1 := hr
    rw [(hrel p (hp.mem_iff.mp hp')).1, (hrel q (hp.mem_iff.mp hq')).1] at hr'
    exact hr'
  · have e1 : ∀ l : List (Int × Value), (∀ p, p ∈ l → p.1 = kf (numOf p.2)) →
        ((l.map Prod.snd).map numOf).filter (fun x => kf x == z) = ((l.filter (fun p => p.1 == z)).map Prod.snd).map numOf := by
      intro l hl
      rw [List.map_map, List.filter_map, List.map_map]
      congr 1
      refine List.filter_congr fun p hp' => ?_
      show (kf (numOf p.2) == z) = (p.1 == z)
      rw [hl p hp']
    rw [e1 ps (fun p hp' => (hrel p (hp.mem_iff.mp hp')).1), hst z, ← e1 ((ns.map kf).zip vs) (fun p hp' => (hrel p hp').1), List.map_snd_zip (by rw [List.length_map]; omega), hi.nums]
/-- sorted by kf, alike ones as they stood -/
def SortedK (kf : Int → Int) (ns ns' : List Int) : Prop := ns'.Perm ns ∧ ns'.Pairwise (fun x y => kf x ≤ kf y) ∧ ∀ z, ns'.filter (fun x => kf x == z) = ns.filter (fun x => kf x == z)
theorem key_rest {A : Around} {a kS q : Addr} {vs : List Value} {ns : List Int} {kf : Int → Int} {e1 : Nat} {E : Value → Shared → Prop} {P : PySem.Fin → Shared → Prop} (sb : Sub X n A) (hk : KeyAt X n σ H q kf ns) (fa : FpS X pins a) (fk : FpS X pins kS) (hka : kS ≠ a)
    (I : Inv X ((kS, seqObj "list" #[] 0) :: (a, seqObj "list" #[] e1) :: pins) σ H s) (hi : IntsAre vs ns) (hz : vs.length ≤ sizeLine)
    (h : ∀ H' s' ns', Inv X pins σ (upd H' a (.lst (ns'.map .int))) s' → H' a = none → Same H H' → SortedK kf ns ns' → P (.done (.ret .none)) s') :
    wpAny (model X.prog X.w) A (ksk_rest a (.ref q) false vs.toArray e1 (.ref kS)) P E s := by
  have hlen := hi.length
  have hz2 := hz
  rw [sizeLine_eq] at hz2
  have fk' : ∀ o, FpS X ((a, o) :: pins) kS := fun o => fk.cons (Ne.symm hka)
  unfold ksk_rest
  refine wpAny_bind (wpAny_rule ?_)
  first
    | rw [List.forIn_toArray]
    | (rw [← Array.forIn_toList]; simp only [List.toList_toArray])
    | rw [← Array.forIn_toList]
  refine wpAny_bind (ksk_fold (fun i s' => ∃ H' kA e, Inv X ((kS, seqObj "list" kA e) :: (a, seqObj "list" #[] e1) :: pins) σ H' s' ∧ Same H H' ∧ IntsAre kA.toList ((ns.map kf).take i)) vs 0 s
    ⟨H, #[], 0, I, Same.refl _, by simpa using IntsAre.nil⟩ ?step ?done)
  case step =>
    rintro j x s' hx ⟨H', kA, e, I', sm, hkA⟩
    simp only [Nat.zero_add] at hkA ⊢
    have hj : j < vs.length := (List.getElem?_eq_some_iff.mp hx).1
    obtain ⟨i, hin⟩ : ∃ i, ns[j]? = some i := ⟨_, List.getElem?_eq_getElem (by omega)⟩
    obtain ⟨t, ht⟩ := hi.get j i hin
    rw [hx] at ht
    cases ht
    have hkz : kA.size ≤ vs.length := by
      have h1 := hkA.length
      rw [Array.length_toList, List.length_take, List.length_map] at h1
      omega
    refine wpAny_bind (wpAny_attempt (wpAny_mono (hk A _ s' H' i t sb sm (List.mem_of_getElem? hin) I') (fun v s'' he => ?_) fun _ _ hF => hF.elim))
    obtain ⟨H2, t2, I2, sm2, rfl⟩ := he
    try dsimp only
    have nk := (I2.pin (kS, seqObj "list" kA e) (List.mem_append_right _ List.mem_cons_self)).1
    have s1 := Heap.SameBut.update s''.heap kS (Obj.mapSeq (·.push (.int (kf i) t2)))
    obtain ⟨c2, hc2⟩ : ∃ c2, (s''.heap.update kS (Obj.mapSeq (·.push (.int (kf i) t2)))).get? kS = some (seqObj "list" (kA.push (.int (kf i) t2)) c2) := ⟨_, get?_update_seq nk (·.push (.int (kf i) t2))⟩
    have ek : (ns.map kf).take (j + 1) = (ns.map kf).take j ++ [kf i] := by rw [List.take_add_one, List.getElem?_map, hin]; simp
    have ea : (kA.push (Value.int (kf i) t2)).toList = kA.toList ++ [Value.int (kf i) t2] := by simp
    refine wpAny_bind (listUpdate_at nk rfl ?_ (by rw [sizeLine_eq]; omega) (Nat.le_trans (Nat.le_of_eq (Array.size_push ..)) (by rw [sizeLine_eq]; omega)))
    exact wpAny_pure ⟨rfl, H2, kA.push (.int (kf i) t2), c2, inv_repin (t' := s''.toks) I2 (fk' _) (fun c u hc q => (s1.2 c hc).trans q) hc2 (fun v z => nomatch z), fun b o e => sm2 b o (sm b o e), by rw [ea, ek]; exact ksk_snoc hkA⟩
  case done =>
    rintro s' ⟨H', kA, e, I', sm, hkA⟩
    have hkA' : IntsAre kA.toList (ns.map kf) := by
      have e3 : (ns.map kf).take (0 + vs.length) = ns.map kf := List.take_of_length_le (by rw [List.length_map]; omega)
      rw [e3] at hkA
      exact hkA
    have nk := I'.pin (kS, seqObj "list" kA e) (List.mem_append_right _ List.mem_cons_self)
    have na := I'.pin (a, seqObj "list" #[] e1) (List.mem_append_right _ (List.mem_cons_of_mem _ List.mem_cons_self))
    try dsimp only
    refine wpAny_bind (listItems_at nk.1 rfl ?_)
    obtain ⟨m, F⟩ := I'.fr
    have I0 : Inv X pins σ H' s' := inv_unpin (inv_unpin I')
    refine ksk_end_St (e := e) (news := (allNews X.base s'.heap X.env.locals).filter fun p => decide (p.1 ≠ kS ∧ p.1 ≠ a)) F (fun p hp => ?_) hka (fun p hp => (of_decide_eq_true (List.mem_filter.mp hp).2).1) (fun p hp => (of_decide_eq_true (List.mem_filter.mp hp).2).2) hkA' (by rw [List.length_map]; omega) hz fun h3 tk3 out c F3 N3 k3 => ?_
    · rcases List.mem_append.mp hp with hp | hp
      · exact news_all p (List.mem_filter.mp hp).1
      · rcases List.mem_cons.mp hp with rfl | hp
        · exact ⟨nk.1, nk.2.2.1, FpS.base I0 fk⟩
        · rw [List.mem_singleton.mp hp]
          exact ⟨na.1, na.2.2.1, FpS.base I0 fa⟩
    · obtain ⟨ns', i1, i2, i3, i4⟩ := ks_out hi k3
      have hout : out.toList.toArray = out := Array.toArray_toList
      have hl' : (ns'.map V.int).length ≤ sizeLine := by rw [List.length_map, i2.length_eq]; omega
      refine h H' _ ns' (inv_two (t' := tk3) I0 F F3 (fun b u hL h1 h2 q => ?_) (fk.ok nk.2.1) (fa.ok na.2.1) ⟨hl', out.toList, c, vals_intsAre i1, ?_⟩) na.2.1 sm ⟨i2, i3, i4⟩
      · cases z : X.base.get? b with
        | some v =>
          have q2 := I0.bk b v z
          rw [q] at q2
          cases q2
          exact F3.keep b _ z
        | none => exact (N3 (b, u) (List.mem_cons_of_mem _ (List.mem_filter.mpr ⟨mem_allNews hL z q, decide_eq_true ⟨h1, h2⟩⟩))).1
      · rw [hout]
        exact (N3 _ List.mem_cons_self).1
/-- sorted(xs, key=o.m) -/
theorem sorted_key {l q : Addr} {ns : List Int} {kf : Int → Int} {Q : VK} (I : Inv X pins σ H s) (hs : SqL X.K H l (ns.map V.int)) (hk : KeyAt X n σ H q kf ns) (hr : Room (n + 2) X.A)
    (hQ : ∀ H' ns' p, Same H H' → H' p = none → SortedK kf ns ns' → Q (.ref p) (upd H' p (.lst (ns'.map V.int)))) :
    wpAny (model X.prog X.w) X.A (call (.builtin "sorted") [.ref l] [(Str.ofString "key", .ref q)]) (EP X pins σ Q) X.xe s := by
  obtain ⟨vs, rv, hl, hz⟩ := I.list hs
  have hi := rv.ints
  have hvl : vs.length ≤ sizeLine := by rw [← rv.length]; exact hz
  have sb : Sub X n X.A.in1.in1 := (Sub.in1 (Sub.in1 (⟨hr, rfl⟩ : Sub X (n + 2) X.A)))
  refine call_function_entry_kw kind_sorted plain_sorted entry_sorted (ksk_s1 _ _) ?_
  unfold Builtin.«sorted»
  refine wpAny_bind (m := checkCount "sorted" 1 1 _) (wpAny_pure ?_)
  refine wpAny_bind (collect_list hl.isList ?_ hvl)
  refine wpAny_bind (wpAny_newList ?_ hvl)
  have hsz : ((s.heap.push (seqObj "list" #[] 0)).update s.heap.objs.size (Obj.mapSeq (· ++ vs.toArray))).objs.size = s.heap.objs.size + 1 := by
    rw [Heap.size_update, size_push']
  have hoL : (((s.heap.push (seqObj "list" #[] 0)).update s.heap.objs.size (Obj.mapSeq (· ++ vs.toArray))).push (seqObj "list" vs.toArray 0)).get? (s.heap.objs.size + 1) = some (seqObj "list" vs.toArray 0) := by
    rw [← hsz]; exact Heap.get?_push_size _ rfl
  have keep : ∀ b o, s.heap.get? b = some o → (((s.heap.push (seqObj "list" #[] 0)).update s.heap.objs.size (Obj.mapSeq (· ++ vs.toArray))).push (seqObj "list" vs.toArray 0)).get? b = some o := fun b o q => by
    have hlt : b < s.heap.objs.size := Heap.lt_size q
    refine Heap.get?_push_of_some _ ?_
    rw [Heap.get?_update_ne _ _ _ _ (Nat.ne_of_lt hlt)]
    exact Heap.get?_push_of_some _ q
  show wpAny _ _ _ _ _ { s with heap := ((s.heap.push (seqObj "list" #[] 0)).update s.heap.objs.size (Obj.mapSeq (· ++ vs.toArray))).push (seqObj "list" vs.toArray 0) }
  rw [hsz]
  refine wpAny_bind (wpAny_holding (wpAny_call_entry_kw slot_list_sort ⟨_, hoL, rfl⟩ entry_list_sort ?body (ksk_l1 _ _)))
  case body =>
    generalize hh : ((s.heap.push (seqObj "list" #[] 0)).update s.heap.objs.size (Obj.mapSeq (· ++ vs.toArray))).push (seqObj "list" vs.toArray 0) = h1 at hoL keep ⊢
    have hs1 : h1.objs.size = s.heap.objs.size + 2 := by rw [← hh, size_push', hsz]
    show wpAny (model X.prog X.w) X.A.in1.in1 (Builtin.«list.sort» ⟨[.ref (s.heap.objs.size + 1)], [(Str.ofString "key", .ref q)]⟩) _ _ _
    rw [ksk_t1]
    unfold ksk_tree
    refine wpAny_bind (listItems_at hoL rfl ?_)
    refine wpAny_bind (listUpdate_at hoL rfl ?_ (by rw [List.size_toArray]; exact hvl) (Nat.zero_le _))
    obtain ⟨e1, ho1⟩ : ∃ e1, (h1.update (s.heap.objs.size + 1) (Obj.mapSeq fun _ => (#[] : Array Value))).get? (s.heap.objs.size + 1) = some (seqObj "list" #[] e1) := ⟨_, get?_update_seq hoL fun _ => #[]⟩
    refine wpAny_bind (seqEpoch_at ho1 rfl ?_)
    refine wpAny_bind (wpAny_newTuple ?_ (by show vs.length ≤ _; exact hvl))
    refine wpAny_bind (wpAny_newList ?_ (Nat.zero_le _))
    refine wpAny_holding ?_
    have hkS : ((h1.update (s.heap.objs.size + 1) (Obj.mapSeq fun _ => (#[] : Array Value))).push (seqObj "tuple" vs.toArray 0)).objs.size = s.heap.objs.size + 3 := by rw [size_push', Heap.size_update, hs1]
    have keep2 : ∀ b o, s.heap.get? b = some o → (((h1.update (s.heap.objs.size + 1) (Obj.mapSeq fun _ => (#[] : Array Value))).push (seqObj "tuple" vs.toArray 0)).push (seqObj "list" #[] 0)).get? b = some o := fun b o q => by
      refine Heap.get?_push_of_some _ (Heap.get?_push_of_some _ ?_)
      rw [Heap.get?_update_ne _ _ _ _ (Nat.ne_of_lt (Nat.lt_succ_of_lt (Heap.lt_size q)))]
      exact keep b o q
    have I1 : Inv X pins σ H { s with heap := (((h1.update (s.heap.objs.size + 1) (Obj.mapSeq fun _ => (#[] : Array Value))).push (seqObj "tuple" vs.toArray 0)).push (seqObj "list" #[] 0)) } := I.kept (t' := s.toks) keep2
    have fa : FpS X pins (s.heap.objs.size + 1) := fps_new I (Nat.le_succ _)
    have fk : FpS X pins (s.heap.objs.size + 3) := fps_new I (by omega)
    have h13 : (s.heap.objs.size + 1 : Nat) ≠ s.heap.objs.size + 3 := fun z => by omega
    have I2 := inv_pin (b := s.heap.objs.size + 1) (o := seqObj "list" #[] e1) I1 (Heap.get?_push_of_some _ (Heap.get?_push_of_some _ ho1)) (I.hok.fresh (Nat.le_succ _)) fa (fun v z => nomatch z)
    have gk : (((h1.update (s.heap.objs.size + 1) (Obj.mapSeq fun _ => (#[] : Array Value))).push (seqObj "tuple" vs.toArray 0)).push (seqObj "list" #[] 0)).get? (s.heap.objs.size + 3) = some (seqObj "list" #[] 0) := by rw [← hkS]; exact Heap.get?_push_size _ rfl
    have I3 := inv_pin (b := s.heap.objs.size + 3) (o := seqObj "list" #[] 0) I2 gk (I.hok.fresh (by omega)) (fk.cons h13) (fun v z => nomatch z)
    rw [hkS]
    refine key_rest sb hk fa fk (Ne.symm h13) I3 hi hvl fun H' s' ns' I' hp sm so => ⟨_, rfl, ?_⟩
    exact wpAny_pure ⟨_, rfl, .ref (s.heap.objs.size + 1), _, I', rfl, hQ H' ns' _ sm hp so⟩
theorem sql_mono {K : PySem.W.Frag} {H H' : Hp} {a : Addr} {xs : List V} (e : Same H H') (h : SqL K H a xs) : SqL K H' a xs := by
  rcases h with (h | ⟨o, h⟩) | h
  · exact .inl (.inl (e _ _ h))
  · exact .inl (.inr ⟨o, e _ _ h⟩)
  · exact .inr h
theorem inv_turnI {S It : Addr} {oS oI oI' : Obj} (I : Inv X ((S, oS) :: (It, oI) :: pins) σ H s) (fi : FpS X pins It) (fs : FpS X pins S) (hSI : S ≠ It) (k : ∀ b u, b ≠ It → s.heap.get? b = some u → h'.get? b = some u) (e : h'.get? It = some oI') (hd : ∀ v, oI'.data ≠ .cell v) :
    Inv X ((S, oS) :: (It, oI') :: pins) σ H { s with heap := h', toks := t' } := by
  have pS := I.pin (S, oS) (List.mem_append_right _ List.mem_cons_self)
  exact inv_pin (inv_repin (t' := t') (inv_unpin I) fi k e hd) (k S _ hSI pS.1) pS.2.1 (fs.cons (Ne.symm hSI)) pS.2.2.2.2
/-- the first of those with the least kf stands at i -/
def LeastK (kf : Int → Int) (ns : List Int) (i : Nat) : Prop := i < ns.length ∧ ∀ j, j < ns.length → kf (ns.getD i 0) ≤ kf (ns.getD j 0) ∧ (j < i → kf (ns.getD i 0) < kf (ns.getD j 0))
theorem min_loop {A : Around} {l q It S : Addr} {ns : List Int} {kf : Int → Int} {R : Result → Shared → Prop} (hh : A.handled = none) (sb : Sub X n A.in1) (hs : SqL X.K H l (ns.map V.int)) (hk : KeyAt X n σ H q kf ns) (fi : FpS X pins It) (fs : FpS X pins S)
    (hSI : S ≠ It) (hlI : l ≠ It) (hR : ∀ i t s' H', LeastK kf ns i → Inv X pins σ H' s' → Same H H' → R (.ok (.ret (.int (ns.getD i 0) t))) s') :
    ∀ (r j i : Nat) (H' : Hp) (s' : Shared) (t1 tb : Tok) (c : Nat) (oI : Obj), ns.length - (j + 1) = r → j + 1 ≤ ns.length →
      Inv X ((S, seqObj "list" #[.int (ns.getD i 0) t1, .int (kf (ns.getD i 0)) tb] c) :: (It, oI) :: pins) σ H' s' → Same H H' → s'.heap.IsListIter It l (j + 1) → i ≤ j →
      (∀ j', j' ≤ j → kf (ns.getD i 0) ≤ kf (ns.getD j' 0) ∧ (j' < i → kf (ns.getD i 0) < kf (ns.getD j' 0))) → codeAny (model X.prog X.w) A (.builtin "min.loop" ⟨[.ref It, .ref q, .ref S], []⟩) R s' := by
  have hname : (toString "min" ++ toString ".loop" : String) = "min.loop" := by decide
  intro r
  induction r with
  | zero =>
    intro j i H' s' t1 tb c oI hr hj I sm hit hij hbest
    have hin : j + 1 = ns.length := by omega
    obtain ⟨vs, rv, hl, hz⟩ := I.list (sql_mono sm hs)
    have hvl : vs.toArray.size = ns.length := by rw [List.size_toArray, ← rv.length, List.length_map]
    have W := Walks.list (prog := X.prog) (w := X.w) (A := A.in1) hh It l hlI vs.toArray
    have nS := I.pin (S, seqObj "list" #[.int (ns.getD i 0) t1, .int (kf (ns.getD i 0)) tb] c) (List.mem_append_right _ List.mem_cons_self)
    refine codeAny_builtin PySem.F.entry_min_loop ?_
    rw [Around.under_plainId PySem.F.plain_min_loop _]
    show wpAny _ A.in1 (seqItems? (.ref S) >>= _) _ _ _
    refine wpAny_bind (wpAny_seqItems nS.1 rfl ?_)
    show wpAny _ A.in1 (tryCatch (pyNext (.ref It)) _ >>= _) _ _ _
    refine wpAny_bind (wpAny_tryCatch (W.done _ _ _ ⟨by rw [hvl, ← hin]; exact hit, hl.isList⟩ fun h' tk' hk' => ?_))
    have hS' := hk' S _ (by simpa using hSI) nS.1
    have s1 := Heap.SameBut.update h' S (Obj.mapSeq fun _ => (#[] : Array Value))
    show wpAny _ A.in1 (updateSeq S (fun _ => #[]) >>= _) _ _ _
    refine wpAny_bind ?_
    refine wpAny_updateSeq hS' rfl (wpAny_bind (wpAny_letGo (wpAny_pure ?_)))
    have I0 : Inv X pins σ H' s' := inv_unpin (inv_unpin I)
    have nI := I.pin (It, oI) (List.mem_append_right _ (List.mem_cons_of_mem _ List.mem_cons_self))
    have K1 := I0.turnedL (t' := tk') (ch := [It]) (h' := h') (fun b u hb e => hk' b _ hb e) (fun b hb => by
      rw [List.mem_singleton.mp hb]
      exact fi.ok nI.2.1)
    refine hR i t1 _ H' ⟨by omega, fun j' hj' => hbest j' (by omega)⟩ (K1.turnedL (t' := tk') (ch := [S]) (fun b u hb e => (s1.2 b (fun z => hb (by simp [z]))).trans e) fun b hb => ?_) sm
    rw [List.mem_singleton.mp hb]
    exact fs.ok nS.2.1
  | succ r ih =>
    intro j i H' s' t1 tb c oI hr hj I sm hit hij hbest
    have hlt : j + 1 < ns.length := by omega
    obtain ⟨vs, rv, hl, hz⟩ := I.list (sql_mono sm hs)
    have hi := rv.ints
    have hvl : vs.toArray.size = ns.length := by rw [List.size_toArray, ← rv.length, List.length_map]
    have W := Walks.list (prog := X.prog) (w := X.w) (A := A.in1) hh It l hlI vs.toArray
    have nS := I.pin (S, seqObj "list" #[.int (ns.getD i 0) t1, .int (kf (ns.getD i 0)) tb] c) (List.mem_append_right _ List.mem_cons_self)
    refine codeAny_builtin PySem.F.entry_min_loop ?_
    rw [Around.under_plainId PySem.F.plain_min_loop _]
    show wpAny _ A.in1 (seqItems? (.ref S) >>= _) _ _ _
    refine wpAny_bind (wpAny_seqItems nS.1 rfl ?_)
    show wpAny _ A.in1 (tryCatch (pyNext (.ref It)) _ >>= _) _ _ _
    refine wpAny_bind (wpAny_tryCatch (W.item (j + 1) _ _ _ (by rw [hvl]; exact hlt) ⟨hit, hl.isList⟩ fun v h' tk' hP hst' hk' => ?_))
    have hv : vs[j + 1]? = some v := by simpa using hP
    obtain ⟨m, hm⟩ : ∃ m, ns[j + 1]? = some m := ⟨_, List.getElem?_eq_getElem hlt⟩
    have em : ns.getD (j + 1) 0 = m := by simp [hm]
    obtain ⟨t, ht⟩ := hi.get (j + 1) m hm
    rw [hv] at ht
    cases ht
    obtain ⟨oI', hoI', hoc, hod⟩ := id hst'.1
    have hcell : ∀ v, oI'.data ≠ .cell v := fun v z => by rw [hod] at z; exact nomatch z
    have I1 := inv_turnI (t' := tk') I fi fs hSI (fun b u hb e => hk' b _ (by simpa using hb) e) hoI' hcell
    show wpAny _ A.in1 (tryCatch (holding [.int m t] (call (.ref q) [.int m t])) _ >>= _) _ _ _
    refine wpAny_bind (wpAny_tryCatch (wpAny_holding (wpAny_mono (hk A.in1 _ _ H' m t sb sm (List.mem_of_getElem? hm) I1) (fun x s'' he => ?_) fun _ _ hF => hF.elim)))
    obtain ⟨H2, t2, I2, sm2, rfl⟩ := he
    have sm02 : Same H H2 := fun b o e => sm2 b o (sm b o e)
    have nS2 := I2.pin (S, seqObj "list" #[.int (ns.getD i 0) t1, .int (kf (ns.getD i 0)) tb] c) (List.mem_append_right _ List.mem_cons_self)
    have nI2 := I2.pin (It, oI') (List.mem_append_right _ (List.mem_cons_of_mem _ List.mem_cons_self))
    have hit2 : s''.heap.IsListIter It l (j + 1 + 1) := ⟨oI', nI2.1, hoc, hod⟩
    show wpAny _ A.in1 (tryCatch (holding [.int m t, .int (kf m) t2] (richCompare .Lt (.int (kf m) t2) (.int (kf (ns.getD i 0)) tb) >>= _)) _ >>= _) _ _ _
    refine wpAny_bind (wpAny_tryCatch (wpAny_holding (wpAny_bind (CmpOf.ints_lt (prog := X.prog) (w := X.w) (A := A.in1) (P := fun i v => ∃ t, v = .int (kf (ns.getD i 0)) t) (fun i => kf (ns.getD i 0)) (fun i v h => h) (j + 1) i _ _ _ _ _ ⟨t2, by rw [em]⟩ ⟨tb, rfl⟩ ?_))))
    dsimp only
    rw [em]
    refine wpAny_bind (wpAny_holding (wpAny_truthy_bool ?_))
    refine wpAny_bind (wpAny_letGo (wpAny_pure ?_))
    by_cases hb' : kf m < kf (ns.getD i 0)
    · have s1 := Heap.SameBut.update s''.heap S (Obj.mapSeq fun _ => #[.int m t, .int (kf m) t2])
      obtain ⟨c2, hc2⟩ : ∃ c2, (s''.heap.update S (Obj.mapSeq fun _ => #[.int m t, .int (kf m) t2])).get? S = some (seqObj "list" #[.int m t, .int (kf m) t2] c2) := ⟨_, get?_update_seq nS2.1 fun _ => #[.int m t, .int (kf m) t2]⟩
      simp only [hb', decide_true, if_true]
      refine wpAny_bind ?_
      refine wpAny_updateSeq nS2.1 rfl (wpAny_bind (wpAny_letGo ?_))
      rw [hname]
      have I3 := inv_repin (t' := s''.toks) I2 (fs.cons (Ne.symm hSI)) (fun b u hb e => (s1.2 b hb).trans e) hc2 (fun v z => nomatch z)
      refine wpAny_pure ⟨plainId_quiet PySem.F.plain_min_loop _, ih (j + 1) (j + 1) H2 _ t t2 c2 oI' (by omega) hlt (by rw [em]; exact I3) sm02 ⟨oI', (s1.2 It hSI.symm).trans nI2.1, hoc, hod⟩ (Nat.le_refl _) fun j' hj' => ?_⟩
      by_cases e : j' = j + 1
      · subst e
        exact ⟨Int.le_refl _, fun h => absurd h (Nat.lt_irrefl _)⟩
      · have hb1 := (hbest j' (by omega)).1
        rw [em]
        exact ⟨by omega, fun _ => by omega⟩
    · simp only [hb', decide_false, Bool.false_eq_true, if_false]
      refine wpAny_bind (wpAny_letGo ?_)
      rw [hname]
      refine wpAny_pure ⟨plainId_quiet PySem.F.plain_min_loop _, ih (j + 1) i H2 _ t1 tb c oI' (by omega) hlt I2 sm02 hit2 (by omega) fun j' hj' => ?_⟩
      by_cases e : j' = j + 1
      · subst e
        rw [em]
        exact ⟨by omega, fun h => absurd h (by omega)⟩
      · exact hbest j' (by omega)
/-- min(xs, key=o.m) -/
theorem min_key {l q : Addr} {ns : List Int} {kf : Int → Int} {Q : VK} (I : Inv X pins σ H s) (hs : SqL X.K H l (ns.map V.int)) (hne : 0 < ns.length) (hk : KeyAt X n σ H q kf ns) (hr : Room (n + 1) X.A)
    (hQ : ∀ H' i, Same H H' → LeastK kf ns i → Q (.int (ns.getD i 0)) H') :
    wpAny (model X.prog X.w) X.A (call (.builtin "min") [.ref l] [(Str.ofString "key", .ref q)]) (EP X pins σ Q) X.xe s := by
  have hname : (toString "min" ++ toString ".loop" : String) = "min.loop" := by decide
  have hh : X.A.handled = none := hr.hd
  have sb : Sub X n X.A.in1 := Sub.in1 (⟨hr, rfl⟩ : Sub X (n + 1) X.A)
  obtain ⟨vs, rv, hl, hz⟩ := I.list hs
  have hi := rv.ints
  have hls := hl.isList
  have hvl : vs.toArray.size = ns.length := by rw [List.size_toArray, ← rv.length, List.length_map]
  obtain ⟨ol, hol, _⟩ := id hls
  have hll : l < s.heap.objs.size := Heap.lt_size hol
  refine kmk_tree PySem.F.kind_min PySem.F.plain_min PySem.F.entry_min (kmk_min_key _ _) ?_
  show wpAny _ X.A.in1 (Builtin.Builtins.bindParams "min" ["key", "default"] 0 ⟨[], [(Str.ofString "key", .ref q)]⟩ >>= _) _ _ s
  refine wpAny_bind (wpAny_of_eq (show Builtin.Builtins.bindParams "min" ["key", "default"] 0 ⟨[], [(Str.ofString "key", .ref q)]⟩ = pure [some (.ref q), none] from rfl) ?_)
  refine wpAny_bind (wpAny_pure ?_)
  refine wpAny_bind (wpAny_pyIter_list hls ?_)
  refine wpAny_bind (wpAny_newList ?_ (Nat.zero_le _))
  rw [hname]
  have hS : (s.heap.push { cls := .type "list_iterator", data := .fields #[.ref l, .int 0 0] }).objs.size = s.heap.objs.size + 1 := size_push' ..
  rw [hS]
  have hlI : l ≠ s.heap.objs.size := Nat.ne_of_lt hll
  have hSI : s.heap.objs.size + 1 ≠ s.heap.objs.size := Nat.ne_of_gt (Nat.lt_succ_self _)
  refine wpAny_pure ⟨plainId_quiet PySem.F.plain_min_loop _, ?_⟩
  have gI : ((s.heap.push { cls := .type "list_iterator", data := .fields #[.ref l, .int 0 0] }).push (seqObj "list" #[] 0)).get? s.heap.objs.size = some { cls := .type "list_iterator", data := .fields #[.ref l, .int 0 0] } :=
    Heap.get?_push_of_some _ (Heap.get?_push_size _ rfl)
  have gS : ((s.heap.push { cls := .type "list_iterator", data := .fields #[.ref l, .int 0 0] }).push (seqObj "list" #[] 0)).get? (s.heap.objs.size + 1) = some (seqObj "list" #[] 0) := by rw [← hS]; exact Heap.get?_push_size _ rfl
  have kp : ∀ b o, s.heap.get? b = some o → ((s.heap.push { cls := .type "list_iterator", data := .fields #[.ref l, .int 0 0] }).push (seqObj "list" #[] 0)).get? b = some o := fun b x e => Heap.get?_push_of_some _ (Heap.get?_push_of_some _ e)
  have fi : FpS X pins s.heap.objs.size := fps_new I (Nat.le_refl _)
  have fs : FpS X pins (s.heap.objs.size + 1) := fps_new I (Nat.le_succ _)
  have J1 := I.kept (t' := s.toks) kp
  have J2 := inv_pin (b := s.heap.objs.size) J1 gI (I.hok.fresh (Nat.le_refl _)) fi (fun v z => nomatch z)
  have J3 := inv_pin (b := s.heap.objs.size + 1) J2 gS (I.hok.fresh (Nat.le_succ _)) (fs.cons (Ne.symm hSI)) (fun v z => nomatch z)
  have W := Walks.list (prog := X.prog) (w := X.w) (A := X.A.in1) hh s.heap.objs.size l hlI vs.toArray
  refine codeAny_builtin PySem.F.entry_min_loop ?_
  rw [Around.under_plainId PySem.F.plain_min_loop _]
  show wpAny _ X.A.in1 (seqItems? (.ref _) >>= _) _ _ _
  refine wpAny_bind (wpAny_seqItems gS rfl ?_)
  show wpAny _ X.A.in1 (tryCatch (pyNext (.ref s.heap.objs.size)) _ >>= _) _ _ _
  obtain ⟨vs2, rv2, hl2, hz2⟩ := J1.list hs
  have hls2 : ((s.heap.push { cls := .type "list_iterator", data := .fields #[.ref l, .int 0 0] }).push (seqObj "list" #[] 0)).IsList l vs.toArray := by
    obtain ⟨o, h1, h2⟩ := hls
    exact ⟨o, kp _ _ h1, h2⟩
  refine wpAny_bind (wpAny_tryCatch (W.item 0 _ _ _ (by rw [hvl]; exact hne) ⟨⟨_, gI, rfl, rfl⟩, hls2⟩ fun v h' tk' hP hst' hk' => ?_))
  have hv : vs[0]? = some v := by simpa using hP
  obtain ⟨m, hm⟩ : ∃ m, ns[0]? = some m := ⟨_, List.getElem?_eq_getElem hne⟩
  have em : ns.getD 0 0 = m := by simp [hm]
  obtain ⟨t, ht⟩ := hi.get 0 m hm
  rw [hv] at ht
  cases ht
  obtain ⟨oI', hoI', hoc, hod⟩ := id hst'.1
  have hcell : ∀ v, oI'.data ≠ .cell v := fun v z => by rw [hod] at z; exact nomatch z
  have I1 := inv_turnI (t' := tk') J3 fi fs hSI (fun b u hb e => hk' b _ (by simpa using hb) e) hoI' hcell
  show wpAny _ X.A.in1 (tryCatch (holding [.int m t] (call (.ref q) [.int m t])) _ >>= _) _ _ _
  refine wpAny_bind (wpAny_tryCatch (wpAny_holding (wpAny_mono (hk X.A.in1 _ _ H m t sb (Same.refl _) (List.mem_of_getElem? hm) I1) (fun x s'' he => ?_) fun _ _ hF => hF.elim)))
  obtain ⟨H2, t2, I2, sm2, rfl⟩ := he
  have nS2 := I2.pin (s.heap.objs.size + 1, seqObj "list" #[] 0) (List.mem_append_right _ List.mem_cons_self)
  have nI2 := I2.pin (s.heap.objs.size, oI') (List.mem_append_right _ (List.mem_cons_of_mem _ List.mem_cons_self))
  have s1 := Heap.SameBut.update s''.heap (s.heap.objs.size + 1) (Obj.mapSeq fun _ => #[.int m t, .int (kf m) t2])
  obtain ⟨c2, hc2⟩ : ∃ c2, (s''.heap.update (s.heap.objs.size + 1) (Obj.mapSeq fun _ => #[.int m t, .int (kf m) t2])).get? (s.heap.objs.size + 1) = some (seqObj "list" #[.int m t, .int (kf m) t2] c2) := ⟨_, get?_update_seq nS2.1 fun _ => #[.int m t, .int (kf m) t2]⟩
  show wpAny _ X.A.in1 (updateSeq (s.heap.objs.size + 1) (fun _ => #[.int m t, .int (kf m) t2]) >>= _) _ _ _
  refine wpAny_bind ?_
  refine wpAny_updateSeq nS2.1 rfl ?_
  rw [hname]
  have I3 := inv_repin (t' := s''.toks) I2 (fs.cons (Ne.symm hSI)) (fun b u hb e => (s1.2 b hb).trans e) hc2 (fun v z => nomatch z)
  refine wpAny_pure ⟨plainId_quiet PySem.F.plain_min_loop _, min_loop hh sb hs hk fi fs hSI hlI (fun i t s' H' lk I' sm => ?_) _ 0 0 H2 _ t t2 c2 oI' rfl hne (by rw [em]; exact I3) sm2 ⟨oI', (s1.2 _ hSI.symm).trans nI2.1, hoc, hod⟩ (Nat.le_refl _) fun j' hj' => ?_⟩
  · exact ⟨.int (ns.getD i 0), H', I', ⟨t, rfl⟩, hQ H' i sm lk⟩
  · have e : j' = 0 := by omega
    subst e
    exact ⟨Int.le_refl _, fun h => absurd h (Nat.lt_irrefl _)⟩
end
end Pu
/-! The pure layer, part Z: sorted(xs, key=o.m), min(xs, key=o.m). -/
namespace Pu
open PySem L2 PyProof.Rows
section
variable {A : Ax} {X : Cx} {e o : Expr} {es : List Expr} {ta te to : TE} {p q po : PR} {pos apos kpos p0 : Pos} {k n : Nat} {cn m : Str} {φ : FSpec}
def tBnd (C : Addr) (m : Str) (g : Addr) (ta : TE) : TE := fun σ H Q => ta σ H fun x H1 => ∃ a dx fs, x = .ref a ∧ H1 a = some (.ins C dx fs) ∧ fs.lookup m = none ∧ ∀ q, H1 q = none → Q (.ref q) (upd H1 q (.met g a))
theorem pe_bnd {C g : Addr} (he : PE X e ta) (c : Cls X.K C) (b : BMeth X.K C m g) (hb : attributeBase e m X.env (eval e X.env) = eval e X.env) : PE X (.Attribute e m pos) (tBnd C m g ta) := by
  refine ⟨fun pins s σ H Q I h => ?_⟩
  refine attr_of hb (thn (he.run pins s σ H _ I h) fun u s1 ⟨x, H1, I1, rx, a, dx, fs, ex, ea, l, q⟩ => ?_)
  subst ex
  exact op_getbound I1 ea c b l rx q
/-- how a method's promise serves as a key -/
theorem keyAt_of {f a qq : Addr} {fd : FuncData} {ps : List Str} {fs : List (Str × D)} {F H0 : Hp} {kf : Int → Int} {ns : List Int} {σ : L2.St} (FN : FnOk X.prog X.w X.K X.mg X.base (CX X.prog X.w) k f fd ps (spP X.K φ)) (bN : Binds X.K fd ps [])
    (sF : Same F H0) (r : Rep X.K F (.obj cn fs) (.ref a)) (hq : H0 qq = some (.met f a)) (hφ : ∀ i ∈ ns, φ [.obj cn fs, .int i] (fun s => s.d = .int (kf i)) (fun _ => False)) : KeyAt X k σ H0 qq kf ns := by
  intro B pins s H i t sb sm hi I
  have hsp : spP X.K φ [.ref a, .int i] H (fun v H' => v = .int (kf i) ∧ Same H H') (fun _ _ _ => False) := by
    refine ⟨F, [.obj cn fs, .int i], _, _, fun b u e => sm b u (sF b u e), .cons r (.cons (.int i) .nil), hφ i hi, fun s v F' H' w rs q => ⟨?_, w.hh⟩, fun _ _ _ _ _ _ _ z => z⟩
    cases s with
    | dat d =>
      have q' : d = .int (kf i) := q
      subst q'
      cases (show Rep X.K F' (.int (kf i)) v from rs)
      rfl
    | own ds => cases q
    | ownK ds => cases q
  have e0 : Env0 X.prog X.w X.K X.mg X.base B X.stack s H := by
    have e := I.env0
    exact ⟨by rw [sb.fr]; exact e.frames, e.mod, e.bs, e.bsz, e.funs, e.frf, e.hok, e.bare⟩
  have hl := FN.len _ _ _ _ hsp
  have r2 : Vals [V.ref a, V.int i] [Value.ref a, Value.int i t] := .cons rfl (.cons ⟨t, rfl⟩ .nil)
  refine wpAny_call (PySem.W.method_call (I.hok qq _ (sm _ _ hq)) (codeAny_mono (FN.run B X.stack s H ⟨[.ref a, .int i t], []⟩ [.ref a, .int i t] [.ref a, .int i] _ (fun _ _ _ => False) sb.room e0 (by
    have := bN s [.ref a, .int i t] I.kIn (by simpa using hl)
    simpa using this) r2 hsp) fun r s' hq' => ?_))
  cases r with
  | error e =>
    obtain ⟨_, _, _, _, _, _, _, hE, _⟩ := stop_land I hq'
    exact hE.elim
  | ok fl =>
    cases fl with
    | next => exact False.elim hq'
    | brk => exact False.elim hq'
    | cont => exact False.elim hq'
    | ret u =>
      obtain ⟨v, H', I', rv, ev, eS⟩ := I.after hq'
      subst ev
      obtain ⟨t', rfl⟩ := rv
      exact ⟨H', t', I', eS, rfl⟩
def rSortK (X : Cx) (n : Nat) : List V → List V → Hp → VK → Prop := fun vs zs H Q => ∃ (l q : Addr) (ns : List Int) (kf : Int → Int), vs = [V.ref l] ∧ zs = [V.ref q] ∧ SqL X.K H l (ns.map V.int) ∧ (∀ σ, KeyAt X n σ H q kf ns) ∧
  ∀ H' ns' p, Same H H' → H' p = none → SortedK kf ns ns' → Q (.ref p) (upd H' p (.lst (ns'.map V.int)))
theorem cr_sortK (hr : Room (n + 2) X.A) : CallRK X (.builtin "sorted") [Str.ofString "key"] (rSortK X n) := by
  intro pins s σ H xs zs us ws Q I r rz h
  obtain ⟨l, q, ns, kf, rfl, rfl, hs, hk, hQ⟩ := h
  obtain rfl := Vals.ref1 r
  obtain rfl := Vals.ref1 rz
  exact sorted_key I hs (hk σ) hr hQ
def rMinK (X : Cx) (n : Nat) : List V → List V → Hp → VK → Prop := fun vs zs H Q => ∃ (l q : Addr) (ns : List Int) (kf : Int → Int), vs = [V.ref l] ∧ zs = [V.ref q] ∧ SqL X.K H l (ns.map V.int) ∧ 0 < ns.length ∧ (∀ σ, KeyAt X n σ H q kf ns) ∧
  ∀ H' i, Same H H' → LeastK kf ns i → Q (.int (ns.getD i 0)) H'
theorem cr_minK (hr : Room (n + 1) X.A) : CallRK X (.builtin "min") [Str.ofString "key"] (rMinK X n) := by
  intro pins s σ H xs zs us ws Q I r rz h
  obtain ⟨l, q, ns, kf, rfl, rfl, hs, hne, hk, hQ⟩ := h
  obtain rfl := Vals.ref1 r
  obtain rfl := Vals.ref1 rz
  exact min_key I hs hne (hk σ) hr hQ
/-! the readings -/
def pKeyed (cn m : Str) (φ : FSpec) (p o : PR) (st : DS) (k : List Int → (Int → Int) → Prop) : Prop := p st fun d => o st fun b => ∃ (ns : List Int) (kf : Int → Int) (fs : List (Str × D)), d = .lst (ns.map .int) ∧ b = .obj cn fs ∧ fs.lookup m = none ∧
  (∀ i ∈ ns, φ [.obj cn fs, .int i] (fun s => s.d = .int (kf i)) (fun _ => False)) ∧ k ns kf
def pSortK (cn m : Str) (φ : FSpec) (p o : PR) : PS_ := fun st Q => pKeyed cn m φ p o st fun ns kf => ∀ ns', SortedK kf ns ns' → Q (.own (ns'.map .int))
def pMinK (cn m : Str) (φ : FSpec) (p o : PR) : PR := fun st Q => pKeyed cn m φ p o st fun ns kf => 0 < ns.length ∧ ∀ i, LeastK kf ns i → Q (.int (ns.getD i 0))
theorem meth_at_eq {K : PySem.W.Frag} {C g f : Addr} (a : Meth K C m g) (b : Meth K C m f) : g = f := by
  have := a.at_.symm.trans b.at_
  simpa using this
/-- both readings' way to the call -/
theorem keyed_rd {f g : Addr} {fd : FuncData} {ps : List Str} {R : List V → List V → Hp → VK → Prop} {F H : Hp} {σ : L2.St} {st : DS} {kk : List Int → (Int → Int) → Prop} {Q : VK} (hK : X.K = A.K) (FN : FnOk X.prog X.w X.K X.mg X.base (CX X.prog X.w) k f fd ps (spP X.K φ)) (bN : Binds X.K fd ps []) (e : g = f)
    (rp : RdR A te p) (ro : RdD A to po) (ok : StOk A.K A.N F H σ st) (w : Wld A.F0 A.N F H) (hp : pKeyed cn m φ p po st kk)
    (fin : ∀ (l q : Addr) (ns : List Int) (kf : Int → Int) (F2 H2 H3 : Hp), Wld F H F2 H2 → Same H2 H3 → SqL X.K H3 l (ns.map V.int) → (∀ σ, KeyAt X k σ H3 q kf ns) → kk ns kf → R [.ref l] [.ref q] H3 Q) :
    tCKw R (tCons te tNil) (tCons (tBnd (clsA A.K cn) m g to) tNil) σ H Q := by
  subst e
  refine rp F H σ st _ _ ok w hp fun d v F1 H1 w1 rd z => ?_
  refine ro F1 H1 σ st _ _ (ok.mono w1) (w.trans w1) z fun b u F2 H2 w2 rb z2 => ?_
  obtain ⟨ns, kf, fs, rfl, rfl, hm, hφ, hk⟩ := z2
  obtain ⟨l, vs, rfl, hl, rv⟩ := (show RepR A.K F2 H2 (.lst (ns.map .int)) v from rd.mono w2)
  have hv := reps_ints rv
  subst hv
  have rb0 := rb
  cases rb with
  | @obj a dx _ us _ h1 h2 h3 =>
    refine ⟨a, dx, us, rfl, w2.fh _ _ h1, lookup_none h2 hm, fun qq hqq => ?_⟩
    have sm : Same H2 (upd H2 qq (.met g a)) := fun c u e => by rw [upd_ne (ne_of_none e hqq)]; exact e
    refine fin l qq ns kf F2 H2 _ (w1.trans w2) sm (sql_mono sm (.inl hl)) (fun σ => ?_) hk
    exact keyAt_of (cn := cn) (fs := fs) (F := F2) FN bN (fun c u e => sm c u (w2.fh c u e)) (hK ▸ rb0) upd_same hφ
theorem simS_sortK {g : Addr} (C : MethOk X.prog X.w X.K X.mg X.base cn m k φ) (B : BMeth X.K (clsA X.K cn) m g) (hr : Room (k + 2) X.A) (hn : X.mg "sorted" = none) (hx : SimR A X e te p) (ho : SimD A X o to po)
    (hg : Gl X "sorted" := by rfl) (hb : attributeBase o m X.env (eval o X.env) = eval o X.env := by rfl) (he : backTo pos (starEach [e] X.env) = (false, eval e X.env) :: backTo pos (starEach [] X.env) := by rfl)
    (hpl : (backTo pos (starEach [e] X.env)).any (·.1) = false := by rfl) (hall : (backToKw pos (keywordEach [⟨some "key", .Attribute o m apos, kpos⟩] X.env)).all (·.1.isSome) = true := by rfl) (hnone : (backToKw pos (keywordEach [⟨some "key", .Attribute o m apos, kpos⟩] X.env)).any (·.1.isNone) = false := by rfl)
    (hks : (backToKw pos (keywordEach [⟨some "key", .Attribute o m apos, kpos⟩] X.env)).filterMap (·.1) = [Str.ofString "key"] := by rfl) (hst : starEach [e] X.env = (false, eval e X.env) :: starEach [] X.env := by rfl) :
    SimS A X (.Call (.Name "sorted" p0) [e] [⟨some "key", .Attribute o m apos, kpos⟩] pos) (tCKw (rSortK X k) (tCons te tNil) (tCons (tBnd (clsA A.K cn) m g to) tNil)) (pSortK cn m φ p po) := by
  obtain ⟨f, fd, ps, h1, h2, h3, h4⟩ := C
  have hK := hx.hK
  refine ⟨hK, pe_callBK (id := "sorted") (cr_sortK hr) hg hn (by decide +kernel) (pa_cons hx.pe pa_nil hst) (pk_cons (hK ▸ pe_bnd ho.pe h2 B hb) pk_nil) (by decide) (by decide) he hpl hall hnone hks, fun F H σ st DQ Q ok w hp kk => ?_⟩
  refine keyed_rd (R := rSortK X k) hK h1 h4 (meth_at_eq B.mt h3) hx.rd ho.rd ok w hp fun l qq ns kf F2 H2 H3 w12 sm hs hk hQ => ⟨l, qq, ns, kf, rfl, rfl, hs, hk, fun H' ns' pp sm' hpp so => ?_⟩
  have hh : Same H2 (upd H' pp (.lst (ns'.map V.int))) := fun c u e => by
    have := sm' c u (sm c u e)
    rw [upd_ne (ne_of_none this hpp)]
    exact this
  have w3 : Wld F2 H2 F2 (upd H' pp (.lst (ns'.map V.int))) := ⟨Same.refl _, hh, fun c u e => hh c u (w12.fh c u e), fun c u e => .inl e⟩
  have n2 : H2 pp = none := same_none (fun c u e => sm' c u (sm c u e)) hpp
  exact kk (.own (ns'.map .int)) _ F2 _ (w12.trans w3) ⟨pp, _, rfl, upd_same, same_none w12.fh n2, same_none w12.hh n2, ints_reps ns'⟩ (hQ ns' so)
theorem simD_minK {g : Addr} (C : MethOk X.prog X.w X.K X.mg X.base cn m k φ) (B : BMeth X.K (clsA X.K cn) m g) (hr : Room (k + 1) X.A) (hn : X.mg "min" = none) (hx : SimR A X e te p) (ho : SimD A X o to po)
    (hg : Gl X "min" := by rfl) (hb : attributeBase o m X.env (eval o X.env) = eval o X.env := by rfl) (he : backTo pos (starEach [e] X.env) = (false, eval e X.env) :: backTo pos (starEach [] X.env) := by rfl)
    (hpl : (backTo pos (starEach [e] X.env)).any (·.1) = false := by rfl) (hall : (backToKw pos (keywordEach [⟨some "key", .Attribute o m apos, kpos⟩] X.env)).all (·.1.isSome) = true := by rfl) (hnone : (backToKw pos (keywordEach [⟨some "key", .Attribute o m apos, kpos⟩] X.env)).any (·.1.isNone) = false := by rfl)
    (hks : (backToKw pos (keywordEach [⟨some "key", .Attribute o m apos, kpos⟩] X.env)).filterMap (·.1) = [Str.ofString "key"] := by rfl) (hst : starEach [e] X.env = (false, eval e X.env) :: starEach [] X.env := by rfl) :
    SimD A X (.Call (.Name "min" p0) [e] [⟨some "key", .Attribute o m apos, kpos⟩] pos) (tCKw (rMinK X k) (tCons te tNil) (tCons (tBnd (clsA A.K cn) m g to) tNil)) (pMinK cn m φ p po) := by
  obtain ⟨f, fd, ps, h1, h2, h3, h4⟩ := C
  have hK := hx.hK
  refine ⟨hK, pe_callBK (id := "min") (cr_minK hr) hg hn (by decide +kernel) (pa_cons hx.pe pa_nil hst) (pk_cons (hK ▸ pe_bnd ho.pe h2 B hb) pk_nil) (by decide) (by decide) he hpl hall hnone hks, fun F H σ st DQ Q ok w hp kk => ?_⟩
  refine keyed_rd (R := rMinK X k) hK h1 h4 (meth_at_eq B.mt h3) hx.rd ho.rd ok w hp fun l qq ns kf F2 H2 H3 w12 sm hs hk hQ => ⟨l, qq, ns, kf, rfl, rfl, hs, hQ.1, hk, fun H' i sm' lk => ?_⟩
  have hh : Same H2 H' := fun c u e => sm' c u (sm c u e)
  have w3 : Wld F2 H2 F2 H' := ⟨Same.refl _, hh, fun c u e => hh c u (w12.fh c u e), fun c u e => .inl e⟩
  exact kk (.int (ns.getD i 0)) _ F2 _ (w12.trans w3) (.int _) (hQ.2 i lk)
/-! one answer alone -/
theorem sortedK_uniq {kf : Int → Int} : ∀ {ns a b : List Int}, SortedK kf ns a → SortedK kf ns b → a = b := by
  have key : ∀ (a b : List Int), a.Perm b → a.Pairwise (fun x y => kf x ≤ kf y) → b.Pairwise (fun x y => kf x ≤ kf y) → (∀ z, a.filter (fun x => kf x == z) = b.filter (fun x => kf x == z)) → a = b := by
    intro a
    induction a with
    | nil => intro b hp _ _ _; exact (List.Perm.nil_eq hp)
    | cons x xs ih =>
      intro b hp ha hb hf
      cases b with
      | nil => exact absurd hp.length_eq (by simp)
      | cons y ys =>
        have ha' := List.pairwise_cons.mp ha
        have hb' := List.pairwise_cons.mp hb
        have h1 : kf x ≤ kf y := by
          rcases List.mem_cons.mp (hp.mem_iff.mpr List.mem_cons_self : y ∈ x :: xs) with z | z
          · rw [z]; exact Int.le_refl _
          · exact ha'.1 y z
        have h2 : kf y ≤ kf x := by
          rcases List.mem_cons.mp (hp.mem_iff.mp List.mem_cons_self : x ∈ y :: ys) with z | z
          · rw [z]; exact Int.le_refl _
          · exact hb'.1 x z
        have e : kf x = kf y := Int.le_antisymm h1 h2
        have hz := hf (kf x)
        rw [List.filter_cons, List.filter_cons, if_pos (by simp), if_pos (by simp [e])] at hz
        have exy : x = y := by simpa using (List.cons.inj hz).1
        subst exy
        congr 1
        refine ih ys ((List.perm_cons _).mp hp) ha'.2 hb'.2 fun z => ?_
        have h3 := hf z
        rw [List.filter_cons, List.filter_cons] at h3
        split at h3
        · exact (List.cons.inj h3).2
        · exact h3
  intro ns a b ha hb
  exact key a b (ha.1.trans hb.1.symm) ha.2.1 hb.2.1 fun z => (ha.2.2 z).trans (hb.2.2 z).symm
theorem leastK_uniq {kf : Int → Int} {ns : List Int} {i j : Nat} (a : LeastK kf ns i) (b : LeastK kf ns j) : i = j := by
  rcases Nat.lt_trichotomy i j with h | h | h
  · have h1 := (a.2 j b.1).1
    have h2 := (b.2 i a.1).2 h
    omega
  · exact h
  · have h1 := (b.2 i a.1).1
    have h2 := (a.2 j b.1).2 h
    omega
open Classical in
noncomputable def srtK (kf : Int → Int) (ns : List Int) : List Int := if h : ∃ ns', SortedK kf ns ns' then h.choose else ns
theorem srtK_of {kf : Int → Int} {ns ns' : List Int} (h : SortedK kf ns ns') : ns' = srtK kf ns := by
  have e : ∃ ns', SortedK kf ns ns' := ⟨_, h⟩
  unfold srtK
  rw [dif_pos e]
  exact sortedK_uniq h e.choose_spec
theorem srtK_perm {kf : Int → Int} {ns : List Int} : (srtK kf ns).Perm ns := by
  unfold srtK
  split
  · rename_i h
    exact h.choose_spec.1
  · exact List.Perm.refl _
open Classical in
noncomputable def minK (kf : Int → Int) (ns : List Int) : Int := if h : ∃ i, LeastK kf ns i then ns.getD h.choose 0 else ns.getD 0 0
theorem minK_of {kf : Int → Int} {ns : List Int} {i : Nat} (h : LeastK kf ns i) : ns.getD i 0 = minK kf ns := by
  have e : ∃ i, LeastK kf ns i := ⟨_, h⟩
  unfold minK
  rw [dif_pos e, leastK_uniq h e.choose_spec]
theorem minK_mem {kf : Int → Int} {ns : List Int} (h : ns ≠ []) : minK kf ns ∈ ns := by
  have g : ∀ i, i < ns.length → ns.getD i 0 ∈ ns := fun i hi => by
    rw [List.getD_eq_getElem?_getD, List.getElem?_eq_getElem hi]
    exact List.getElem_mem hi
  unfold minK
  split
  · rename_i e
    exact g _ e.choose_spec.1
  · exact g 0 (List.length_pos_iff.mpr h)
theorem dets_sortK {st : DS} {ns : List Int} {kf : Int → Int} {fs : List (Str × D)} (h : Det p st (.lst (ns.map .int))) (g : Det po st (.obj cn fs)) (hm : fs.lookup m = none) (hφ : ∀ i ∈ ns, φ [.obj cn fs, .int i] (fun s => s.d = .int (kf i)) (fun _ => False)) :
    DetS (pSortK cn m φ p po) st (.own ((srtK kf ns).map .int)) := fun R hR => h _ (g _ ⟨ns, kf, fs, rfl, rfl, hm, hφ, fun ns' so => by rw [srtK_of so]; exact hR⟩)
theorem det_minK {st : DS} {ns : List Int} {kf : Int → Int} {fs : List (Str × D)} (h : Det p st (.lst (ns.map .int))) (g : Det po st (.obj cn fs)) (hm : fs.lookup m = none) (hne : ns ≠ []) (hφ : ∀ i ∈ ns, φ [.obj cn fs, .int i] (fun s => s.d = .int (kf i)) (fun _ => False)) :
    Det (pMinK cn m φ p po) st (.int (minK kf ns)) := fun R hR => h _ (g _ ⟨ns, kf, fs, rfl, rfl, hm, hφ, List.length_pos_iff.mpr hne, fun i lk => by rw [minK_of lk]; exact hR⟩)
end
end Pu
/-! The pure layer, part Za: an __init__ that ends with a dict attribute, filled by a loop. -/
namespace Pu
open PySem L2
/-- no slot holds a thing that may change -/
def AllDat (st : DS) : Prop := ∀ (i : Nat) (s : SV), st[i]? = some (some s) → s.mut = false
theorem stok_dat {K : PySem.W.Frag} {N N' F F' H H' : Hp} {σ : L2.St} {st : DS} (ok : StOk K N F H σ st) (hd : AllDat st) (e : Same F F') : StOk K N' F' H' σ st := by
  refine ⟨ok.len, fun i s h => ?_, ok.apart⟩
  obtain ⟨v, h1, r⟩ := ok.at_ i s h
  cases s with
  | dat d => exact ⟨v, h1, Rep.mono e d v r⟩
  | own ds => cases hd i _ h
  | ownK kvs => cases hd i _ h
/-- the loop: each turn's key stands in slot i, its value is a new list of texts -/
def pDGo (b : Bnd) (pc : PS_) (i : Nat) (p : Addr) (R : List (Key × D) → Prop) : List D → DS → List (Key × D) → Prop
  | [], _, kvs => R kvs
  | d :: r, st, kvs => b d st fun st1 => AllDat st1 ∧ st1[0]? = some (some (.dat (.ptr p))) ∧ pc st1 fun s => ∃ (zs : List (List Nat)) (x : D) (k : Key), s = .own (zs.map .str) ∧ st1[i]? = some (some (.dat x)) ∧ toKey x = some k ∧ kvs.length ≤ 100000 ∧ pDGo b pc i p R r st1 (putD kvs k (.lst (zs.map .str)))
theorem putK_mem {us : List (Key × V)} {k : Key} {v : V} : ∀ kv ∈ putK us k v, kv ∈ us ∨ kv.2 = v := by
  intro kv h
  unfold putK at h
  split at h
  · obtain ⟨x, hx, rfl⟩ := List.mem_map.mp h
    by_cases z : x.1 = k
    · rw [if_pos z]; exact .inr rfl
    · rw [if_neg z]; exact .inl hx
  · rcases List.mem_append.mp h with h | h
    · exact .inl h
    · rw [List.mem_singleton.mp h]; exact .inr rfl
theorem putD_mem {kvs : List (Key × D)} {k : Key} {v : D} : ∀ kv ∈ putD kvs k v, kv ∈ kvs ∨ kv.2 = v := by
  intro kv h
  unfold putD at h
  split at h
  · obtain ⟨x, hx, rfl⟩ := List.mem_map.mp h
    by_cases z : x.1 = k
    · rw [if_pos z]; exact .inr rfl
    · rw [if_neg z]; exact .inl hx
  · rcases List.mem_append.mp h with h | h
    · exact .inl h
    · rw [List.mem_singleton.mp h]; exact .inr rfl
/-- lists of texts, all new -/
theorem reps_new {K : PySem.W.Frag} {F N : Hp} : ∀ (ds : List D) (vs : List V), Reps K F ds vs → (∀ d ∈ ds, ∃ zs : List (List Nat), d = .lst (zs.map .str)) → (∀ v ∈ vs, ∃ a, v = .ref a ∧ N a = none) → Reps K (fun a => match N a with | none => F a | some _ => none) ds vs
  | [], _, .nil, _, _ => .nil
  | d :: ds, _, .cons r t, h1, h2 => by
    obtain ⟨zs, rfl⟩ := h1 d List.mem_cons_self
    obtain ⟨a, rfl, hn⟩ := h2 _ List.mem_cons_self
    refine .cons ?_ (reps_new ds _ t (fun d hd => h1 d (List.mem_cons_of_mem _ hd)) fun v hv => h2 v (List.mem_cons_of_mem _ hv))
    cases r with
    | @lst _ vs _ hr r =>
      have e : (fun a => match N a with | none => F a | some _ => none) a = F a := by show (match N a with | none => F a | some _ => none) = F a; rw [hn]
      refine .lst (vs := vs) ?_ ?_
      · rcases hr with hr | ⟨o, hr⟩
        · exact .inl (e.trans hr)
        · exact .inr ⟨o, e.trans hr⟩
      · have : ∀ (zs : List (List Nat)) (vs : List V), Reps K F (zs.map .str) vs → Reps K (fun a => match N a with | none => F a | some _ => none) (zs.map .str) vs := by
          intro zs
          induction zs with
          | nil => intro vs r; cases r; exact .nil
          | cons z zs ih =>
            intro vs r
            cases r with
            | cons r t => cases r; exact .cons (.str z) (ih _ t)
        exact this zs vs r
theorem rdz_initD {K : PySem.W.Frag} {F0 N : Hp} {cn f1 : Str} {p dx : Addr} {i : Nat} {tD tc : TE} {wi : TI} {g : TG} {it : PAs} {b : Bnd} {js : List Nat} {pc : PS_} {E : Ends} {Qn : Hp → Prop} {DQ : List (Str × D) → Prop}
    (hp : N p = some (.ins (clsA K cn) dx [])) (hF0 : F0 p = none) (cl : Cls K (clsA K cn)) (n1 : NoAttr K (clsA K cn) f1)
    (rD : ∀ N', RdS ⟨F0, N', K⟩ tD pDict0) (ri : ∀ N', RdIf ⟨F0, N', K⟩ wi it) (rg : ∀ N', RdG ⟨F0, N', K⟩ g b js) (rc : ∀ N', RdS ⟨F0, N', K⟩ tc pc) (hE : ∀ σ H', Qn H' → E.nx σ H')
    (fin : ∀ (fs : List (Str × D)) (us : List (Str × V)) (Fn H' : Hp), us.map (·.1) = fs.map (·.1) → Reps K Fn (fs.map (·.2)) (us.map (·.2)) → (∀ a o, Fn a = some o → N a = none ∧ H' a = some o) → H' p = some (.ins (clsA K cn) dx us) → (∀ a o, a ≠ p → N a = some o → H' a = some o) → DQ fs → Qn H') :
    RdZ ⟨F0, N, K⟩ (tSeq (sFld K (tVar 0) tD f1) (tFor wi g (sDPut (tFld K (tVar 0) f1) (tVar i) tc))) E (fun st => st[0]? = some (some (.dat (.ptr p))) ∧ it st fun ds => pDGo b pc i p (fun kvs => DQ [(f1, .dct kvs)]) ds st []) := by
  rintro F H σ st ok w ⟨e0, hq⟩
  obtain ⟨v0, hv0, rv0⟩ := ok.at_ 0 _ e0
  cases (show Rep K F (.ptr p) v0 from rv0)
  have hHp : H p = some (.ins (clsA K cn) dx []) := w.hh _ _ hp
  have fp : F p = none := w.stay hF0 hp
  refine rD N F H σ st (fun s => s = .ownK []) _ ok w rfl ?_
  rintro s v F1 H1 w1 r rfl
  obtain ⟨l, us0, rfl, a1, a2, a3, a4, a5⟩ := r
  have hus : us0 = [] := by simpa using a4
  subst hus
  have hp1 : H1 p = some (.ins (clsA K cn) dx []) := w1.hh _ _ hHp
  have fp1 : F1 p = none := w1.stay fp hHp
  have nlp : l ≠ p := fun z => by subst z; rw [hHp] at a3; cases a3
  refine ⟨_, hv0, p, _, dx, [], rfl, hp1, cl, n1, by decide, ?_⟩
  rw [putF1]
  have ok2 := stok_ins (o := .ins (clsA K cn) dx [(f1, V.ref l)]) (ok.mono w1) hp1
  have w2 := wld_ins (o := .ins (clsA K cn) dx [(f1, V.ref l)]) (w.trans w1) hp1 fp1
  have nl : N l = none := same_none w.hh a3
  have hl2 : (upd H1 p (.ins (clsA K cn) dx [(f1, V.ref l)])) l = some (.dK []) := by rw [upd_ne nlp]; exact a1
  refine ri (without N p) F1 _ σ st _ _ ok2 w2 hq fun ds J G F3 H3 w3 W gg hgo => ?_
  have keepN : ∀ (F' H' : Hp), Wld F0 (without N p) F' H' → ∀ a o, a ≠ p → N a = some o → H' a = some o := fun F' H' w' a o ne e => w'.hh a o (by rw [without_ne ne]; exact e)
  refine for_it (w := (⟨W.go, W.stop, fun _ _ _ _ _ _ y => y⟩ : Walk J ds.length G J.yld))
    (fun n σ' H' => ∃ (F' : Hp) (st' : DS) (kvs : List (Key × D)) (us : List (Key × V)), StOk K (without N p) F' H' σ' st' ∧ Wld F0 (without N p) F' H' ∧ Same F3 F' ∧ H' p = some (.ins (clsA K cn) dx [(f1, V.ref l)]) ∧ F' p = none ∧ H' l = some (.dK us) ∧ F' l = none ∧
      us.map (·.1) = kvs.map (·.1) ∧ Reps K F' (kvs.map (·.2)) (us.map (·.2)) ∧ (∀ kv ∈ kvs, ∃ zs : List (List Nat), kv.2 = .lst (zs.map .str)) ∧ (∀ kv ∈ us, ∃ a, kv.2 = .ref a ∧ N a = none ∧ a ≠ p) ∧ pDGo b pc i p (fun kvs => DQ [(f1, .dct kvs)]) (ds.drop n) st' kvs) ?_ ?_ ?_ ?_
  · exact ⟨F3, st, [], [], ok2.mono w3, w2.trans w3, Same.refl _, w3.hh _ _ upd_same, w3.stay fp1 upd_same, w3.hh _ _ hl2, w3.stay a2 hl2, rfl, .nil, fun _ h => (by cases h), fun _ h => (by cases h), hgo⟩
  · rintro n σ' H' _ ⟨F', st', kvs, us, ok', w', s', -⟩
    exact gg _ _ s' w'.fh
  · rintro n x σ' H4 H5 hn ⟨F4, st4, kvs, us, ok4, w4, s4, g1, g1', g2, g3, g4, g5, g6, g7, go⟩ y
    have hd : ds[n]? = some ds[n] := by simp [hn]
    rw [List.drop_eq_getElem_cons hn] at go
    obtain ⟨F5, w5, r5⟩ := W.yld n _ H4 x H5 F4 hd (gg _ _ s4 w4.fh) s4 w4.fh y
    refine rg (without N p) F5 H5 σ' st4 _ x _ _ (ok4.mono w5) (w4.trans w5) r5 go fun σ6 st6 ok6 _ _ go6 => ?_
    obtain ⟨qd, q0, go6⟩ := go6
    obtain ⟨v6, hv6, rv6⟩ := ok6.at_ 0 _ q0
    cases (show Rep K F5 (.ptr p) v6 from rv6)
    refine rc (without N p) F5 H5 σ6 st6 _ _ ok6 (w4.trans w5) go6 fun s v F7 H7 w7 rs z => ?_
    obtain ⟨zs, xd, k, rfl, hx, hk, hlen, go7⟩ := z
    obtain ⟨la, vs, rfl, b1, b2, b3, b4⟩ := rs
    have w57 := w5.trans w7
    have nla : (without N p) la = none := same_none (w4.trans w5).hh b3
    have c1 := w57.hh _ _ g1
    have c1' := w57.stay g1' g1
    have c2 := w57.hh _ _ g2
    have c3 := w57.stay g3 g2
    have nelap : la ≠ p := fun z => by rw [z] at b3; rw [w5.hh _ _ g1] at b3; cases b3
    have nelal : la ≠ l := fun z => by rw [z] at b3; rw [w5.hh _ _ g2] at b3; cases b3
    have wz := (w4.trans w57).freeze b2 b1 nla
    have fl : (upd F7 la (.lst vs)) l = none := by rw [upd_ne (Ne.symm nelal)]; exact c3
    have fpp : (upd F7 la (.lst vs)) p = none := by rw [upd_ne (Ne.symm nelap)]; exact c1'
    have sF : Same F7 (upd F7 la (.lst vs)) := same_upd b2
    refine ⟨_, hv6, p, _, dx, _, V.ref l, rfl, c1, cl, n1, ?_, ?_⟩
    · show List.lookup f1 [(f1, V.ref l)] = some (V.ref l)
      simp [List.lookup]
    obtain ⟨vk, hvk, rvk⟩ := ok6.at_ i _ hx
    have hku := key_rep (show Rep K F5 xd vk from rvk) hk
    subst hku
    refine ⟨_, hvk, l, _, rfl, DPut.k c2 (by
      have hl : us.length = kvs.length := by have := congrArg List.length g4; simpa using this
      rw [hl]; exact Nat.lt_of_le_of_lt hlen (by rw [sizeLine_eq]; decide)), ?_⟩
    have pr := put_rep (k := k) g4 (Reps.mono (w57.ff.trans sF) _ _ g5) (show Rep K (upd F7 la (.lst vs)) (.lst (zs.map .str)) (.ref la) from .lst (.of upd_same) (Reps.mono sF _ _ b4))
    have lN : (without N p) l = none := without_none nl
    have wF : Wld F0 (without N p) (upd F7 la (.lst vs)) (upd H7 l (.dK (putK us k (.ref la)))) := wz.write fl lN
    refine ⟨upd F7 la (.lst vs), st6, putD kvs k (.lst (zs.map .str)), putK us k (.ref la), ?_, wF, (s4.trans w57.ff).trans sF, by rw [upd_ne (Ne.symm nlp)]; exact c1, fpp, upd_same, fl, pr.1, pr.2, fun kv h => ?_, fun kv h => ?_, go7⟩
    · exact stok_dat ok6 qd (w7.ff.trans sF)
    · rcases putD_mem kv h with h | h
      · exact g6 kv h
      · exact ⟨zs, h⟩
    · rcases putK_mem kv h with h | h
      · exact g7 kv h
      · refine ⟨la, h, ?_, nelap⟩
        rw [without_ne nelap] at nla
        exact nla
  · rintro σ' H' ⟨F', st', kvs, us, ok', w', s', g1, g1', g2, g3, g4, g5, g6, g7, go⟩
    rw [List.drop_length] at go
    refine hE _ _ (fin [(f1, .dct kvs)] [(f1, V.ref l)] (fun a => if a = l then some (.dK us) else match N a with | none => F' a | some _ => none) H' rfl ?_ (fun a o q => ?_) g1 (keepN _ _ w') go)
    · refine .cons (.dct (if_pos rfl) g4 ?_) .nil
      refine Reps.mono (F := fun a => match N a with | none => F' a | some _ => none) (fun a o q => ?_) _ _ (reps_new (N := N) _ _ g5 (fun d hd => ?_) fun v hv => ?_)
      · by_cases z : a = l
        · subst z
          have q' : (match N a with | none => F' a | some _ => none) = some o := q
          rw [nl] at q'
          rw [show F' a = none from g3] at q'
          cases q'
        · show (if a = l then _ else _) = _
          rw [if_neg z]
          exact q
      · obtain ⟨kv, hkv, rfl⟩ := List.mem_map.mp hd
        exact g6 kv hkv
      · obtain ⟨kv, hkv, rfl⟩ := List.mem_map.mp hv
        obtain ⟨a, h1, h2, _⟩ := g7 kv hkv
        exact ⟨a, h1, h2⟩
    · have q' : (if a = l then some (HO.dK us) else match N a with | none => F' a | some _ => none) = some o := q
      by_cases z : a = l
      · subst z; rw [if_pos rfl] at q'; cases q'
        exact ⟨nl, g2⟩
      · rw [if_neg z] at q'
        cases hN : N a with
        | none => rw [hN] at q'; exact ⟨rfl, w'.fh _ _ q'⟩
        | some u => rw [hN] at q'; cases q'
end Pu
/-! The pure layer, part Zb: a loop over an own dict's keys, displays of dicts. -/
namespace Pu
open PySem L2
section
variable {A : Ax} {X : Cx} {e c tg k v : Expr} {body : List Stmt} {es : List Expr} {te t tb tk tv : TE} {tc : TT} {pe p q : PR} {pc : PB} {pes : PS_} {pos : Pos} {g : TG} {b : Bnd} {js : List Nat} {ts : TS} {pb : PSt}
/-! for x in d: .., the dict being locked -/
def pForKeys (i : Nat) (b : Bnd) (body : PSt) : PSt := fun E st => match st[i]? with
  | some (some (.ownK kvs)) => ∀ l : Addr, pForGo b body { nx := fun st' => st'[i]? = some (some (.dat (.ptr l))) ∧ E.nx (st'.set i (some (.ownK kvs))), rt := fun _ => False } (kvs.map fun kv => keyD kv.1) (st.set i (some (.dat (.ptr l))))
  | _ => False
theorem stok_hide {K : PySem.W.Frag} {N F H : Hp} {σ : L2.St} {st : DS} {i : Nat} {kvs : List (Key × D)} {l : Addr} {u o : HO} (ok : StOk K N F H σ st) (hs : st[i]? = some (some (.ownK kvs))) (hv : σ[i]? = some (some (V.ref l))) : StOk K (upd N l u) F (upd H l o) σ (st.set i (some (.dat (.ptr l)))) := by
  have hi : i < st.length := (List.getElem?_eq_some_iff.mp hs).1
  refine ⟨by simp [ok.len], fun j t e => ?_, fun j k t u' x hjk e1 e2 m1 m2 f1 f2 => ?_⟩
  · by_cases z : i = j
    · subst z
      rw [List.getElem?_set_self hi] at e
      cases e
      exact ⟨_, hv, .ptr l⟩
    · rw [List.getElem?_set_ne z] at e
      obtain ⟨x, e1, r⟩ := ok.at_ j t e
      refine ⟨x, e1, ?_⟩
      cases t with
      | dat d => exact r
      | own ds =>
        obtain ⟨a, vs, rfl, h1, h2, h3, h4⟩ := r
        have ne : a ≠ l := fun y => by subst y; exact ok.apart i j _ _ _ z hs e rfl rfl hv e1
        exact ⟨a, vs, rfl, by rw [upd_ne ne]; exact h1, h2, by rw [upd_ne ne]; exact h3, h4⟩
      | ownK ds =>
        obtain ⟨a, vs, rfl, h1, h2, h3, h4, h5⟩ := r
        have ne : a ≠ l := fun y => by subst y; exact ok.apart i j _ _ _ z hs e rfl rfl hv e1
        exact ⟨a, vs, rfl, by rw [upd_ne ne]; exact h1, h2, by rw [upd_ne ne]; exact h3, h4, h5⟩
  · have a : ∀ (m : Nat) (t : SV), (st.set i (some (.dat (.ptr l))))[m]? = some (some t) → t.mut = true → st[m]? = some (some t) := fun m t e mt => by
      by_cases z : i = m
      · subst z
        rw [List.getElem?_set_self hi] at e
        cases e
        cases mt
      · rw [List.getElem?_set_ne z] at e; exact e
    exact ok.apart j k t u' x hjk (a _ _ e1 m1) (a _ _ e2 m2) m1 m2 f1 f2
theorem stok_show {K : PySem.W.Frag} {N F H : Hp} {σ : L2.St} {st : DS} {i : Nat} {kvs : List (Key × D)} {l : Addr} {us : List (Key × V)} {u : HO} (ok : StOk K (upd N l u) F H σ st) (hs : st[i]? = some (some (.dat (.ptr l)))) (hF : F l = none) (hN : N l = none) (h4 : us.map (·.1) = kvs.map (·.1)) (h5 : Reps K F (kvs.map (·.2)) (us.map (·.2))) :
    StOk K N F (upd H l (.dK us)) σ (st.set i (some (.ownK kvs))) := by
  have hi : i < st.length := (List.getElem?_eq_some_iff.mp hs).1
  obtain ⟨v, hv, r⟩ := ok.at_ i _ hs
  cases (show Rep K F (.ptr l) v from r)
  have nl : ∀ (j : Nat) (t : SV), st[j]? = some (some t) → t.mut = true → σ[j]? = some (some (V.ref l)) → False := fun j t e mt f => by
    obtain ⟨x, e1, r⟩ := ok.at_ j t e
    rw [f] at e1
    cases e1
    cases t with
    | dat d => cases mt
    | own ds =>
      obtain ⟨a, vs, e3, h1, h2, h3, h4⟩ := r
      cases e3
      rw [upd_same] at h3
      cases h3
    | ownK ds =>
      obtain ⟨a, vs, e3, h1, h2, h3, h4⟩ := r
      cases e3
      rw [upd_same] at h3
      cases h3
  refine ⟨by simp [ok.len], fun j t e => ?_, fun j k t u' x hjk e1 e2 m1 m2 f1 f2 => ?_⟩
  · by_cases z : i = j
    · subst z
      rw [List.getElem?_set_self hi] at e
      cases e
      exact ⟨_, hv, l, us, rfl, upd_same, hF, hN, h4, h5⟩
    · rw [List.getElem?_set_ne z] at e
      obtain ⟨x, e1, r⟩ := ok.at_ j t e
      refine ⟨x, e1, ?_⟩
      cases t with
      | dat d => exact r
      | own ds =>
        obtain ⟨a, vs, rfl, h1, h2, h3, h4⟩ := r
        have ne : a ≠ l := fun y => by subst y; exact nl j _ e rfl e1
        rw [upd_ne ne] at h3
        exact ⟨a, vs, rfl, by rw [upd_ne ne]; exact h1, h2, h3, h4⟩
      | ownK ds =>
        obtain ⟨a, vs, rfl, h1, h2, h3, h4, h5⟩ := r
        have ne : a ≠ l := fun y => by subst y; exact nl j _ e rfl e1
        rw [upd_ne ne] at h3
        exact ⟨a, vs, rfl, by rw [upd_ne ne]; exact h1, h2, h3, h4, h5⟩
  · by_cases z : i = j
    · subst z
      rw [hv] at f1
      cases f1
      rw [List.getElem?_set_ne hjk] at e2
      exact nl k u' e2 m2 f2
    · rw [List.getElem?_set_ne z] at e1
      by_cases y : i = k
      · subst y
        rw [hv] at f2
        cases f2
        exact nl j t e1 m1 f1
      · rw [List.getElem?_set_ne y] at e2
        exact ok.apart j k t u' x hjk e1 e2 m1 m2 f1 f2
theorem wld_show {F0 N F H : Hp} {l : Addr} {u o : HO} (w : Wld F0 (upd N l u) F H) (hN : N l = none) (hF : F l = none) : Wld F0 N F (upd H l o) :=
  ⟨w.ff, fun a o e => by
    have ne : a ≠ l := fun y => by rw [y, hN] at e; cases e
    rw [upd_ne ne]; exact w.hh a o (by rw [upd_ne ne]; exact e), fun a o e => by
    have ne : a ≠ l := fun y => by rw [y, hF] at e; cases e
    rw [upd_ne ne]; exact w.fh a o e, fun a o e => by
    have ne : a ≠ l := fun y => by rw [y, hF] at e; cases e
    rcases w.nw a o e with z | z
    · exact .inl z
    · rw [upd_ne ne] at z; exact .inr z⟩
theorem rd_forKeys (i : Nat) (hg : ∀ N', RdG ⟨A.F0, N', A.K⟩ g b js) (hb : ∀ N', RdSt ⟨A.F0, N', A.K⟩ ts pb) : RdSt A (tLock (tFor (iKeys (tVar i)) g ts)) (pForKeys i b pb) := fun F H σ st DD E ok w c hp => by
  unfold pForKeys at hp
  split at hp
  · rename_i kvs hs
    obtain ⟨v, hv, l, us, rfl, h1, h2, h3, h4, h5⟩ := ok.at_ i _ hs
    have hlen : us.length = kvs.length := by have := congrArg List.length h4; simpa using this
    refine ⟨l, .dK us, h1, trivial, fun od => ?_⟩
    have hp := hp l
    have ok1 := stok_hide (u := .frz od (.dK us)) (o := .frz od (.dK us)) ok hs hv
    have w1 : Wld A.F0 (upd A.N l (.frz od (.dK us))) F (upd H l (.frz od (.dK us))) := ⟨w.ff, fun a o e => by
      by_cases z : a = l
      · subst z; rw [upd_same] at e; rw [upd_same]; exact e
      · rw [upd_ne z] at e; rw [upd_ne z]; exact w.hh a o e, fun a o e => by
      have z : a ≠ l := fun y => by rw [y, h2] at e; cases e
      rw [upd_ne z]; exact w.fh a o e, fun a o e => by
      have z : a ≠ l := fun y => by rw [y, h2] at e; cases e
      rw [upd_ne z]; exact w.nw a o e⟩
    refine ⟨_, hv, l, od, rfl, .inl ⟨us, upd_same, ?_⟩⟩
    refine for_it (w := (⟨fun i H hi g => ⟨g, hi⟩, fun H g => ⟨g, Nat.le_refl _⟩, fun _ _ _ _ _ _ y => y⟩ : Walk (Itk l od us) us.length (fun H => H l = some (.frz od (.dK us))) (Itk l od us).yld))
      (fun m σ' H' => ∃ F' st', StOk A.K (upd A.N l (.frz od (.dK us))) F' H' σ' st' ∧ Wld A.F0 (upd A.N l (.frz od (.dK us))) F' H' ∧ Same F F' ∧ pForGo b pb { nx := fun st' => st'[i]? = some (some (.dat (.ptr l))) ∧ DD.nx (st'.set i (some (.ownK kvs))), rt := fun _ => False } ((kvs.map fun kv => keyD kv.1).drop m) st') ?_ ?_ ?_ ?_
    · exact ⟨F, _, ok1, w1, Same.refl _, hp⟩
    · rintro m σ' H' _ ⟨F', st', ok', w', s', -⟩
      exact w'.hh l _ upd_same
    · rintro m y σ' H2 H3 hm ⟨F2, st2, ok2, w2, s2, go⟩ ⟨rfl, kk, u, hku, rfl⟩
      have hmk : m < (kvs.map fun kv => keyD kv.1).length := by rw [List.length_map]; omega
      rw [List.drop_eq_getElem_cons hmk] at go
      have hk2 : (kvs.map (·.1))[m]? = some kk := by rw [← h4, List.getElem?_map, hku]; rfl
      have ek : (kvs.map fun kv => keyD kv.1)[m] = keyD kk := by
        rw [List.getElem?_map] at hk2
        obtain ⟨kv, hkv, e⟩ := Option.map_eq_some_iff.mp hk2
        have : kvs[m]? = some kv := hkv
        simp only [List.getElem_map]
        rw [List.getElem?_eq_getElem (by simpa using hmk)] at hkv
        cases hkv
        rw [e]
      rw [ek] at go
      refine hg (upd A.N l (.frz od (.dK us))) F2 _ σ' st2 _ _ _ _ ok2 w2 (keyD_rep kk) go fun σ4 st4 ok4 _ _ go4 => ?_
      refine hb (upd A.N l (.frz od (.dK us))) F2 _ σ4 st4 _ _ ok4 w2 ⟨?_, ?_, ?_, ?_⟩ go4
      · exact fun F5 H5 σ5 st5 s5 ok5 w5 z => ⟨F5, st5, ok5, w5, s2.trans s5, z⟩
      · exact fun F5 H5 σ5 st5 s5 ok5 w5 z => by
          obtain ⟨z1, z2⟩ := z
          have hF : F5 l = none := w5.stay (F0 := A.F0) (by
            cases q : A.F0 l with
            | none => rfl
            | some o => have := w.ff l o q; rw [h2] at this; cases this) upd_same
          exact ⟨w5.hh l _ upd_same, c.nx F5 _ σ5 _ (s2.trans s5) (stok_show ok5 z1 hF h3 h4 (Reps.mono (s2.trans s5) _ _ h5)) (wld_show w5 h3 hF) z2⟩
      · exact fun F5 H5 σ5 st5 s5 ok5 w5 z => ⟨F5, st5, ok5, w5, s2.trans s5, z⟩
      · exact fun F5 H5 r v s5 w5 rr z => z.elim
    · rintro σ' H' ⟨F5, st', ok5, w5, s', go⟩
      rw [List.drop_of_length_le (by rw [List.length_map]; omega)] at go
      obtain ⟨z1, z2⟩ := go
      have hF : F5 l = none := w5.stay (F0 := A.F0) (by
        cases q : A.F0 l with
        | none => rfl
        | some o => have := w.ff l o q; rw [h2] at this; cases this) upd_same
      exact ⟨w5.hh l _ upd_same, c.nx F5 _ σ' _ s' (stok_show ok5 z1 hF h3 h4 (Reps.mono s' _ _ h5)) (wld_show w5 h3 hF) z2⟩
  · exact hp.elim
theorem sim_forKeys (i : Nat) {x : Str} {p0 : Pos} {g' : Hp → TG} {ts' : Hp → TS} (hp : PassesOwn (model X.prog X.w) X.A X.env X.xe) (hc : X.calm = true) (hg' : ∀ N', SimG ⟨A.F0, N', A.K⟩ X tg (g' N') b js) (hb' : ∀ N', SimB ⟨A.F0, N', A.K⟩ X body (ts' N') pb) (hN : X.N[i]? = some x := by rfl) (hv : Vis X.env.scope x := by first | exact Or.inl rfl | exact Or.inr (Or.inl rfl) | exact Or.inr (Or.inr rfl)) (hd : (x == ("__debug__" : Str)) = false := by decide)
    (hcd : (x == ("__classdict__" : Str)) = false := by decide) (hs : ∀ y, foldedSetIterable (.Name x p0) X.env y = pure y := by intro _; rfl) (eg : ∀ N', g' N' = g' A.N := by intro _; rfl) (et : ∀ N', ts' N' = ts' A.N := by intro _; rfl) :
    SimSt A X (.For tg (.Name x p0) body [] pos) (tLock (tFor (iKeys (tVar i)) (g' A.N) (ts' A.N))) (pForKeys i b pb) := by
  have hg : ∀ N', SimG ⟨A.F0, N', A.K⟩ X tg (g' A.N) b js := fun N' => eg N' ▸ hg' N'
  have hb : ∀ N', SimB ⟨A.F0, N', A.K⟩ X body (ts' A.N) pb := fun N' => et N' ▸ hb' N'
  exact ⟨(hb A.N).hK, ps_lock (ps_for hp hc (pi_keys (pe_var hN hv hd hcd)) (hg A.N).pg (hb A.N).ps hs), rd_forKeys i (fun N' => (hg N').rd) fun N' => (hb N').rd⟩
/-! {k: v, ..} -/
def mergeD (kvs more : List (Key × D)) : List (Key × D) := more.foldl (fun acc kv => putD acc kv.1 kv.2) kvs
abbrev PPr := DS → (List (D × D) → Prop) → Prop
def pPairs0 : PPr := fun _ Q => Q []
def pPairs1 (pk pv : PR) (r : PPr) : PPr := fun st Q => pk st fun x => pv st fun y => r st fun ps => Q ((x, y) :: ps)
structure SimP (A : Ax) (X : Cx) (pos : Pos) (keys : List (Option Expr)) (values : List Expr) (trs : List (TE × TE)) (pp : PPr) : Prop where
  hK : X.K = A.K
  pps : PPs X pos keys values trs
  rd : ∀ (F H : Hp) (σ : L2.St) (st : DS) (DQ : List (D × D) → Prop) (Q : List (V × V) → Hp → Prop), StOk A.K A.N F H σ st → Wld A.F0 A.N F H → pp st DQ →
    (∀ ds ps F' H', Wld F H F' H' → All2 (fun (d : D × D) (p : V × V) => Rep A.K F' d.1 p.1 ∧ Rep A.K F' d.2 p.2) ds ps → DQ ds → Q ps H') → tPairs trs σ H Q
theorem simP_nil (hK : X.K = A.K := by rfl) : SimP A X pos [] [] [] pPairs0 := ⟨hK, pps_nil, fun F H σ st DQ Q ok w hp kk => kk [] [] F H (Wld.refl w.fh) .nil hp⟩
theorem simP_cons {ks : List (Option Expr)} {vs : List Expr} {trs : List (TE × TE)} {pp : PPr} (hk : SimD A X k tk p) (hv : SimD A X v tv q) (hr : SimP A X pos ks vs trs pp) : SimP A X pos (some k :: ks) (v :: vs) ((tk, tv) :: trs) (pPairs1 p q pp) :=
  ⟨hk.hK, pps_cons hk.pe hv.pe hr.pps, fun F H σ st DQ Q ok w hp kk => hk.rd F H σ st _ _ ok w hp fun x xv F1 H1 w1 r1 z => hv.rd F1 H1 σ st _ _ (ok.mono w1) (w.trans w1) z fun y yv F2 H2 w2 r2 z =>
    hr.rd F2 H2 σ st _ _ ((ok.mono w1).mono w2) ((w.trans w1).trans w2) z fun ds ps F3 H3 w3 r3 z => kk ((x, y) :: ds) ((xv, yv) :: ps) F3 H3 ((w1.trans w2).trans w3) (.cons ⟨Rep.mono (w2.ff.trans w3.ff) _ _ r1, Rep.mono w3.ff _ _ r2⟩ r3) z⟩
def pDisp (pp : PPr) : PS_ := fun st Q => pp st fun ps => ∃ kvs : List (Key × D), ps.length ≤ 15 ∧ All2 (fun (d : D × D) (kv : Key × D) => toKey d.1 = some kv.1 ∧ d.2 = kv.2) ps kvs ∧ Q (.ownK (mergeD [] kvs))
theorem merge_rep {K : PySem.W.Frag} {F : Hp} {more : List (Key × D)} {rs : List (Key × V)} (h : All2 (fun (d : Key × D) (u : Key × V) => d.1 = u.1 ∧ Rep K F d.2 u.2) more rs) : ∀ {us : List (Key × V)} {kvs : List (Key × D)}, us.map (·.1) = kvs.map (·.1) → Reps K F (kvs.map (·.2)) (us.map (·.2)) →
    (mergeK us rs).map (·.1) = (mergeD kvs more).map (·.1) ∧ Reps K F ((mergeD kvs more).map (·.2)) ((mergeK us rs).map (·.2)) := by
  induction h with
  | nil => intro us kvs e r; exact ⟨e, r⟩
  | @cons a b as bs h t ih =>
    intro us kvs e r
    obtain ⟨k1, d⟩ := a
    obtain ⟨k2, u⟩ := b
    obtain ⟨h1, h2⟩ := h
    dsimp only at h1 h2
    subst h1
    have pr := put_rep (k := k1) e r h2
    exact ih pr.1 pr.2
theorem pairs_rep {K : PySem.W.Frag} {F : Hp} : ∀ {ds : List (D × D)} {ps : List (V × V)} {kvs : List (Key × D)}, All2 (fun (d : D × D) (p : V × V) => Rep K F d.1 p.1 ∧ Rep K F d.2 p.2) ds ps → All2 (fun (d : D × D) (kv : Key × D) => toKey d.1 = some kv.1 ∧ d.2 = kv.2) ds kvs →
    ∃ us : List (Key × V), ps = us.map (fun kv => (kV kv.1, kv.2)) ∧ All2 (fun (d : Key × D) (u : Key × V) => d.1 = u.1 ∧ Rep K F d.2 u.2) kvs us
  | _, _, _, .nil, .nil => ⟨[], rfl, .nil⟩
  | (d1, d2) :: _, (v1, v2) :: _, (k, d) :: _, .cons h t, .cons h' t' => by
    obtain ⟨us, e, r⟩ := pairs_rep t t'
    obtain ⟨h1, h2⟩ := h
    obtain ⟨g1, g2⟩ := h'
    dsimp only at h1 h2 g1 g2
    subst g2
    have := key_rep h1 g1
    subst this
    exact ⟨(k, v2) :: us, by rw [e]; rfl, .cons ⟨rfl, h2⟩ r⟩
theorem simS_disp {keys : List (Option Expr)} {values : List Expr} {trs : List (TE × TE)} {pp : PPr} (h : SimP A X pos keys values trs pp) (hall : keys.all (·.isSome) = true := by rfl) (hl : keys.length = values.length := by rfl) (h0 : keys ≠ [] := by simp) (h15 : keys.length ≤ 15 := by decide) :
    SimS A X (.Dict keys values pos) (tDisp trs) (pDisp pp) := ⟨h.hK, pe_disp h.pps hall hl h0 h15, fun F H σ st DQ Q ok w hp kk p hn => by
  have w1 : Wld F H F (upd H p (.dK [])) := (Wld.refl w.fh).new hn
  refine h.rd F _ σ st _ _ (ok.mono w1) (w.trans w1) hp fun ds ps F2 H2 w2 r z => ?_
  obtain ⟨kvs, hl, hk, z⟩ := z
  obtain ⟨us, rfl, ru⟩ := pairs_rep r hk
  have hp2 : H2 p = some (.dK []) := w2.hh _ _ upd_same
  have fp : F2 p = none := w2.stay (w.fh.free hn) upd_same
  have hlen : us.length ≤ 15 := by
    have h1 := ru.len
    have h2 := hk.len
    omega
  have mr := merge_rep (us := []) (kvs := []) ru rfl .nil
  refine ⟨hp2, us, rfl, hlen, kk (.ownK (mergeD [] kvs)) _ F2 _ ((w1.trans w2).write fp hn) ⟨p, _, rfl, upd_same, fp, hn, mr.1, mr.2⟩ z⟩⟩
theorem dets_disp1 {pk pv : PR} {st : DS} {x y : D} {k : Key} (h : Det pk st x) (g : Det pv st y) (hk : toKey x = some k) : DetS (pDisp (pPairs1 pk pv pPairs0)) st (.ownK [(k, y)]) := fun R hR => h _ (g _ ⟨[(k, y)], by simp, .cons ⟨hk, rfl⟩ .nil, hR⟩)
/-- self.f = {}; for x in it: self.f[x] = [..] -/
theorem simZ_initD {K : PySem.W.Frag} {F0 N : Hp} {cn f1 xs xo : Str} {pp dx : Addr} {i : Nat} {wi' : Hp → TI} {g' : Hp → TG} {tk' : Hp → TE} {it : PAs} {pc : PS_} {E : Ends} {Qn : Hp → Prop} {DQ : List (Str × D) → Prop} {iter ce : Expr} {q : DS → Prop} {p1 p2 p3 p4 p5 p6 p7 p8 q1 q2 : Pos}
    (hu : X.A.units + 1 < cLine) (hpa : PassesOwn (model X.prog X.w) X.A X.env X.xe) (hcm : X.calm = true) (hp : N pp = some (.ins (clsA K cn) dx [])) (hF0 : F0 pp = none) (cl : Cls K (clsA K cn)) (n1 : NoAttr K (clsA K cn) f1)
    (ri' : ∀ N', SimIf ⟨F0, N', K⟩ X tg iter (wi' N') it) (rg' : ∀ N', SimG ⟨F0, N', K⟩ X tg (g' N') b js) (rc' : ∀ N', SimS ⟨F0, N', K⟩ X ce (tk' N') pc) (hE : ∀ σ H', Qn H' → E.nx σ H')
    (fin : ∀ (fs : List (Str × D)) (us : List (Str × V)) (Fn H' : Hp), us.map (·.1) = fs.map (·.1) → Reps K Fn (fs.map (·.2)) (us.map (·.2)) → (∀ a o, Fn a = some o → N a = none ∧ H' a = some o) → H' pp = some (.ins (clsA K cn) dx us) → (∀ a o, a ≠ pp → N a = some o → H' a = some o) → DQ fs → Qn H')
    (hq : ∀ st, q st → (st[0]? = some (some (.dat (.ptr pp))) ∧ it st fun ds => pDGo b pc i pp (fun kvs => DQ [(f1, .dct kvs)]) ds st []))
    (h0 : X.N[0]? = some xs := by rfl) (hv0 : Vis X.env.scope xs := by first | exact Or.inl rfl | exact Or.inr (Or.inl rfl) | exact Or.inr (Or.inr rfl)) (hd0 : (xs == ("__debug__" : Str)) = false := by decide) (hcd0 : (xs == ("__classdict__" : Str)) = false := by decide)
    (hi : X.N[i]? = some xo := by rfl) (hvi : Vis X.env.scope xo := by first | exact Or.inl rfl | exact Or.inr (Or.inl rfl) | exact Or.inr (Or.inr rfl)) (hdi : (xo == ("__debug__" : Str)) = false := by decide) (hcdi : (xo == ("__classdict__" : Str)) = false := by decide)
    (hb1 : attributeBase (.Name xs q1) f1 X.env (eval (.Name xs q1) X.env) = eval (.Name xs q1) X.env := by rfl)
    (hs1 : swapsWith (.Dict [] [] p2) (some (.Attribute (.Name xs p1) f1 p3)) p4.line X.env = pure false := by rfl) (hs2 : swapsWith ce (some (.Subscript (.Attribute (.Name xs q1) f1 q2) (.Name xo p5) p6)) p7.line X.env = pure false := by rfl) (hfs : ∀ x, foldedSetIterable iter X.env x = pure x := by intro _; rfl) (ei : ∀ N', wi' N' = wi' N := by intro _; rfl) (eg : ∀ N', g' N' = g' N := by intro _; rfl) (ek : ∀ N', tk' N' = tk' N := by intro _; rfl) :
    SimZ ⟨F0, N, K⟩ X [.Assign [.Attribute (.Name xs p1) f1 p3] (.Dict [] [] p2) p4, .For tg iter [.Assign [.Subscript (.Attribute (.Name xs q1) f1 q2) (.Name xo p5) p6] ce p7] [] p8]
      (tSeq (sFld K (tVar 0) tDNewK f1) (tFor (wi' N) (g' N) (sDPut (tFld K (tVar 0) f1) (tVar i) (tk' N)))) E q := by
  have ri : ∀ N', SimIf ⟨F0, N', K⟩ X tg iter (wi' N) it := fun N' => ei N' ▸ ri' N'
  have rg : ∀ N', SimG ⟨F0, N', K⟩ X tg (g' N) b js := fun N' => eg N' ▸ rg' N'
  have rc : ∀ N', SimS ⟨F0, N', K⟩ X ce (tk' N) pc := fun N' => ek N' ▸ rc' N'
  have hK : X.K = K := (ri N).hK
  refine ⟨?_, fun F H σ st ok w h => rdz_initD hp hF0 cl n1 (fun N' => (simS_dict0 (A := ⟨F0, N', K⟩) (X := X) (pos := p2) hK).rd) (fun N' => (ri N').rd) (fun N' => (rg N').rd) (fun N' => (rc N').rd) hE fin F H σ st ok w (hq st h)⟩
  have e1 := ps_fld (X := X) (f := f1) (pos := p4) (pos' := p3) (pe_var h0 hv0 hd0 hcd0) (pe_dnewK (pos := p2)) hs1
  rw [hK] at e1
  have e2 : PE X (.Attribute (.Name xs q1) f1 q2) (tFld K (tVar 0) f1) := hK ▸ pe_fld (pe_var h0 hv0 hd0 hcd0) hb1
  exact pss_cons e1 (pss_one (ps_for hpa hcm (ri N).pi (rg N).pg (pss_one (ps_dput hu e2 (pe_var hi hvi hdi hcdi) (rc N).pe hs2)) hfs))
end
end Pu
/-! The pure layer, part Zc: an exception with an __init__ of its own that asks its base's. -/
namespace Pu
open PySem L2 PyProof.Rows
section
variable {X : Cx} {o e : Expr} {es : List Expr} {to te : TE} {ta : TA} {f : Str} {p p' p1 p2 pos : Pos}
/-- B.__init__(self, ..), B an own class over ValueError without an __init__ -/
theorem pe_teinit {x : Str} {C0 : Addr} {pl : Sem Bool} (hg : Gl X x) (hm : X.mg x = some (.ref C0)) (gC : PySem.W.specialIn X.K (.ref C0) "__getattribute__" = some (some (.builtin "type.__getattribute__"))) (rC : PySem.W.readsIn X.K C0 (.type "type") = true)
    (vV : PySem.W.findCls X.K (.ref C0) (.type "type") "__init__" = some (.val (.builtin "ValueError.__init__"))) (ha : PA X (e :: es) ta)
    (hdb : (x == ("__debug__" : Str)) = false := by decide)
    (hc : eval (.Call (.Attribute (.Name x p1) "__init__" p2) (e :: es) [] pos) X.env = (do
      let ov ← eval (.Name x p1) X.env
      standAt p2.atName
      let (f, first) ← holding [ov] (getMethod ov "__init__" pl)
      callWith pos f first (backTo pos (starEach (e :: es) X.env)) (backToKw pos (keywordEach [] X.env))) := by rfl)
    (he : starEach (e :: es) X.env = (false, eval e X.env) :: starEach es X.env := by rfl) (hpl : (backTo pos (starEach es X.env)).any (·.1) = false := by rfl) :
    PE X (.Call (.Attribute (.Name x p1) "__init__" p2) (e :: es) [] pos) (tVeI X.K ta) := by
  refine ⟨fun pins s σ H Q I h => ?_⟩
  refine PySem.W.methodCall_KW (ld_glob I hg hm ?_ hdb) hc
  refine PySem.W.method_cls I.kIn gC (PySem.W.cls_value I.kIn rC vV (by decide +kernel) ?_)
  show wpAny _ _ (callWith pos (Value.builtin "ValueError.__init__") [] (backTo pos (starEach (e :: es) X.env)) []) _ _ _
  refine PyProof.Rows.callWith_method1 (thn (ha.run pos pins _ σ H _ (I.tok _) h) fun us s1 ⟨vs, H1, I1, r1, a, C, ws, ev, hl, T, ea, q⟩ => ?_) he hpl
  subst ev
  cases r1 with
  | @cons _ u0 _ ur ra rw' =>
    obtain rfl : u0 = Value.ref a := ra
    have hlen : ur.length ≤ sizeLine := by
      rw [← Paired.length rw', sizeLine_eq]
      omega
    exact oinit_ok T I1 ea hlen fun s' J => ⟨.non, H1, J, rfl, q⟩
end
/-- what the __init__ with one field promises -/
def spNote (K : PySem.W.Frag) (C : Addr) (f : Str) : Sp := fun vs H Q _ => ∃ (a : Addr) (n : Int), vs = [.ref a, .int n] ∧ H a = some (exo a C none) ∧ ∀ dx, H dx = none → dx ≠ a → Q .non (upd (upd H dx (exd dx [(f, V.int n)])) a (exo a C (some dx)))
theorem rd_note {K : PySem.W.Frag} {C a : Addr} {f : Str} {n : Int} {z : Str} {H : Hp} {E : Ends} {σ : L2.St} (T : OexC K C) (hf : PySem.W.findIn K (.ref C) f = some none) (h0 : σ[0]? = some (some (V.ref a))) (h1 : σ[1]? = some (some (V.int n))) (ha : H a = some (exo a C none))
    (q : ∀ dx, H dx = none → dx ≠ a → E.nx σ (upd (upd H dx (exd dx [(f, V.int n)])) a (exo a C (some dx)))) :
    tSeq (tDrop (tVeI K (tCons (tVar 0) (tCons (tC (.str z)) tNil)))) (tOst K f (tVar 0) (tVar 1)) E σ H :=
  ⟨_, h0, a, C, [.str z], rfl, by simp, T, ha, _, h1, _, h0, a, C, rfl, T, hf, .inl ⟨ha, q⟩⟩
theorem note_end {K : PySem.W.Frag} {C : Addr} {f : Str} {n : Int} {H1 : Hp} {Q : XK} (q : ∀ (a d : Addr) (H' : Hp), H1 a = none → H1 d = none → H' d = some (.xd [(f, V.int n)]) → (∀ b o, H1 b = some o → H' b = some o) → Q (.ref C) (some d) H') :
    ([V.int n] : List V).length ≤ 1000 ∧ ∀ a, H1 a = none → spNote K C f (.ref a :: ([V.int n] ++ [])) (upd H1 a (exo a C none))
      (fun v H2 => v = .non ∧ ∃ (d : Addr) (fs : List (Str × V)), H2 a = some (exo a C (some d)) ∧ H2 d = some (exd d fs) ∧ H1 d = none ∧ Q (.ref C) (some d) (upd (del H2 a) d (.xd fs))) (fun _ _ _ => False) := by
  refine ⟨by simp, fun a ha => ⟨a, n, rfl, upd_same, fun dx hdx ne => ⟨rfl, dx, [(f, V.int n)], upd_same, by rw [upd_ne ne, upd_same], by rw [upd_ne ne] at hdx; exact hdx, ?_⟩⟩⟩
  rw [upd_ne ne] at hdx
  refine q a dx _ ha hdx upd_same fun b o hb => ?_
  have n1 : b ≠ dx := ne_of_none hb hdx
  have n2 : b ≠ a := ne_of_none hb ha
  rw [upd_ne n1, del_ne n2, upd_ne n2, upd_ne n1, upd_ne n2]
  exact hb
/-- an own class over ValueError whose __init__ sets row alone -/
def NoteOk (P : Program) (w : World) (K : PySem.W.Frag) (mg : Str → Option Value) (base : Heap) (cn : Str) (k : Nat) : Prop :=
  ∃ (fI : Addr) (fd : FuncData) (ps : List Str), OexC K (clsA K cn) ∧ PySem.W.findIn K (.ref (clsA K cn)) "__init__" = some (some (.ref fI)) ∧ PySem.W.typeIn K (.ref fI) = some (.type "function") ∧ FnOk P w K mg base (L2.CX P w) k fI fd ps (spNote K (clsA K cn) "row") ∧ Binds K fd ps [] ∧ mg cn = some (.ref (clsA K cn))
def pRaiseN (XQ : XD → Prop) (kk : Nat) (p : PR) : PSt := fun _ st => p st fun d => match d with
  | .int n => XQ (.row kk n)
  | _ => False
section
variable {A : Ax} {X : Cx} {e : Expr} {te : TE} {p : PR} {pos : Pos}
theorem sim_raiseN (kk : Nat) {k : Nat} {cn : Str} {p1 p3 : Pos} {XQ : XD → Prop} {E : XK} (C : NoteOk X.prog X.w X.K X.mg X.base cn k) (hr : Room (k + 1) X.A) (h : SimD A X e te p) (hc : X.calm = true) (tk : Takes X fun cls d _ H => E cls d H) (hx : ∀ x cls d F H, Wld A.F0 A.N F H → RepX A.K F x cls d → XQ x → E cls d H)
    (hg : Gl X cn := by rfl) (hdb : (cn == ("__debug__" : Str)) = false := by decide) (he : errN kk = cn := by rfl) (hs : starEach [e] X.env = (false, eval e X.env) :: starEach [] X.env := by rfl) (hpl : (backTo p3 (starEach [] X.env)).any (·.1) = false := by rfl) :
    SimSt A X (.Raise (some (.Call (.Name cn p1) [e] [] p3)) none pos) (fun _ σ H => tMkO (clsA A.K cn) (spNote A.K (clsA A.K cn) "row") [] (tCons te tNil) σ H E) (pRaiseN XQ kk p) := by
  obtain ⟨fI, fd, ps, T, iC, tI, FN, bN, hm⟩ := C
  have hK := h.hK
  refine ⟨hK, hK ▸ ps_raise hc tk (pmk_oex T iC tI FN hr bN .nil passL hg hm (pa_cons h.pe pa_nil hs) hdb hs hpl), fun F H σ st DD EE ok w c hp => ?_⟩
  refine h.rd F H σ st _ _ ok w hp fun d v F1 H1 w1 rd z => ?_
  cases d <;> first | exact z.elim | skip
  cases rd
  refine note_end (f := "row") fun a dd H' ha hd hH hk => ?_
  have w2 : Wld A.F0 A.N F1 H' := (w.trans w1).trans ⟨Same.refl _, hk, fun b o q => hk b o (w1.fh b o q), fun b o q => .inl q⟩
  have w3 := w2.freeze (w1.fh.free hd) hH (same_none (w.trans w1).hh hd)
  exact hx (.row kk _) _ (some dd) _ H' w3 ⟨by rw [he], dd, _, rfl, upd_same, by rw [List.lookup_cons, show (("row" : Str) == ("row" : Str)) = true by decide +kernel]⟩ z
/-! e.f, e caught -/
def tXr (K : PySem.W.Frag) (f : Str) (te : TE) : TE := fun σ H Q => te σ H fun x H1 => ∃ (a C dd : Addr) (fs : List (Str × V)) (v : V), x = .ref a ∧ H1 a = some (ExV (.ref C) (some dd) a) ∧ XfC K C ∧ PySem.W.findIn K (.ref C) f = some none ∧ H1 dd = some (.xd fs) ∧ fs.lookup f = some v ∧ Q v H1
theorem pe_xr {f : Str} (he : PE X e te) (hb : attributeBase e f X.env (eval e X.env) = eval e X.env := by rfl) : PE X (.Attribute e f pos) (tXr X.K f te) := by
  refine ⟨fun pins s σ H Q I h => ?_⟩
  refine attr_of hb (thn (he.run pins s σ H _ I h) fun u s1 ⟨x, H1, I1, rx, a, C, dd, fs, v, ex, hx, T, hno, hdd, l, q⟩ => ?_)
  subst ex
  obtain rfl : u = Value.ref a := rx
  obtain ⟨⟨oe, vs, ha, hz, hd⟩, _⟩ := (show ObjOk X.prog X.w H1 s1.heap a (ExV (.ref C) (some dd) a) from I1.hok a _ hx)
  obtain ⟨mA, hns, hr⟩ := (show ObjOk X.prog X.w H1 s1.heap dd (.xd fs) from I1.hok dd _ hdd)
  obtain ⟨od, ho, hl⟩ := lookIn_ns hns
  obtain ⟨u, hu, ru⟩ := RelO.some_of (v := v) (o := mA f) (by rw [← l]; exact hr f)
  have J : PySem.W.InstAt s1.heap a oe C (some od) := ⟨ha, hz.1, by unfold PySem.W.notCls; rw [hd] <;> rfl, by rw [hz.2]; exact ho⟩
  exact HandSPX.exc_get I1.kIn J T.ga T.gg T.exC (PySem.W.findObj_own T.hdC hno rfl (by rw [hl, hu])) (handed_of ru) ⟨v, H1, I1.tok _, ru, q⟩
/-- what the classes of errors with a row must say -/
structure RowOk (K : PySem.W.Frag) (k : Nat) : Prop where
  xf : XfC K (clsA K (errN k))
  no : PySem.W.findIn K (.ref (clsA K (errN k))) "row" = some none
def pRow (k0 : Nat) (p : PR) : PR := fun st Q => p st fun d => match d with
  | .exc (.row k n) => k = k0 ∧ Q (.int n)
  | _ => False
theorem simD_row (k0 : Nat) (R : RowOk X.K k0) (h : SimR A X e te p) (hb : attributeBase e "row" X.env (eval e X.env) = eval e X.env := by rfl) : SimD A X (.Attribute e "row" pos) (tXr A.K "row" te) (pRow k0 p) :=
  ⟨h.hK, h.hK ▸ pe_xr h.pe hb, fun F H σ st DQ Q ok w hp k => h.rd F H σ st _ _ ok w hp fun d v F1 H1 w1 rx z => by
    cases d <;> first | exact z.elim | skip
    rename_i x
    cases x <;> first | exact z.elim | skip
    obtain ⟨rfl, z⟩ := z
    cases rx with
    | exc hh hr =>
      obtain ⟨rfl, dd, fs, rfl, h3, h4⟩ := hr
      exact ⟨_, _, dd, fs, _, rfl, w1.fh _ _ hh, h.hK ▸ R.xf, h.hK ▸ R.no, w1.fh _ _ h3, h4, k _ _ F1 H1 w1 (.int _) z⟩⟩
end
/-- an own class over ValueError, as OexC wants it -/
def oexB (K : PySem.W.Frag) (C : Addr) : Bool := match K.lookup C with
  | some ⟨.type "type", _, .cls cd, sl⟩ => (match cd.mro, sl.toList with
    | .ref C' :: bm, [_, _, _, _, some (.builtin n), _] => C' == C && n == "ValueError.__new__" && !cd.hasDel && cd.hasDict && PySem.HandSPX.refsVE bm
    | _, _ => false)
  | _ => false
theorem oexB_ok {K : PySem.W.Frag} {C : Addr} (q : oexB K C = true) : ∃ nm q N bs bm sn sub ab col dd k0 k1 k2 k3 k5, K.lookup C = some (excClassObj nm q C N bs bm true sn sub ab col dd k0 k1 k2 k3 k5 "ValueError.__new__") ∧ PySem.HandSPX.refsVE bm = true := by
  unfold oexB at q
  split at q
  · rename_i dd cd sl ho
    split at q
    · rename_i C' bm k0 k1 k2 k3 n k5 hm hs
      simp only [Bool.and_eq_true, beq_iff_eq, Bool.not_eq_true'] at q
      obtain ⟨⟨⟨⟨rfl, rfl⟩, hdel⟩, hdict⟩, ht⟩ := q
      obtain ⟨nm, bs, mro, ns, qn, hd, sn, sub, ab, col, del⟩ := cd
      dsimp only at hm hdel hdict
      subst hm hdel hdict
      have hsl : sl = #[k0, k1, k2, k3, some (.builtin "ValueError.__new__"), k5] := by
        obtain ⟨l⟩ := sl
        simp only at hs
        rw [hs]
      subst hsl
      exact ⟨_, _, _, _, _, _, _, _, _, _, _, _, _, _, _, ho, ht⟩
    · cases q
  · cases q
/-- the base of the errors: its __init__ is ValueError's -/
structure TeOk (K : PySem.W.Frag) (mg : Str → Option Value) (x : Str) : Prop where
  ex : ∃ C0 : Addr, mg x = some (.ref C0) ∧ PySem.W.specialIn K (.ref C0) "__getattribute__" = some (some (.builtin "type.__getattribute__")) ∧ PySem.W.readsIn K C0 (.type "type") = true ∧ PySem.W.findCls K (.ref C0) (.type "type") "__init__" = some (.val (.builtin "ValueError.__init__"))
end Pu
namespace Pu
open PySem L2
local macro_rules | `(tactic| walk_at "pu") => `(tactic| try simp only [List.map_cons, List.map_nil, List.cons_append, List.nil_append, List.getElem?_cons_zero, List.getElem?_cons_succ, List.set_cons_zero, List.set_cons_succ, List.length_cons, List.length_nil, List.replicate_succ, List.replicate_zero, dstart_eq,
  svd_dat, svd_own, svd_ownK, ok_ii, ok_ss, ok_bb, ok_nn, ok_ns, ok_sn, ok_ni, ok_in, ok_ll, ok_tt, ev_ii, ev_ss, ev_bb, ev_nn, ev_ns, ev_sn, ev_ni, ev_in, true_and, and_true, atI_0, atI_nat, Option.some.injEq, exists_eq_left', if_true, if_false, decide_eq_true_eq, String.reduceBEq, Bool.false_eq_true, reduceIte, Bool.or_true, Bool.true_or, Bool.or_false, Bool.false_or, Bool.not_true, Bool.not_false,
  ↓p2, ↓p2S, ↓p1, ↓p1S, ↓pT, ↓pAnd, ↓pOr, ↓pNot, ↓pAndV, ↓pOrV, ↓pNotV, ↓pIf, ↓pIfS, ↓pNil, ↓pCons, ↓pLst, ↓pTup, ↓pItL, ↓pItT, ↓pItS, ↓pItE, ↓pItES, ↓pLc, ↓pYes, ↓bN, ↓b2, ↓b3, ↓dwipe, ↓pNext, ↓pSeq, ↓pRet, ↓pRetV, ↓pIfSt, ↓pSet, ↓pAsg, ↓pDrop, ↓pApp, ↓pInc, ↓pFix, ↓pFor, ↓pBreak, ↓pCont, ↓pDS, ↓pSD, ↓pv_0, ↓pv_s, ↓pvd_0, ↓pvd_s, ↓pC, ↓pIsi, ↓isTy, ↓pLen, bools_map, ints_map, strs_map, bools_mapf, ints_mapf, strs_mapf, ↓pAny, ↓pAll, ↓pCall, ↓pEq, ↓pNe, ↓pIn, ↓pIx, ↓pCutS, ↓pCutL, ↓pNo, ↓pPart, ↓pJoin, ↓pCat, ↓pI, ↓pI0, ↓pB0, ↓pAdd, ↓pIs, ↓oSub, ↓oMul, ↓oMod, ↓oDiv, ↓oShl, ↓oShr, ↓oPow, ↓oAnd, ↓oOr, ↓oXor, ↓oLt, ↓oLe, ↓oGt, ↓oGe])
abbrev KS : List Nat := [4]

/-! ### terms: what is meant -/
def okSign (c : Nat) : Prop := c = 48 ∨ c = 49 ∨ c = 45
def okTerm (t : List Nat) : Prop := ∀ c ∈ t, okSign c
instance (c : Nat) : Decidable (okSign c) := inferInstanceAs (Decidable (_ ∨ _))
instance (t : List Nat) : Decidable (okTerm t) := inferInstanceAs (Decidable (∀ c ∈ t, okSign c))
/-- fit to be asked whether it is a term -/
def askT : D → Prop
  | .obj _ _ => False
  | .exc _ => False
  | .ptr _ => False
  | .str z => z.length ≤ 1000
  | _ => True
def isTermM : D → Nat → Bool
  | .str z, n => decide (z.length = n) && z.all fun c => decide (c ∈ [48, 49, 45])
  | _, _ => false
def hasM : List Nat → Nat → Bool
  | [], _ => true
  | c :: r, s => (decide (c = 45) || decide (c = 48 + s % 2)) && hasM r (s / 2)
def settingsM (t : List Nat) : List Nat := (List.range (2 ^ t.length)).filter (hasM t)
def freedM (t : List Nat) (l : Nat) : List Nat := t.take l ++ [45] ++ t.drop (l + 1)
def unlikeM (a b : List Nat) : List Nat := (List.range a.length).filter fun i => !decide (a[i]? = b[i]?)
def laidM (a b : List Nat) : D := match unlikeM a b with
  | [l] => if a[l]? = some 45 ∨ b[l]? = some 45 then .non else .str (freedM a l)
  | _ => .non
theorem hasM_zip (t : List Nat) : ∀ (s i : Nat), ((t.zipIdx i).map fun p => decide (p.1 = 45) || decide (p.1 = 48 + bitN s (p.2 - i))).all id = hasM t s := by
  induction t with
  | nil => intro s i; rfl
  | cons c r ih =>
    intro s i
    rw [List.zipIdx_cons, List.map_cons, List.all_cons, hasM, ← ih (s / 2) (i + 1)]
    congr 1
    · simp [bitN]
    · congr 1
      apply List.map_congr_left
      rintro ⟨d, j⟩ hd
      have := List.mem_zipIdx hd
      have e : bitN (s / 2) (j - (i + 1)) = bitN s (j - i) := by
        unfold bitN
        rw [Nat.div_div_eq_div_mul, ← Nat.pow_succ', show (j - (i + 1)).succ = j - i by omega]
      simp only [e]
theorem hasM_all (t : List Nat) (s : Nat) : (t.zipIdx.map fun p => decide (p.1 = 45) || decide (p.1 = 48 + bitN s p.2)).all id = hasM t s := by
  rw [← hasM_zip t s 0]
  simp
/-! ### signs and terms -/
def sgnM (x : Int) : Nat := if x % 3 = 0 then 48 else if x % 3 = 1 then 49 else 45
theorem sgn_ok (x : Int) : okSign (sgnM x) := by
  unfold sgnM okSign
  split
  · exact .inl rfl
  · split
    · exact .inr (.inl rfl)
    · exact .inr (.inr rfl)
theorem sgn_at (x : Int) : atI [48, 49, 45] (x % 3) = some (sgnM x) := by
  unfold sgnM
  rcases (show x % 3 = 0 ∨ x % 3 = 1 ∨ x % 3 = 2 by omega) with e | e | e <;> rw [e] <;> rfl
theorem int_sign {c : Nat} (h : okSign c) (n : c ≠ 45) : PySem.intText? (S [c]) = some ((c : Int) - 48) := by
  rcases h with rfl | rfl | rfl
  · decide +kernel
  · decide +kernel
  · exact absurd rfl n
def putM (t : List Nat) (l c : Nat) : List Nat := t.take l ++ [c] ++ t.drop (l + 1)
theorem put_len {t : List Nat} {l c : Nat} (h : l < t.length) : (putM t l c).length = t.length := by simp [putM]; omega
theorem put_ok {t : List Nat} {l c : Nat} (h : okTerm t) (hc : okSign c) : okTerm (putM t l c) := by
  intro d hd
  simp only [putM, List.mem_append, List.mem_singleton] at hd
  rcases hd with (hd | rfl) | hd
  · exact h d (List.mem_of_mem_take hd)
  · exact hc
  · exact h d (List.mem_of_mem_drop hd)
theorem join_flat : ∀ zs : List (List Nat), joinD [] zs = zs.flatten
  | [] => rfl
  | [x] => by simp [joinD]
  | x :: y :: r => by
    rw [joinD, join_flat (y :: r)]
    simp
theorem flat_ones {α : Type} (f : α → Nat) : ∀ l : List α, (l.map fun i => [f i]).flatten = l.map f
  | [] => rfl
  | a :: l => by rw [List.map_cons, List.flatten_cons, flat_ones f l]; rfl
theorem okSign_lt {c : Nat} (h : okSign c) : c < 1114112 := by rcases h with rfl | rfl | rfl <;> decide
theorem okT_isTerm {t : List Nat} (h : okTerm t) : (t.all fun c => decide (c ∈ [48, 49, 45])) = true := by
  rw [List.all_eq_true]
  intro c hc
  rcases h c hc with rfl | rfl | rfl <;> decide
theorem sort_two {x y : Nat} (fx : okSign x) (fy : okSign y) (n : x ≠ y) {zs : List (List Nat)} (hp : zs.Perm [[x], [y]]) (hs : PyProof.Rows.sortedS (zs.map S) = true) : zs = [[48], [49]] ↔ ¬ (x = 45 ∨ y = 45) := by
  have hl := hp.length_eq
  constructor
  · rintro rfl
    have h1 : [x] ∈ ([[48], [49]] : List (List Nat)) := hp.mem_iff.mpr (by simp)
    have h2 : [y] ∈ ([[48], [49]] : List (List Nat)) := hp.mem_iff.mpr (by simp)
    simp at h1 h2
    omega
  · intro h
    match zs, hl with
    | [a, b], _ =>
      have ha : a = [x] ∨ a = [y] := by simpa using hp.mem_iff.mp (show a ∈ [a, b] by simp)
      have hb : b = [x] ∨ b = [y] := by simpa using hp.mem_iff.mp (show b ∈ [a, b] by simp)
      have nd : [a, b].Nodup := hp.nodup_iff.mpr (by simp [n])
      have nab : a ≠ b := by simpa using nd
      have bad : ¬ PyProof.Rows.sortedS ([[49], [48]].map S) = true := by decide +kernel
      have hx : x = 48 ∨ x = 49 := by unfold okSign at fx; omega
      have hy : y = 48 ∨ y = 49 := by unfold okSign at fy; omega
      rcases hx with rfl | rfl <;> rcases hy with rfl | rfl <;> rcases ha with rfl | rfl <;> rcases hb with rfl | rfl <;> first | rfl | exact absurd rfl n | exact absurd rfl nab | exact absurd hs bad
theorem sum_ones {α : Type} : ∀ l : List α, (l.map fun _ => 1).sum = l.length
  | [] => rfl
  | a :: l => by rw [List.map_cons, List.sum_cons, sum_ones l, List.length_cons]; omega
/-! ### sayings -/
/-- what __init__ leaves to its tail -/
def q_Saying (p : Addr) (DQ : List (Str × D) → Prop) : DS → Prop := fun st => ∃ (n : Int) (xs ys : List Int), st[0]? = some (some (.dat (.ptr p))) ∧ st[1]? = some (some (.dat (.int n))) ∧ st[2]? = some (some (.dat (.lst (xs.map .int)))) ∧ st[4]? = some (some (.dat (.lst (ys.map .int)))) ∧
  ∀ xs' ys' : List Int, xs'.Perm xs → xs'.Pairwise (· ≤ ·) → ys'.Perm ys → ys'.Pairwise (· ≤ ·) → DQ [("lamps", .int n), ("lit", .lst (xs'.map .int)), ("either", .lst (ys'.map .int))]
/-- fit to be asked of: no instance, texts of some length -/
def askD : D → Prop
  | .obj _ _ => False
  | .exc _ => False
  | .ptr _ => False
  | _ => True
def isNum : D → Int → Int → Bool
  | .int i, a, b => decide (a ≤ i) && decide (i ≤ b)
  | _, _, _ => false
/-- the list of settings that d is, if it is one -/
def setsM (many : Nat) : D → Option (List Int)
  | .lst ds => match intL ds with
    | some ns => if (ns.all fun i => decide (0 ≤ i) && decide (i ≤ 2 ^ many - 1)) = true then (if ns.Nodup then some ns else none) else none
    | none => none
  | _ => none
def ph_is_whole_number : FSpec := fun ds Q _ => ∃ (d : D) (a b : Int), ds = [d, .int a, .int b] ∧ askD d ∧ Q (.dat (.bl (isNum d a b)))
/-- a list of at most 4000 things, or no list -/
def askL : D → Prop
  | .lst ds => ds.length ≤ 4000 ∧ ∀ d ∈ ds, askD d
  | d => askD d
def ph_need_settings : FSpec := fun ds Q XQ => ∃ (d : D) (n : Nat), ds = [d, .int (n : Int)] ∧ n ≤ 16 ∧ askL d ∧ match setsM n d with
  | some _ => Q (.dat .non)
  | none => XQ (.own 1)
/-- what Saying(a, b, c) comes to -/
inductive Came where
  | bad (k : Nat) | good (n : Nat) (on free : List Int)
def sayM (a b c : D) : Came := match a with
  | .int i => if (decide (1 ≤ i) && decide (i ≤ 5)) = true then (match setsM i.toNat b with
    | none => .bad 1
    | some on => match setsM i.toNat (match c with | .non => .lst [] | c => c) with
      | none => .bad 1
      | some free => if (free.any fun i => decide (i ∈ on)) = true then .bad 1 else .good i.toNat on free) else .bad 0
  | _ => .bad 0
def sayD (n : Nat) (on free : List Int) : D := .obj "Saying" [("lamps", .int (n : Int)), ("lit", .lst (on.map .int)), ("either", .lst (free.map .int))]
def ph_Saying : MSpec := fun ds DQ XQ => ∃ a b c : D, ds = [a, b, c] ∧ askD a ∧ askL b ∧ askL c ∧ match sayM a b c with
  | .bad k => XQ (.own k)
  | .good n on free => ∀ on' free' : List Int, on'.Perm on → on'.Pairwise (· ≤ ·) → free'.Perm free → free'.Pairwise (· ≤ ·) → DQ [("lamps", .int (n : Int)), ("lit", .lst (on'.map .int)), ("either", .lst (free'.map .int))]
def p_Saying (XQ : XD → Prop) (q : DS → Prop) : DS → Prop :=
  pZ (pIfSt (pNot (pT (pSD (pCall ph_is_whole_number X0 (pCons (pVarD 1) (pCons (pC (.int 1)) (pCons (pC (.int 5)) pNil))))))) (pRaise XQ (.own 0)) pNext)
  (pZ (pDrop (pCall ph_need_settings XQ (pCons (pVarD 2) (pCons (pVarD 1) pNil))))
  (pZ (pSet 4 (pIfS (pT (p2 (pIs false) (pVar 3) (pC .non))) (pLst pNil) (pDS (pVarD 3))))
  (pZ (pFix 4 (pDrop (pCall ph_need_settings XQ (pCons (pVarD 4) (pCons (pVarD 1) pNil)))))
  (pZ (pIfSt (pT (p1 pAny (pSD (pLc (pItL (pVar 4)) (bN 5) [5] pYes (p2 (pIn false) (pVar 5) (pVar 2)))))) (pRaise XQ (.own 1)) pNext) q))))
def ph_Saying_many : FSpec := fun ds Q _ => ∃ n on free, ds = [sayD n on free] ∧ Q (.dat (.int (n : Int)))
def ph_Saying_on : FSpec := fun ds Q _ => ∃ n on free, ds = [sayD n on free] ∧ Q (.own (on.map .int))
def ph_Saying_free : FSpec := fun ds Q _ => ∃ n on free, ds = [sayD n on free] ∧ Q (.own (free.map .int))
/-- the settings that are neither -/
def offM (n : Nat) (on free : List Int) : List Nat := (List.range (2 ^ n)).filter fun i => !decide ((i : Int) ∈ on) && !decide ((i : Int) ∈ free)
def ph_Saying_off : FSpec := fun ds Q _ => ∃ n on free, ds = [sayD n on free] ∧ n ≤ 16 ∧ Q (.own ((offM n on free).map fun i => .int (i : Nat)))
def goodM (n : Nat) (on free : List Int) (t : List Nat) : Bool := !(offM n on free).any fun i => hasM t i
def ph_Saying_is_good : FSpec := fun ds Q XQ => ∃ n on free d, ds = [sayD n on free, d] ∧ n ≤ 5 ∧ askT d ∧ match d with
  | .str t => if isTermM d n = true then Q (.dat (.bl (goodM n on free t))) else XQ (.own 2)
  | _ => XQ (.own 2)
def ph_is_term : FSpec := fun ds Q _ => ∃ (d : D) (n : Nat), ds = [d, .int (n : Int)] ∧ askT d ∧ Q (.dat (.bl (isTermM d n)))
def ph_sign_of : FSpec := fun ds Q _ => ∃ s l : Nat, ds = [.int (s : Int), .int (l : Int)] ∧ Q (.dat (.str [48 + bitN s l]))
def ph_has : FSpec := fun ds Q _ => ∃ (t : List Nat) (s : Nat), ds = [.str t, .int (s : Int)] ∧ t.length ≤ 1000 ∧ Q (.dat (.bl (hasM t s)))
def p_is_term : PSt :=
  (pRet (pDS (pAndV (pIsi "str" (pVar 0)) (pAndV (p2 pEq (p1 pLen (pVar 0)) (pVar 1)) (p1 pAll (pSD (pLc (pItS (pVar 0)) (bN 2) [2] pYes (p2 (pIn false) (pVar 2) (pC (.str [48, 49, 45]))))))))))

def p_sign_of : PSt :=
  (pRet (pDS (p2 pIx (pC (.str [48, 49])) (p2 oAnd (p2 oShr (pVar 0) (pVar 1)) (pC (.int 1))))))

def p_has : PSt :=
  (pRet (pDS (p1 pAll (pSD (pLc (pItES (pVar 0)) (b2 2 3) [2, 3] pYes (pOrV (p2 pEq (pVar 3) (pC (.str [45]))) (p2 pEq (pVar 3) (pSD (pCall ph_sign_of X0 (pCons (pVarD 1) (pCons (pVarD 2) pNil)))))))))))

def p_is_whole_number : PSt :=
  (pRet (pDS (pAndV (pIsi "int" (pVar 0)) (pAndV (pNotV (pIsi "bool" (pVar 0))) (pChain (pVar 1) (pVar 0) (pVar 2))))))

def p_need_settings (XQ : XD → Prop) : PSt :=
  (pSeq (pIfSt (pOr (pNot (pT (pIsi "list" (pVar 0)))) (pNot (pT (p1 pAll (pSD (pLc (pItL (pVar 0)) (bN 2) [2] pYes (pSD (pCall ph_is_whole_number X0 (pCons (pVarD 2) (pCons (pC (.int 0)) (pCons (p2 oSub (p2 oShl (pC (.int 1)) (pVar 1)) (pC (.int 1))) pNil))))))))))) (pRaise XQ (.own 1)) pNext) (pIfSt (pT (p2 oLt (p1 pLenSet (pVar 0)) (p1 pLen (pVar 0)))) (pRaise XQ (.own 1)) pNext))

def p_Saying_many : PSt :=
  (pRet (pDS (pFld "Saying" "lamps" (pVar 0))))

def p_Saying_on : PSt :=
  (pRet (p1S pListOf (pFld "Saying" "lit" (pVar 0))))

def p_Saying_free : PSt :=
  (pRet (p1S pListOf (pFld "Saying" "either" (pVar 0))))

def p_Saying_off : PSt :=
  (pRet (pLc (pRng1 (p2 oShl (pC (.int 1)) (pFld "Saying" "lamps" (pVar 0)))) (bN 1) [1] (pAnd (pT (p2 (pIn true) (pVar 1) (pFld "Saying" "lit" (pVar 0)))) (pT (p2 (pIn true) (pVar 1) (pFld "Saying" "either" (pVar 0))))) (pVarD 1)))


abbrev N_is_term : List Str := ["thing", "many", "sign"]
abbrev N_sign_of : List Str := ["setting", "lamp"]
abbrev N_has : List Str := ["term", "setting", "lamp", "sign"]
abbrev N_is_whole_number : List Str := ["thing", "least", "most"]
abbrev N_need_settings : List Str := ["thing", "many", "one"]
abbrev N_Saying___init__ : List Str := ["self", "many", "on", "free", "loose", "one"]
abbrev N_Saying_many : List Str := ["self"]
abbrev N_Saying_on : List Str := ["self"]
abbrev N_Saying_free : List Str := ["self"]
abbrev N_Saying_off : List Str := ["self", "one"]
abbrev N_BadNote___init__ : List Str := ["self", "row"]
theorem ln_is_term : ∀ ds Q XQ, ph_is_term ds Q XQ → ds.length = 2 := by rintro ds Q XQ ⟨d, n, rfl, _⟩; rfl
theorem pu_is_term : ∀ ds Q XQ, ph_is_term ds Q XQ → p_is_term { nx := fun _ => Q (.dat .non), rt := Q } (dstart N_is_term ds) := by
  rintro ds Q XQ ⟨d, n, rfl, ha, h⟩
  unfold p_is_term
  cases d with
  | str z =>
    dsimp only [askT, isTermM] at ha h
    walk_at "pu"
    refine ⟨by omega, ?_⟩
    by_cases hz : z.length = n
    · rw [if_pos (by omega)]
      rw [decide_eq_true hz, Bool.true_and] at h
      refine pGo_map _ (fun c => .bl (decide (c ∈ [48, 49, 45]))) z (fun c _ R hR => hR) (by omega) ?_
      walk_at "pu"
      rw [List.all_map]
      exact h
    · rw [if_neg (by omega)]
      rw [decide_eq_false hz, Bool.false_and] at h
      exact h
  | obj _ _ => exact ha.elim
  | exc _ => exact ha.elim
  | ptr _ => exact ha.elim
  | _ => walk_at "pu"; exact h
theorem ln_sign_of : ∀ ds Q XQ, ph_sign_of ds Q XQ → ds.length = 2 := by rintro ds Q XQ ⟨d, n, rfl, _⟩; rfl
theorem pu_sign_of : ∀ ds Q XQ, ph_sign_of ds Q XQ → p_sign_of { nx := fun _ => Q (.dat .non), rt := Q } (dstart N_sign_of ds) := by
  rintro ds Q XQ ⟨s, l, rfl, h⟩
  unfold p_sign_of
  walk_at "pu"
  refine ⟨by omega, by decide, 48 + bitN s l, ?_, h⟩
  rw [bit_of, atI_nat]
  have : bitN s l < 2 := Nat.mod_lt _ (by decide)
  rcases (show bitN s l = 0 ∨ bitN s l = 1 by omega) with e | e <;> rw [e] <;> rfl
theorem ln_has : ∀ ds Q XQ, ph_has ds Q XQ → ds.length = 2 := by rintro ds Q XQ ⟨d, n, rfl, _⟩; rfl
theorem pu_has : ∀ ds Q XQ, ph_has ds Q XQ → p_has { nx := fun _ => Q (.dat .non), rt := Q } (dstart N_has ds) := by
  rintro ds Q XQ ⟨t, s, rfl, hl, h⟩
  unfold p_has
  walk_at "pu"
  rw [numbered_signs]
  refine pGo_map _ (fun p => .bl (decide (p.1 = 45) || decide (p.1 = 48 + bitN s p.2))) t.zipIdx ?_ (by rw [List.length_zipIdx]; omega) ?_
  · rintro ⟨c, i⟩ hc R hR
    walk_at "pu"
    by_cases e : c = 45
    · subst e
      rw [if_pos rfl]
      simpa using hR
    · rw [if_neg (by simpa using e)]
      refine ⟨s, i, rfl, ?_⟩
      walk_at "pu"
      simpa [e] using hR
  · walk_at "pu"
    rw [hasM_all]
    exact h
theorem two_le16 {n : Nat} (h : n ≤ 16) : 2 ^ n ≤ 65536 := Nat.le_trans (Nat.pow_le_pow_right (by decide) h) (by decide)
theorem pGo_mapD (g : D → D) {b : Bnd} {p : PR} {st : DS} {Q : List D → Prop} (xs : List D) (hs : ∀ a ∈ xs, ∀ R : D → Prop, R (g a) → b a st (fun st1 => p st1 R)) (hl : xs.length ≤ 100000) (h : Q (xs.map g)) : pGo b pYes p st xs [] Q := by
  have := pGo_map (b := b) (p := p) (st := st) (Q := Q) id g xs hs hl h
  rwa [List.map_id] at this
theorem ln_is_whole_number : ∀ ds Q XQ, ph_is_whole_number ds Q XQ → ds.length = 3 := by rintro ds Q XQ ⟨d, a, b, rfl, _⟩; rfl
theorem pu_is_whole_number : ∀ ds Q XQ, ph_is_whole_number ds Q XQ → p_is_whole_number { nx := fun _ => Q (.dat .non), rt := Q } (dstart N_is_whole_number ds) := by
  rintro ds Q XQ ⟨d, a, b, rfl, ha, h⟩
  unfold p_is_whole_number pChain
  cases d with
  | int i =>
    walk_at "pu"
    dsimp only [isNum] at h
    by_cases h1 : a ≤ i
    · rw [if_pos h1]
      rw [decide_eq_true h1, Bool.true_and] at h
      exact h
    · rw [if_neg h1]
      rw [decide_eq_false h1, Bool.false_and] at h
      exact h
  | obj _ _ => exact ha.elim
  | exc _ => exact ha.elim
  | ptr _ => exact ha.elim
  | _ => walk_at "pu"; exact h
theorem nums_all (a b : Int) : ∀ ds : List D, (ds.map fun d => isNum d a b).all id = true → ∃ ns : List Int, ds = ns.map D.int ∧ (ns.all fun i => decide (a ≤ i) && decide (i ≤ b)) = true
  | [], _ => ⟨[], rfl, rfl⟩
  | d :: ds, h => by
    rw [List.map_cons, List.all_cons, Bool.and_eq_true] at h
    obtain ⟨ns, rfl, hn⟩ := nums_all a b ds h.2
    cases d with
    | int i =>
      refine ⟨i :: ns, rfl, ?_⟩
      rw [List.all_cons, hn, Bool.and_true]
      exact h.1
    | _ => exact absurd h.1 (by simp [isNum])
theorem nums_not (a b : Int) : ∀ ds : List D, (ds.map fun d => isNum d a b).all id = false → ∀ ns, intL ds = some ns → (ns.all fun i => decide (a ≤ i) && decide (i ≤ b)) = false := by
  intro ds h ns hn
  rw [ints_of hn] at h
  rw [List.map_map, List.all_map] at h
  exact h
theorem ln_need_settings : ∀ ds Q XQ, ph_need_settings ds Q XQ → ds.length = 2 := by rintro ds Q XQ ⟨d, n, rfl, _⟩; rfl
theorem pu_need_settings : ∀ ds Q XQ, ph_need_settings ds Q XQ → p_need_settings XQ { nx := fun _ => Q (.dat .non), rt := Q } (dstart N_need_settings ds) := by
  rintro ds Q XQ ⟨d, n, rfl, hn, ha, h⟩
  unfold p_need_settings pLenSet pRaise
  have h2 := two_le16 hn
  cases d with
  | lst xs =>
    walk_at "pu"
    refine pGo_mapD (fun d => .bl (isNum d 0 (2 ^ n - 1))) xs (fun d hd R hR => ?_) (Nat.le_trans ha.1 (by decide)) ?_
    · walk_at "pu"
      refine ⟨⟨by omega, by omega, by decide⟩, d, 0, 2 ^ n - 1, ?_, ha.2 d hd, hR⟩
      simp
    walk_at "pu"
    unfold setsM at h
    dsimp only at h
    cases e : (xs.map fun d => isNum d 0 (2 ^ n - 1)).all id with
    | false =>
      have hx := nums_not _ _ xs e
      rw [if_pos (by rfl)]
      cases q : intL xs with
      | none => rw [q] at h; exact h
      | some ns =>
        rw [q] at h
        dsimp only at h
        rw [if_neg (by rw [hx ns q]; simp)] at h
        exact h
    | true =>
      obtain ⟨ns, rfl, hx⟩ := nums_all _ _ xs e
      rw [if_neg (by simp)]
      rw [ints_map] at h
      dsimp only at h
      rw [if_pos hx] at h
      walk_at "pu"
      refine ⟨by have := ha.1; rw [List.length_map] at this; exact this, ?_⟩
      by_cases nd : ns.Nodup
      · rw [if_pos nd] at h
        have : ¬ ((nub ns).length : Int) < (ns.length : Int) := fun z => absurd nd ((nub_lt ns).mp z)
        rw [if_neg (by simpa using this)]
        exact h
      · rw [if_neg nd] at h
        have := (nub_lt ns).mpr nd
        rw [if_pos (by simpa using this)]
        exact h
  | obj _ _ => exact ha.elim
  | exc _ => exact ha.elim
  | ptr _ => exact ha.elim
  | _ => walk_at "pu"; exact h
theorem ln_Saying : ∀ ds DQ XQ, ph_Saying ds DQ XQ → ds.length = 3 := by rintro ds Q XQ ⟨a, b, c, rfl, _⟩; rfl
theorem sets_lst {n : Nat} {d : D} {ns : List Int} (h : setsM n d = some ns) : d = .lst (ns.map .int) ∧ ns.Nodup ∧ ∀ i ∈ ns, 0 ≤ i ∧ i ≤ 2 ^ n - 1 := by
  unfold setsM at h
  cases d with
  | lst ds =>
    dsimp only at h
    split at h
    · rename_i ms q
      split at h
      · rename_i hm
        split at h
        · rename_i nd
          cases h
          refine ⟨by rw [ints_of q], nd, fun i hi => ?_⟩
          have := List.all_eq_true.mp hm i hi
          simpa using this
        · cases h
      · cases h
    · cases h
  | _ => cases h
theorem hasD_int (xs : List Int) (s : Int) : hasD (xs.map .int) (.int s) = decide (s ∈ xs) := by
  unfold hasD
  rw [List.any_map, Bool.eq_iff_iff, List.any_eq_true, decide_eq_true_iff]
  constructor
  · rintro ⟨a, ha, e⟩
    have : a = s := by simp [eqS] at e; exact e
    exact this ▸ ha
  · intro h
    exact ⟨s, h, by simp [eqS]⟩
theorem flat_ints (xs : List Int) : (xs.map D.int).all flatD = true := by simp [flatD]
def sayL (n : Nat) (on : List Int) (lo : D) : Came := match setsM n lo with
  | none => .bad 1
  | some free => if (free.any fun i => decide (i ∈ on)) = true then .bad 1 else .good n on free
def loK (p : Addr) (DQ : List (Str × D) → Prop) (XQ : XD → Prop) (n : Nat) (on : List Int) (c lo : D) : D → Prop
  | .lst ds => pGo (bN 5) pYes (p2 (pIn false) (pVar 5) (pVar 2)) [some (.dat (.ptr p)), some (.dat (.int (n : Int))), some (.dat (.lst (on.map .int))), some (.dat c), some (.dat lo), none] ds [] fun acc => match bolL acc with
    | some bs => if bs.any id = true then XQ (.own 1) else q_Saying p DQ [some (.dat (.ptr p)), some (.dat (.int (n : Int))), some (.dat (.lst (on.map .int))), some (.dat c), some (.dat lo), none]
    | none => False
  | _ => False
theorem pu_Saying : ∀ ds DQ XQ p, ph_Saying ds DQ XQ → p_Saying XQ (q_Saying p DQ) (dstart N_Saying___init__ (.ptr p :: ds)) := by
  rintro ds DQ XQ p ⟨a, b, c, rfl, ha, hb, hc, h⟩
  unfold p_Saying pRaise pZ
  walk_at "pu"
  refine ⟨a, 1, 5, rfl, ha, ?_⟩
  walk_at "pu"
  unfold sayM at h
  cases a with
  | int i =>
    by_cases e : isNum (.int i) 1 5 = true
    · rw [if_neg (by rw [e]; simp)]
      dsimp only [isNum] at e h
      rw [if_pos e] at h
      obtain ⟨n, rfl, hn⟩ : ∃ n : Nat, i = (n : Int) ∧ n ≤ 5 := ⟨i.toNat, by simp at e; omega, by simp at e; omega⟩
      rw [Int.toNat_natCast] at h
      refine ⟨b, n, rfl, by omega, hb, ?_⟩
      cases eb : setsM n b with
      | none => rw [eb] at h; exact h
      | some on =>
        rw [eb] at h
        dsimp only at h ⊢
        obtain ⟨rfl, ndb, rb⟩ := sets_lst eb
        have fin : ∀ lo : D, askL lo → (match (sayL n on lo) with
            | .bad k => XQ (.own k)
            | .good n on free => ∀ on' free' : List Int, on'.Perm on → on'.Pairwise (· ≤ ·) → free'.Perm free → free'.Pairwise (· ≤ ·) → DQ [("lamps", .int (n : Int)), ("lit", .lst (on'.map .int)), ("either", .lst (free'.map .int))]) →
            ph_need_settings [lo, .int (n : Int)] (fun _ => loK p DQ XQ n on c lo lo) XQ := by
          intro lo hlo hh
          unfold sayL at hh
          refine ⟨lo, n, rfl, by omega, hlo, ?_⟩
          cases ef : setsM n lo with
          | none => rw [ef] at hh; exact hh
          | some free =>
            rw [ef] at hh
            obtain ⟨rfl, ndf, rf⟩ := sets_lst ef
            dsimp only [loK] at hh ⊢
            refine pGo_map _ (fun i => .bl (decide (i ∈ on))) free (fun i hi R hR => ?_) (Nat.le_trans (by have := hlo.1; rw [List.length_map] at this; exact this) (by decide)) ?_
            · walk_at "pu"
              refine ⟨rfl, flat_ints on, ?_⟩
              rw [hasD_int]
              exact hR
            · walk_at "pu"
              rw [List.any_map] 
              cases ea : (free.any fun i => decide (i ∈ on)) with
              | true =>
                rw [ea] at hh
                rw [if_pos (by exact ea)]
                exact hh
              | false =>
                rw [ea] at hh
                rw [if_neg (by intro z; rw [show (free.any (id ∘ fun i => decide (i ∈ on))) = free.any fun i => decide (i ∈ on) from rfl, ea] at z; cases z)]
                exact ⟨n, on, free, rfl, rfl, rfl, rfl, hh⟩
        cases c with
        | non => walk_at "pu"; exact ⟨by decide, fin (.lst []) ⟨by simp, by simp⟩ h⟩
        | _ => walk_at "pu"; exact fin _ hc h
    · rw [if_pos (by simpa using e)]
      dsimp only [isNum] at e h
      rw [if_neg e] at h
      exact h
  | obj _ _ => exact ha.elim
  | exc _ => exact ha.elim
  | ptr _ => exact ha.elim
  | _ => exact h
theorem ln_Saying_many : ∀ ds Q XQ, ph_Saying_many ds Q XQ → ds.length = 1 := by rintro ds Q XQ ⟨n, on, free, rfl, _⟩; rfl
theorem pu_Saying_many : ∀ ds Q XQ, ph_Saying_many ds Q XQ → p_Saying_many { nx := fun _ => Q (.dat .non), rt := Q } (dstart N_Saying_many ds) := by
  rintro ds Q XQ ⟨n, on, free, rfl, h⟩
  unfold p_Saying_many pFld sayD
  walk_at "pu"
  exact ⟨_, rfl, h⟩
theorem ln_Saying_on : ∀ ds Q XQ, ph_Saying_on ds Q XQ → ds.length = 1 := by rintro ds Q XQ ⟨n, on, free, rfl, _⟩; rfl
theorem say_lit : ([("lamps", .int n), ("lit", l), ("either", e)] : List (Str × D)).lookup ("lit" : Str) = some l := by
  rw [List.lookup_cons, show (("lit" : Str) == ("lamps" : Str)) = false by decide +kernel]
  rfl
theorem say_either : ([("lamps", .int n), ("lit", l), ("either", e)] : List (Str × D)).lookup ("either" : Str) = some e := by
  rw [List.lookup_cons, show (("either" : Str) == ("lamps" : Str)) = false by decide +kernel]
  dsimp only
  rw [List.lookup_cons, show (("either" : Str) == ("lit" : Str)) = false by decide +kernel]
  rfl
theorem say_no {m : Str} (h1 : (m == ("lamps" : Str)) = false) (h2 : (m == ("lit" : Str)) = false) (h3 : (m == ("either" : Str)) = false) : ([("lamps", .int n), ("lit", l), ("either", e)] : List (Str × D)).lookup m = none := by
  rw [List.lookup_cons, h1]
  dsimp only
  rw [List.lookup_cons, h2]
  dsimp only
  rw [List.lookup_cons, h3]
  rfl
theorem pu_Saying_on : ∀ ds Q XQ, ph_Saying_on ds Q XQ → p_Saying_on { nx := fun _ => Q (.dat .non), rt := Q } (dstart N_Saying_on ds) := by
  rintro ds Q XQ ⟨n, on, free, rfl, h⟩
  unfold p_Saying_on pFld sayD
  walk_at "pu"
  exact ⟨_, say_lit, h⟩
theorem ln_Saying_free : ∀ ds Q XQ, ph_Saying_free ds Q XQ → ds.length = 1 := by rintro ds Q XQ ⟨n, on, free, rfl, _⟩; rfl
theorem pu_Saying_free : ∀ ds Q XQ, ph_Saying_free ds Q XQ → p_Saying_free { nx := fun _ => Q (.dat .non), rt := Q } (dstart N_Saying_free ds) := by
  rintro ds Q XQ ⟨n, on, free, rfl, h⟩
  unfold p_Saying_free pFld sayD
  walk_at "pu"
  exact ⟨_, say_either, h⟩
theorem ln_Saying_off : ∀ ds Q XQ, ph_Saying_off ds Q XQ → ds.length = 1 := by rintro ds Q XQ ⟨n, on, free, rfl, _⟩; rfl
theorem pu_Saying_off : ∀ ds Q XQ, ph_Saying_off ds Q XQ → p_Saying_off { nx := fun _ => Q (.dat .non), rt := Q } (dstart N_Saying_off ds) := by
  rintro ds Q XQ ⟨n, on, free, rfl, hn, h⟩
  have h2 := two_le16 hn
  unfold p_Saying_off pFld sayD
  walk_at "pu"
  refine pRng1_nat (n := 2 ^ n) (by omega) ?_ fun R hR => ?_
  · refine pGo_fil _ (fun i : Nat => !decide ((i : Int) ∈ on) && !decide ((i : Int) ∈ free)) (fun i => .int (i : Nat)) _ (fun i hi R0 R1 h1 h0 => ?_) (by rw [List.length_range]; omega) h
    walk_at "pu"
    refine ⟨_, say_lit, ?_⟩
    walk_at "pu"
    refine ⟨rfl, flat_ints on, ?_⟩
    rw [hasD_int]
    by_cases h3 : (i : Int) ∈ on
    · rw [if_neg (by simpa using h3)]
      exact h0 (by simp [h3])
    · rw [if_pos (by simpa using h3)]
      refine ⟨_, say_either, ?_⟩
      walk_at "pu"
      refine ⟨rfl, flat_ints free, ?_⟩
      rw [hasD_int]
      by_cases h4 : (i : Int) ∈ free
      · rw [if_neg (by simpa using h4)]
        exact h0 (by simp [h3, h4])
      · rw [if_pos (by simpa using h4)]
        exact h1 (by simp [h3, h4])
  · walk_at "pu"
    refine ⟨_, rfl, ⟨by omega, by omega, by decide⟩, ?_⟩
    rw [Int.toNat_natCast, Int.one_mul]
    simpa using hR
theorem isTerm_len {t : List Nat} {n : Nat} (h : isTermM (.str t) n = true) : t.length = n := by
  rw [isTermM, Bool.and_eq_true] at h
  simpa using h.1
end Pu
namespace Pu
open PySem L2
local macro_rules | `(tactic| walk_at "pu") => `(tactic| try simp only [List.map_cons, List.map_nil, List.cons_append, List.nil_append, List.getElem?_cons_zero, List.getElem?_cons_succ, List.set_cons_zero, List.set_cons_succ, List.length_cons, List.length_nil, List.replicate_succ, List.replicate_zero, dstart_eq,
  svd_dat, svd_own, svd_ownK, ok_ii, ok_ss, ok_bb, ok_nn, ok_ns, ok_sn, ok_ni, ok_in, ok_ll, ok_tt, ev_ii, ev_ss, ev_bb, ev_nn, ev_ns, ev_sn, ev_ni, ev_in, true_and, and_true, atI_0, atI_nat, Option.some.injEq, exists_eq_left', if_true, if_false, decide_eq_true_eq, String.reduceBEq, Bool.false_eq_true, reduceIte, Bool.or_true, Bool.true_or, Bool.or_false, Bool.false_or, Bool.not_true, Bool.not_false,
  ↓p2, ↓p2S, ↓p1, ↓p1S, ↓pT, ↓pAnd, ↓pOr, ↓pNot, ↓pAndV, ↓pOrV, ↓pNotV, ↓pIf, ↓pIfS, ↓pNil, ↓pCons, ↓pLst, ↓pTup, ↓pItL, ↓pItT, ↓pItS, ↓pItE, ↓pItES, ↓pLc, ↓pYes, ↓bN, ↓b2, ↓b3, ↓dwipe, ↓pNext, ↓pSeq, ↓pRet, ↓pRetV, ↓pIfSt, ↓pSet, ↓pAsg, ↓pDrop, ↓pApp, ↓pInc, ↓pFix, ↓pFor, ↓pBreak, ↓pCont, ↓pDS, ↓pSD, ↓pv_0, ↓pv_s, ↓pvd_0, ↓pvd_s, ↓pC, ↓pIsi, ↓isTy, ↓pLen, bools_map, ints_map, strs_map, bools_mapf, ints_mapf, strs_mapf, ↓pAny, ↓pAll, ↓pCall, ↓pEq, ↓pNe, ↓pIn, ↓pIx, ↓pCutS, ↓pCutL, ↓pNo, ↓pPart, ↓pJoin, ↓pCat, ↓pI, ↓pI0, ↓pB0, ↓pAdd, ↓pIs, ↓oSub, ↓oMul, ↓oMod, ↓oDiv, ↓oShl, ↓oShr, ↓oPow, ↓oAnd, ↓oOr, ↓oXor, ↓oLt, ↓oLe, ↓oGt, ↓oGe])
/-! ### draws -/
def spreadM (c : Int) (k : Nat) : Int := (c + 3) * (48271 + 2 * (k : Int) * (k : Int) + (k : Int)) % 2147483647
def okT5 (t : List Nat) : Prop := okTerm t ∧ 1 ≤ t.length ∧ t.length ≤ 5
def ph_law_spread : FSpec := fun ds Q _ => ∃ (c : Int) (k : Nat), ds = [.int c, .int (k : Int)] ∧ k ≤ 1000 ∧ Q (.dat (.int (spreadM c k)))
/-! ### the law's rows -/
def okPart (b : Int) (on free : List Int) : Prop := on.Nodup ∧ free.Nodup ∧ (∀ i ∈ on, 0 ≤ i ∧ i < b ∧ i ∉ free) ∧ (∀ i ∈ free, 0 ≤ i ∧ i < b) ∧ ((on.length + free.length : Nat) : Int) ≤ b
def okRows (n : Nat) (on free : List Int) : Prop := okPart (2 ^ n) on free
def ph_law_rows : FSpec := fun ds Q _ => ∃ (c : Int) (k most : Nat), ds = [.int c, .int (k : Int), .int (most : Int)] ∧ k ≤ 1000 ∧ 1 ≤ most ∧ most ≤ 5 ∧ ∀ (n : Nat) (on free : List Int), 1 ≤ n → n ≤ most → okRows n on free → Q (.dat (.tup [.int (n : Int), .lst (on.map .int), .lst (free.map .int)]))
theorem okPart_nil : okPart 0 [] [] := ⟨List.nodup_nil, List.nodup_nil, by simp, by simp, by simp⟩
theorem okPart_skip {i : Int} {on free : List Int} (h : okPart i on free) : okPart (i + 1) on free := ⟨h.1, h.2.1, fun j hj => by have := h.2.2.1 j hj; exact ⟨this.1, by omega, this.2.2⟩, fun j hj => by have := h.2.2.2.1 j hj; exact ⟨this.1, by omega⟩, by have := h.2.2.2.2; omega⟩
theorem nodup_snoc {xs : List Int} {i : Int} (h : xs.Nodup) (n : i ∉ xs) : (xs ++ [i]).Nodup := by
  rw [List.nodup_append]
  exact ⟨h, by simp, fun a ha b hb e => n (by simp at hb; rw [← hb, ← e]; exact ha)⟩
theorem okPart_on {i : Int} {on free : List Int} (h : okPart i on free) (hi : 0 ≤ i) : okPart (i + 1) (on ++ [i]) free := by
  refine ⟨nodup_snoc h.1 fun z => ?_, h.2.1, fun j hj => ?_, (okPart_skip h).2.2.2.1, by have := h.2.2.2.2; rw [List.length_append, List.length_singleton]; omega⟩
  · have := (h.2.2.1 i z).2.1; omega
  · rw [List.mem_append, List.mem_singleton] at hj
    rcases hj with hj | rfl
    · exact (okPart_skip h).2.2.1 j hj
    · exact ⟨hi, by omega, fun z => by have := (h.2.2.2.1 j z).2; omega⟩
theorem okPart_free {i : Int} {on free : List Int} (h : okPart i on free) (hi : 0 ≤ i) : okPart (i + 1) on (free ++ [i]) := by
  refine ⟨h.1, nodup_snoc h.2.1 fun z => ?_, fun j hj => ?_, fun j hj => ?_, by have := h.2.2.2.2; rw [List.length_append, List.length_singleton]; omega⟩
  · have := (h.2.2.2.1 i z).2; omega
  · have q := h.2.2.1 j hj
    refine ⟨q.1, by omega, fun z => ?_⟩
    rw [List.mem_append, List.mem_singleton] at z
    rcases z with z | rfl
    · exact q.2.2 z
    · have := q.2.1; omega
  · rw [List.mem_append, List.mem_singleton] at hj
    rcases hj with hj | rfl
    · exact (okPart_skip h).2.2.2.1 j hj
    · exact ⟨hi, by omega⟩
theorem okPart_perm {b : Int} {on free on' free' : List Int} (h : okPart b on free) (p : on'.Perm on) (q : free'.Perm free) : okPart b on' free' :=
  ⟨p.nodup_iff.mpr h.1, q.nodup_iff.mpr h.2.1, fun j hj => by have := h.2.2.1 j (p.mem_iff.mp hj); exact ⟨this.1, this.2.1, fun z => this.2.2 (q.mem_iff.mp z)⟩, fun j hj => h.2.2.2.1 j (q.mem_iff.mp hj), by rw [p.length_eq, q.length_eq]; exact h.2.2.2.2⟩
theorem turn_perm {α : Type} (xs : List α) (k : Nat) : (xs.drop k ++ xs.take k).Perm xs := (List.perm_append_comm).trans (by rw [List.take_append_drop])
def p_law_spread : PSt :=
  (pRet (pDS (p2 oMod (p2 oMul (p2 pAdd (pVar 0) (pC (.int 3))) (p2 pAdd (p2 pAdd (pC (.int 48271)) (p2 oMul (p2 oMul (pC (.int 2)) (pVar 1)) (pVar 1))) (pVar 1))) (pC (.int 2147483647)))))

def p_law_rows : PSt :=
  (pSeq (pSet 3 (pDS (pSD (pCall ph_law_spread X0 (pCons (pSD (pCall ph_law_spread X0 (pCons (pVarD 0) (pCons (pVarD 1) pNil)))) (pCons (pC (.int 1)) pNil)))))) (pSeq (pSet 4 (pDS (pIf (pT (p2 pEq (p2 oMod (pVar 0) (pC (.int 2))) (pC (.int 1)))) (p2 oDiv (pVar 0) (pC (.int 2))) (pVarD 3)))) (pSeq (pSet 5 (pDS (p2 pAdd (pC (.int 1)) (p2 oMod (pVar 4) (pVar 2))))) (pSeq (pSet 4 (pDS (p2 oDiv (pVar 4) (pVar 2)))) (pSeq (pSet 6 (pLst pNil)) (pSeq (pSet 7 (pLst pNil)) (pSeq (pFor (pRng1 (p2 oShl (pC (.int 1)) (pVar 5))) (bN 8) (pSeq (pSet 9 (pDS (p2 oMod (pSD (pCall ph_law_spread X0 (pCons (p2 pAdd (pVar 3) (p2 oMul (pC (.int 7)) (pVar 8))) (pCons (pVarD 8) pNil)))) (pC (.int 12))))) (pSeq (pSet 10 (pDS (p2 oMod (p1 pSum (pSD (pLc (pRng1 (pVar 5)) (bN 11) [11] pYes (p2 oAnd (p2 oShr (pVar 8) (pVar 11)) (pC (.int 1)))))) (pC (.int 2))))) (pSeq (pAsg (p2 pIx (pSD (pLst (pCons (pTup (pCons (pC (.int 6)) (pCons (pC (.int 8)) pNil))) (pCons (pTup (pCons (pC (.int 3)) (pCons (pC (.int 5)) pNil))) (pCons (pTup (pCons (pC (.int 9)) (pCons (pC (.int 9)) pNil))) (pCons (pTup (pCons (p2 oMul (pC (.int 12)) (pVar 10)) (pCons (p2 oMul (pC (.int 12)) (pVar 10)) pNil))) pNil)))))) (p2 oMod (p2 oDiv (pVar 3) (pC (.int 5))) (pC (.int 4)))) (b2 12 13)) (pSeq (pSet 14 (pDS (p2 pAdd (p1 pInt (p2 oGe (pVar 9) (pVar 12))) (p1 pInt (p2 oGe (pVar 9) (pVar 13)))))) (pSeq (pIfSt (pT (p2 pEq (p2 oMod (pVar 0) (pC (.int 2))) (pC (.int 1)))) (pSeq (pSet 14 (pDS (p2 oMod (pVar 4) (pC (.int 3))))) (pSet 4 (pDS (p2 oDiv (pVar 4) (pC (.int 3)))))) pNext) (pIfSt (pT (p2 pEq (pVar 14) (pC (.int 0)))) (pApp 6 (pVarD 8)) (pIfSt (pT (p2 pEq (pVar 14) (pC (.int 1)))) (pApp 7 (pVarD 8)) pNext)))))))) (pSeq (pSet 15 (pDS (p2 oMod (pVar 4) (pC (.int 32))))) (pRet (pDS (pTup (pCons (pVarD 5) (pCons (pSD (p2S pCat (pSD (pCutL (pVar 6) (pPart (pVar 15)) pNo)) (pSD (pCutL (pVar 6) pNo (pPart (pVar 15)))))) (pCons (pSD (p2S pCat (pSD (pCutL (pVar 7) (pPart (pVar 15)) pNo)) (pSD (pCutL (pVar 7) pNo (pPart (pVar 15)))))) pNil))))))))))))))


abbrev N_law_spread : List Str := ["_law_cell", "_law_k"]
abbrev N_law_rows : List Str := ["_law_cell", "_law_k", "_law_most", "_law_draw_here", "_law_left", "_law_many", "_law_on", "_law_free", "_law_one", "_law_more", "_law_bits", "_law_lamp", "_law_least", "_law_last", "_law_sort", "_law_at"]
theorem ln_law_spread : ∀ ds Q XQ, ph_law_spread ds Q XQ → ds.length = 2 := by rintro ds Q XQ ⟨d, n, rfl, _⟩; rfl
theorem pu_law_spread : ∀ ds Q XQ, ph_law_spread ds Q XQ → p_law_spread { nx := fun _ => Q (.dat .non), rt := Q } (dstart N_law_spread ds) := by
  rintro ds Q XQ ⟨c, k, rfl, hk, h⟩
  unfold p_law_spread
  walk_at "pu"
  refine ⟨.inl (by omega), .inr (by omega), .inr ?_, by decide, h⟩
  have h1 : (2 * (k : Int) * (k : Int)) ≤ 2000 * 1000 := Int.mul_le_mul (by omega) (by omega) (by omega) (by omega)
  have h0 : 0 ≤ (2 * (k : Int) * (k : Int)) := Int.mul_nonneg (by omega) (by omega)
  constructor <;> omega
theorem spread_nat (c : Int) (k : Nat) : ∃ m : Nat, spreadM c k = (m : Int) := ⟨(spreadM c k).toNat, (Int.toNat_of_nonneg (Int.emod_nonneg _ (by decide))).symm⟩
theorem ite_any {c : Prop} [Decidable c] {p q : Prop} (hp : p) (hq : q) : if c then p else q := by split <;> assumption
/-- what is left of the digits, at first -/
def pLeft : PR := pIf (pT (p2 pEq (p2 oMod (pVar 0) (pC (.int 2))) (pC (.int 1)))) (p2 oDiv (pVar 0) (pC (.int 2))) (pVarD 3)
theorem pLeft_any {st : DS} {R : D → Prop} {c d : Int} (h0 : st[0]? = some (some (.dat (.int c)))) (h3 : st[3]? = some (some (.dat (.int d)))) (h : ∀ l : Int, R (.int l)) : pLeft st R := by
  unfold pLeft
  walk_at "pu"
  simp only [pv_at h0, pvd_at h3]
  walk_at "pu"
  refine ⟨by decide, ?_⟩
  by_cases e : c % 2 = 1
  · rw [if_pos (by simpa using e)]
    exact ⟨⟨by decide, by decide⟩, h _⟩
  · rw [if_neg (by simpa using e)]
    exact h _
theorem pRngShl {st : DS} {Q : List D → Prop} {i n : Nat} (hn : n ≤ 16) (h0 : st[i]? = some (some (.dat (.int (n : Int))))) (h : Q ((List.range (2 ^ n)).map fun i => D.int (i : Nat))) : pRng1 (p2 oShl (pC (.int 1)) (pVar i)) st Q := by
  have h2 := two_le16 hn
  refine pRng1_nat (n := 2 ^ n) (by omega) h fun R hR => ?_
  walk_at "pu"
  rw [pv_at h0]
  walk_at "pu"
  refine ⟨⟨by omega, by omega, by decide⟩, ?_⟩
  rw [Int.toNat_natCast, Int.one_mul]
  simpa using hR
theorem ln_law_rows : ∀ ds Q XQ, ph_law_rows ds Q XQ → ds.length = 3 := by rintro ds Q XQ ⟨c, k, m, rfl, _⟩; rfl
theorem pu_law_rows : ∀ ds Q XQ, ph_law_rows ds Q XQ → p_law_rows { nx := fun _ => Q (.dat .non), rt := Q } (dstart N_law_rows ds) := by
  rintro ds Q XQ ⟨c, k, most, rfl, hk, hm1, hm5, h⟩
  unfold p_law_rows
  rw [show pIf (pT (p2 pEq (p2 oMod (pVar 0) (pC (.int 2))) (pC (.int 1)))) (p2 oDiv (pVar 0) (pC (.int 2))) (pVarD 3) = pLeft from rfl]
  walk_at "pu"
  refine ⟨c, k, rfl, hk, ?_⟩
  walk_at "pu"
  refine ⟨_, 1, rfl, by decide, ?_⟩
  walk_at "pu"
  obtain ⟨dr, hdr⟩ := spread_nat (spreadM c k) 1
  rw [hdr]
  refine pLeft_any rfl rfl fun left => ?_
  walk_at "pu"
  obtain ⟨n, hn, hn1⟩ : ∃ n : Nat, 1 + left % (most : Int) = (n : Int) ∧ 1 ≤ n ∧ n ≤ most := ⟨(1 + left % most).toNat, by have := Int.emod_nonneg left (show (most : Int) ≠ 0 by omega); omega, by have := Int.emod_nonneg left (show (most : Int) ≠ 0 by omega); have := Int.emod_lt_of_pos left (show (0 : Int) < most by omega); omega⟩
  rw [hn]
  refine ⟨by omega, ⟨by omega, by omega⟩, by decide, by decide, ?_⟩
  have h2 : 2 ^ n ≤ 32 := Nat.le_trans (Nat.pow_le_pow_right (by decide) (show n ≤ 5 by omega)) (by decide)
  refine pRngShl (by omega) rfl ?_
  refine for_idx _ (fun i st => ∃ (l : Int) (on free : List Int) (x8 x9 x10 x11 x12 x13 x14 x15 : Option SV), st = [some (.dat (.int c)), some (.dat (.int (k : Int))), some (.dat (.int (most : Int))), some (.dat (.int (dr : Int))), some (.dat (.int l)), some (.dat (.int (n : Int))), some (.own (on.map .int)), some (.own (free.map .int)), x8, x9, x10, x11, x12, x13, x14, x15] ∧ okPart (i : Int) on free) _ _ ⟨_, [], [], _, _, _, _, _, _, _, _, rfl, okPart_nil⟩ ?_ ?_
  · rintro i j st hj ⟨l, on, free, x8, x9, x10, x11, x12, x13, x14, x15, rfl, hok⟩ G hG
    have hji : j = i ∧ i < 2 ^ n := by
      have hi := (List.getElem?_eq_some_iff.mp hj).1
      rw [List.length_range] at hi
      rw [List.getElem?_range hi] at hj
      cases hj
      exact ⟨rfl, hi⟩
    obtain ⟨rfl, hi⟩ := hji
    walk_at "pu"
    refine ⟨.inl (by omega), _, j, rfl, by omega, ?_⟩
    obtain ⟨sp, hsp⟩ := spread_nat ((dr : Int) + 7 * (j : Int)) j
    rw [hsp]
    walk_at "pu"
    refine ⟨by decide, ?_⟩
    refine pRng1_nat (n := n) (by omega) ?_ fun R hR => hR
    refine pGo_map _ (fun m => .int (bitN j m)) _ (fun m hm R hR => ?_) (by rw [List.length_range]; omega) ?_
    · walk_at "pu"
      refine ⟨by omega, ?_⟩
      rw [bit_of]
      exact hR
    unfold pSum
    walk_at "pu"
    generalize ((List.range n).map fun m => ((bitN j m : Nat) : Int)).sum = tot
    refine ⟨by decide, by decide, by decide, by decide, .inl (by omega), .inl (by omega), by decide, by decide, ⟨by decide, by decide⟩, by decide, ?_⟩
    obtain ⟨x, hx, a, b, rfl⟩ := at_mod (P := fun x => ∃ a b : Int, x = D.tup [.int a, .int b]) (L := [D.tup [.int 6, .int 8], D.tup [.int 3, .int 5], D.tup [.int 9, .int 9], D.tup [.int (12 * (tot % 2)), .int (12 * (tot % 2))]]) (n := 4) (by
      intro x hx
      simp only [List.mem_cons, List.not_mem_nil, or_false] at hx
      rcases hx with rfl | rfl | rfl | rfl <;> exact ⟨_, _, rfl⟩) ((dr : Int) / 5) rfl (by decide)
    refine ⟨_, hx, ?_⟩
    unfold pInt
    walk_at "pu"
    refine ⟨by decide, ?_⟩
    have hlen : on.length + free.length ≤ 32 := by have := hok.2.2.2.2; omega
    have l1 : (on.map D.int).length < 100000 := by rw [List.length_map]; omega
    have l2 : (free.map D.int).length < 100000 := by rw [List.length_map]; omega
    have g0 : ∀ (l' : Int) x9 x10 x11 x12 x13 x14 x15, G [some (.dat (.int c)), some (.dat (.int (k : Int))), some (.dat (.int (most : Int))), some (.dat (.int (dr : Int))), some (.dat (.int l')), some (.dat (.int (n : Int))), some (.own (on.map .int)), some (.own (free.map .int)), some (.dat (.int (j : Int))), x9, x10, x11, x12, x13, x14, x15] := fun l' _ _ _ _ _ _ _ => hG _ ⟨l', on, free, _, _, _, _, _, _, _, _, rfl, by have := okPart_skip hok; simpa using this⟩
    have g1 : ∀ (l' : Int) x9 x10 x11 x12 x13 x14 x15, G [some (.dat (.int c)), some (.dat (.int (k : Int))), some (.dat (.int (most : Int))), some (.dat (.int (dr : Int))), some (.dat (.int l')), some (.dat (.int (n : Int))), some (.own (on.map .int ++ [.int (j : Int)])), some (.own (free.map .int)), some (.dat (.int (j : Int))), x9, x10, x11, x12, x13, x14, x15] := fun l' _ _ _ _ _ _ _ => hG _ ⟨l', on ++ [(j : Int)], free, _, _, _, _, _, _, _, _, (by rw [List.map_append]; rfl), by have := okPart_on hok (by omega); simpa using this⟩
    have g2 : ∀ (l' : Int) x9 x10 x11 x12 x13 x14 x15, G [some (.dat (.int c)), some (.dat (.int (k : Int))), some (.dat (.int (most : Int))), some (.dat (.int (dr : Int))), some (.dat (.int l')), some (.dat (.int (n : Int))), some (.own (on.map .int)), some (.own (free.map .int ++ [.int (j : Int)])), some (.dat (.int (j : Int))), x9, x10, x11, x12, x13, x14, x15] := fun l' _ _ _ _ _ _ _ => hG _ ⟨l', on, free ++ [(j : Int)], _, _, _, _, _, _, _, _, (by rw [List.map_append]; rfl), by have := okPart_free hok (by omega); simpa using this⟩
    exact ite_any ⟨by decide, ⟨by decide, by decide⟩, ite_any ⟨l1, g1 _ _ _ _ _ _ _ _⟩ (ite_any ⟨l2, g2 _ _ _ _ _ _ _ _⟩ (g0 _ _ _ _ _ _ _ _))⟩ (ite_any ⟨l1, g1 _ _ _ _ _ _ _ _⟩ (ite_any ⟨l2, g2 _ _ _ _ _ _ _ _⟩ (g0 _ _ _ _ _ _ _ _)))
  · rintro st ⟨l, on, free, x8, x9, x10, x11, x12, x13, x14, x15, rfl, hok⟩
    rw [List.length_range] at hok
    walk_at "pu"
    obtain ⟨at_, hat⟩ : ∃ m : Nat, l % 32 = (m : Int) := ⟨(l % 32).toNat, by omega⟩
    rw [hat]
    simp only [cut_to, cut_from]
    have hlen : on.length + free.length ≤ 32 := by have := hok.2.2.2.2; have : ((2 ^ n : Nat) : Int) ≤ 32 := (by exact_mod_cast h2); omega
    refine ⟨by decide, ?_, ?_, by decide, ?_⟩
    · simp; omega
    · simp; omega
    · rw [← List.map_drop, ← List.map_take, ← List.map_append, ← List.map_drop, ← List.map_take, ← List.map_append]
      exact h n _ _ hn1.1 hn1.2 (okPart_perm (by simpa using hok) (turn_perm on at_) (turn_perm free at_))
end Pu
namespace Pu
open PySem L2
local macro_rules | `(tactic| walk_at "pu") => `(tactic| try simp only [List.map_cons, List.map_nil, List.cons_append, List.nil_append, List.getElem?_cons_zero, List.getElem?_cons_succ, List.set_cons_zero, List.set_cons_succ, List.length_cons, List.length_nil, List.replicate_succ, List.replicate_zero, dstart_eq,
  svd_dat, svd_own, svd_ownK, ok_ii, ok_ss, ok_bb, ok_nn, ok_ns, ok_sn, ok_ni, ok_in, ok_ll, ok_tt, ev_ii, ev_ss, ev_bb, ev_nn, ev_ns, ev_sn, ev_ni, ev_in, true_and, and_true, atI_0, atI_nat, Option.some.injEq, exists_eq_left', if_true, if_false, decide_eq_true_eq, String.reduceBEq, Bool.false_eq_true, reduceIte, Bool.or_true, Bool.true_or, Bool.or_false, Bool.false_or, Bool.not_true, Bool.not_false,
  ↓p2, ↓p2S, ↓p1, ↓p1S, ↓pT, ↓pAnd, ↓pOr, ↓pNot, ↓pAndV, ↓pOrV, ↓pNotV, ↓pIf, ↓pIfS, ↓pNil, ↓pCons, ↓pLst, ↓pTup, ↓pItL, ↓pItT, ↓pItS, ↓pItE, ↓pItES, ↓pLc, ↓pYes, ↓bN, ↓b2, ↓b3, ↓dwipe, ↓pNext, ↓pSeq, ↓pRet, ↓pRetV, ↓pIfSt, ↓pSet, ↓pAsg, ↓pDrop, ↓pApp, ↓pInc, ↓pFix, ↓pFor, ↓pBreak, ↓pCont, ↓pDS, ↓pSD, ↓pv_0, ↓pv_s, ↓pvd_0, ↓pvd_s, ↓pC, ↓pIsi, ↓isTy, ↓pLen, bools_map, ints_map, strs_map, bools_mapf, ints_mapf, strs_mapf, ↓pAny, ↓pAll, ↓pCall, ↓pEq, ↓pNe, ↓pIn, ↓pIx, ↓pCutS, ↓pCutL, ↓pNo, ↓pPart, ↓pJoin, ↓pCat, ↓pI, ↓pI0, ↓pB0, ↓pAdd, ↓pIs, ↓oSub, ↓oMul, ↓oMod, ↓oDiv, ↓oShl, ↓oShr, ↓oPow, ↓oAnd, ↓oOr, ↓oXor, ↓oLt, ↓oLe, ↓oGt, ↓oGe])
theorem isTerm_iff {t : List Nat} {n : Nat} : isTermM (.str t) n = true ↔ t.length = n ∧ okTerm t := by
  simp only [isTermM, Bool.and_eq_true, decide_eq_true_iff, List.all_eq_true]
  constructor
  · rintro ⟨h1, h2⟩
    refine ⟨h1, fun c hc => ?_⟩
    have := h2 c hc
    simp at this
    unfold okSign
    omega
  · rintro ⟨h1, h2⟩
    refine ⟨h1, fun c hc => ?_⟩
    rcases h2 c hc with rfl | rfl | rfl <;> decide
/-- lamp by lamp -/
theorem has_iff {t : List Nat} {s : Nat} : hasM t s = true ↔ ∀ i c, t[i]? = some c → c = 45 ∨ c = 48 + bitN s i := by
  induction t generalizing s with
  | nil => simp [hasM]
  | cons d r ih =>
    rw [hasM, Bool.and_eq_true, ih]
    constructor
    · rintro ⟨h1, h2⟩ i c e
      cases i with
      | zero =>
        simp at e
        subst e
        simpa [bitN] using h1
      | succ i =>
        have := h2 i c (by simpa using e)
        have e2 : bitN (s / 2) i = bitN s (i + 1) := by unfold bitN; rw [Nat.div_div_eq_div_mul, ← Nat.pow_succ']
        rw [e2] at this
        exact this
    · intro h
      refine ⟨by have := h 0 d rfl; simpa [bitN] using this, fun i c e => ?_⟩
      have := h (i + 1) c (by simpa using e)
      have e2 : bitN (s / 2) i = bitN s (i + 1) := by unfold bitN; rw [Nat.div_div_eq_div_mul, ← Nat.pow_succ']
      rw [e2]
      exact this
/-! ### terms of settings, drawn terms -/
def tset (n s : Nat) : List Nat := (List.range n).map fun l => 48 + bitN s l
theorem bitN_lt (s l : Nat) : bitN s l < 2 := Nat.mod_lt _ (by decide)
theorem tset_ok (n s : Nat) : okTerm (tset n s) ∧ (tset n s).length = n := by
  refine ⟨fun c hc => ?_, by simp [tset]⟩
  obtain ⟨l, _, rfl⟩ := List.mem_map.mp hc
  have := bitN_lt s l
  unfold okSign
  omega
theorem det_sign {st : DS} {p q : PR} {s l : Nat} (h1 : Det p st (.int (s : Int))) (h2 : Det q st (.int (l : Int))) : Det (p2 pIx (pC (.str [48, 49])) (p2 oAnd (p2 oShr p q) (pC (.int 1)))) st (.str [48 + bitN s l]) :=
  det_ixS det_c (det_bit h1 h2) (by simp) (by
    rw [atI_nat]
    have := bitN_lt s l
    rcases (show bitN s l = 0 ∨ bitN s l = 1 by omega) with e | e <;> rw [e] <;> rfl)
theorem join_signs {st : DS} {j m n : Nat} {p : PR} {f : Nat → Nat} (hn : n ≤ 100) (hm : st[m]? = some (some (.dat (.int (n : Int))))) (hp : ∀ l : Nat, l < n → Det p ((st.set j none).set j (some (.dat (.int (l : Int))))) (.str [f l])) :
    Det (pJoin (pC (.str [])) (pSD (pLc (pRng1 (pVar m)) (bN j) [j] pYes p))) st (.str ((List.range n).map f)) := by
  have := det_joinf (f := fun l => [f l]) (l := List.range n) (s := []) (p := pC (.str [])) (q := pSD (pLc (pRng1 (pVar m)) (bN j) [j] pYes p)) (st := st) det_c (dets_map1 (detI_rng (n := n) (by omega) (det_vd hm)) (by rw [List.length_range]; omega) fun l hl => hp l (List.mem_range.mp hl)).l (by
    rw [List.map_map, show ((fun x : List Nat => x.length) ∘ fun l => [f l]) = fun _ => 1 from rfl, sum_ones]
    simp
    omega)
  rw [join_flat, flat_ones] at this
  exact this
theorem det_sgn {st : DS} {p : PR} {x : Int} (h : Det p st (.int x)) : Det (p2 pIx (pC (.str [48, 49, 45])) (p2 oMod p (pC (.int 3)))) st (.str [sgnM x]) := det_ixS det_c (det_mod h (by decide)) (by simp) (sgn_at x)
def tdraw (n : Nat) (m : Int) : List Nat := (List.range n).map fun l => sgnM (spreadM m l / 9)
theorem tdraw_ok (n : Nat) (m : Int) : okTerm (tdraw n m) ∧ (tdraw n m).length = n := by
  refine ⟨fun c hc => ?_, by simp [tdraw]⟩
  obtain ⟨l, _, rfl⟩ := List.mem_map.mp hc
  exact sgn_ok _
theorem det_spread {st : DS} {p q : PR} {m : Int} {l : Nat} {XQ : XD → Prop} (hl : l ≤ 1000) (h1 : Det p st (.int m)) (h2 : Det q st (.int (l : Int))) : Det (pSD (pCall ph_law_spread XQ (pCons p (pCons q pNil)))) st (.int (spreadM m l)) :=
  det_callD (detA_cons h1 (detA_cons h2 detA_nil)) fun R hR => ⟨m, l, rfl, hl, hR⟩
/-! ### the first terms -/
theorem tset_has {n s u : Nat} (hs : s < 2 ^ n) (hu : u < 2 ^ n) : hasM (tset n s) u = true ↔ u = s := by
  constructor
  · intro h
    rw [has_iff] at h
    have bits : ∀ i, i < n → bitN u i = bitN s i := fun i hi => by
      have := h i (48 + bitN s i) (by simp [tset, hi])
      have := bitN_lt s i
      omega
    have key : ∀ (n s u : Nat), s < 2 ^ n → u < 2 ^ n → (∀ i, i < n → bitN u i = bitN s i) → u = s := by
      intro n
      induction n with
      | zero => intro s u h1 h2 _; simp at h1 h2; omega
      | succ n ih =>
        intro s u h1 h2 hb
        rw [Nat.pow_succ] at h1 h2
        have h0 := hb 0 (by omega)
        have hd : u / 2 = s / 2 := ih (s / 2) (u / 2) (by omega) (by omega) fun i hi => by
          have := hb (i + 1) (by omega)
          unfold bitN at this ⊢
          rw [Nat.div_div_eq_div_mul, Nat.div_div_eq_div_mul, ← Nat.pow_succ']
          exact this
        unfold bitN at h0
        simp at h0
        omega
    exact key n s u hs hu bits
  · rintro rfl
    rw [has_iff]
    intro i c e
    rw [tset, List.getElem?_map] at e
    obtain ⟨j, hj, rfl⟩ := Option.map_eq_some_iff.mp e
    obtain ⟨rfl, _⟩ := range_at hj
    exact .inr rfl
theorem tset_inj {n s u : Nat} (hs : s < 2 ^ n) (hu : u < 2 ^ n) (h : tset n s = tset n u) : s = u := by
  have := (tset_has hs hs).mpr rfl
  rw [h] at this
  exact (tset_has hu hs).mp this
/-- the setting that a term tells -/
def valT : List Nat → Nat
  | [] => 0
  | c :: r => (c - 48) + 2 * valT r
theorem valT_lt : ∀ (t : List Nat), (∀ c ∈ t, c = 48 ∨ c = 49) → valT t < 2 ^ t.length
  | [], _ => by simp [valT]
  | c :: r, h => by
    have ih := valT_lt r fun d hd => h d (List.mem_cons_of_mem _ hd)
    have := h c List.mem_cons_self
    rw [List.length_cons, Nat.pow_succ, valT]
    omega
theorem valT_tset : ∀ (t : List Nat), (∀ c ∈ t, c = 48 ∨ c = 49) → tset t.length (valT t) = t
  | [], _ => rfl
  | c :: r, h => by
    have ih := valT_tset r fun d hd => h d (List.mem_cons_of_mem _ hd)
    have hc := h c List.mem_cons_self
    unfold tset at ih ⊢
    rw [List.length_cons, List.range_succ_eq_map, List.map_cons, List.map_map]
    congr 1
    · have hv : valT (c :: r) = (c - 48) + 2 * valT r := rfl
      unfold bitN
      rw [hv, Nat.pow_zero, Nat.div_one]
      omega
    · conv => rhs; rw [← ih]
      apply List.map_congr_left
      intro l _
      simp only [Function.comp]
      congr 1
      have hv : valT (c :: r) = (c - 48) + 2 * valT r := rfl
      unfold bitN
      rw [hv, Nat.pow_succ', ← Nat.div_div_eq_div_mul]
      congr 2
      omega
/-! ### the law's word for an error, with a row or without -/
def wordM (k : Nat) : List Nat := ([[99, 111, 117, 110, 116, 32], [114, 111, 119, 115, 32], [116, 101, 114, 109, 32], [116, 101, 108, 108, 105, 110, 103, 32], [110, 111, 116, 101, 32]] : List (List Nat)).getD k []
def ph_law_word : FSpec := fun ds Q _ => ∃ d : D, ds = [d] ∧ match d with
  | .non => Q (.dat (.str [110, 111, 110, 101]))
  | .exc x => x.kind ∈ KS ∧ Q (.dat (.str (wordM x.kind)))
  | _ => False
def p_law_word : PSt :=
  (pSeq (pIfSt (pOr (pT (p2 (pIs false) (pVar 0) (pC .non))) (pNot (pT (pIsv KS (pVar 0))))) (pRet (pDS (pC (.str [110, 111, 110, 101])))) pNext) (pSeq (pSet 1 (pDS (p2 pAdd (p2 pRep (pC (.str [99, 111, 117, 110, 116, 32])) (p1 pInt (pIsx KS 0 (pVar 0)))) (p2 pRep (pC (.str [114, 111, 119, 115, 32])) (p1 pInt (pIsx KS 1 (pVar 0))))))) (pSeq (pSet 1 (pDS (p2 pAdd (p2 pAdd (pVar 1) (p2 pRep (pC (.str [116, 101, 114, 109, 32])) (p1 pInt (pIsx KS 2 (pVar 0))))) (p2 pRep (pC (.str [116, 101, 108, 108, 105, 110, 103, 32])) (p1 pInt (pIsx KS 3 (pVar 0))))))) (pRet (pDS (p2 pAdd (pVar 1) (p2 pRep (pC (.str [110, 111, 116, 101, 32])) (p1 pInt (pIsx KS 4 (pVar 0))))))))))


abbrev N_law_word : List Str := ["_law_caught", "_law_found"]
/-! ### rows as settings -/
def okSets (n : Nat) (rows : List Int) : Prop := rows.length ≤ 64 ∧ ∀ i ∈ rows, 0 ≤ i ∧ i < 2 ^ n
theorem intL_app : ∀ (xs : List Int) (ys : List D), intL (xs.map .int ++ ys) = (intL ys).map (xs ++ ·)
  | [], ys => by cases h : intL ys <;> simp [h]
  | x :: xs, ys => by
    rw [List.map_cons, List.cons_append]
    show (intL (xs.map .int ++ ys)).map (x :: ·) = _
    rw [intL_app xs ys]
    cases intL ys <;> simp
theorem askL_app {rows : List Int} {n : Nat} {ys : List D} (h : okSets n rows) (hl : ys.length ≤ 3) (hy : ∀ y ∈ ys, askD y) : askL (.lst (rows.map .int ++ ys)) := by
  refine ⟨by rw [List.length_append, List.length_map]; have := h.1; omega, fun d hd => ?_⟩
  rw [List.mem_append] at hd
  rcases hd with hd | hd
  · obtain ⟨i, _, rfl⟩ := List.mem_map.mp hd
    trivial
  · exact hy d hd
theorem rows_sets {n : Nat} {on free : List Int} (hn : n ≤ 5) (h : okRows n on free) : okSets n on ∧ okSets n free := by
  have h32 : (2 : Int) ^ n ≤ 32 := by
    have : 2 ^ n ≤ 32 := Nat.le_trans (Nat.pow_le_pow_right (by decide) hn) (by decide)
    exact_mod_cast this
  have hl := h.2.2.2.2
  exact ⟨⟨by omega, fun i hi => ⟨(h.2.2.1 i hi).1, (h.2.2.1 i hi).2.1⟩⟩, ⟨by omega, h.2.2.2.1⟩⟩
theorem askL_ints {n : Nat} {xs : List Int} (h : okSets n xs) : askL (.lst (xs.map .int)) := by
  have := askL_app (ys := []) h (by simp) (by simp)
  simpa using this
theorem sets_ok {n : Nat} {xs : List Int} (h : okSets n xs) (nd : xs.Nodup) : setsM n (.lst (xs.map .int)) = some xs := by
  unfold setsM
  dsimp only
  rw [ints_map]
  show (if _ then _ else _) = some xs
  rw [if_pos, if_pos nd]
  rw [List.all_eq_true]
  intro i hi
  have := h.2 i hi
  simp
  omega
theorem sorted_uniq : ∀ {xs ys : List Int}, xs.Perm ys → xs.Pairwise (· ≤ ·) → ys.Pairwise (· ≤ ·) → xs = ys
  | [], ys, p, _, _ => (List.nil_perm.mp p).symm
  | x :: xs, [], p, _, _ => absurd p.length_eq (by simp)
  | x :: xs, y :: ys, p, h1, h2 => by
    rw [List.pairwise_cons] at h1 h2
    have e : x = y := by
      have a : x ∈ y :: ys := p.mem_iff.mp List.mem_cons_self
      have b : y ∈ x :: xs := p.mem_iff.mpr List.mem_cons_self
      rw [List.mem_cons] at a b
      rcases a with a | a
      · exact a
      · rcases b with b | b
        · exact b.symm
        · have := h1.1 y b; have := h2.1 x a; omega
    subst e
    rw [sorted_uniq ((List.perm_cons x).mp p) h1.2 h2.2]
theorem off_perm {n : Nat} {on free on' free' : List Int} (p : on'.Perm on) (q : free'.Perm free) : offM n on' free' = offM n on free := by
  unfold offM
  apply List.filter_congr
  intro i _
  rw [show decide ((i : Int) ∈ on') = decide ((i : Int) ∈ on) from decide_eq_decide.mpr p.mem_iff, show decide ((i : Int) ∈ free') = decide ((i : Int) ∈ free) from decide_eq_decide.mpr q.mem_iff]
theorem off_len (n : Nat) (on free : List Int) : (offM n on free).length ≤ 2 ^ n := Nat.le_trans (List.length_filter_le _ _) (by rw [List.length_range]; exact Nat.le_refl _)
/-! ### in order -/
def srt (xs : List Int) : List Int := xs.mergeSort (fun a b => decide (a ≤ b))
theorem srt_perm (xs : List Int) : (srt xs).Perm xs := List.mergeSort_perm _ _
theorem srt_rise (xs : List Int) : (srt xs).Pairwise (· ≤ ·) := by
  have := List.pairwise_mergeSort (le := fun a b : Int => decide (a ≤ b)) (fun a b c h1 h2 => by simp at *; omega) (fun a b => by simp; omega) xs
  exact this.imp fun h => by simpa using h
theorem srt_eq {xs ys : List Int} (p : ys.Perm xs) (h : ys.Pairwise (· ≤ ·)) : ys = srt xs := sorted_uniq (p.trans (srt_perm xs).symm) h (srt_rise xs)
theorem dets_sorted {p : PR} {st : DS} {xs : List Int} (h : Det p st (.lst (xs.map .int))) : DetS (p1S pSorted p) st (.own ((srt xs).map .int)) := fun R hR => h _ (by
  simp only [pSorted, ints_map]
  intro ns' p1 s1
  rw [srt_eq p1 s1]
  exact hR)
theorem det_sortedI {p : PR} {st : DS} {xs : List Int} (h : Det p st (.lst (xs.map .int))) : Det (pSD (p1S pSorted p)) st (.lst ((srt xs).map .int)) := (dets_sorted h).l
theorem srt_nil : srt [] = [] := by simp [srt]
theorem say_good {n : Nat} {on free : List Int} (h1 : 1 ≤ n) (h5 : n ≤ 5) (hr : okRows n on free) : sayM (.int (n : Int)) (.lst (on.map .int)) (.lst (free.map .int)) = .good n on free := by
  unfold sayM
  dsimp only
  rw [if_pos (by simp; omega), Int.toNat_natCast, sets_ok (rows_sets h5 hr).1 hr.1]
  dsimp only
  rw [sets_ok (rows_sets h5 hr).2 hr.2.1]
  dsimp only
  rw [if_neg]
  intro z
  obtain ⟨i, h3, h4⟩ := List.any_eq_true.mp z
  exact (hr.2.2.1 i (by simpa using h4)).2.2 h3
theorem rows_nil {n : Nat} {on free : List Int} (hr : okRows n on free) : okRows n on [] := ⟨hr.1, List.nodup_nil, fun i hi => ⟨(hr.2.2.1 i hi).1, (hr.2.2.1 i hi).2.1, by simp⟩, by simp, by have := hr.2.2.2.2; rw [List.length_nil]; omega⟩
theorem say_good0 {n : Nat} {on : List Int} (h1 : 1 ≤ n) (h5 : n ≤ 5) (hr : okRows n on []) : sayM (.int (n : Int)) (.lst (on.map .int)) .non = .good n on [] := say_good (free := []) h1 h5 hr
theorem spec_saying {n : Nat} {on free : List Int} {c : D} {DQ : List (Str × D) → Prop} {XQ : XD → Prop} (h1 : 1 ≤ n) (h5 : n ≤ 5) (hr : okRows n on free) (hc : c = .lst (free.map .int) ∨ free = [] ∧ c = .non)
    (h : DQ [("lamps", .int (n : Int)), ("lit", .lst ((srt on).map .int)), ("either", .lst ((srt free).map .int))]) : ph_Saying [.int (n : Int), .lst (on.map .int), c] DQ XQ := by
  have e : sayM (.int (n : Int)) (.lst (on.map .int)) c = .good n on free := by
    rcases hc with rfl | ⟨rfl, rfl⟩
    · exact say_good h1 h5 hr
    · exact say_good0 h1 h5 hr
  refine ⟨_, _, _, rfl, trivial, askL_ints (rows_sets h5 hr).1, ?_, ?_⟩
  · rcases hc with rfl | ⟨rfl, rfl⟩
    · exact askL_ints (rows_sets h5 hr).2
    · trivial
  rw [e]
  intro on' free' p1 s1 p2 s2
  rw [srt_eq p1 s1, srt_eq p2 s2]
  exact h
theorem dets_saying {n : Nat} {on free : List Int} {as : PAs} {st : DS} {XQ : XD → Prop} (h1 : 1 ≤ n) (h5 : n ≤ 5) (hr : okRows n on free) (h : DetA as st [.int (n : Int), .lst (on.map .int), .lst (free.map .int)]) : DetS (pMake "Saying" ph_Saying [] XQ as) st (.dat (sayD n (srt on) (srt free))) := fun R hR =>
  h _ (spec_saying h1 h5 hr (.inl rfl) hR)
theorem dets_saying0 {n : Nat} {on : List Int} {as : PAs} {st : DS} {XQ : XD → Prop} (h1 : 1 ≤ n) (h5 : n ≤ 5) (hr : okRows n on []) (h : DetA as st [.int (n : Int), .lst (on.map .int)]) : DetS (pMake "Saying" ph_Saying [.non] XQ as) st (.dat (sayD n (srt on) [])) := fun R hR =>
  h _ (spec_saying h1 h5 hr (.inr ⟨rfl, rfl⟩) (by rw [srt_nil]; exact hR))
/-! ### the settings that are off -/
theorem go_off {st : DS} {a b j n : Nat} {on free : List Int} {Q : List D → Prop} (hn : n ≤ 16) (ea : st[a]? = some (some (.dat (.lst (on.map .int))))) (eb : st[b]? = some (some (.dat (.lst (free.map .int))))) (hj : j < st.length) (ja : j ≠ a) (jb : j ≠ b)
    (h : Q ((offM n on free).map fun i => .int (i : Nat))) : pGo (bN j) (pAnd (pT (p2 (pIn true) (pVar j) (pVar a))) (pT (p2 (pIn true) (pVar j) (pVar b)))) (pVarD j) st ((List.range (2 ^ n)).map fun i => D.int (i : Nat)) [] Q := by
  have h2 := two_le16 hn
  refine pGo_fil _ (fun i : Nat => !decide ((i : Int) ∈ on) && !decide ((i : Int) ∈ free)) (fun i => .int (i : Nat)) _ (fun i hi R0 R1 k1 k0 => ?_) (by rw [List.length_range]; omega) h
  have e0 : (st.set j (some (SV.dat (D.int (i : Nat)))))[a]? = some (some (.dat (.lst (on.map .int)))) := by rw [List.getElem?_set_ne ja]; exact ea
  have e1 : (st.set j (some (SV.dat (D.int (i : Nat)))))[b]? = some (some (.dat (.lst (free.map .int)))) := by rw [List.getElem?_set_ne jb]; exact eb
  have e3 : (st.set j (some (SV.dat (D.int (i : Nat)))))[j]? = some (some (.dat (.int (i : Nat)))) := by rw [List.getElem?_set_self hj]
  have f1 : (pIn true) (.int (i : Nat)) (.lst (on.map .int)) = fun Q => Q (.bl (!decide ((i : Int) ∈ on))) := by
    funext Q
    show (_ ∧ _ ∧ _) = _
    rw [hasD_int]
    simp [flatD, flat_ints]
  have f2 : (pIn true) (.int (i : Nat)) (.lst (free.map .int)) = fun Q => Q (.bl (!decide ((i : Int) ∈ free))) := by
    funext Q
    show (_ ∧ _ ∧ _) = _
    rw [hasD_int]
    simp [flatD, flat_ints]
  simp only [bN, pAnd, pT, p2, pVar, pVarD, e0, e1, e3, svd_dat, f1, f2]
  by_cases h3 : (i : Int) ∈ on
  · simp only [h3, decide_true, Bool.not_true, Bool.false_eq_true, if_false]
    exact k0 (by simp [h3])
  · by_cases h4 : (i : Int) ∈ free
    · simp only [h3, h4, decide_true, decide_false, Bool.not_false, Bool.not_true, Bool.false_eq_true, if_false, if_true]
      exact k0 (by simp [h3, h4])
    · simp only [h3, h4, decide_false, Bool.not_false, if_true]
      exact k1 (by simp [h3, h4])
theorem dets_off {st : DS} {a b j m n : Nat} {on free : List Int} (hn : n ≤ 16) (em : st[m]? = some (some (.dat (.int (n : Int))))) (ea : st[a]? = some (some (.dat (.lst (on.map .int))))) (eb : st[b]? = some (some (.dat (.lst (free.map .int))))) (hj : j < st.length) (ja : j ≠ a) (jb : j ≠ b) :
    DetS (pLc (pRng1 (p2 oShl (pC (.int 1)) (pVar m))) (bN j) [j] (pAnd (pT (p2 (pIn true) (pVar j) (pVar a))) (pT (p2 (pIn true) (pVar j) (pVar b)))) (pVarD j)) st (.own ((offM n on free).map fun i => .int (i : Nat))) := fun R hR =>
  pRngShl hn em (go_off hn (by show (st.set j none)[a]? = _; rw [List.getElem?_set_ne ja]; exact ea) (by show (st.set j none)[b]? = _; rw [List.getElem?_set_ne jb]; exact eb) (by show j < (st.set j none).length; simpa using hj) ja jb hR)
/-! ### lists without repetition -/
theorem nodup_len {α : Type} [DecidableEq α] : ∀ {xs ys : List α}, xs.Nodup → (∀ x ∈ xs, x ∈ ys) → xs.length ≤ ys.length
  | [], _, _, _ => Nat.zero_le _
  | x :: xs, ys, nd, h => by
    rw [List.nodup_cons] at nd
    have hx := h x List.mem_cons_self
    have := nodup_len (ys := ys.erase x) nd.2 fun y hy => by
      have hy2 := h y (List.mem_cons_of_mem _ hy)
      have hne : y ≠ x := fun z => nd.1 (z ▸ hy)
      exact (List.mem_erase_of_ne hne).mpr hy2
    rw [List.length_erase_of_mem hx] at this
    have pos : 0 < ys.length := List.length_pos_of_mem hx
    rw [List.length_cons]
    omega
theorem perm_of_mem {α : Type} [DecidableEq α] : ∀ {xs ys : List α}, xs.Nodup → ys.Nodup → (∀ x, x ∈ xs ↔ x ∈ ys) → xs.Perm ys
  | [], ys, _, _, h => by
    have : ys = [] := List.eq_nil_iff_forall_not_mem.mpr fun y hy => by have := (h y).mpr hy; cases this
    rw [this]
  | x :: xs, ys, nx, ny, h => by
    rw [List.nodup_cons] at nx
    have hx := (h x).mp List.mem_cons_self
    have p := perm_of_mem (xs := xs) (ys := ys.erase x) nx.2 (ny.erase x) fun y => by
      rw [ny.mem_erase_iff, ← h y, List.mem_cons]
      constructor
      · intro hy; exact ⟨fun z => nx.1 (z ▸ hy), .inr hy⟩
      · rintro ⟨h1, h2⟩
        rcases h2 with rfl | h2
        · exact absurd rfl h1
        · exact h2
    exact (p.cons x).trans (List.perm_cons_erase hx).symm
theorem rows_in {n : Nat} {on free : List Int} (hr : okRows n on free) {i : Int} (hi : i ∈ on ++ free) : ∃ s : Nat, i = (s : Int) ∧ s < 2 ^ n ∧ s ∉ offM n on free := by
  have : 0 ≤ i ∧ i < 2 ^ n := by
    rcases List.mem_append.mp hi with h | h
    · exact ⟨(hr.2.2.1 i h).1, (hr.2.2.1 i h).2.1⟩
    · exact hr.2.2.2.1 i h
  obtain ⟨s, rfl⟩ : ∃ s : Nat, i = (s : Int) := ⟨i.toNat, by omega⟩
  refine ⟨s, rfl, by exact_mod_cast this.2, fun z => ?_⟩
  have := (List.mem_filter.mp z).2
  simp at this
  rcases List.mem_append.mp hi with h | h
  · exact this.1 h
  · exact this.2 h
theorem off_in {n : Nat} {on free : List Int} {s : Nat} (hs : s < 2 ^ n) (ho : s ∉ offM n on free) : (s : Int) ∈ on ++ free := by
  by_cases h1 : (s : Int) ∈ on
  · exact List.mem_append_left _ h1
  · by_cases h2 : (s : Int) ∈ free
    · exact List.mem_append_right _ h2
    · exact absurd (List.mem_filter.mpr ⟨List.mem_range.mpr hs, by simp [h1, h2]⟩) ho
theorem ln_law_word : ∀ ds Q XQ, ph_law_word ds Q XQ → ds.length = 1 := by rintro ds Q XQ ⟨d, rfl, _⟩; rfl
theorem pu_law_word : ∀ ds Q XQ, ph_law_word ds Q XQ → p_law_word { nx := fun _ => Q (.dat .non), rt := Q } (dstart N_law_word ds) := by
  rintro ds Q XQ ⟨d, rfl, h⟩
  unfold p_law_word pIsv pIsx pRep pInt
  cases d with
  | non => walk_at "pu"; exact h
  | exc x =>
    have h5 : x.kind < 5 := (show ∀ k ∈ KS, k < 5 by decide) _ h.1
    obtain ⟨hk, h⟩ := h
    walk_at "pu"
    generalize x.kind = k at *
    rcases (show k = 0 ∨ k = 1 ∨ k = 2 ∨ k = 3 ∨ k = 4 by omega) with rfl | rfl | rfl | rfl | rfl <;> exact ⟨hk, hk, by decide, by decide, by decide, hk, by decide, by decide, by decide, by decide, hk, by decide, by decide, by decide, by decide, hk, by decide, by decide, by decide, by decide, hk, by decide, by decide, by decide, by decide, h⟩
  | _ => exact h.elim
end Pu
namespace Pu
open PySem L2
local macro_rules | `(tactic| walk_at "pu") => `(tactic| try simp only [List.map_cons, List.map_nil, List.cons_append, List.nil_append, List.getElem?_cons_zero, List.getElem?_cons_succ, List.set_cons_zero, List.set_cons_succ, List.length_cons, List.length_nil, List.replicate_succ, List.replicate_zero, dstart_eq,
  svd_dat, svd_own, svd_ownK, ok_ii, ok_ss, ok_bb, ok_nn, ok_ns, ok_sn, ok_ni, ok_in, ok_ll, ok_tt, ev_ii, ev_ss, ev_bb, ev_nn, ev_ns, ev_sn, ev_ni, ev_in, true_and, and_true, atI_0, atI_nat, Option.some.injEq, exists_eq_left', if_true, if_false, decide_eq_true_eq, String.reduceBEq, Bool.false_eq_true, reduceIte, Bool.or_true, Bool.true_or, Bool.or_false, Bool.false_or, Bool.not_true, Bool.not_false,
  ↓p2, ↓p2S, ↓p1, ↓p1S, ↓pT, ↓pAnd, ↓pOr, ↓pNot, ↓pAndV, ↓pOrV, ↓pNotV, ↓pIf, ↓pIfS, ↓pNil, ↓pCons, ↓pLst, ↓pTup, ↓pItL, ↓pItT, ↓pItS, ↓pItE, ↓pItES, ↓pLc, ↓pYes, ↓bN, ↓b2, ↓b3, ↓dwipe, ↓pNext, ↓pSeq, ↓pRet, ↓pRetV, ↓pIfSt, ↓pSet, ↓pAsg, ↓pDrop, ↓pApp, ↓pInc, ↓pFix, ↓pFor, ↓pBreak, ↓pCont, ↓pDS, ↓pSD, ↓pv_0, ↓pv_s, ↓pvd_0, ↓pvd_s, ↓pC, ↓pIsi, ↓isTy, ↓pLen, bools_map, ints_map, strs_map, bools_mapf, ints_mapf, strs_mapf, ↓pAny, ↓pAll, ↓pCall, ↓pEq, ↓pNe, ↓pIn, ↓pIx, ↓pCutS, ↓pCutL, ↓pNo, ↓pPart, ↓pJoin, ↓pCat, ↓pI, ↓pI0, ↓pB0, ↓pAdd, ↓pIs, ↓oSub, ↓oMul, ↓oMod, ↓oDiv, ↓oShl, ↓oShr, ↓oPow, ↓oAnd, ↓oOr, ↓oXor, ↓oLt, ↓oLe, ↓oGt, ↓oGe])
/-! ### notes -/
def ph_settings_of : FSpec := fun ds Q _ => ∃ (t : List Nat), ds = [.str t] ∧ t.length ≤ 16 ∧ Q (.own ((settingsM t).map fun i => .int (i : Nat)))
def wd (w : Nat) : List Nat := if w = 0 then [111, 110] else if w = 1 then [111, 102, 102] else [102, 114, 101, 101]
def firstM (n : Nat) : List Nat := [108, 97, 109, 112, 115, 32, 48 + n]
def rowM (n : Nat) (p : Nat × Nat) : List Nat := tset n p.1 ++ [32] ++ wd p.2
def noteT (n : Nat) (rs : List (Nat × Nat)) : List Nat := joinD [10] (firstM n :: rs.map (rowM n))
def lampsM (z : List Nat) : Nat := if z = firstM 1 then 1 else if z = firstM 2 then 2 else if z = firstM 3 then 3 else if z = firstM 4 then 4 else if z = firstM 5 then 5 else 0
def wdIx (z : List Nat) : Option Nat := if z = wd 0 then some 0 else if z = wd 1 then some 1 else if z = wd 2 then some 2 else none
def settingM (n : Nat) (z : List Nat) : Option (Nat × Nat) := match splitM 32 z with
  | [a, b] => if isTermM (.str a) n = true ∧ ¬ 45 ∈ a then (wdIx b).map fun w => (valT a, w) else none
  | _ => none
def readGo (n : Nat) : Nat → List (List Nat) → List (Nat × Nat) → Nat ⊕ List (Nat × Nat)
  | _, [], told => .inr told
  | i, r :: rs, told => match settingM n r with
    | none => .inl (i + 2)
    | some p => if p.1 ∈ told.map (·.1) then .inl (i + 2) else readGo n (i + 1) rs (told ++ [p])
def readM (z : List Nat) : Nat ⊕ (Nat × List (Nat × Nat)) := match splitM 10 z with
  | [] => .inl 1
  | f :: rs => if lampsM f = 0 then .inl 1 else match readGo (lampsM f) 0 rs [] with
    | .inl k => .inl k
    | .inr told => .inr (lampsM f, told)
def selW (w : Nat) (rs : List (Nat × Nat)) : List Int := (rs.filter fun p => decide (p.2 = w)).map fun p => (p.1 : Int)
def wOf (on free : List Int) (s : Nat) : Nat := if (s : Int) ∈ on then 0 else if (s : Int) ∈ free then 2 else 1
def rowsOf (n : Nat) (on free : List Int) (e : Bool) : List (Nat × Nat) := ((List.range (2 ^ n)).map fun s => (s, wOf on free s)).filter fun p => !decide (p.2 = 1) || e
def showsM (n : Nat) (on free : List Int) : Bool := decide (2 * ((offM n on free).length : Int) ≤ ((2 ^ n : Nat) : Int))
def ph_lamps_in : FSpec := fun ds Q _ => ∃ (z : List Nat), ds = [.str z] ∧ Q (.dat (.int (lampsM z : Nat)))
def setD : Option (Nat × Nat) → D
  | none => .non
  | some p => .tup [.int (p.1 : Nat), .str (wd p.2)]
def ph_setting_in : FSpec := fun ds Q _ => ∃ (z : List Nat) (n : Nat), ds = [.str z, .int (n : Int)] ∧ n ≤ 5 ∧ z.length ≤ 1000 ∧ Q (.dat (setD (settingM n z)))
def ph_note_of : FSpec := fun ds Q _ => ∃ (n : Nat) (on free : List Int), ds = [sayD n on free] ∧ n ≤ 5 ∧ Q (.dat (.str (noteT n (rowsOf n on free (showsM n on free)))))
/-- a text whose rows aren't long -/
def okText (z : List Nat) : Prop := z.length ≤ 50000 ∧ ∀ r ∈ splitM 10 z, r.length ≤ 1000
theorem spl_single {c : Nat} {parts : List (List Nat)} (hne : parts ≠ []) (h : ∀ p ∈ parts, c ∉ p) : splitM c (joinD [c] parts) = parts := by
  have e2 : ∀ l : List (List Nat), TL.joinL [c] l = joinD [c] l := by
    intro l
    induction l with
    | nil => rfl
    | cons x r ih => cases r with
      | nil => rfl
      | cons y r => show x ++ ([c] ++ TL.joinL [c] (y :: r)) = x ++ ([c] ++ joinD [c] (y :: r)); rw [ih]
  unfold splitM
  rw [← e2]
  exact TL.spl_join hne h
theorem tset_no (n s c : Nat) (h : c < 48) : c ∉ tset n s := by
  intro hc
  obtain ⟨l, _, e⟩ := List.mem_map.mp hc
  omega
theorem wd_no (w : Nat) : 10 ∉ wd w ∧ 32 ∉ wd w := by
  unfold wd
  split
  · decide
  · split <;> decide
theorem wd_ix {w : Nat} (h : w < 3) : wdIx (wd w) = some w := by
  rcases (show w = 0 ∨ w = 1 ∨ w = 2 by omega) with rfl | rfl | rfl <;> decide
theorem wd_inj {w u : Nat} (hw : w < 3) (hu : u < 3) (h : wd w = wd u) : w = u := by
  have := wd_ix hw
  rw [h, wd_ix hu] at this
  exact (Option.some.inj this).symm
theorem valT_of {n s : Nat} (hs : s < 2 ^ n) : valT (tset n s) = s := by
  have hc : ∀ c ∈ tset n s, c = 48 ∨ c = 49 := fun c hc => by
    obtain ⟨l, _, rfl⟩ := List.mem_map.mp hc
    have := bitN_lt s l
    omega
  have h1 := valT_lt _ hc
  have h2 := valT_tset _ hc
  rw [(tset_ok n s).2] at h1 h2
  exact tset_inj h1 hs h2
theorem setting_row {n : Nat} {p : Nat × Nat} (hs : p.1 < 2 ^ n) (hw : p.2 < 3) : settingM n (rowM n p) = some p := by
  have e : splitM 32 (rowM n p) = [tset n p.1, wd p.2] := by
    have := spl_single (c := 32) (parts := [tset n p.1, wd p.2]) (by simp) fun q hq => by
      simp only [List.mem_cons, List.not_mem_nil, or_false] at hq
      rcases hq with rfl | rfl
      · exact tset_no n p.1 32 (by decide)
      · exact (wd_no p.2).2
    rw [show rowM n p = joinD [32] [tset n p.1, wd p.2] by simp [rowM, joinD]]
    exact this
  unfold settingM
  rw [e]
  dsimp only
  rw [if_pos ⟨isTerm_iff.mpr ⟨(tset_ok n p.1).2, (tset_ok n p.1).1⟩, tset_no n p.1 45 (by decide)⟩, wd_ix hw, valT_of hs]
  rfl
theorem first_lamps {n : Nat} (h1 : 1 ≤ n) (h5 : n ≤ 5) : lampsM (firstM n) = n := by
  rcases (show n = 1 ∨ n = 2 ∨ n = 3 ∨ n = 4 ∨ n = 5 by omega) with rfl | rfl | rfl | rfl | rfl <;> decide
/-- distinct settings of n lamps, each with a word -/
def okNote (n : Nat) (rs : List (Nat × Nat)) : Prop := (rs.map (·.1)).Nodup ∧ ∀ p ∈ rs, p.1 < 2 ^ n ∧ p.2 < 3
theorem row_no {n : Nat} {p : Nat × Nat} : 10 ∉ rowM n p := by
  unfold rowM
  intro h
  rw [List.mem_append, List.mem_append, List.mem_singleton] at h
  rcases h with (h | h) | h
  · exact tset_no n p.1 10 (by decide) h
  · exact absurd h (by decide)
  · exact (wd_no p.2).1 h
theorem note_split (n : Nat) (hn : n ≤ 5) (rs : List (Nat × Nat)) : splitM 10 (noteT n rs) = firstM n :: rs.map (rowM n) :=
  spl_single (by simp) fun q hq => by
    rcases List.mem_cons.mp hq with rfl | hq
    · unfold firstM
      simp
      omega
    · obtain ⟨p, _, rfl⟩ := List.mem_map.mp hq
      exact row_no
theorem read_go {n : Nat} : ∀ (rs told : List (Nat × Nat)) (i : Nat), okNote n (told ++ rs) → readGo n i (rs.map (rowM n)) told = .inr (told ++ rs)
  | [], told, i, _ => by simp [readGo]
  | p :: rs, told, i, h => by
    have hp := h.2 p (by simp)
    rw [List.map_cons, readGo, setting_row hp.1 hp.2]
    dsimp only
    rw [if_neg]
    · rw [read_go rs (told ++ [p]) (i + 1) (by rw [List.append_assoc]; exact h), List.append_assoc]
      rfl
    · intro hm
      have nd := h.1
      rw [List.map_append, List.nodup_append] at nd
      exact nd.2.2 _ hm _ (by simp) rfl
theorem read_note {n : Nat} {rs : List (Nat × Nat)} (h1 : 1 ≤ n) (h5 : n ≤ 5) (h : okNote n rs) : readM (noteT n rs) = .inr (n, rs) := by
  unfold readM
  rw [note_split n h5]
  dsimp only
  rw [first_lamps h1 h5, if_neg (by omega), read_go rs [] 0 (by simpa using h)]
  rfl
theorem wd_len (w : Nat) : (wd w).length ≤ 4 := by
  unfold wd
  split
  · decide
  · split <;> decide
theorem row_len (n : Nat) (p : Nat × Nat) : (rowM n p).length ≤ n + 5 := by
  unfold rowM
  have := wd_len p.2
  have := (tset_ok n p.1).2
  simp
  omega
theorem join_len {c : Nat} {m : Nat} : ∀ (parts : List (List Nat)), (∀ p ∈ parts, p.length ≤ m) → (joinD [c] parts).length ≤ parts.length * (m + 1)
  | [], _ => by simp [joinD]
  | [x], h => by have := h x (by simp); simp [joinD]; omega
  | x :: y :: r, h => by
    have ih := join_len (c := c) (y :: r) fun p hp => h p (List.mem_cons_of_mem _ hp)
    have := h x (by simp)
    rw [joinD, List.length_append, List.length_append, List.length_singleton, List.length_cons, Nat.add_mul]
    omega
theorem note_len {n : Nat} {rs : List (Nat × Nat)} (hn : n ≤ 5) (hl : rs.length ≤ 100) : okText (noteT n rs) := by
  have hp : ∀ q ∈ firstM n :: rs.map (rowM n), q.length ≤ 10 := fun q hq => by
    rcases List.mem_cons.mp hq with rfl | hq
    · show 7 ≤ 10; decide
    · obtain ⟨p, _, rfl⟩ := List.mem_map.mp hq
      have := row_len n p
      omega
  refine ⟨?_, fun r hr => ?_⟩
  · have := join_len (c := 10) _ hp
    rw [List.length_cons, List.length_map] at this
    unfold noteT
    omega
  · rw [note_split n hn] at hr
    have := hp r hr
    omega
theorem rowsOf_ok (n : Nat) (on free : List Int) (e : Bool) : okNote n (rowsOf n on free e) := by
  refine ⟨?_, fun p hp => ?_⟩
  · unfold rowsOf
    have : (((List.range (2 ^ n)).map fun s => (s, wOf on free s)).filter fun p => !decide (p.2 = 1) || e).Sublist ((List.range (2 ^ n)).map fun s => (s, wOf on free s)) := List.filter_sublist
    have h2 := this.map (·.1)
    rw [List.map_map] at h2
    have e2 : ((fun x : Nat × Nat => x.1) ∘ fun s => (s, wOf on free s)) = id := rfl
    rw [e2, List.map_id] at h2
    exact List.Nodup.sublist h2 List.nodup_range
  · obtain ⟨h1, _⟩ := List.mem_filter.mp hp
    obtain ⟨s, hs, rfl⟩ := List.mem_map.mp h1
    refine ⟨List.mem_range.mp hs, ?_⟩
    unfold wOf
    dsimp only
    split
    · omega
    · split <;> omega
theorem rowsOf_len {n : Nat} (hn : n ≤ 5) (on free : List Int) (e : Bool) : (rowsOf n on free e).length ≤ 32 := by
  unfold rowsOf
  refine Nat.le_trans (List.length_filter_le _ _) ?_
  rw [List.length_map, List.length_range]
  exact Nat.le_trans (Nat.pow_le_pow_right (by decide) hn) (by decide)
theorem okNote_perm {n : Nat} {rs rs' : List (Nat × Nat)} (p : rs'.Perm rs) (h : okNote n rs) : okNote n rs' :=
  ⟨(p.map (·.1)).nodup_iff.mpr h.1, fun q hq => h.2 q (p.mem_iff.mp hq)⟩
theorem sel_perm {rs rs' : List (Nat × Nat)} (p : rs'.Perm rs) (w : Nat) : (selW w rs').Perm (selW w rs) := (p.filter _).map _
theorem sel_nodup {n : Nat} {rs : List (Nat × Nat)} (h : okNote n rs) (w : Nat) : (selW w rs).Nodup := by
  unfold selW
  have s : (rs.filter fun p => decide (p.2 = w)).Sublist rs := List.filter_sublist
  have nd : ((rs.filter fun p => decide (p.2 = w)).map (·.1)).Nodup := List.Nodup.sublist (s.map _) h.1
  rw [List.nodup_iff_pairwise_ne, List.pairwise_map] at nd ⊢
  exact nd.imp fun hne e => hne (by exact_mod_cast e)
theorem mem_sel {rs : List (Nat × Nat)} {w : Nat} {i : Int} : i ∈ selW w rs ↔ ∃ p ∈ rs, p.2 = w ∧ i = (p.1 : Int) := by
  unfold selW
  rw [List.mem_map]
  constructor
  · rintro ⟨p, hp, rfl⟩
    obtain ⟨h1, h2⟩ := List.mem_filter.mp hp
    exact ⟨p, h1, by simpa using h2, rfl⟩
  · rintro ⟨p, hp, h1, rfl⟩
    exact ⟨p, List.mem_filter.mpr ⟨hp, by simpa using h1⟩, rfl⟩
theorem sel_rows {n : Nat} {on free : List Int} (hr : okRows n on free) (e : Bool) : (selW 0 (rowsOf n on free e)).Perm on ∧ (selW 2 (rowsOf n on free e)).Perm free := by
  have ok := rowsOf_ok n on free e
  have nat : ∀ i : Int, 0 ≤ i → i < 2 ^ n → ∃ s : Nat, i = (s : Int) ∧ s < 2 ^ n := fun i h1 h2 => ⟨i.toNat, by omega, by
    have : ((i.toNat : Nat) : Int) < ((2 ^ n : Nat) : Int) := by rw [Int.toNat_of_nonneg h1]; simpa using h2
    exact_mod_cast this⟩
  have mem : ∀ (s w : Nat), s < 2 ^ n → wOf on free s = w → w ≠ 1 → (s, w) ∈ rowsOf n on free e := fun s w hs hw h1 => by
    unfold rowsOf
    refine List.mem_filter.mpr ⟨List.mem_map.mpr ⟨s, List.mem_range.mpr hs, by rw [hw]⟩, by simp [h1]⟩
  have back : ∀ p ∈ rowsOf n on free e, p.2 = wOf on free p.1 := fun p hp => by
    obtain ⟨h1, _⟩ := List.mem_filter.mp hp
    obtain ⟨s, _, rfl⟩ := List.mem_map.mp h1
    rfl
  constructor
  · refine perm_of_mem (sel_nodup ok 0) hr.1 fun i => ?_
    rw [mem_sel]
    constructor
    · rintro ⟨p, hp, h0, rfl⟩
      have := back p hp
      rw [h0] at this
      unfold wOf at this
      split at this
      · assumption
      · split at this <;> cases this
    · intro hi
      obtain ⟨s, rfl, hs⟩ := nat i (hr.2.2.1 i hi).1 (hr.2.2.1 i hi).2.1
      exact ⟨(s, 0), mem s 0 hs (by unfold wOf; rw [if_pos hi]) (by decide), rfl, rfl⟩
  · refine perm_of_mem (sel_nodup ok 2) hr.2.1 fun i => ?_
    rw [mem_sel]
    constructor
    · rintro ⟨p, hp, h0, rfl⟩
      have := back p hp
      rw [h0] at this
      unfold wOf at this
      split at this
      · cases this
      · split at this
        · assumption
        · cases this
    · intro hi
      obtain ⟨s, rfl, hs⟩ := nat i (hr.2.2.2.1 i hi).1 (hr.2.2.2.1 i hi).2
      have hno : (s : Int) ∉ on := fun z => (hr.2.2.1 _ z).2.2 hi
      exact ⟨(s, 2), mem s 2 hs (by unfold wOf; rw [if_neg hno, if_pos hi]) (by decide), rfl, rfl⟩
theorem rowsOf_perm {n : Nat} {on free on' free' : List Int} (p : on'.Perm on) (q : free'.Perm free) (e : Bool) : rowsOf n on' free' e = rowsOf n on free e := by
  unfold rowsOf
  congr 1
  apply List.map_congr_left
  intro s _
  unfold wOf
  simp only [p.mem_iff, q.mem_iff]
theorem shows_perm {n : Nat} {on free on' free' : List Int} (p : on'.Perm on) (q : free'.Perm free) : showsM n on' free' = showsM n on free := by unfold showsM; rw [off_perm p q]
/-- the settings, counted -/
theorem off_count {n : Nat} {on free : List Int} (hr : okRows n on free) : (offM n on free).length + (on.length + free.length) = 2 ^ n := by
  have nd : (((offM n on free).map fun i : Nat => (i : Int)) ++ (on ++ free)).Nodup := by
    rw [List.nodup_append, List.nodup_append]
    refine ⟨?_, ⟨hr.1, hr.2.1, fun a ha b hb e => (hr.2.2.1 a ha).2.2 (e ▸ hb)⟩, fun a ha b hb e => ?_⟩
    · have : (offM n on free).Nodup := List.nodup_range.filter _
      rw [List.nodup_iff_pairwise_ne] at this ⊢
      rw [List.pairwise_map]
      exact this.imp fun hne e => hne (by exact_mod_cast e)
    · subst e
      obtain ⟨s, hs, rfl⟩ := List.mem_map.mp ha
      obtain ⟨s', e', _, hn⟩ := rows_in hr hb
      have : s = s' := by exact_mod_cast e'
      subst this
      exact hn hs
  have p := perm_of_mem nd (show ((List.range (2 ^ n)).map fun i : Nat => (i : Int)).Nodup from by
    have : (List.range (2 ^ n)).Nodup := List.nodup_range
    rw [List.nodup_iff_pairwise_ne] at this ⊢
    rw [List.pairwise_map]
    exact this.imp fun hne e => hne (by exact_mod_cast e)) fun i => by
    rw [List.mem_append, List.mem_map, List.mem_map]
    constructor
    · rintro (⟨s, hs, rfl⟩ | h)
      · exact ⟨s, (List.mem_filter.mp hs).1, rfl⟩
      · obtain ⟨s, rfl, hs, _⟩ := rows_in hr h
        exact ⟨s, List.mem_range.mpr hs, rfl⟩
    · rintro ⟨s, hs, rfl⟩
      by_cases ho : s ∈ offM n on free
      · exact .inl ⟨s, ho, rfl⟩
      · exact .inr (off_in (List.mem_range.mp hs) ho)
  have := p.length_eq
  rw [List.length_append, List.length_append, List.length_map, List.length_map, List.length_range] at this
  exact this
theorem shows_law {n : Nat} {on free : List Int} (hr : okRows n on free) : showsM n on free = decide (((2 ^ n : Nat) : Int) - ((on.length : Int) + (free.length : Int)) ≤ (on.length : Int) + (free.length : Int)) := by
  have := off_count hr
  unfold showsM
  rw [Bool.eq_iff_iff, decide_eq_true_iff, decide_eq_true_iff]
  omega


end Pu
namespace Pu
open PySem L2
local macro_rules | `(tactic| walk_at "pu") => `(tactic| try simp only [List.map_cons, List.map_nil, List.cons_append, List.nil_append, List.getElem?_cons_zero, List.getElem?_cons_succ, List.set_cons_zero, List.set_cons_succ, List.length_cons, List.length_nil, List.replicate_succ, List.replicate_zero, dstart_eq,
  svd_dat, svd_own, svd_ownK, ok_ii, ok_ss, ok_bb, ok_nn, ok_ns, ok_sn, ok_ni, ok_in, ok_ll, ok_tt, ev_ii, ev_ss, ev_bb, ev_nn, ev_ns, ev_sn, ev_ni, ev_in, true_and, and_true, atI_0, atI_nat, Option.some.injEq, exists_eq_left', if_true, if_false, decide_eq_true_eq, String.reduceBEq, Bool.false_eq_true, reduceIte, Bool.or_true, Bool.true_or, Bool.or_false, Bool.false_or, Bool.not_true, Bool.not_false,
  ↓p2, ↓p2S, ↓p1, ↓p1S, ↓pT, ↓pAnd, ↓pOr, ↓pNot, ↓pAndV, ↓pOrV, ↓pNotV, ↓pIf, ↓pIfS, ↓pNil, ↓pCons, ↓pLst, ↓pTup, ↓pItL, ↓pItT, ↓pItS, ↓pItE, ↓pItES, ↓pLc, ↓pYes, ↓bN, ↓b2, ↓b3, ↓dwipe, ↓pNext, ↓pSeq, ↓pRet, ↓pRetV, ↓pIfSt, ↓pSet, ↓pAsg, ↓pDrop, ↓pApp, ↓pInc, ↓pFix, ↓pFor, ↓pBreak, ↓pCont, ↓pDS, ↓pSD, ↓pv_0, ↓pv_s, ↓pvd_0, ↓pvd_s, ↓pC, ↓pIsi, ↓isTy, ↓pLen, bools_map, ints_map, strs_map, bools_mapf, ints_mapf, strs_mapf, ↓pAny, ↓pAll, ↓pCall, ↓pEq, ↓pNe, ↓pIn, ↓pIx, ↓pCutS, ↓pCutL, ↓pNo, ↓pPart, ↓pJoin, ↓pCat, ↓pI, ↓pI0, ↓pB0, ↓pAdd, ↓pIs, ↓oSub, ↓oMul, ↓oMod, ↓oDiv, ↓oShl, ↓oShr, ↓oPow, ↓oAnd, ↓oOr, ↓oXor, ↓oLt, ↓oLe, ↓oGt, ↓oGe])
def p_settings_of : PSt :=
  (pRet (pLc (pRng1 (p2 oShl (pC (.int 1)) (p1 pLen (pVar 0)))) (bN 1) [1] (pT (pSD (pCall ph_has X0 (pCons (pVarD 0) (pCons (pVarD 1) pNil))))) (pVarD 1)))

def p_note_of : PSt :=
  (pSeq (pSet 1 (pLst (pCons (p2 pAdd (p2 pAdd (pC (.str [108, 97, 109, 112, 115])) (pC (.str [32]))) (p1 pStr (pSD (pMeth "Saying" "many" ph_Saying_many X0 (pVarD 0) pNil)))) pNil))) (pSeq (pSet 2 (pDS (p2 oLe (p2 oMul (pC (.int 2)) (p1 pLen (pSD (pMeth "Saying" "off" ph_Saying_off X0 (pVarD 0) pNil)))) (p2 oShl (pC (.int 1)) (pSD (pMeth "Saying" "many" ph_Saying_many X0 (pVarD 0) pNil)))))) (pSeq (pFor (pRng1 (p2 oShl (pC (.int 1)) (pSD (pMeth "Saying" "many" ph_Saying_many X0 (pVarD 0) pNil)))) (bN 3) (pSeq (pSet 4 (pDS (pIf (pT (p2 (pIn false) (pVar 3) (pSD (pMeth "Saying" "on" ph_Saying_on X0 (pVarD 0) pNil)))) (pC (.str [111, 110])) (pIf (pT (p2 (pIn false) (pVar 3) (pSD (pMeth "Saying" "free" ph_Saying_free X0 (pVarD 0) pNil)))) (pC (.str [102, 114, 101, 101])) (pC (.str [111, 102, 102])))))) (pIfSt (pOr (pT (p2 pNe (pVar 4) (pC (.str [111, 102, 102])))) (pT (pVar 2))) (pApp 1 (p2 pAdd (p2 pAdd (pJoin (pC (.str [])) (pSD (pLc (pRng1 (pSD (pMeth "Saying" "many" ph_Saying_many X0 (pVarD 0) pNil))) (bN 5) [5] pYes (pSD (pCall ph_sign_of X0 (pCons (pVarD 3) (pCons (pVarD 5) pNil))))))) (pC (.str [32]))) (pVar 4))) pNext))) (pRet (pDS (pJoin (pC (.str [10])) (pVar 1)))))))

def p_lamps_in : PSt :=
  (pSeq (pFor (pRng2 (pC (.int 1)) (p2 pAdd (pC (.int 5)) (pC (.int 1)))) (bN 1) (pIfSt (pT (p2 pEq (pVar 0) (p2 pAdd (p2 pAdd (pC (.str [108, 97, 109, 112, 115])) (pC (.str [32]))) (p1 pStr (pVar 1))))) (pRet (pDS (pVarD 1))) pNext)) (pRet (pDS (pC (.int 0)))))

def p_setting_in : PSt :=
  (pSeq (pSet 2 (pDS (pSD (pSplit 32 (pVar 0))))) (pSeq (pIfSt (pOr (pT (p2 pNe (p1 pLen (pVar 2)) (pC (.int 2)))) (pOr (pT (p2 (pIn true) (p2 pIx (pVar 2) (pC (.int 1))) (pC (.tup ([[111, 110], [111, 102, 102], [102, 114, 101, 101]].map .str))))) (pOr (pNot (pT (pSD (pCall ph_is_term X0 (pCons (p2 pIx (pVar 2) (pC (.int 0))) (pCons (pVarD 1) pNil)))))) (pT (p2 (pIn false) (pC (.str [45])) (p2 pIx (pVar 2) (pC (.int 0)))))))) (pRet (pDS (pC .non))) pNext) (pRet (pDS (pTup (pCons (p2 pIx (pSD (pCall ph_settings_of X0 (pCons (p2 pIx (pVar 2) (pC (.int 0))) pNil))) (pC (.int 0))) (pCons (p2 pIx (pVar 2) (pC (.int 1))) pNil)))))))


abbrev N_settings_of : List Str := ["term", "setting"]
abbrev N_note_of : List Str := ["saying", "rows", "shows_off", "one", "word", "lamp"]
abbrev N_lamps_in : List Str := ["row", "many"]
abbrev N_setting_in : List Str := ["row", "many", "words"]
theorem ln_settings_of : ∀ ds Q XQ, ph_settings_of ds Q XQ → ds.length = 1 := by rintro ds Q XQ ⟨d, rfl, _⟩; rfl
theorem det_has {st : DS} {p q : PR} {t : List Nat} {s : Nat} {XQ : XD → Prop} (hl : t.length ≤ 1000) (h1 : Det p st (.str t)) (h2 : Det q st (.int (s : Int))) : Det (pSD (pCall ph_has XQ (pCons p (pCons q pNil)))) st (.bl (hasM t s)) :=
  det_callD (detA_cons h1 (detA_cons h2 detA_nil)) fun R hR => ⟨t, s, rfl, hl, hR⟩
theorem pu_settings_of : ∀ ds Q XQ, ph_settings_of ds Q XQ → p_settings_of { nx := fun _ => Q (.dat .non), rt := Q } (dstart N_settings_of ds) := by
  rintro ds Q XQ ⟨t, rfl, hl, h⟩
  unfold p_settings_of
  have h2 := two_le16 hl
  exact retS_at (dets_fil1 (f := fun i => D.int ((i : Nat) : Int)) (hasM t) (detI_shl (n := t.length) hl (det_lenS (det_vd (d := .str t) rfl) (by omega))) (by rw [List.length_range]; omega) (fun s hs => detB_T (det_has (t := t) (s := s) (by omega) (det_varD rfl) (det_varD rfl))) fun s hs _ => det_varD rfl) h
theorem say_meth {m : Str} {n : Nat} {on free : List Int} (h1 : (m == ("lamps" : Str)) = false) (h2 : (m == ("lit" : Str)) = false) (h3 : (m == ("either" : Str)) = false) : ([("lamps", .int (n : Int)), ("lit", .lst (on.map .int)), ("either", .lst (free.map .int))] : List (Str × D)).lookup m = none := say_no h1 h2 h3
theorem det_many {st : DS} {p : PR} {n : Nat} {on free : List Int} {XQ : XD → Prop} (h : Det p st (sayD n on free)) : Det (pSD (pMeth "Saying" "many" ph_Saying_many XQ p pNil)) st (.int (n : Int)) := fun R hR =>
  meth_at h (say_meth (by decide +kernel) (by decide +kernel) (by decide +kernel)) (nil_at ⟨n, on, free, rfl, hR⟩)
theorem dets_on {st : DS} {p : PR} {n : Nat} {on free : List Int} {XQ : XD → Prop} (h : Det p st (sayD n on free)) : DetS (pMeth "Saying" "on" ph_Saying_on XQ p pNil) st (.own (on.map .int)) := fun R hR =>
  meth_at h (say_meth (by decide +kernel) (by decide +kernel) (by decide +kernel)) (nil_at ⟨n, on, free, rfl, hR⟩)
theorem dets_free {st : DS} {p : PR} {n : Nat} {on free : List Int} {XQ : XD → Prop} (h : Det p st (sayD n on free)) : DetS (pMeth "Saying" "free" ph_Saying_free XQ p pNil) st (.own (free.map .int)) := fun R hR =>
  meth_at h (say_meth (by decide +kernel) (by decide +kernel) (by decide +kernel)) (nil_at ⟨n, on, free, rfl, hR⟩)
theorem dets_offm {st : DS} {p : PR} {n : Nat} {on free : List Int} {XQ : XD → Prop} (hn : n ≤ 16) (h : Det p st (sayD n on free)) : DetS (pMeth "Saying" "off" ph_Saying_off XQ p pNil) st (.own ((offM n on free).map fun i => .int (i : Nat))) := fun R hR =>
  meth_at h (say_meth (by decide +kernel) (by decide +kernel) (by decide +kernel)) (nil_at ⟨n, on, free, rfl, hn, hR⟩)
theorem det_isi {T : String} {p : PR} {st : DS} {d : D} {b : Bool} (h : Det p st d) (hb : isTy T d = some b) : Det (pIsi T p) st (.bl b) := fun R hR => h _ (by
  rw [hb]; exact hR)
theorem det_inInts {neg : Bool} {p q : PR} {st : DS} {s : Nat} {xs : List Int} (h : Det p st (.int (s : Int))) (g : Det q st (.lst (xs.map .int))) : Det (p2 (pIn neg) p q) st (.bl (if neg then !decide ((s : Int) ∈ xs) else decide ((s : Int) ∈ xs))) := by
  have := det_inL (neg := neg) h g rfl (flat_ints xs) (by simp)
  rw [hasD_int] at this
  exact this
/-! ### note_of -/
theorem ln_note_of : ∀ ds Q XQ, ph_note_of ds Q XQ → ds.length = 1 := by rintro ds Q XQ ⟨n, on, free, rfl, _⟩; rfl
theorem wd_w (on free : List Int) (s : Nat) : wd (wOf on free s) = if (s : Int) ∈ on then [111, 110] else if (s : Int) ∈ free then [102, 114, 101, 101] else [111, 102, 102] := by
  unfold wOf
  split
  · rfl
  · split <;> rfl
def preRows (on free : List Int) (e : Bool) (i : Nat) : List (Nat × Nat) := ((List.range i).map fun s => (s, wOf on free s)).filter fun p => !decide (p.2 = 1) || e
theorem preRows_succ (on free : List Int) (e : Bool) (i : Nat) : preRows on free e (i + 1) = preRows on free e i ++ if (!decide (wOf on free i = 1) || e) = true then [(i, wOf on free i)] else [] := by
  unfold preRows
  rw [List.range_succ, List.map_append, List.filter_append]
  congr 1
  simp only [List.map_cons, List.map_nil, List.filter_cons, List.filter_nil]
theorem preRows_len (on free : List Int) (e : Bool) (i : Nat) : (preRows on free e i).length ≤ i := by
  unfold preRows
  refine Nat.le_trans (List.length_filter_le _ _) ?_
  rw [List.length_map, List.length_range]
  exact Nat.le_refl _
theorem wd_off {on free : List Int} {s : Nat} : (wd (wOf on free s) = [111, 102, 102]) ↔ wOf on free s = 1 := by
  rw [wd_w]
  unfold wOf
  split
  · simp
  · split <;> simp
theorem pu_note_of : ∀ ds Q XQ, ph_note_of ds Q XQ → p_note_of { nx := fun _ => Q (.dat .non), rt := Q } (dstart N_note_of ds) := by
  rintro ds Q XQ ⟨n, on, free, rfl, hn, h⟩
  unfold p_note_of
  have h2 : 2 ^ n ≤ 32 := Nat.le_trans (Nat.pow_le_pow_right (by decide) hn) (by decide)
  have lo := off_len n on free
  refine seq_setS (s := .own [.str (firstM n)]) (dets_lst (detA_cons (det_cats (det_cats det_c det_c (by simp)) (det_str (n := n) (det_many (det_varD (d := sayD n on free) rfl)) (by omega)) (by simp)) detA_nil) (by simp)) ?_
  refine seq_set (x := .bl (showsM n on free)) ?_ ?_
  · have := det_b0 (g := fun i j => decide (i ≤ j)) (p := p2 oMul (pC (.int 2)) (p1 pLen (pSD (pMeth "Saying" "off" ph_Saying_off X0 (pVarD 0) pNil)))) (q := p2 oShl (pC (.int 1)) (pSD (pMeth "Saying" "many" ph_Saying_many X0 (pVarD 0) pNil))) (st := (dstart N_note_of [sayD n on free]).set 1 (some (.own [.str (firstM n)])))
      (det_I (C := CMul) (g := fun i j => i * j) det_c (det_lenL (dets_offm (by omega) (det_varD (d := sayD n on free) rfl)).l) (.inl ⟨by omega, by omega⟩)) (det_shl1 (n := n) (by omega) (det_many (det_varD (d := sayD n on free) rfl)))
    rw [List.length_map] at this
    exact this
  refine seq_forI (detI_shl (n := n) (by omega) (det_many (det_varD (d := sayD n on free) rfl))) ?_
  generalize showsM n on free = e at h
  refine for_idx _ (fun i st => ∃ x3 x4 x5, st = [some (.dat (sayD n on free)), some (.own ((firstM n :: (preRows on free e i).map (rowM n)).map .str)), some (.dat (.bl e)), x3, x4, x5]) _ _ ⟨_, _, _, rfl⟩ ?_ ?_
  · rintro i j st hj ⟨x3, x4, x5, rfl⟩ G hG
    obtain ⟨rfl, hi⟩ := range_at hj
    have pl := preRows_len on free e j
    refine seq_set (x := .str (wd (wOf on free j))) ?_ ?_
    · rw [wd_w]
      refine det_if (b := decide ((j : Int) ∈ on)) (detB_T (det_inInts (neg := false) (det_vd (i := 3) rfl) (dets_on (det_varD (i := 0) (d := sayD n on free) rfl)).l)) (fun z => ?_) fun z => ?_
      · rw [if_pos (by simpa using z)]; exact det_c
      · rw [if_neg (by simpa using z)]
        refine det_if (b := decide ((j : Int) ∈ free)) (detB_T (det_inInts (neg := false) (det_vd (i := 3) rfl) (dets_free (det_varD (i := 0) (d := sayD n on free) rfl)).l)) (fun z => ?_) fun z => ?_
        · rw [if_pos (by simpa using z)]; exact det_c
        · rw [if_neg (by simpa using z)]; exact det_c
    have next := hG [some (.dat (sayD n on free)), some (.own ((firstM n :: (preRows on free e (j + 1)).map (rowM n)).map .str)), some (.dat (.bl e)), some (.dat (.int (j : Int))), some (.dat (.str (wd (wOf on free j)))), x5] ⟨_, _, _, rfl⟩
    rw [preRows_succ] at next
    refine if_at (b := !decide (wOf on free j = 1) || e) (detB_or (b := !decide (wOf on free j = 1)) (by
      have := detB_T (det_nep (x := .str (wd (wOf on free j))) (y := .str [111, 102, 102]) (p := pVar 4) (st := [some (.dat (sayD n on free)), some (.own ((firstM n :: (preRows on free e j).map (rowM n)).map .str)), some (.dat (.bl e)), some (.dat (.int (j : Int))), some (.dat (.str (wd (wOf on free j)))), x5]) (det_vd rfl) det_c trivial)
      rw [ev_ss, show decide (wd (wOf on free j) = [111, 102, 102]) = decide (wOf on free j = 1) from decide_eq_decide.mpr wd_off] at this
      exact this) fun _ => detB_T (det_vd (i := 2) rfl)) (fun z => ?_) fun z => ?_
    · rw [if_pos z, List.map_append] at next
      have wl := wd_len (wOf on free j)
      refine app_at (ds := (firstM n :: (preRows on free e j).map (rowM n)).map .str) (d := .str (rowM n (j, wOf on free j))) rfl (by simp; omega) ?_ (by simpa using next)
      have q := det_joinf (f := fun l => [48 + bitN j l]) (l := List.range n) (s := []) (p := pC (.str [])) (q := pSD (pLc (pRng1 (pSD (pMeth "Saying" "many" ph_Saying_many X0 (pVarD 0) pNil))) (bN 5) [5] pYes (pSD (pCall ph_sign_of X0 (pCons (pVarD 3) (pCons (pVarD 5) pNil)))))) (st := [some (.dat (sayD n on free)), some (.own ((firstM n :: (preRows on free e j).map (rowM n)).map .str)), some (.dat (.bl e)), some (.dat (.int (j : Int))), some (.dat (.str (wd (wOf on free j)))), x5]) det_c
        (dets_map1 (detI_rng (n := n) (by omega) (det_many (det_varD (d := sayD n on free) rfl))) (by rw [List.length_range]; omega) fun l hl => det_callD (detA_cons (det_varD (d := .int (j : Int)) rfl) (detA_cons (det_varD (d := .int (l : Int)) rfl) detA_nil)) fun R hR => ⟨j, l, rfl, hR⟩).l (by
        rw [List.map_map, show ((fun x : List Nat => x.length) ∘ fun l => [48 + bitN j l]) = fun _ => 1 from rfl, sum_ones]
        simp
        omega)
      rw [join_flat, flat_ones] at q
      have tl := (tset_ok n j).2
      exact det_cats (det_cats q det_c (by simp; omega)) (det_vd (d := .str (wd (wOf on free j))) rfl) (by simp; omega)
    · rw [if_neg (by rw [z]; simp), List.append_nil] at next
      exact next
  · rintro st ⟨x3, x4, x5, rfl⟩
    dsimp only
    rw [List.length_range]
    have pl := preRows_len on free e (2 ^ n)
    have okl : ∀ q ∈ firstM n :: (preRows on free e (2 ^ n)).map (rowM n), q.length ≤ 10 := fun q hq => by
      rcases List.mem_cons.mp hq with rfl | hq
      · show 7 ≤ 10; decide
      · obtain ⟨p, _, rfl⟩ := List.mem_map.mp hq
        have := row_len n p
        omega
    have sumb : ∀ (l : List (List Nat)), (∀ q ∈ l, q.length ≤ 10) → (l.map (·.length)).sum ≤ l.length * 10 := by
      intro l
      induction l with
      | nil => intro _; simp
      | cons q l ih => intro hq; have := hq q (by simp); have := ih fun x hx => hq x (List.mem_cons_of_mem _ hx); simp; omega
    have q := det_joinf (f := fun z : List Nat => z) (l := firstM n :: (preRows on free e (2 ^ n)).map (rowM n)) (s := [10]) (p := pC (.str [10])) (q := pVar 1) (st := [some (.dat (sayD n on free)), some (.own ((firstM n :: (preRows on free e (2 ^ n)).map (rowM n)).map .str)), some (.dat (.bl e)), x3, x4, x5]) det_c (det_var (s := .own ((firstM n :: (preRows on free e (2 ^ n)).map (rowM n)).map .str)) rfl) (by
      rw [List.map_id']
      have s1 := sumb _ okl
      have l1 : (firstM n :: (preRows on free e (2 ^ n)).map (rowM n)).length ≤ 33 := by rw [List.length_cons, List.length_map]; omega
      have e1 : ([10] : List Nat).length = 1 := rfl
      rw [e1]
      omega)
    rw [List.map_id'] at q
    exact ret_at q h
/-! ### what reads -/
theorem ln_lamps_in : ∀ ds Q XQ, ph_lamps_in ds Q XQ → ds.length = 1 := by rintro ds Q XQ ⟨z, rfl, _⟩; rfl
theorem pu_lamps_in : ∀ ds Q XQ, ph_lamps_in ds Q XQ → p_lamps_in { nx := fun _ => Q (.dat .non), rt := Q } (dstart N_lamps_in ds) := by
  rintro ds Q XQ ⟨z, rfl, h⟩
  unfold p_lamps_in
  refine seq_forI (detI_rng2 (lo := 1) (hi := 6) det_c (det_add det_c det_c) (by decide) (by decide)) ?_
  refine for_idx _ (fun i st => ∃ x1, st = [some (.dat (.str z)), x1] ∧ ∀ m, 1 ≤ m → m ≤ i → z ≠ firstM m) _ _ ⟨_, rfl, fun m a b => absurd a (by omega)⟩ ?_ ?_
  · rintro i j st hj ⟨x1, rfl, hm⟩ G hG
    obtain ⟨rfl, hi⟩ := range_at hj
    refine if_at (b := decide (z = firstM (1 + j))) (detB_T (by
      have := det_eqp (x := .str z) (y := .str (firstM (1 + j))) (p := pVar 0) (q := p2 pAdd (p2 pAdd (pC (.str [108, 97, 109, 112, 115])) (pC (.str [32]))) (p1 pStr (pVar 1))) (st := [some (.dat (.str z)), some (.dat (.int ((1 + j : Nat) : Int)))]) (det_vd rfl) (det_cats (det_cats det_c det_c (by simp)) (det_str (n := 1 + j) (det_vd rfl) (by omega)) (by simp)) trivial
      rw [ev_ss] at this
      exact this)) (fun e => ?_) fun e => ?_
    · have e2 : z = firstM (1 + j) := by simpa using e
      subst e2
      rw [first_lamps (by omega) (by omega)] at h
      exact ret_at (det_varD (d := .int ((1 + j : Nat) : Int)) rfl) h
    · refine hG _ ⟨_, rfl, fun m a b => ?_⟩
      by_cases hb : m ≤ j
      · exact hm m a hb
      · have : m = 1 + j := by omega
        subst this
        simpa using e
  · rintro st ⟨x1, rfl, hm⟩
    dsimp only
    have e : lampsM z = 0 := by
      unfold lampsM
      rw [List.length_range] at hm
      rw [if_neg (hm 1 (by omega) (by omega)), if_neg (hm 2 (by omega) (by omega)), if_neg (hm 3 (by omega) (by omega)), if_neg (hm 4 (by omega) (by omega)), if_neg (hm 5 (by omega) (by omega))]
    rw [e] at h
    exact ret_at det_c h
theorem spl_le (c : Nat) : ∀ (z acc : List Nat), ∀ p ∈ TL.spl [c] 0 acc z, p.length ≤ acc.length + z.length
  | [], acc, p, hp => by
    rw [TL.spl_nil, List.mem_singleton] at hp
    subst hp
    simp
  | d :: r, acc, p, hp => by
    unfold TL.spl at hp
    split at hp
    · rcases List.mem_cons.mp hp with rfl | hp
      · simp
      · have := spl_le c r [] p hp
        simp at this ⊢
        omega
    · have := spl_le c r (acc ++ [d]) p hp
      simp at this ⊢
      omega
theorem split_le {c : Nat} {z p : List Nat} (h : p ∈ splitM c z) : p.length ≤ z.length := by
  have := spl_le c z [] p h
  simpa using this
theorem spl_count (c : Nat) : ∀ (z acc : List Nat), (TL.spl [c] 0 acc z).length ≤ z.length + 1
  | [], acc => by rw [TL.spl_nil]; simp
  | d :: r, acc => by
    unfold TL.spl
    split
    · have := spl_count c r []
      simp at this ⊢
      omega
    · have := spl_count c r (acc ++ [d])
      simp at this ⊢
      omega
theorem single_set {a : List Nat} (h : ∀ c ∈ a, c = 48 ∨ c = 49) : settingsM a = [valT a] := by
  have h1 := valT_lt a h
  have h2 := valT_tset a h
  unfold settingsM
  have nd : ((List.range (2 ^ a.length)).filter (hasM a)).Nodup := List.nodup_range.filter _
  have key : ∀ x, x ∈ (List.range (2 ^ a.length)).filter (hasM a) ↔ x = valT a := fun x => by
    rw [List.mem_filter, List.mem_range]
    constructor
    · rintro ⟨h3, h4⟩
      rw [← h2] at h4
      exact (tset_has h1 h3).mp h4
    · rintro rfl
      refine ⟨h1, ?_⟩
      have := (tset_has h1 h1).mpr rfl
      rw [h2] at this
      exact this
  generalize (List.range (2 ^ a.length)).filter (hasM a) = l at nd key
  match l, nd, key with
  | [], _, key => exact absurd ((key _).mpr rfl) (by simp)
  | [x], _, key => rw [(key x).mp (by simp)]
  | x :: y :: r, nd, key =>
    have e1 := (key x).mp (by simp)
    have e2 := (key y).mp (by simp)
    rw [List.nodup_cons] at nd
    exact absurd (by rw [e1, e2]; simp) nd.1
theorem ln_setting_in : ∀ ds Q XQ, ph_setting_in ds Q XQ → ds.length = 2 := by rintro ds Q XQ ⟨z, n, rfl, _⟩; rfl
theorem wdIx_some {b : List Nat} {w : Nat} (h : wdIx b = some w) : b = wd w := by
  unfold wdIx at h
  split at h
  · cases h; assumption
  · split at h
    · cases h; assumption
    · split at h
      · cases h; assumption
      · cases h
theorem wdIx_mem {b : List Nat} : (wdIx b).isSome = decide (b ∈ [[111, 110], [111, 102, 102], [102, 114, 101, 101]]) := by
  unfold wdIx
  rw [Bool.eq_iff_iff, decide_eq_true_iff]
  simp only [List.mem_cons, List.not_mem_nil, or_false]
  show _ ↔ b = wd 0 ∨ b = wd 1 ∨ b = wd 2
  constructor
  · intro h
    by_cases h0 : b = wd 0
    · exact .inl h0
    · by_cases h1 : b = wd 1
      · exact .inr (.inl h1)
      · by_cases h2 : b = wd 2
        · exact .inr (.inr h2)
        · rw [if_neg h0, if_neg h1, if_neg h2] at h; cases h
  · rintro (h | h | h) <;> subst h <;> rfl
theorem det_inT {neg : Bool} {p q : PR} {st : DS} {b : List Nat} {zs : List (List Nat)} (h : Det p st (.str b)) (g : Det q st (.tup (zs.map .str))) : Det (p2 (pIn neg) p q) st (.bl (if neg then !decide (b ∈ zs) else decide (b ∈ zs))) := fun R hR => h _ (g _ (by
  have e : hasD (zs.map D.str) (.str b) = decide (b ∈ zs) := by
    unfold hasD
    rw [List.any_map, Bool.eq_iff_iff, List.any_eq_true, decide_eq_true_iff]
    constructor
    · rintro ⟨a, ha, e⟩
      have : a = b := by simpa [eqS] using e
      exact this ▸ ha
    · intro h
      exact ⟨b, h, by simp [eqS]⟩
  have fl : (zs.map D.str).all flatD = true := by simp [flatD]
  show pIn neg (.str b) (.tup (zs.map .str)) R
  match b, e, hR with
  | [], e, hR => exact ⟨rfl, fl, by rw [e]; exact hR⟩
  | [c], e, hR => exact ⟨rfl, fl, by rw [e]; exact hR⟩
  | c :: c2 :: r, e, hR => exact ⟨rfl, fl, by rw [e]; exact hR⟩))
theorem det_inS {neg : Bool} {p q : PR} {st : DS} {c : Nat} {z : List Nat} (h : Det p st (.str [c])) (g : Det q st (.str z)) : Det (p2 (pIn neg) p q) st (.bl (if neg then !decide (c ∈ z) else decide (c ∈ z))) := fun R hR => h _ (g _ hR)
theorem pu_setting_in : ∀ ds Q XQ, ph_setting_in ds Q XQ → p_setting_in { nx := fun _ => Q (.dat .non), rt := Q } (dstart N_setting_in ds) := by
  rintro ds Q XQ ⟨z, n, rfl, hn, hz, h⟩
  unfold p_setting_in
  refine seq_set (dets_split (c := 32) (det_vd (d := .str z) rfl) (by omega)).l ?_
  have hle : ∀ p ∈ splitM 32 z, p.length ≤ 1000 := fun p hp => Nat.le_trans (split_le hp) hz
  by_cases hl : ∃ a b, splitM 32 z = [a, b]
  · obtain ⟨a, b, e⟩ := hl
    rw [e] at hle ⊢
    have la := hle a (by simp)
    have qa : Det (p2 pIx (pVar 2) (pC (.int 0))) ((dstart N_setting_in [D.str z, .int (n : Int)]).set 2 (some (.dat (.lst ([a, b].map .str))))) (.str a) := det_ix (det_vd (d := .lst ([a, b].map .str)) rfl) det_c rfl
    have qb : Det (p2 pIx (pVar 2) (pC (.int 1))) ((dstart N_setting_in [D.str z, .int (n : Int)]).set 2 (some (.dat (.lst ([a, b].map .str))))) (.str b) := det_ix (det_vd (d := .lst ([a, b].map .str)) rfl) det_c rfl
    have q1 := detB_T (det_nep (det_lenL (det_vd (i := 2) (d := .lst ([a, b].map .str)) (st := (dstart N_setting_in [D.str z, .int (n : Int)]).set 2 (some (.dat (.lst ([a, b].map .str))))) rfl)) (det_c (d := .int 2)) trivial)
    have q2 := detB_T (det_inT (neg := true) qb (det_c (d := .tup ([[111, 110], [111, 102, 102], [102, 114, 101, 101]].map .str))))
    have q3 := detB_not (detB_T (det_callD (φ := ph_is_term) (XQ := X0) (d := .bl (isTermM (.str a) n)) (detA_cons qa (detA_cons (det_varD (i := 1) (d := .int (n : Int)) rfl) detA_nil)) fun R hR => ⟨.str a, n, rfl, la, hR⟩))
    have q4 := detB_T (det_inS (neg := false) (det_c (d := .str [45])) qa)
    refine seq_if (detB_or q1 fun _ => detB_or q2 fun _ => detB_or q3 fun _ => q4) (fun c => ?_) fun c => ?_
    · have : settingM n z = none := by
        unfold settingM
        rw [e]
        dsimp only
        have e1 : (!D.eqv (.int (([a, b].map D.str).length : Nat)) (.int 2)) = false := rfl
        rw [e1, if_pos rfl, Bool.false_or, if_neg (by decide), ← wdIx_mem] at c
        by_cases h1 : isTermM (.str a) n = true ∧ ¬ 45 ∈ a
        · rw [if_pos h1]
          rw [h1.1, decide_eq_false h1.2] at c
          cases w : wdIx b with
          | none => rfl
          | some w' => rw [w] at c; simp at c
        · rw [if_neg h1]
      rw [this] at h
      exact ret_at det_c h
    · have e1 : (!D.eqv (.int (([a, b].map D.str).length : Nat)) (.int 2)) = false := rfl
      rw [e1, if_pos rfl, Bool.false_or, if_neg (by decide), ← wdIx_mem] at c
      rw [Bool.or_eq_false_iff, Bool.or_eq_false_iff] at c
      obtain ⟨c1, c2, c3⟩ := c
      have h1 : isTermM (.str a) n = true := by simpa using c2
      have h2 : ¬ 45 ∈ a := by simpa using c3
      obtain ⟨w, hw⟩ := Option.isSome_iff_exists.mp (show (wdIx b).isSome = true by simpa using c1)
      have es : settingM n z = some (valT a, w) := by
        unfold settingM
        rw [e]
        dsimp only
        rw [if_pos ⟨h1, h2⟩, hw]
        rfl
      rw [es] at h
      obtain ⟨l1, l2⟩ := isTerm_iff.mp h1
      have hc : ∀ c ∈ a, c = 48 ∨ c = 49 := fun c hc => by
        rcases l2 c hc with g | g | g
        · exact .inl g
        · exact .inr g
        · exact absurd (g ▸ hc) h2
      have hb := wdIx_some hw
      refine ret_at (det_tup (detA_cons (x := .int (valT a : Nat)) (det_ix (xs := [.int (valT a : Nat)]) ?_ det_c rfl) (detA_cons (x := .str (wd w)) (by rw [← hb]; exact qb) detA_nil)) (by simp)) h
      have := (dets_call (φ := ph_settings_of) (XQ := X0) (s := .own ((settingsM a).map fun i => .int (i : Nat))) (detA_cons qa detA_nil) fun R hR => ⟨a, rfl, by omega, hR⟩).l
      rw [single_set hc] at this
      exact this
  · have : settingM n z = none := by
      unfold settingM
      split
      · rename_i a b e
        exact absurd ⟨a, b, e⟩ hl
      · rfl
    rw [this] at h
    refine seq_if (b := true) (detB_or (b := true) (e := true) ?_ fun z => by cases z) (fun _ => ret_at det_c h) fun z => by cases z
    have q1 := detB_T (det_nep (det_lenL (det_vd (i := 2) (d := .lst ((splitM 32 z).map .str)) (st := (dstart N_setting_in [D.str z, .int (n : Int)]).set 2 (some (.dat (.lst ((splitM 32 z).map .str))))) rfl)) (det_c (d := .int 2)) trivial)
    have e1 : (!D.eqv (.int (((splitM 32 z).map D.str).length : Nat)) (.int 2)) = true := by
      rw [ev_ii, List.length_map, Bool.not_eq_true', decide_eq_false_iff_not]
      intro z'
      have z2 : (splitM 32 z).length = 2 := by omega
      match hh : splitM 32 z, z2 with
      | [a, b], _ => exact hl ⟨a, b, hh⟩
    rw [e1] at q1
    exact q1
end Pu
namespace Pu
open PySem L2
local macro_rules | `(tactic| walk_at "pu") => `(tactic| try simp only [List.map_cons, List.map_nil, List.cons_append, List.nil_append, List.getElem?_cons_zero, List.getElem?_cons_succ, List.set_cons_zero, List.set_cons_succ, List.length_cons, List.length_nil, List.replicate_succ, List.replicate_zero, dstart_eq,
  svd_dat, svd_own, svd_ownK, ok_ii, ok_ss, ok_bb, ok_nn, ok_ns, ok_sn, ok_ni, ok_in, ok_ll, ok_tt, ev_ii, ev_ss, ev_bb, ev_nn, ev_ns, ev_sn, ev_ni, ev_in, true_and, and_true, atI_0, atI_nat, Option.some.injEq, exists_eq_left', if_true, if_false, decide_eq_true_eq, String.reduceBEq, Bool.false_eq_true, reduceIte, Bool.or_true, Bool.true_or, Bool.or_false, Bool.false_or, Bool.not_true, Bool.not_false,
  ↓p2, ↓p2S, ↓p1, ↓p1S, ↓pT, ↓pAnd, ↓pOr, ↓pNot, ↓pAndV, ↓pOrV, ↓pNotV, ↓pIf, ↓pIfS, ↓pNil, ↓pCons, ↓pLst, ↓pTup, ↓pItL, ↓pItT, ↓pItS, ↓pItE, ↓pItES, ↓pLc, ↓pYes, ↓bN, ↓b2, ↓b3, ↓dwipe, ↓pNext, ↓pSeq, ↓pRet, ↓pRetV, ↓pIfSt, ↓pSet, ↓pAsg, ↓pDrop, ↓pApp, ↓pInc, ↓pFix, ↓pFor, ↓pBreak, ↓pCont, ↓pDS, ↓pSD, ↓pv_0, ↓pv_s, ↓pvd_0, ↓pvd_s, ↓pC, ↓pIsi, ↓isTy, ↓pLen, bools_map, ints_map, strs_map, bools_mapf, ints_mapf, strs_mapf, ↓pAny, ↓pAll, ↓pCall, ↓pEq, ↓pNe, ↓pIn, ↓pIx, ↓pCutS, ↓pCutL, ↓pNo, ↓pPart, ↓pJoin, ↓pCat, ↓pI, ↓pI0, ↓pB0, ↓pAdd, ↓pIs, ↓oSub, ↓oMul, ↓oMod, ↓oDiv, ↓oShl, ↓oShr, ↓oPow, ↓oAnd, ↓oOr, ↓oXor, ↓oLt, ↓oLe, ↓oGt, ↓oGe])
/-! ### saying_of, whatever it is given -/
def ph_saying_of : FSpec := fun ds Q XQ => ∃ d : D, ds = [d] ∧ ((∃ z : List Nat, d = .str z ∧ okText z ∧ ((∃ k : Nat, readM z = .inl k ∧ XQ (.row 4 (k : Int))) ∨ ∃ (n : Nat) (rs : List (Nat × Nat)), readM z = .inr (n, rs) ∧ 1 ≤ n ∧ n ≤ 5 ∧ (okNote n rs → Q (.dat (sayD n (srt (selW 0 rs)) (srt (selW 2 rs))))))) ∨ (isTy "str" d = some false ∧ XQ (.row 4 1)))
theorem setting_ok {n : Nat} {z : List Nat} {p : Nat × Nat} (h : settingM n z = some p) : p.1 < 2 ^ n ∧ p.2 < 3 := by
  unfold settingM at h
  split at h
  · rename_i a b e
    split at h
    · rename_i ha
      obtain ⟨w, hw, rfl⟩ := Option.map_eq_some_iff.mp h
      obtain ⟨h1, h2⟩ := isTerm_iff.mp ha.1
      refine ⟨?_, ?_⟩
      · have := valT_lt a fun c hc => by
          rcases h2 c hc with r | r | r
          · exact .inl r
          · exact .inr r
          · exact absurd (r ▸ hc) ha.2
        rw [h1] at this
        exact this
      · unfold wdIx at hw
        split at hw
        · cases hw; show (0 : Nat) < 3; decide
        · split at hw
          · cases hw; show (1 : Nat) < 3; decide
          · split at hw
            · cases hw; show (2 : Nat) < 3; decide
            · cases hw
    · cases h
  · cases h
theorem okNote_nil (n : Nat) : okNote n [] := ⟨List.nodup_nil, fun p hp => absurd hp (by simp)⟩
theorem okNote_snoc {n : Nat} {td : List (Nat × Nat)} {p : Nat × Nat} (h : okNote n td) (hp : p.1 < 2 ^ n ∧ p.2 < 3) (hn : p.1 ∉ td.map (·.1)) : okNote n (td ++ [p]) := by
  refine ⟨?_, fun q hq => ?_⟩
  · rw [List.map_append, List.nodup_append]
    refine ⟨h.1, by simp, fun a ha b hb e => ?_⟩
    rw [List.map_cons, List.map_nil, List.mem_singleton] at hb
    exact hn (hb ▸ e ▸ ha)
  · rcases List.mem_append.mp hq with r | r
    · exact h.2 q r
    · rw [List.mem_singleton] at r
      exact r ▸ hp
theorem lamps_le (z : List Nat) : lampsM z ≤ 5 := by
  unfold lampsM
  split
  · decide
  · split
    · decide
    · split
      · decide
      · split
        · decide
        · split <;> decide
theorem raise_at {XQ : XD → Prop} {kk : Nat} {p : PR} {E : DEnds} {st : DS} {n : Int} (h : Det p st (.int n)) (k : XQ (.row kk n)) : pRaiseN XQ kk p E st := h _ k
def p_saying_of (XQ : XD → Prop) : PSt :=
  (pSeq (pSet 1 (pDS (pSD (pIfS (pT (pIsi "str" (pVar 0))) (pSplit 10 (pVar 0)) (pLst (pCons (pC (.str [])) pNil)))))) (pSeq (pSet 2 (pDS (pSD (pCall ph_lamps_in X0 (pCons (p2 pIx (pVar 1) (pC (.int 0))) pNil))))) (pSeq (pIfSt (pT (p2 pEq (pVar 2) (pC (.int 0)))) (pRaiseN XQ 4 (pC (.int 1))) pNext) (pSeq (pSet 3 pDict0) (pSeq (pFor (pItE (pSD (pCutL (pVar 1) (pPart (pC (.int 1))) pNo))) (b2 4 5) (pSeq (pSet 6 (pDS (pSD (pCall ph_setting_in X0 (pCons (pVarD 5) (pCons (pVarD 2) pNil)))))) (pSeq (pIfSt (pOr (pT (p2 (pIs false) (pVar 6) (pC .non))) (pT (p2 (pInK false) (p2 pIx (pVar 6) (pC (.int 0))) (pVar 3)))) (pRaiseN XQ 4 (p2 pAdd (pVar 4) (pC (.int 2)))) pNext) (pPutK 3 (p2 pIx (pVar 6) (pC (.int 0))) (p2 pIx (pVar 6) (pC (.int 1))))))) (pSeq (pSet 7 (pKeysEq 3 8 [111, 110])) (pFix 7 (pRet (pMake "Saying" ph_Saying [] XQ (pCons (pVarD 2) (pCons (pVarD 7) (pCons (pSD (pKeysEq 3 8 [102, 114, 101, 101])) pNil))))))))))))


abbrev N_saying_of : List Str := ["text", "rows", "many", "told", "place", "row", "pair", "on", "one"]
/-! ### saying_of -/
theorem fst_inj : ∀ {rs : List (Nat × Nat)} {p q : Nat × Nat}, (rs.map (·.1)).Nodup → p ∈ rs → q ∈ rs → p.1 = q.1 → p = q
  | r :: rs, p, q, nd, hp, hq, e => by
    rw [List.map_cons, List.nodup_cons] at nd
    by_cases h1 : p = r
    · by_cases h2 : q = r
      · rw [h1, h2]
      · have hq' := (List.mem_cons.mp hq).resolve_left h2
        exact absurd (List.mem_map.mpr ⟨q, hq', by rw [← e, h1]⟩) nd.1
    · have hp' := (List.mem_cons.mp hp).resolve_left h1
      by_cases h2 : q = r
      · exact absurd (List.mem_map.mpr ⟨p, hp', by rw [e, h2]⟩) nd.1
      · exact fst_inj nd.2 hp' ((List.mem_cons.mp hq).resolve_left h2) e
theorem note_rows {n : Nat} {rs : List (Nat × Nat)} (h : okNote n rs) : okRows n (selW 0 rs) (selW 2 rs) := by
  have rng : ∀ w, ∀ i ∈ selW w rs, 0 ≤ i ∧ i < 2 ^ n := fun w i hi => by
    obtain ⟨p, hp, _, rfl⟩ := mem_sel.mp hi
    have := (h.2 p hp).1
    exact ⟨by omega, by exact_mod_cast this⟩
  have dis : ∀ i ∈ selW 0 rs, i ∉ selW 2 rs := fun i hi hj => by
    obtain ⟨p, hp, h0, rfl⟩ := mem_sel.mp hi
    obtain ⟨q, hq, h2, e⟩ := mem_sel.mp hj
    have e1 : p.1 = q.1 := by exact_mod_cast e
    have : p = q := fst_inj h.1 hp hq e1
    subst this
    omega
  refine ⟨sel_nodup h 0, sel_nodup h 2, fun i hi => ⟨(rng 0 i hi).1, (rng 0 i hi).2, dis i hi⟩, rng 2, ?_⟩
  have nd : (selW 0 rs ++ selW 2 rs).Nodup := List.nodup_append.mpr ⟨sel_nodup h 0, sel_nodup h 2, fun a ha b hb e => dis a ha (e ▸ hb)⟩
  have := nodup_len (ys := (List.range (2 ^ n)).map fun i : Nat => (i : Int)) nd fun i hi => by
    have : 0 ≤ i ∧ i < 2 ^ n := (List.mem_append.mp hi).elim (rng 0 i) (rng 2 i)
    refine List.mem_map.mpr ⟨i.toNat, List.mem_range.mpr ?_, by omega⟩
    have h2 : ((i.toNat : Nat) : Int) < ((2 ^ n : Nat) : Int) := by rw [Int.toNat_of_nonneg this.1]; simpa using this.2
    exact_mod_cast h2
  rw [List.length_append, List.length_map, List.length_range] at this
  exact_mod_cast this
def dk (p : Nat × Nat) : Key × D := (Sum.inl (p.1 : Int), .str (wd p.2))
theorem valD_dk (told : List (Nat × Nat)) (s : Nat) : (valD (told.map dk) (Sum.inl (s : Int))).isSome = decide (s ∈ told.map (·.1)) := by
  unfold valD
  rw [Option.isSome_map, Bool.eq_iff_iff, List.find?_isSome, decide_eq_true_iff, List.mem_map]
  constructor
  · rintro ⟨kv, hkv, e⟩
    obtain ⟨p, hp, rfl⟩ := List.mem_map.mp hkv
    have e2 : (Sum.inl (p.1 : Int) : Key) = Sum.inl (s : Int) := of_decide_eq_true e
    injection e2 with e2
    exact ⟨p, hp, by exact_mod_cast e2⟩
  · rintro ⟨p, hp, rfl⟩
    exact ⟨dk p, List.mem_map.mpr ⟨p, hp, rfl⟩, decide_eq_true rfl⟩
theorem putD_dk {told : List (Nat × Nat)} {p : Nat × Nat} (h : p.1 ∉ told.map (·.1)) : putD (told.map dk) (Sum.inl (p.1 : Int)) (.str (wd p.2)) = (told ++ [p]).map dk := by
  unfold putD
  rw [if_neg, List.map_append]
  · rfl
  · intro z
    obtain ⟨kv, hkv, e⟩ := List.any_eq_true.mp z
    obtain ⟨q, hq, rfl⟩ := List.mem_map.mp hkv
    have e2 : (Sum.inl (q.1 : Int) : Key) = Sum.inl (p.1 : Int) := of_decide_eq_true e
    injection e2 with e2
    exact h (List.mem_map.mpr ⟨q, hq, by exact_mod_cast e2⟩)
theorem keys_dk {told : List (Nat × Nat)} {n w : Nat} (h : okNote n told) (hw : w < 3) : ((told.map dk).filter fun p => isT (wd w) p.2).map (fun p => keyD p.1) = (selW w told).map .int := by
  unfold selW
  rw [List.filter_map, List.map_map, List.map_map]
  have e : ∀ p ∈ told, ((fun p : Key × D => isT (wd w) p.2) ∘ dk) p = decide (p.2 = w) := fun p hp => by
    simp only [Function.comp, dk, isT]
    by_cases z : p.2 = w
    · rw [z]; simp
    · rw [decide_eq_false z, decide_eq_false fun y => z (wd_inj (h.2 p hp).2 hw y)]
  rw [List.filter_congr e]
  rfl
theorem nodup_dk {told : List (Nat × Nat)} {n : Nat} (h : okNote n told) : ((told.map dk).map (·.1)).Nodup := by
  rw [List.map_map]
  have nd := h.1
  rw [List.nodup_iff_pairwise_ne, List.pairwise_map] at nd ⊢
  exact nd.imp fun hne e => by
    have e2 : (Sum.inl _ : Key) = Sum.inl _ := e
    injection e2 with e2
    exact hne (by exact_mod_cast e2)
theorem note_le {n : Nat} {rs : List (Nat × Nat)} (hn : n ≤ 5) (h : okNote n rs) : rs.length ≤ 32 := by
  have := nodup_len (ys := List.range (2 ^ n)) h.1 fun x hx => by
    obtain ⟨p, hp, rfl⟩ := List.mem_map.mp hx
    exact List.mem_range.mpr (h.2 p hp).1
  rw [List.length_map, List.length_range] at this
  exact Nat.le_trans this (Nat.le_trans (Nat.pow_le_pow_right (by decide) hn) (by decide))
theorem seq_set_ex {α : Type} {i : Nat} {p : PR} {q : PSt} {E : DEnds} {st : DS} {x : α → D} {C : α → Prop} (h : ∃ a, C a ∧ Det p st (x a)) (k : ∀ a, C a → q E (st.set i (some (.dat (x a))))) : pSeq (pSet i (pDS p)) q E st := by
  obtain ⟨a, c, d⟩ := h
  exact seq_set d (k a c)
theorem split_ne (c : Nat) (z : List Nat) : splitM c z ≠ [] := by
  have key : ∀ (z acc : List Nat), TL.spl [c] 0 acc z ≠ [] := by
    intro z
    induction z with
    | nil => intro acc; rw [TL.spl_nil]; simp
    | cons d r ih =>
      intro acc
      unfold TL.spl
      split
      · simp
      · exact ih _
  exact key z []
theorem ln_saying_of : ∀ ds Q XQ, ph_saying_of ds Q XQ → ds.length = 1 := by rintro ds Q XQ ⟨z, rfl, _⟩; rfl
theorem pu_saying_of : ∀ ds Q XQ, ph_saying_of ds Q XQ → p_saying_of XQ { nx := fun _ => Q (.dat .non), rt := Q } (dstart N_saying_of ds) := by
  rintro ds Q XQ ⟨d, rfl, h⟩
  unfold p_saying_of
  refine seq_set_ex (x := fun a : List Nat × List (List Nat) => .lst ((a.1 :: a.2).map .str)) (C := fun a => (∀ x ∈ a.1 :: a.2, x.length ≤ 1000) ∧ (lampsM a.1 = 0 → XQ (.row 4 1)) ∧
      (lampsM a.1 ≠ 0 → (∃ k : Nat, readGo (lampsM a.1) 0 a.2 [] = .inl k ∧ XQ (.row 4 (k : Int))) ∨ ∃ rs : List (Nat × Nat), readGo (lampsM a.1) 0 a.2 [] = .inr rs ∧ (okNote (lampsM a.1) rs → Q (.dat (sayD (lampsM a.1) (srt (selW 0 rs)) (srt (selW 2 rs))))))) ?_ ?_
  · rcases h with ⟨z, rfl, ⟨hz1, hz2⟩, h⟩ | ⟨hd, h⟩
    · have q1 := (dets_if (b := true) (p := pSplit 10 (pVar 0)) (q := pLst (pCons (pC (.str [])) pNil)) (st := dstart N_saying_of [D.str z]) (detB_T (det_isi (T := "str") (det_vd (i := 0) (d := .str z) rfl) rfl)) (fun _ => dets_split (c := 10) (det_vd (d := .str z) rfl) hz1) fun z => by cases z).l
      unfold readM at h
      cases e : splitM 10 z with
      | nil => exact absurd e (split_ne 10 z)
      | cons f r =>
        rw [e] at h hz2
        dsimp only at h
        rw [e] at q1
        refine ⟨(f, r), ⟨hz2, fun h0 => ?_, fun h0 => ?_⟩, q1⟩
        · rw [if_pos h0] at h
          rcases h with ⟨k, ek, hx⟩ | ⟨n, rs, ek, _⟩
          · cases ek; exact hx
          · cases ek
        · rw [if_neg h0] at h
          cases eg : readGo (lampsM f) 0 r [] with
          | inl k =>
            rw [eg] at h
            rcases h with ⟨k', ek, hx⟩ | ⟨n, rs, ek, _⟩
            · cases ek; exact .inl ⟨_, rfl, hx⟩
            · cases ek
          | inr told =>
            rw [eg] at h
            rcases h with ⟨k', ek, hx⟩ | ⟨n, rs, ek, _, _, hq⟩
            · cases ek
            · cases ek; exact .inr ⟨_, rfl, hq⟩
    · refine ⟨([], []), ⟨fun x hx => by rw [List.mem_singleton] at hx; subst hx; simp, fun _ => h, fun z => absurd rfl z⟩, (dets_if (b := false) (detB_T (det_isi (det_vd rfl) hd)) (fun z => by cases z) fun _ => dets_lst (detA_cons det_c detA_nil) (by simp)).l⟩
  · rintro ⟨f, r⟩ ⟨hz2, h0, h1⟩
    dsimp only at hz2 h0 h1
    have h5 := lamps_le f
    refine seq_set (x := .int ((lampsM f : Nat) : Int)) (det_callD (detA_cons (det_ix (x := .str f) (det_vd (d := .lst ((f :: r).map .str)) rfl) det_c (atI_0 (D.str f) (r.map D.str))) detA_nil) fun R hR => ⟨f, rfl, hR⟩) ?_
    generalize lampsM f = n at h0 h1 h5
    refine seq_if (b := decide (n = 0)) (detB_T (by
      have := det_eqp (x := .int (n : Int)) (y := .int 0) (p := pVar 2) (st := ((dstart N_saying_of [d]).set 1 (some (.dat (.lst ((f :: r).map .str))))).set 2 (some (.dat (.int (n : Int))))) (det_vd rfl) det_c trivial
      rw [ev_ii] at this
      rw [show decide (n = 0) = decide ((n : Int) = 0) by rw [Bool.eq_iff_iff, decide_eq_true_iff, decide_eq_true_iff]; omega]
      exact this)) (fun z => raise_at det_c (h0 (by simpa using z))) fun z => ?_
    have hn0 : n ≠ 0 := by simpa using z
    have h1 := h1 hn0
    refine seq_setS detS_dict ?_
    obtain ⟨res, hres⟩ : ∃ res, readGo n 0 r [] = res := ⟨_, rfl⟩
    rw [hres] at h1
    refine seq_forI (detI_enum (f := D.str) (xs := r) (dets_cutl_from (k := 1) (det_vd (d := .lst ((f :: r).map .str)) rfl) det_c).l) ?_
    refine for_idx _ (fun i st => ∃ (td : List (Nat × Nat)) (x4 x5 x6 : Option SV), st = [some (.dat d), some (.dat (.lst ((f :: r).map .str))), some (.dat (.int (n : Int))), some (.ownK (td.map dk)), x4, x5, x6, none, none] ∧ readGo n i (r.drop i) td = res ∧ okNote n td) _ _ ⟨[], _, _, _, rfl, hres, okNote_nil n⟩ ?_ ?_
    · rintro i ⟨row, j⟩ st hj ⟨td, x4, x5, x6, rfl, hgo, ok⟩ G hG
      rw [List.getElem?_zipIdx] at hj
      obtain ⟨row', ha, hb⟩ := Option.map_eq_some_iff.mp hj
      cases hb
      rw [Nat.zero_add] at *
      have hi : i < r.length := (List.getElem?_eq_some_iff.mp ha).1
      have hd : r.drop i = row :: r.drop (i + 1) := by
        rw [List.drop_eq_getElem_cons hi]
        congr 1
        exact (List.getElem?_eq_some_iff.mp ha).2
      have ltd := note_le h5 ok
      rw [hd, readGo] at hgo
      refine seq_set (x := setD (settingM n row)) (det_callD (detA_cons (det_varD (d := .str row) rfl) (detA_cons (det_varD (d := .int (n : Int)) rfl) detA_nil)) fun R hR => ⟨row, n, rfl, h5, hz2 row (List.mem_cons_of_mem _ (List.mem_of_getElem? ha)), hR⟩) ?_
      have bad : res = .inl (i + 2) → ∀ (st : DS) (E : DEnds), st[4]? = some (some (.dat (.int (i : Int)))) → pRaiseN XQ 4 (p2 pAdd (pVar 4) (pC (.int 2))) E st := fun e st E h4 => by
        subst e
        rcases h1 with ⟨k, ek, hx⟩ | ⟨rs, ek, _⟩
        · cases ek
          refine raise_at (det_add (det_vd h4) det_c) ?_
          have e2 : (((i + 2 : Nat) : Nat) : Int) = (i : Int) + 2 := by omega
          rw [← e2]
          exact hx
        · cases ek
      cases es : settingM n row with
      | none =>
        rw [es] at hgo
        refine seq_if (b := true) (detB_or (b := true) (e := true) (detB_is_non' (det_vd (d := .non) rfl)) fun z => by cases z) (fun _ => bad hgo.symm _ _ rfl) (fun z => by cases z)
      | some p =>
        rw [es] at hgo
        dsimp only at hgo
        have q0 : Det (p2 pIx (pVar 6) (pC (.int 0))) [some (.dat d), some (.dat (.lst ((f :: r).map .str))), some (.dat (.int (n : Int))), some (.ownK (td.map dk)), some (.dat (.int (i : Int))), some (.dat (.str row)), some (.dat (.tup [.int (p.1 : Nat), .str (wd p.2)])), none, none] (.int (p.1 : Nat)) := det_ixT (det_vd (d := .tup [.int (p.1 : Nat), .str (wd p.2)]) rfl) det_c rfl
        have q1 := detB_T (det_inK (neg := false) (k := Sum.inl (p.1 : Int)) (kvs := td.map dk) q0 (det_var (i := 3) (s := .ownK (td.map dk)) rfl) rfl)
        rw [if_neg (by decide), valD_dk] at q1
        obtain ⟨bb, hbb⟩ : ∃ bb, decide (p.1 ∈ td.map (·.1)) = bb := ⟨_, rfl⟩
        rw [hbb] at q1
        refine seq_if (b := bb) (detB_or (b := false) (detB_is_non (det_vd (d := .tup [.int (p.1 : Nat), .str (wd p.2)]) rfl) (by simp)) fun _ => q1) (fun z => ?_) fun z => ?_
        · rw [if_pos (of_decide_eq_true (hbb.trans z))] at hgo
          exact bad hgo.symm _ _ rfl
        · have hp : ¬ p.1 ∈ td.map (·.1) := of_decide_eq_false (hbb.trans z)
          rw [if_neg hp] at hgo
          refine putK_at (kvs := td.map dk) (x := .int (p.1 : Nat)) (v := .str (wd p.2)) (k := Sum.inl (p.1 : Int)) rfl (by rw [List.length_map]; omega) (det_ixT (det_vd (d := .tup [.int (p.1 : Nat), .str (wd p.2)]) rfl) det_c rfl) q0 rfl ?_
          rw [putD_dk hp]
          exact hG _ ⟨td ++ [p], _, _, _, rfl, hgo, okNote_snoc ok (setting_ok es) hp⟩
    · rintro st ⟨td, x4, x5, x6, rfl, hgo, ok⟩
      dsimp only
      rw [List.length_zipIdx, List.drop_length, readGo] at hgo
      subst hgo
      have ltd := note_le h5 ok
      rcases h1 with ⟨k, ek, _⟩ | ⟨rs, ek, h⟩
      · cases ek
      cases ek
      have h := h ok
      have hw : ∀ p ∈ td.map dk, ∃ w, p.2 = .str w := fun p hp => by
        obtain ⟨q, _, rfl⟩ := List.mem_map.mp hp
        exact ⟨_, rfl⟩
      refine seq_setS (s := .own ((selW 0 td).map .int)) ?_ ?_
      · have := dets_keysEq (i := 3) (j := 8) (c := [111, 110]) (st := [some (.dat d), some (.dat (.lst ((f :: r).map .str))), some (.dat (.int (n : Int))), some (.ownK (td.map dk)), x4, x5, x6, none, none]) (kvs := td.map dk) rfl (by show 8 < 9; decide) (nodup_dk ok) hw (by rw [List.length_map]; omega)
        rw [show ([111, 110] : List Nat) = wd 0 from rfl, keys_dk ok (by decide)] at this
        exact this
      refine fix_at (s := .own ((selW 0 td).map .int)) rfl ?_
      have q2 := dets_keysEq (i := 3) (j := 8) (c := [102, 114, 101, 101]) (st := [some (.dat d), some (.dat (.lst ((f :: r).map .str))), some (.dat (.int (n : Int))), some (.ownK (td.map dk)), x4, x5, x6, some (.dat (.lst ((selW 0 td).map .int))), none]) (kvs := td.map dk) rfl (by show 8 < 9; decide) (nodup_dk ok) hw (by rw [List.length_map]; omega)
      rw [show ([102, 114, 101, 101] : List Nat) = wd 2 from rfl, keys_dk ok (by decide)] at q2
      exact retS_at (dets_saying (by omega) h5 (note_rows ok) (detA_cons (det_varD (d := .int (n : Int)) rfl) (detA_cons (det_varD (d := .lst ((selW 0 td).map .int)) rfl) (detA_cons q2.l detA_nil)))) h
end Pu
namespace Pu
open PySem L2
local macro_rules | `(tactic| walk_at "pu") => `(tactic| try simp only [List.map_cons, List.map_nil, List.cons_append, List.nil_append, List.getElem?_cons_zero, List.getElem?_cons_succ, List.set_cons_zero, List.set_cons_succ, List.length_cons, List.length_nil, List.replicate_succ, List.replicate_zero, dstart_eq,
  svd_dat, svd_own, svd_ownK, ok_ii, ok_ss, ok_bb, ok_nn, ok_ns, ok_sn, ok_ni, ok_in, ok_ll, ok_tt, ev_ii, ev_ss, ev_bb, ev_nn, ev_ns, ev_sn, ev_ni, ev_in, true_and, and_true, atI_0, atI_nat, Option.some.injEq, exists_eq_left', if_true, if_false, decide_eq_true_eq, String.reduceBEq, Bool.false_eq_true, reduceIte, Bool.or_true, Bool.true_or, Bool.or_false, Bool.false_or, Bool.not_true, Bool.not_false,
  ↓p2, ↓p2S, ↓p1, ↓p1S, ↓pT, ↓pAnd, ↓pOr, ↓pNot, ↓pAndV, ↓pOrV, ↓pNotV, ↓pIf, ↓pIfS, ↓pNil, ↓pCons, ↓pLst, ↓pTup, ↓pItL, ↓pItT, ↓pItS, ↓pItE, ↓pItES, ↓pLc, ↓pYes, ↓bN, ↓b2, ↓b3, ↓dwipe, ↓pNext, ↓pSeq, ↓pRet, ↓pRetV, ↓pIfSt, ↓pSet, ↓pAsg, ↓pDrop, ↓pApp, ↓pInc, ↓pFix, ↓pFor, ↓pBreak, ↓pCont, ↓pDS, ↓pSD, ↓pv_0, ↓pv_s, ↓pvd_0, ↓pvd_s, ↓pC, ↓pIsi, ↓isTy, ↓pLen, bools_map, ints_map, strs_map, bools_mapf, ints_mapf, strs_mapf, ↓pAny, ↓pAll, ↓pCall, ↓pEq, ↓pNe, ↓pIn, ↓pIx, ↓pCutS, ↓pCutL, ↓pNo, ↓pPart, ↓pJoin, ↓pCat, ↓pI, ↓pI0, ↓pB0, ↓pAdd, ↓pIs, ↓oSub, ↓oMul, ↓oMod, ↓oDiv, ↓oShl, ↓oShr, ↓oPow, ↓oAnd, ↓oOr, ↓oXor, ↓oLt, ↓oLe, ↓oGt, ↓oGe])
/-! ### what is refused -/
def ph_law_refused : FSpec := fun ds Q _ => ∃ (d : D) (k : Nat), ds = [d] ∧ ((∃ z : List Nat, d = .str z ∧ okText z ∧ readM z = .inl k) ∨ (isTy "str" d = some false ∧ k = 1)) ∧ Q (.dat (.int (k : Int)))
/-- rows that are none, g a setting's text -/
def noneL (n : Nat) (g : List Nat) : List (List Nat) :=
  ([[], g, g ++ [32, 111, 110, 32], [32] ++ g ++ [32, 111, 110], g ++ [32, 32, 111, 110], g ++ [32, 79, 110], g ++ [32, 111, 110, 32, 111, 102, 102], g ++ [32, 121, 101, 115]] ++
  [g ++ [48, 32, 111, 110], g.drop 1 ++ [32, 111, 110], [45] ++ g.drop 1 ++ [32, 111, 110], g.dropLast ++ [50, 32, 111, 110], [111, 110], [111, 110, 32] ++ g]) ++
  [[108, 97, 109, 112, 115, 32] ++ [48 + n], g ++ [9, 111, 110], g ++ [32, 49], [48], g ++ [44, 111, 110], g ++ [32, 111, 102]]
/-- their words -/
def noneP (n : Nat) (g : List Nat) : List (List (List Nat)) :=
  [[[]], [g], [g, [111, 110], []], [[], g, [111, 110]], [g, [], [111, 110]], [g, [79, 110]], [g, [111, 110], [111, 102, 102]], [g, [121, 101, 115]],
  [g ++ [48], [111, 110]], [g.drop 1, [111, 110]], [45 :: g.drop 1, [111, 110]], [g.dropLast ++ [50], [111, 110]], [[111, 110]], [[111, 110], g],
  [[108, 97, 109, 112, 115], [48 + n]], [g ++ [9, 111, 110]], [g, [49]], [[48]], [g ++ [44, 111, 110]], [g, [111, 102]]]
theorem none_map (n : Nat) (g : List Nat) : noneL n g = (noneP n g).map (joinD [32]) := by
  simp [noneL, noneP, joinD]
def noneM (n s : Nat) : List Nat := (noneL n (tset n s)).getD (s / 32 % 20) []
def ph_law_none : FSpec := fun ds Q _ => ∃ n s : Nat, ds = [.int (n : Int), .int (s : Int)] ∧ 1 ≤ n ∧ n ≤ 5 ∧ Q (.dat (.str (noneM n s)))
def firstL : List (List Nat) :=
  [[], [108, 97, 109, 112, 115], [108, 97, 109, 112, 115, 32, 48], [108, 97, 109, 112, 115, 32, 54], [108, 97, 109, 112, 115, 32, 48, 51], [108, 97, 109, 112, 115, 32, 51, 32], [32, 108, 97, 109, 112, 115, 32, 51], [108, 97, 109, 112, 115, 32, 32, 51], [108, 97, 109, 112, 32, 51], [108, 97, 109, 112, 115, 32, 51, 32, 51]] ++
  [[76, 97, 109, 112, 115, 32, 51], [51], [108, 97, 109, 112, 115, 32, 43, 51], [108, 97, 109, 112, 115, 32, 51, 46, 48], [108, 97, 109, 112, 115, 32, 51, 51], [108, 97, 109, 112, 115, 32, 116, 104, 114, 101, 101], [108, 97, 109, 112, 115, 32, 45, 49], [111, 110]]
def firstR (m : Nat) : List Nat := firstL.getD (m % 18) []
def ph_law_first : FSpec := fun ds Q _ => ∃ m : Nat, ds = [.int (m : Int)] ∧ Q (.dat (.str (firstR m)))
theorem getD_in {α : Type} {xs : List α} {i : Nat} {d : α} (h : i < xs.length) : xs.getD i d ∈ xs := by
  rw [List.getD_eq_getElem?_getD, List.getElem?_eq_getElem h]
  exact List.getElem_mem h
theorem tset_dig (n s : Nat) : ∀ c ∈ tset n s, c = 48 ∨ c = 49 := fun c hc => by
  obtain ⟨l, _, rfl⟩ := List.mem_map.mp hc
  have := bitN_lt s l
  omega
theorem first_zero : ∀ z ∈ firstL, lampsM z = 0 ∧ 10 ∉ z ∧ z.length ≤ 20 := by decide
/-- no text of 48 + 1 that is bad -/
theorem none_ok {n s : Nat} (h1 : 1 ≤ n) (h5 : n ≤ 5) : ∀ z ∈ noneL n (tset n s), settingM n z = none ∧ 10 ∉ z ∧ z.length ≤ 20 := by
  have dig := tset_dig n s
  have ln := (tset_ok n s).2
  generalize tset n s = g at dig ln
  have n32 : 32 ∉ g := fun h => by rcases dig _ h with e | e <;> cases e
  have d32 : 32 ∉ g.tail := fun h => n32 (List.mem_of_mem_tail h)
  have l32 : 32 ∉ g.dropLast := fun h => n32 ((List.dropLast_sublist g).subset h)
  intro z hz
  refine ⟨?_, ?_, ?_⟩
  · rw [none_map] at hz
    obtain ⟨ps, hp, rfl⟩ := List.mem_map.mp hz
    have sp : ps ≠ [] ∧ ∀ p ∈ ps, 32 ∉ p := by
      simp only [noneP, List.mem_cons, List.not_mem_nil, or_false] at hp
      rcases hp with rfl | rfl | rfl | rfl | rfl | rfl | rfl | rfl | rfl | rfl | rfl | rfl | rfl | rfl | rfl | rfl | rfl | rfl | rfl | rfl <;> refine ⟨by simp, ?_⟩ <;> simp [n32, d32, l32]
      omega
    have e := spl_single (c := 32) sp.1 sp.2
    unfold settingM
    rw [e]
    have bad : ∀ a b : List Nat, (¬ isTermM (.str a) n = true ∨ 45 ∈ a ∨ wdIx b = none) → (if isTermM (.str a) n = true ∧ ¬ 45 ∈ a then (wdIx b).map fun w => (valT a, w) else none) = none := fun a b h => by
      split
      · rename_i q
        rcases h with h | h | h
        · exact absurd q.1 h
        · exact absurd h q.2
        · rw [h]; rfl
      · rfl
    simp only [noneP, List.mem_cons, List.not_mem_nil, or_false] at hp
    have wg : ∀ g : List Nat, (∀ c ∈ g, c = 48 ∨ c = 49) → wdIx g = none := fun g dig => by
      have no : ∀ w : List Nat, w ≠ [] → (∀ c ∈ w, 97 ≤ c) → g ≠ w := fun w hw hc e => by
        subst e
        cases g with
        | nil => exact hw rfl
        | cons c r =>
          have h1 := dig c (by simp)
          have h2 := hc c (by simp)
          omega
      unfold wdIx
      rw [if_neg (no _ (by decide) (by decide)), if_neg (no _ (by decide) (by decide)), if_neg (no _ (by decide) (by decide))]
    rcases hp with rfl | rfl | rfl | rfl | rfl | rfl | rfl | rfl | rfl | rfl | rfl | rfl | rfl | rfl | rfl | rfl | rfl | rfl | rfl | rfl <;> first | rfl | skip
    · exact bad _ _ (.inr (.inr rfl))
    · exact bad _ _ (.inr (.inr rfl))
    · exact bad _ _ (.inl fun h => by have := (isTerm_iff.mp h).1; rw [List.length_append, ln] at this; simp at this)
    · exact bad _ _ (.inl fun h => by have := (isTerm_iff.mp h).1; rw [List.length_drop, ln] at this; omega)
    · exact bad _ _ (.inr (.inl (by simp)))
    · exact bad _ _ (.inl fun h => by have := (isTerm_iff.mp h).2 50 (by simp); unfold okSign at this; omega)
    · exact bad _ _ (.inr (.inr (wg g dig)))
    · exact bad _ _ (.inl fun h => by have := (isTerm_iff.mp h).2 108 (by simp); unfold okSign at this; omega)
    · exact bad _ _ (.inr (.inr rfl))
    · exact bad _ _ (.inr (.inr rfl))
  · intro h
    have n10 : 10 ∉ g := fun h => by rcases dig _ h with e | e <;> cases e
    have d10 : 10 ∉ g.tail := fun h => n10 (List.mem_of_mem_tail h)
    have l10 : 10 ∉ g.dropLast := fun h => n10 ((List.dropLast_sublist g).subset h)
    simp only [noneL, List.mem_append, List.mem_cons, List.not_mem_nil, or_false] at hz
    rcases hz with ((rfl | rfl | rfl | rfl | rfl | rfl | rfl | rfl) | (rfl | rfl | rfl | rfl | rfl | rfl)) | (rfl | rfl | rfl | rfl | rfl | rfl) <;> simp [n10, d10, l10] at h
    omega
  · simp only [noneL, List.mem_append, List.mem_cons, List.not_mem_nil, or_false] at hz
    rcases hz with ((rfl | rfl | rfl | rfl | rfl | rfl | rfl | rfl) | (rfl | rfl | rfl | rfl | rfl | rfl)) | (rfl | rfl | rfl | rfl | rfl | rfl) <;> simp [ln] <;> omega
/-- a note up to a bad row -/
theorem read_bad {n : Nat} {odd : List Nat} {rest : List (List Nat)} : ∀ (ps told : List (Nat × Nat)) (i : Nat), okNote n (told ++ ps) → (settingM n odd = none ∨ ∃ p, settingM n odd = some p ∧ p.1 ∈ (told ++ ps).map (·.1)) →
    readGo n i (ps.map (rowM n) ++ odd :: rest) told = .inl (i + ps.length + 2)
  | [], told, i, ok, h => by
    rw [List.append_nil] at h
    rw [List.map_nil, List.nil_append, readGo]
    rcases h with e | ⟨p, e, hm⟩
    · rw [e]; rfl
    · rw [e]
      dsimp only
      rw [if_pos hm]
      rfl
  | q :: ps, told, i, ok, h => by
    have hq := ok.2 q (by simp)
    rw [List.map_cons, List.cons_append, readGo, setting_row hq.1 hq.2]
    dsimp only
    rw [if_neg]
    · rw [read_bad ps (told ++ [q]) (i + 1) (by rw [List.append_assoc]; exact ok) (by rw [List.append_assoc]; exact h)]
      rw [List.length_cons]
      congr 1
      omega
    · intro hm
      have nd := ok.1
      rw [List.map_append, List.nodup_append] at nd
      exact nd.2.2 _ hm _ (by simp) rfl
theorem try_raise {n j : Nat} {ks : List Nat} {φ : FSpec} {as : PAs} {q : PSt} {E : DEnds} {st : DS} {xs : List D} (h : DetA as st xs) (k : φ xs (fun _ => q E st) (fun x => x.kind ∈ ks ∧ q E (held n j x))) : pSeq (pTryE n j ks fun XQ => pCall φ XQ as) q E st := h _ k
theorem det_rw {k : Nat} {p : PR} {st : DS} {n : Int} (h : Det p st (.exc (.row k n))) : Det (pRow k p) st (.int n) := fun R hR => h _ ⟨rfl, hR⟩
theorem det_cuts_last {st : DS} {p : PR} {z : List Nat} (h : Det p st (.str z)) (hz : z.length ≤ 100000) : Det (pCutS p pNo (pPart (p1 pNeg (pC (.int 1))))) st (.str z.dropLast) := fun R hR => h _ (by
  show z.length ≤ 100000 ∧ R (.str (cut z none (some (-1))))
  rw [cut_last]
  exact ⟨hz, hR⟩)
theorem at_getD {α : Type} {xs : List α} {i : Nat} {d : α} (h : i < xs.length) (f : α → D) : atI (xs.map f) (i : Int) = some (f (xs.getD i d)) := by
  rw [atI_nat, List.getElem?_map, List.getElem?_eq_getElem h, List.getD_eq_getElem?_getD, List.getElem?_eq_getElem h]
  rfl
theorem none_in (n s : Nat) : noneM n s ∈ noneL n (tset n s) := getD_in (by show s / 32 % 20 < 20; omega)
theorem first_in (m : Nat) : firstR m ∈ firstL := getD_in (by show m % 18 < 18; omega)
theorem seq_ifC {α : Type} {c : PB} {p r : PSt} {E : DEnds} {st : DS} {b : Bool} (st' : α → DS) (C : α → Prop) (h : DetB c st b) (ht : b = true → ∃ a, C a ∧ ∀ E' : DEnds, E'.nx (st' a) → p E' st) (hf : b = false → ∃ a, C a ∧ st' a = st) (k : ∀ a, C a → r E (st' a)) : pSeq (pIfSt c p pNext) r E st :=
  seq_if h (fun z => by
    obtain ⟨a, c, q⟩ := ht z
    exact q _ (k a c)) fun z => by
    obtain ⟨a, c, rfl⟩ := hf z
    exact k a c
def p_law_refused : PSt :=
  (pSeq (pSet 1 (pDS (pC .non))) (pSeq (pTryE 3 1 KS (fun XQ => (pCall ph_saying_of XQ (pCons (pVarD 0) pNil)))) (pSeq (pIfSt (pOr (pT (p2 pNe (pSD (pCall ph_law_word X0 (pCons (pVarD 1) pNil))) (pC (.str [110, 111, 116, 101, 32])))) (pT (pIsi "bool" (pRow 4 (pVar 1))))) (pRet (pDS (pC .non))) pNext) (pRet (pDS (pRow 4 (pVar 1)))))))

def p_law_none : PSt :=
  (pSeq (pSet 2 (pDS (pJoin (pC (.str [])) (pSD (pLc (pRng1 (pVar 0)) (bN 3) [3] pYes (p2 pIx (pC (.str [48, 49])) (p2 oAnd (p2 oShr (pVar 1) (pVar 3)) (pC (.int 1))))))))) (pSeq (pSet 4 (pDS (pSD (pLst (pCons (pC (.str [])) (pCons (pVarD 2) (pCons (p2 pAdd (pVar 2) (pC (.str [32, 111, 110, 32]))) (pCons (p2 pAdd (p2 pAdd (pC (.str [32])) (pVar 2)) (pC (.str [32, 111, 110]))) (pCons (p2 pAdd (pVar 2) (pC (.str [32, 32, 111, 110]))) (pCons (p2 pAdd (pVar 2) (pC (.str [32, 79, 110]))) (pCons (p2 pAdd (pVar 2) (pC (.str [32, 111, 110, 32, 111, 102, 102]))) (pCons (p2 pAdd (pVar 2) (pC (.str [32, 121, 101, 115]))) pNil)))))))))))) (pSeq (pSet 4 (pDS (pSD (p2S pCat (pVar 4) (pSD (pLst (pCons (p2 pAdd (pVar 2) (pC (.str [48, 32, 111, 110]))) (pCons (p2 pAdd (pCutS (pVar 2) (pPart (pC (.int 1))) pNo) (pC (.str [32, 111, 110]))) (pCons (p2 pAdd (p2 pAdd (pC (.str [45])) (pCutS (pVar 2) (pPart (pC (.int 1))) pNo)) (pC (.str [32, 111, 110]))) (pCons (p2 pAdd (pCutS (pVar 2) pNo (pPart (p1 pNeg (pC (.int 1))))) (pC (.str [50, 32, 111, 110]))) (pCons (pC (.str [111, 110])) (pCons (p2 pAdd (pC (.str [111, 110, 32])) (pVar 2)) pNil)))))))))))) (pRet (pDS (p2 pIx (pSD (p2S pCat (pVar 4) (pSD (pLst (pCons (p2 pAdd (pC (.str [108, 97, 109, 112, 115, 32])) (p1 pStr (pVar 0))) (pCons (p2 pAdd (pVar 2) (pC (.str [9, 111, 110]))) (pCons (p2 pAdd (pVar 2) (pC (.str [32, 49]))) (pCons (pC (.str [48])) (pCons (p2 pAdd (pVar 2) (pC (.str [44, 111, 110]))) (pCons (p2 pAdd (pVar 2) (pC (.str [32, 111, 102]))) pNil)))))))))) (p2 oMod (p2 oDiv (pVar 1) (pC (.int 32))) (pC (.int 20)))))))))

def p_law_first : PSt :=
  (pSeq (pSet 1 (pDS (pSD (pLst (pCons (pC (.str [])) (pCons (pC (.str [108, 97, 109, 112, 115])) (pCons (pC (.str [108, 97, 109, 112, 115, 32, 48])) (pCons (pC (.str [108, 97, 109, 112, 115, 32, 54])) (pCons (pC (.str [108, 97, 109, 112, 115, 32, 48, 51])) (pCons (pC (.str [108, 97, 109, 112, 115, 32, 51, 32])) (pCons (pC (.str [32, 108, 97, 109, 112, 115, 32, 51])) (pCons (pC (.str [108, 97, 109, 112, 115, 32, 32, 51])) (pCons (pC (.str [108, 97, 109, 112, 32, 51])) (pCons (pC (.str [108, 97, 109, 112, 115, 32, 51, 32, 51])) pNil)))))))))))))) (pRet (pDS (p2 pIx (pSD (p2S pCat (pVar 1) (pSD (pLst (pCons (pC (.str [76, 97, 109, 112, 115, 32, 51])) (pCons (pC (.str [51])) (pCons (pC (.str [108, 97, 109, 112, 115, 32, 43, 51])) (pCons (pC (.str [108, 97, 109, 112, 115, 32, 51, 46, 48])) (pCons (pC (.str [108, 97, 109, 112, 115, 32, 51, 51])) (pCons (pC (.str [108, 97, 109, 112, 115, 32, 116, 104, 114, 101, 101])) (pCons (pC (.str [108, 97, 109, 112, 115, 32, 45, 49])) (pCons (pC (.str [111, 110])) pNil)))))))))))) (p2 oMod (pVar 0) (pC (.int 18)))))))


abbrev N_law_refused : List Str := ["_law_text", "_law_caught", "e"]
abbrev N_law_none : List Str := ["_law_many", "_law_draw_here", "_law_good", "_law_lamp", "_law_some"]
abbrev N_law_first : List Str := ["_law_draw_here", "_law_some"]
theorem ln_law_refused : ∀ ds Q XQ, ph_law_refused ds Q XQ → ds.length = 1 := by rintro ds Q XQ ⟨d, k, rfl, _⟩; rfl
theorem pu_law_refused : ∀ ds Q XQ, ph_law_refused ds Q XQ → p_law_refused { nx := fun _ => Q (.dat .non), rt := Q } (dstart N_law_refused ds) := by
  rintro ds Q XQ ⟨d, k, rfl, hd, h⟩
  unfold p_law_refused
  refine seq_set det_c ?_
  have rest : ∀ (E : DEnds), E.rt = Q → (4 ∈ KS ∧ (pSeq (pIfSt (pOr (pT (p2 pNe (pSD (pCall ph_law_word X0 (pCons (pVarD 1) pNil))) (pC (.str [110, 111, 116, 101, 32])))) (pT (pIsi "bool" (pRow 4 (pVar 1))))) (pRet (pDS (pC .non))) pNext) (pRet (pDS (pRow 4 (pVar 1))))) E (held 3 1 (.row 4 (k : Int)))) := fun E hE => by
    refine ⟨by decide, ?_⟩
    have v1 : (held 3 1 (.row 4 (k : Int)))[1]? = some (some (.dat (.exc (.row 4 (k : Int))))) := rfl
    refine seq_if (b := false) (detB_or (b := false) (detB_T (by
        have q := det_nep (x := .str (wordM 4)) (y := .str [110, 111, 116, 101, 32]) (q := pC (.str [110, 111, 116, 101, 32])) (det_callD (φ := ph_law_word) (XQ := X0) (detA_cons (det_varD v1) detA_nil) fun R hR => ⟨_, rfl, by show 4 ∈ KS; decide, hR⟩) det_c trivial
        rw [ev_ss] at q
        exact q)) fun _ => detB_T (det_isi (det_rw (det_vd v1)) rfl)) (fun z => by cases z) fun _ => ?_
    refine ret_at (det_rw (det_vd v1)) ?_
    rw [hE]
    exact h
  refine try_raise (detA_cons (det_varD (i := 0) (d := d) rfl) detA_nil) ?_
  rcases hd with ⟨z, rfl, hz, hr⟩ | ⟨hd, rfl⟩
  · exact ⟨_, rfl, .inl ⟨z, rfl, hz, .inl ⟨k, hr, rest _ rfl⟩⟩⟩
  · exact ⟨_, rfl, .inr ⟨hd, rest _ rfl⟩⟩
theorem ln_law_none : ∀ ds Q XQ, ph_law_none ds Q XQ → ds.length = 2 := by rintro ds Q XQ ⟨n, s, rfl, _⟩; rfl
theorem pu_law_none : ∀ ds Q XQ, ph_law_none ds Q XQ → p_law_none { nx := fun _ => Q (.dat .non), rt := Q } (dstart N_law_none ds) := by
  rintro ds Q XQ ⟨n, s, rfl, h1, h5, h⟩
  unfold p_law_none
  unfold noneM at h
  refine seq_set (x := .str (tset n s)) (join_signs (n := n) (by omega) rfl fun l hl => det_sign (s := s) (l := l) (det_vd rfl) (det_vd rfl)) ?_
  have ln := (tset_ok n s).2
  generalize tset n s = g at ln h
  have l1 : (g.drop 1).length ≤ 10 := by rw [List.length_drop]; omega
  have l2 : (g.dropLast).length ≤ 10 := by rw [List.length_dropLast]; omega
  have gd : ∀ st : DS, st[2]? = some (some (.dat (.str g))) → Det (pVar 2) st (.str g) := fun st h => det_vd h
  refine seq_set (det_lst (detA_cons det_c (detA_cons (det_varD (d := .str g) rfl) (detA_cons (det_cats (det_vd (d := .str g) rfl) det_c (by simp; omega)) (detA_cons (det_cats (det_cats det_c (det_vd (d := .str g) rfl) (by simp; omega)) det_c (by simp; omega)) (detA_cons (det_cats (det_vd (d := .str g) rfl) det_c (by simp; omega)) (detA_cons (det_cats (det_vd (d := .str g) rfl) det_c (by simp; omega)) (detA_cons (det_cats (det_vd (d := .str g) rfl) det_c (by simp; omega)) (detA_cons (det_cats (det_vd (d := .str g) rfl) det_c (by simp; omega)) detA_nil)))))))) (by simp)) ?_
  refine seq_set (dets_cat (det_vd rfl) (det_lst (detA_cons (det_cats (det_vd (d := .str g) rfl) det_c (by simp; omega)) (detA_cons (det_cats (det_cuts_from (k := 1) (det_vd (d := .str g) rfl) (by omega) det_c) det_c (by simp; omega)) (detA_cons (det_cats (det_cats det_c (det_cuts_from (k := 1) (det_vd (d := .str g) rfl) (by omega) det_c) (by simp; omega)) det_c (by simp; omega)) (detA_cons (det_cats (det_cuts_last (det_vd (d := .str g) rfl) (by omega)) det_c (by simp; omega)) (detA_cons det_c (detA_cons (det_cats det_c (det_vd (d := .str g) rfl) (by simp; omega)) detA_nil)))))) (by simp)) (by simp)).l ?_
  have ez := at_getD (xs := noneL n g) (i := s / 32 % 20) (d := []) (by show s / 32 % 20 < 20; omega) D.str
  refine ret_at (x := .str ((noneL n g).getD (s / 32 % 20) [])) (det_ix (i := ((s / 32 % 20 : Nat) : Int)) (dets_cat (det_vd rfl) (det_lst (detA_cons (det_cats det_c (det_str (n := n) (det_vd rfl) (by omega)) (by simp)) (detA_cons (det_cats (det_vd (d := .str g) rfl) det_c (by simp; omega)) (detA_cons (det_cats (det_vd (d := .str g) rfl) det_c (by simp; omega)) (detA_cons det_c (detA_cons (det_cats (det_vd (d := .str g) rfl) det_c (by simp; omega)) (detA_cons (det_cats (det_vd (d := .str g) rfl) det_c (by simp; omega)) detA_nil)))))) (by simp)) (by simp)).l (by
      rw [show ((s / 32 % 20 : Nat) : Int) = (s : Int) / 32 % 20 by omega]
      exact det_mod (det_div (det_vd rfl) ⟨by decide, by decide⟩) (by decide)) ez) h
theorem ln_law_first : ∀ ds Q XQ, ph_law_first ds Q XQ → ds.length = 1 := by rintro ds Q XQ ⟨m, rfl, _⟩; rfl
theorem pu_law_first : ∀ ds Q XQ, ph_law_first ds Q XQ → p_law_first { nx := fun _ => Q (.dat .non), rt := Q } (dstart N_law_first ds) := by
  rintro ds Q XQ ⟨m, rfl, h⟩
  unfold p_law_first
  refine seq_set (det_lst (detA_cons det_c (detA_cons det_c (detA_cons det_c (detA_cons det_c (detA_cons det_c (detA_cons det_c (detA_cons det_c (detA_cons det_c (detA_cons det_c (detA_cons det_c detA_nil)))))))))) (by simp)) ?_
  have ez := at_getD (xs := firstL) (i := m % 18) (d := []) (by show m % 18 < 18; omega) D.str
  refine ret_at (x := .str (firstR m)) (det_ix (i := ((m % 18 : Nat) : Int)) (dets_cat (det_vd rfl) (det_lst (detA_cons det_c (detA_cons det_c (detA_cons det_c (detA_cons det_c (detA_cons det_c (detA_cons det_c (detA_cons det_c (detA_cons det_c detA_nil)))))))) (by simp)) (by simp)).l (by
      rw [show ((m % 18 : Nat) : Int) = (m : Int) % 18 by omega]
      exact det_mod (det_vd rfl) (by decide)) ez) h
end Pu
namespace Pu
open PySem L2
local macro_rules | `(tactic| walk_at "pu") => `(tactic| try simp only [List.map_cons, List.map_nil, List.cons_append, List.nil_append, List.getElem?_cons_zero, List.getElem?_cons_succ, List.set_cons_zero, List.set_cons_succ, List.length_cons, List.length_nil, List.replicate_succ, List.replicate_zero, dstart_eq,
  svd_dat, svd_own, svd_ownK, ok_ii, ok_ss, ok_bb, ok_nn, ok_ns, ok_sn, ok_ni, ok_in, ok_ll, ok_tt, ev_ii, ev_ss, ev_bb, ev_nn, ev_ns, ev_sn, ev_ni, ev_in, true_and, and_true, atI_0, atI_nat, Option.some.injEq, exists_eq_left', if_true, if_false, decide_eq_true_eq, String.reduceBEq, Bool.false_eq_true, reduceIte, Bool.or_true, Bool.true_or, Bool.or_false, Bool.false_or, Bool.not_true, Bool.not_false,
  ↓p2, ↓p2S, ↓p1, ↓p1S, ↓pT, ↓pAnd, ↓pOr, ↓pNot, ↓pAndV, ↓pOrV, ↓pNotV, ↓pIf, ↓pIfS, ↓pNil, ↓pCons, ↓pLst, ↓pTup, ↓pItL, ↓pItT, ↓pItS, ↓pItE, ↓pItES, ↓pLc, ↓pYes, ↓bN, ↓b2, ↓b3, ↓dwipe, ↓pNext, ↓pSeq, ↓pRet, ↓pRetV, ↓pIfSt, ↓pSet, ↓pAsg, ↓pDrop, ↓pApp, ↓pInc, ↓pFix, ↓pFor, ↓pBreak, ↓pCont, ↓pDS, ↓pSD, ↓pv_0, ↓pv_s, ↓pvd_0, ↓pvd_s, ↓pC, ↓pIsi, ↓isTy, ↓pLen, bools_map, ints_map, strs_map, bools_mapf, ints_mapf, strs_mapf, ↓pAny, ↓pAll, ↓pCall, ↓pEq, ↓pNe, ↓pIn, ↓pIx, ↓pCutS, ↓pCutL, ↓pNo, ↓pPart, ↓pJoin, ↓pCat, ↓pI, ↓pI0, ↓pB0, ↓pAdd, ↓pIs, ↓oSub, ↓oMul, ↓oMod, ↓oDiv, ↓oShl, ↓oShr, ↓oPow, ↓oAnd, ↓oOr, ↓oXor, ↓oLt, ↓oLe, ↓oGt, ↓oGe])
def ph_law : FSpec := fun ds Q _ => ∃ ns : List Int, ds = [.lst (ns.map .int)] ∧ ns.length ≤ 63 ∧ Q (.dat (.bl true))
theorem ln_law : ∀ ds Q XQ, ph_law ds Q XQ → ds.length = 1 := by rintro ds Q XQ ⟨ns, rfl, _⟩; rfl
def p_law : PSt :=
  (pSeq (pFor (pItE (pSD (p2S pCat (pVar 0) (pSD (pLst (pCons (pC (.int 0)) pNil)))))) (b2 1 2) (pSeq (pSet 3 (pDS (pSD (pCall ph_law_spread X0 (pCons (pVarD 2) (pCons (p2 oMod (pVar 1) (pC (.int 60))) pNil)))))) (pSeq (pAsg (pSD (pCall ph_law_rows X0 (pCons (pVarD 2) (pCons (p2 oMod (pVar 1) (pC (.int 60))) (pCons (pC (.int 5)) pNil))))) (b3 4 5 6)) (pSeq (pSet 7 (pDS (pSD (pCall ph_note_of X0 (pCons (pSD (pMake "Saying" ph_Saying [] X0 (pCons (pVarD 4) (pCons (pVarD 5) (pCons (pVarD 6) pNil))))) pNil))))) (pSeq (pSet 8 (pDS (pSD (pSplit 10 (pVar 7))))) (pSeq (pSet 9 (pDS (p2 pAdd (pC (.int 1)) (p2 oMod (p2 oDiv (pVar 3) (pC (.int 7))) (p1 pLen (pVar 8)))))) (pSeq (pSet 10 (pDS (pSD (pCall ph_law_none X0 (pCons (pVarD 4) (pCons (p2 oDiv (pVar 3) (pC (.int 11))) pNil)))))) (pSeq (pIfSt (pAnd (pT (p2 pEq (p2 oMod (p2 oDiv (pVar 3) (pC (.int 3))) (pC (.int 3))) (pC (.int 0)))) (pT (p2 oGt (p1 pLen (pVar 8)) (pC (.int 1))))) (pSeq (pSet 10 (pDS (p2 pIx (pVar 8) (p2 pAdd (pC (.int 1)) (p2 oMod (p2 oDiv (pVar 3) (pC (.int 17))) (p2 oSub (p1 pLen (pVar 8)) (pC (.int 1)))))))) (pSet 9 (pDS (p1 pLen (pVar 8))))) pNext) (pSeq (pSet 11 (pDS (pSD (p2S pCat (pSD (p2S pCat (pSD (pCutL (pVar 8) pNo (pPart (pVar 9)))) (pSD (pLst (pCons (pVarD 10) pNil))))) (pSD (pCutL (pVar 8) (pPart (p2 pAdd (pVar 9) (p2 oMod (p2 oDiv (pVar 3) (pC (.int 5))) (pC (.int 2))))) pNo)))))) (pSeq (pIfSt (pT (p2 pEq (p2 oMod (p2 oDiv (pVar 3) (pC (.int 13))) (pC (.int 2))) (pC (.int 1)))) (pSet 11 (pDS (pSD (p2S pCat (pVar 11) (pSD (pLst (pCons (pSD (pCall ph_law_none X0 (pCons (pVarD 4) (pCons (p2 oDiv (pVar 3) (pC (.int 19))) pNil)))) pNil))))))) pNext) (pSeq (pIfSt (pT (p2 pNe (pSD (pCall ph_law_refused X0 (pCons (pJoin (pC (.str [10])) (pVar 11)) pNil))) (p2 pAdd (pVar 9) (pC (.int 1))))) (pRet (pDS (pC (.bl false)))) pNext) (pSeq (pIfSt (pT (p2 pNe (pSD (pCall ph_law_refused X0 (pCons (pJoin (pC (.str [10])) (pSD (p2S pCat (pSD (pLst (pCons (pSD (pCall ph_law_first X0 (pCons (p2 oDiv (pVar 3) (pC (.int 23))) pNil))) pNil))) (pSD (pCutL (pVar 11) (pPart (pC (.int 1))) pNo))))) pNil))) (pC (.int 1)))) (pRet (pDS (pC (.bl false)))) pNext) (pSeq (pSet 12 (pDS (p2 pIx (pSD (pLst (pCons (pC .non) (pCons (pC (.int 5)) (pCons (pSD (pLst (pCons (pVarD 7) pNil))) (pCons (pC (.bl true)) (pCons (pSD pDict0) (pCons (pTup (pCons (pC (.str [108, 97, 109, 112, 115, 32, 49])) pNil)) (pCons (pC (.str [])) pNil))))))))) (p2 oMod (p2 oDiv (pVar 3) (pC (.int 29))) (pC (.int 7)))))) (pIfSt (pOr (pT (p2 pNe (pSD (pCall ph_law_refused X0 (pCons (pVarD 12) pNil))) (pC (.int 1)))) (pT (p2 pNe (pSD (pCall ph_note_of X0 (pCons (pSD (pCall ph_saying_of X0 (pCons (pVarD 7) pNil))) pNil))) (pVar 7)))) (pRet (pDS (pC (.bl false)))) pNext)))))))))))))) (pRet (pDS (pC (.bl true)))))

abbrev N_law : List Str := ["_law_script", "_law_k", "_law_cell", "_law_draw_here", "_law_many", "_law_on", "_law_free", "_law_text", "_law_rows_here", "_law_at", "_law_odd", "_law_bent", "_law_thing"]
theorem srt_perm_eq {xs ys : List Int} (p : xs.Perm ys) : srt xs = srt ys := srt_eq ((srt_perm xs).trans p) (srt_rise xs)
abbrev st9 (ns : List Int) (k : Nat) (c : Int) (m n : Nat) (on free : List Int) (x7 x8 x9 x10 x11 x12 : Option SV) : DS := [some (.dat (.lst (ns.map .int))), some (.dat (.int (k : Int))), some (.dat (.int c)), some (.dat (.int (m : Int))), some (.dat (.int (n : Int))), some (.dat (.lst (on.map .int))), some (.dat (.lst (free.map .int))), x7, x8, x9, x10, x11, x12]
theorem det_divn {st : DS} {p : PR} {m : Nat} (k : Nat) (h : Det p st (.int (m : Int))) (hk : CDiv (m : Int) (k : Int)) : Det (p2 oDiv p (pC (.int (k : Int)))) st (.int ((m / k : Nat) : Int)) := by
  rw [Int.natCast_ediv]
  exact det_div h hk
theorem det_modn {st : DS} {p q : PR} {m k : Nat} (h : Det p st (.int (m : Int))) (g : Det q st (.int (k : Int))) (hk : 0 < k) : Det (p2 oMod p q) st (.int ((m % k : Nat) : Int)) := by
  rw [Int.natCast_emod]
  exact det_modv h g (by omega)
theorem sum_le (m : Nat) : ∀ (l : List (List Nat)), (∀ q ∈ l, q.length ≤ m) → (l.map (·.length)).sum ≤ l.length * m
  | [], _ => by simp
  | q :: l, hq => by
    have := hq q (by simp)
    have := sum_le m l fun x hx => hq x (List.mem_cons_of_mem _ hx)
    rw [List.map_cons, List.sum_cons, List.length_cons, Nat.add_mul]
    omega
/-- lines joined: a text of these lines -/
theorem det_lines {st : DS} {q : PR} {ls : List (List Nat)} (h : Det q st (.lst (ls.map .str))) (hl : ls.length ≤ 200) (hz : ∀ z ∈ ls, 10 ∉ z ∧ z.length ≤ 20) : Det (pJoin (pC (.str [10])) q) st (.str (joinD [10] ls)) := by
  have q1 := det_joinf (f := fun z : List Nat => z) (l := ls) (s := [10]) (p := pC (.str [10])) (q := q) (st := st) det_c h (by
    rw [List.map_id']
    have s1 := sum_le 20 ls fun z h => (hz z h).2
    have e1 : ([10] : List Nat).length = 1 := rfl
    rw [e1]
    omega)
  rw [List.map_id'] at q1
  exact q1
theorem lines_ok {ls : List (List Nat)} (hne : ls ≠ []) (hl : ls.length ≤ 200) (hz : ∀ z ∈ ls, 10 ∉ z ∧ z.length ≤ 20) : okText (joinD [10] ls) ∧ splitM 10 (joinD [10] ls) = ls := by
  have e := spl_single (c := 10) hne fun p hp => (hz p hp).1
  refine ⟨⟨?_, fun r hr => ?_⟩, e⟩
  · have := join_len (c := 10) (m := 20) ls fun p hp => (hz p hp).2
    omega
  · rw [e] at hr
    have := (hz r hr).2
    omega
theorem det_refused {st : DS} {p : PR} {d : D} {k : Nat} {XQ : XD → Prop} (h : Det p st d) (hd : (∃ z : List Nat, d = .str z ∧ okText z ∧ readM z = .inl k) ∨ (isTy "str" d = some false ∧ k = 1)) : Det (pSD (pCall ph_law_refused XQ (pCons p pNil))) st (.int (k : Int)) :=
  det_callD (detA_cons h detA_nil) fun R hR => ⟨d, k, rfl, hd, hR⟩
theorem det_none {st : DS} {p q : PR} {n s : Nat} {XQ : XD → Prop} (h1 : 1 ≤ n) (h5 : n ≤ 5) (h : Det p st (.int (n : Int))) (g : Det q st (.int (s : Int))) : Det (pSD (pCall ph_law_none XQ (pCons p (pCons q pNil)))) st (.str (noneM n s)) :=
  det_callD (detA_cons h (detA_cons g detA_nil)) fun R hR => ⟨n, s, rfl, h1, h5, hR⟩
theorem detB_ne {st : DS} {p q : PR} {i : Int} (h : Det p st (.int i)) (g : Det q st (.int i)) : DetB (pT (p2 pNe p q)) st false := by
  have q := detB_T (det_nep h g trivial)
  rw [ev_ii, decide_eq_true rfl] at q
  exact q
theorem pu_law : ∀ ds Q XQ, ph_law ds Q XQ → p_law { nx := fun _ => Q (.dat .non), rt := Q } (dstart N_law ds) := by
  rintro ds Q XQ ⟨ns, rfl, hl, h⟩
  unfold p_law
  refine seq_for (det_cat (xs := ns.map D.int) (ys := [D.int 0]) (det_vd rfl) (det_lst (detA_cons det_c detA_nil) (by simp)) (by rw [List.length_map]; simp; omega) _ ?_)
  show pForGo _ _ _ (numbered (ns.map D.int ++ [D.int 0])) _
  rw [show ns.map D.int ++ [D.int 0] = (ns ++ [0]).map D.int by simp, numbered_map]
  refine for_inv _ (fun st => ∃ x1 x2 x3 x4 x5 x6 x7 x8 x9 x10 x11 x12, st = [some (.dat (.lst (ns.map .int))), x1, x2, x3, x4, x5, x6, x7, x8, x9, x10, x11, x12]) _ _ ⟨_, _, _, _, _, _, _, _, _, _, _, _, rfl⟩ ?_ ?_
  · rintro ⟨c, k⟩ hk st ⟨x1, x2, x3, x4, x5, x6, x7, x8, x9, x10, x11, x12, rfl⟩ G hG
    have e : (k : Int) % 60 = ((k % 60 : Nat) : Int) := by simp
    have hk60 : k % 60 ≤ 1000 := by omega
    refine set_call (cons_at (det_varD (d := .int c) rfl) (cons_at (det_mod (det_vd (d := .int (k : Int)) rfl) (by decide)) (nil_at ?_)))
    refine ⟨c, k % 60, by rw [← e], hk60, ?_⟩
    obtain ⟨m, hm⟩ : ∃ m : Nat, spreadM c (k % 60) = (m : Int) := ⟨(spreadM c (k % 60)).toNat, by
      have : 0 ≤ spreadM c (k % 60) := Int.emod_nonneg _ (by decide)
      omega⟩
    rw [hm]
    refine asg_call (cons_at (det_varD (d := .int c) rfl) (cons_at (det_mod (det_vd (d := .int (k : Int)) rfl) (by decide)) (cons_at det_c (nil_at ?_))))
    refine ⟨c, k % 60, 5, by rw [← e]; rfl, hk60, by decide, by decide, fun n on free h1 h5 hr => ?_⟩
    have en : ∀ ee, noteT n (rowsOf n (srt on) (srt free) ee) = noteT n (rowsOf n on free ee) := fun ee => by rw [rowsOf_perm (srt_perm on) (srt_perm free)]
    have es : showsM n (srt on) (srt free) = showsM n on free := shows_perm (srt_perm on) (srt_perm free)
    obtain ⟨rs, hrs⟩ : ∃ rs, rowsOf n on free (showsM n on free) = rs := ⟨_, rfl⟩
    have ok := rowsOf_ok n on free (showsM n on free)
    have rl := rowsOf_len h5 on free (showsM n on free)
    have hsel := sel_rows hr (showsM n on free)
    rw [hrs] at ok rl hsel
    have note : ∀ {p : PR} {st : DS}, Det p st (sayD n (srt on) (srt free)) → Det (pSD (pCall ph_note_of X0 (pCons p pNil))) st (.str (noteT n rs)) := fun q => det_callD (detA_cons q detA_nil) fun R hR => ⟨n, _, _, rfl, h5, by rw [es, en, hrs]; exact hR⟩
    refine seq_set (note (dets_saying h1 h5 hr (detA_cons (det_varD (i := 4) (d := .int (n : Int)) rfl) (detA_cons (det_varD (i := 5) (d := .lst (on.map .int)) rfl) (detA_cons (det_varD (i := 6) (d := .lst (free.map .int)) rfl) detA_nil)))).d) ?_
    have ot := note_len h5 (show rs.length ≤ 100 by omega)
    have sp := note_split n h5 rs
    have rd := read_note h1 h5 ok
    have lns : ∀ z ∈ firstM n :: rs.map (rowM n), 10 ∉ z ∧ z.length ≤ 20 := fun z hz => by
      rcases List.mem_cons.mp hz with rfl | hz
      · refine ⟨?_, by show 7 ≤ 20; decide⟩
        unfold firstM
        simp
        omega
      · obtain ⟨p, _, rfl⟩ := List.mem_map.mp hz
        have := row_len n p
        exact ⟨row_no, by omega⟩
    generalize noteT n rs = z at ot sp rd note
    refine seq_set (x := .lst ((firstM n :: rs.map (rowM n)).map .str)) (by
      have q := (dets_split (c := 10) (p := pVar 7) (st := st9 ns k c m n on free (some (.dat (.str z))) x8 x9 x10 x11 x12) (det_vd (d := .str z) rfl) ot.1).l
      rw [sp] at q
      exact q) ?_
    have len : ∀ x9 x10 x11 x12, Det (p1 pLen (pVar 8)) (st9 ns k c m n on free (some (.dat (.str z))) (some (.dat (.lst ((firstM n :: rs.map (rowM n)).map .str)))) x9 x10 x11 x12) (.int ((rs.length + 1 : Nat) : Int)) := fun x9 x10 x11 x12 => by
      have q := det_lenL (p := pVar 8) (st := st9 ns k c m n on free (some (.dat (.str z))) (some (.dat (.lst ((firstM n :: rs.map (rowM n)).map .str)))) x9 x10 x11 x12) (det_vd (d := .lst ((firstM n :: rs.map (rowM n)).map .str)) rfl)
      rw [List.length_map, List.length_cons, List.length_map] at q
      exact q
    have cd : ∀ k : Int, 0 < k → k < 100000 → CDiv (m : Int) k := fun k h1 h2 => by
      first | exact ⟨by omega, by omega⟩ | exact ⟨h1, by omega⟩
    refine seq_set (x := .int ((m / 7 % (rs.length + 1) + 1 : Nat) : Int)) (by
      have q := det_add (det_c (d := .int 1)) (det_modn (det_divn 7 (det_vd (i := 3) rfl) (cd _ (by decide) (by decide))) (len x9 x10 x11 x12) (by omega))
      rw [show (1 : Int) + ((m / 7 % (rs.length + 1) : Nat) : Int) = ((m / 7 % (rs.length + 1) + 1 : Nat) : Int) by omega] at q
      exact q) ?_
    refine seq_set (det_none h1 h5 (det_varD (i := 4) rfl) (det_divn 11 (det_vd (i := 3) rfl) (cd _ (by decide) (by decide)))) ?_
    refine seq_ifC (fun a : Nat × List Nat => st9 ns k c m n on free (some (.dat (.str z))) (some (.dat (.lst ((firstM n :: rs.map (rowM n)).map .str)))) (some (.dat (.int ((a.1 + 1 : Nat) : Int)))) (some (.dat (.str a.2))) x11 x12)
      (fun a => a.1 ≤ rs.length ∧ (settingM n a.2 = none ∨ ∃ p, settingM n a.2 = some p ∧ p.1 ∈ (rs.take a.1).map (·.1)) ∧ 10 ∉ a.2 ∧ a.2.length ≤ 20)
      (detB_and (detB_T (det_eqp (det_mod (det_divn 3 (det_vd (i := 3) rfl) (cd _ (by decide) (by decide))) (by decide)) det_c trivial)) fun _ => detB_T (det_b0 (g := fun i j => decide (j < i)) (len _ _ _ _) det_c)) (fun b => ?_) (fun b => ?_) ?_
    · have hpos : 1 ≤ rs.length := by
        have := (Bool.and_eq_true_iff.mp b).2
        have := of_decide_eq_true this
        omega
      obtain ⟨p, hp⟩ : ∃ p, rs[m / 17 % rs.length]? = some p := by
        have : m / 17 % rs.length < rs.length := Nat.mod_lt _ hpos
        exact ⟨_, List.getElem?_eq_getElem this⟩
      have hmem := List.mem_of_getElem? hp
      have hpr := ok.2 p hmem
      have hln := lns (rowM n p) (List.mem_cons_of_mem _ (List.mem_map.mpr ⟨p, hmem, rfl⟩))
      refine ⟨(rs.length, rowM n p), ⟨Nat.le_refl _, .inr ⟨p, setting_row hpr.1 hpr.2, by rw [List.take_length]; exact List.mem_map.mpr ⟨p, hmem, rfl⟩⟩, hln.1, hln.2⟩, fun E' hE => ?_⟩
      refine seq_set (x := .str (rowM n p)) (det_ix (i := ((m / 17 % rs.length + 1 : Nat) : Int)) (det_vd (i := 8) rfl) ?_ ?_) (set_at (len _ _ _ _) hE)
      · have q := det_add (det_c (d := .int 1)) (det_modn (k := rs.length) (det_divn 17 (det_vd (i := 3) rfl) (cd _ (by decide) (by decide))) (by
          have q := det_sub (len (some (.dat (.int ((m / 7 % (rs.length + 1) + 1 : Nat) : Int)))) (some (.dat (.str (noneM n (m / 11))))) x11 x12) (det_c (d := .int 1))
          rw [show ((rs.length + 1 : Nat) : Int) - 1 = (rs.length : Int) by omega] at q
          exact q) hpos)
        rw [show (1 : Int) + ((m / 17 % rs.length : Nat) : Int) = ((m / 17 % rs.length + 1 : Nat) : Int) by omega] at q
        exact q
      · rw [atI_nat, List.map_cons, List.getElem?_cons_succ, List.getElem?_map, List.getElem?_map, hp]
        rfl
    · have no := none_ok (s := m / 11) h1 h5 _ (none_in n (m / 11))
      exact ⟨(m / 7 % (rs.length + 1), noneM n (m / 11)), ⟨by have := Nat.mod_lt (m / 7) (show 0 < rs.length + 1 by omega); dsimp only; omega, .inl no.1, no.2.1, no.2.2⟩, rfl⟩
    rintro ⟨a, odd⟩ ⟨ha, hodd, hten, hlo⟩
    dsimp only at ha hodd hten hlo
    obtain ⟨ee, hee⟩ : ∃ ee : Nat, m / 5 % 2 = ee := ⟨_, rfl⟩
    have eL : ((firstM n :: rs.map (rowM n)).map D.str).take (a + 1) ++ [D.str odd] ++ ((firstM n :: rs.map (rowM n)).map D.str).drop (a + 1 + ee) = (firstM n :: ((rs.take a).map (rowM n) ++ odd :: (rs.map (rowM n)).drop (a + ee))).map D.str := by
      rw [show a + 1 + ee = (a + ee) + 1 by omega, ← List.map_take, ← List.map_drop, List.take_succ_cons, List.drop_succ_cons, List.map_take]
      simp
    refine seq_set (x := .lst ((firstM n :: ((rs.take a).map (rowM n) ++ odd :: (rs.map (rowM n)).drop (a + ee))).map D.str)) (by
      have q := (dets_cat (dets_cat (dets_cutl_to (k := a + 1) (st := st9 ns k c m n on free (some (.dat (.str z))) (some (.dat (.lst ((firstM n :: rs.map (rowM n)).map .str)))) (some (.dat (.int ((a + 1 : Nat) : Int)))) (some (.dat (.str odd))) x11 x12) (det_vd (i := 8) rfl) (det_vd (i := 9) rfl)).l (det_lst (detA_cons (det_varD (i := 10) (d := .str odd) rfl) detA_nil) (by simp)) (by simp; omega)).l
        (dets_cutl_from (k := a + 1 + ee) (p := pVar 8) (q := p2 pAdd (pVar 9) (p2 oMod (p2 oDiv (pVar 3) (pC (.int 5))) (pC (.int 2)))) (det_vd (i := 8) rfl) (by
          have q := det_add (p := pVar 9) (st := st9 ns k c m n on free (some (.dat (.str z))) (some (.dat (.lst ((firstM n :: rs.map (rowM n)).map .str)))) (some (.dat (.int ((a + 1 : Nat) : Int)))) (some (.dat (.str odd))) x11 x12) (det_vd (i := 9) rfl) (det_modn (k := 2) (det_divn 5 (det_vd (i := 3) rfl) (cd _ (by decide) (by decide))) det_c (by decide))
          rw [hee, show ((a + 1 : Nat) : Int) + (ee : Int) = ((a + 1 + ee : Nat) : Int) by omega] at q
          exact q)).l (by simp; omega)).l
      rw [eL] at q
      exact q) ?_
    refine seq_ifC (fun rest : List (List Nat) => st9 ns k c m n on free (some (.dat (.str z))) (some (.dat (.lst ((firstM n :: rs.map (rowM n)).map .str)))) (some (.dat (.int ((a + 1 : Nat) : Int)))) (some (.dat (.str odd))) (some (.dat (.lst ((firstM n :: ((rs.take a).map (rowM n) ++ odd :: rest)).map .str)))) x12)
      (fun rest => rest.length ≤ 40 ∧ ∀ z ∈ rest, 10 ∉ z ∧ z.length ≤ 20)
      (detB_T (det_eqp (det_mod (det_divn 13 (det_vd (i := 3) rfl) (cd _ (by decide) (by decide))) (by decide)) det_c trivial)) (fun b => ?_) (fun b => ?_) ?_
    · have no := none_ok (s := m / 19) h1 h5 _ (none_in n (m / 19))
      refine ⟨(rs.map (rowM n)).drop (a + ee) ++ [noneM n (m / 19)], ⟨by simp; omega, fun z hz => ?_⟩, fun E' hE => ?_⟩
      · rcases List.mem_append.mp hz with r | r
        · exact lns z (List.mem_cons_of_mem _ (List.mem_of_mem_drop r))
        · rw [List.mem_singleton] at r
          subst r
          exact no.2
      · refine set_at (x := .lst ((firstM n :: ((rs.take a).map (rowM n) ++ odd :: ((rs.map (rowM n)).drop (a + ee) ++ [noneM n (m / 19)]))).map D.str)) ?_ hE
        have q := (dets_cat (det_vd (i := 11) (d := .lst ((firstM n :: ((rs.take a).map (rowM n) ++ odd :: (rs.map (rowM n)).drop (a + ee))).map D.str)) (st := st9 ns k c m n on free (some (.dat (.str z))) (some (.dat (.lst ((firstM n :: rs.map (rowM n)).map .str)))) (some (.dat (.int ((a + 1 : Nat) : Int)))) (some (.dat (.str odd))) (some (.dat (.lst ((firstM n :: ((rs.take a).map (rowM n) ++ odd :: (rs.map (rowM n)).drop (a + ee))).map .str)))) x12) rfl) (det_lst (detA_cons (det_none h1 h5 (XQ := X0) (det_varD (i := 4) rfl) (det_divn 19 (det_vd (i := 3) rfl) (cd _ (by decide) (by decide)))) detA_nil) (by simp)) (by simp; omega)).l
        rw [show ((firstM n :: ((rs.take a).map (rowM n) ++ odd :: (rs.map (rowM n)).drop (a + ee))).map D.str) ++ [D.str (noneM n (m / 19))] = (firstM n :: ((rs.take a).map (rowM n) ++ odd :: ((rs.map (rowM n)).drop (a + ee) ++ [noneM n (m / 19)]))).map D.str by simp] at q
        exact q
    · exact ⟨(rs.map (rowM n)).drop (a + ee), ⟨by simp; omega, fun z hz => lns z (List.mem_cons_of_mem _ (List.mem_of_mem_drop hz))⟩, rfl⟩
    rintro rest ⟨hrl, hrest⟩
    have bl : ((rs.take a).map (rowM n) ++ odd :: rest).length ≤ 150 := by simp [List.length_take]; omega
    have bz : ∀ z ∈ (rs.take a).map (rowM n) ++ odd :: rest, 10 ∉ z ∧ z.length ≤ 20 := fun z hz => by
      rcases List.mem_append.mp hz with r | r
      · obtain ⟨p, hp, rfl⟩ := List.mem_map.mp r
        exact lns _ (List.mem_cons_of_mem _ (List.mem_map.mpr ⟨p, List.mem_of_mem_take hp, rfl⟩))
      · rcases List.mem_cons.mp r with rfl | r
        · exact ⟨hten, hlo⟩
        · exact hrest z r
    have bad := read_bad (n := n) (odd := odd) (rest := rest) (rs.take a) [] 0 (by
      rw [List.nil_append]
      exact ⟨List.Nodup.sublist ((List.take_sublist a rs).map _) ok.1, fun q hq => ok.2 q (List.mem_of_mem_take hq)⟩) (by rw [List.nil_append]; exact hodd)
    rw [List.length_take, Nat.min_eq_left ha] at bad
    generalize (rs.take a).map (rowM n) ++ odd :: rest = body at bl bz bad
    have l1 := lines_ok (ls := firstM n :: body) (by simp) (by rw [List.length_cons]; omega) fun z hz => by
      rcases List.mem_cons.mp hz with rfl | hz
      · exact lns _ (by simp)
      · exact bz z hz
    have r1 : readM (joinD [10] (firstM n :: body)) = .inl (a + 2) := by
      unfold readM
      rw [l1.2]
      dsimp only
      rw [first_lamps h1 h5, if_neg (by omega), bad]
      dsimp only
      congr 1
      omega
    refine seq_if (b := false) (detB_ne (i := ((a + 2 : Nat) : Int)) (det_refused (det_lines (det_vd (i := 11) (d := .lst ((firstM n :: body).map .str)) rfl) (by rw [List.length_cons]; omega) fun z hz => by
        rcases List.mem_cons.mp hz with rfl | hz
        · exact lns _ (by simp)
        · exact bz z hz) (.inl ⟨_, rfl, l1.1, r1⟩)) (by
        have q := det_add (p := pVar 9) (q := pC (.int 1)) (st := st9 ns k c m n on free (some (.dat (.str z))) (some (.dat (.lst ((firstM n :: rs.map (rowM n)).map .str)))) (some (.dat (.int ((a + 1 : Nat) : Int)))) (some (.dat (.str odd))) (some (.dat (.lst ((firstM n :: body).map .str)))) x12) (det_vd (i := 9) rfl) det_c
        rw [show ((a + 1 : Nat) : Int) + 1 = ((a + 2 : Nat) : Int) by omega] at q
        exact q)) (fun z => by cases z) fun _ => ?_
    have f0 := first_zero _ (first_in (m / 23))
    have l2 := lines_ok (ls := firstR (m / 23) :: body) (by simp) (by rw [List.length_cons]; omega) fun z hz => by
      rcases List.mem_cons.mp hz with rfl | hz
      · exact f0.2
      · exact bz z hz
    have r2 : readM (joinD [10] (firstR (m / 23) :: body)) = .inl 1 := by
      unfold readM
      rw [l2.2]
      dsimp only
      rw [if_pos f0.1]
    refine seq_if (b := false) (detB_ne (i := ((1 : Nat) : Int)) (det_refused (det_lines (ls := firstR (m / 23) :: body) (dets_cat (ys := body.map D.str) (det_lst (detA_cons (det_callD (φ := ph_law_first) (XQ := X0) (detA_cons (det_divn 23 (det_vd (i := 3) rfl) (cd _ (by decide) (by decide))) detA_nil) fun R hR => ⟨m / 23, rfl, hR⟩) detA_nil) (by simp)) (dets_cutl_from (k := 1) (det_vd (i := 11) (d := .lst ((firstM n :: body).map .str)) rfl) det_c).l (by simp; omega)).l (by rw [List.length_cons]; omega) fun z hz => by
        rcases List.mem_cons.mp hz with rfl | hz
        · exact f0.2
        · exact bz z hz) (.inl ⟨_, rfl, l2.1, r2⟩)) det_c) (fun z => by cases z) fun _ => ?_
    obtain ⟨th, hth⟩ : ∃ th, (([D.non, .int 5, .lst [.str z], .bl true, .dct [], .tup [.str [108, 97, 109, 112, 115, 32, 49]], .str []] : List D))[m / 29 % 7]? = some th := by
      have : m / 29 % 7 < 7 := Nat.mod_lt _ (by decide)
      exact ⟨_, List.getElem?_eq_getElem (by show _ < 7; exact this)⟩
    have hth2 : (∃ z : List Nat, th = .str z ∧ okText z ∧ readM z = .inl 1) ∨ (isTy "str" th = some false ∧ (1 : Nat) = 1) := by
      have := List.mem_of_getElem? hth
      simp only [List.mem_cons, List.not_mem_nil, or_false] at this
      rcases this with rfl | rfl | rfl | rfl | rfl | rfl | rfl
      · exact .inr ⟨by decide +kernel, rfl⟩
      · exact .inr ⟨by decide +kernel, rfl⟩
      · exact .inr ⟨by show some _ = some false; congr 1, rfl⟩
      · exact .inr ⟨by decide +kernel, rfl⟩
      · exact .inr ⟨by decide +kernel, rfl⟩
      · exact .inr ⟨by decide +kernel, rfl⟩
      · have l0 := lines_ok (ls := [[]]) (by simp) (by simp) (by simp)
        exact .inl ⟨[], rfl, l0.1, by
          show readM (joinD [10] [[]]) = _
          unfold readM
          rw [l0.2]
          dsimp only
          rw [if_pos (by decide)]⟩
    refine seq_set (x := th) (det_ix (i := ((m / 29 % 7 : Nat) : Int)) (det_lst (detA_cons det_c (detA_cons det_c (detA_cons (det_lst (detA_cons (det_varD (i := 7) (d := .str z) rfl) detA_nil) (by simp)) (detA_cons det_c (detA_cons det_dict (detA_cons (det_tup (detA_cons det_c detA_nil) (by simp)) (detA_cons det_c detA_nil))))))) (by simp)) (det_modn (k := 7) (det_divn 29 (det_vd (i := 3) rfl) (cd _ (by decide) (by decide))) det_c (by decide)) (by rw [atI_nat]; exact hth)) ?_
    refine if_at (b := false) (detB_or (b := false) (detB_ne (i := ((1 : Nat) : Int)) (det_refused (det_varD (i := 12) rfl) hth2) det_c) fun _ => by
        have q := detB_T (det_nep (note (det_callD (φ := ph_saying_of) (XQ := X0) (d := sayD n (srt on) (srt free)) (st := st9 ns k c m n on free (some (.dat (.str z))) (some (.dat (.lst ((firstM n :: rs.map (rowM n)).map .str)))) (some (.dat (.int ((a + 1 : Nat) : Int)))) (some (.dat (.str odd))) (some (.dat (.lst ((firstM n :: body).map .str)))) (some (.dat th))) (detA_cons (det_varD (i := 7) (d := .str z) rfl) detA_nil) fun R hR => ⟨_, rfl, .inl ⟨z, rfl, ot, .inr ⟨n, rs, rd, h1, h5, fun _ => by rw [srt_perm_eq hsel.1, srt_perm_eq hsel.2]; exact hR⟩⟩⟩)) (det_vd (i := 7) (d := .str z) rfl) trivial)
        rw [ev_ss, decide_eq_true rfl] at q
        exact q) (fun z => by cases z) fun _ => ?_
    exact hG _ ⟨_, _, _, _, _, _, _, _, _, _, _, _, rfl⟩
  · rintro st ⟨x1, x2, x3, x4, x5, x6, x7, x8, x9, x10, x11, x12, rfl⟩
    exact h
end Pu
namespace Pu
open PySem L2
def top (i : Nat) : Stmt := PySem.Challenge.pw_fewterms_k09_notes_refused.main.body.getD i (.Pass ⟨0, 0, 0, 0⟩)
structure Txt (K : PySem.W.Frag) (mg : Str → Option Value) : Prop where
  n_ValueError : mg "ValueError" = none
  n_all : mg "all" = none
  n_any : mg "any" = none
  n_bool : mg "bool" = none
  n_enumerate : mg "enumerate" = none
  n_int : mg "int" = none
  n_isinstance : mg "isinstance" = none
  n_len : mg "len" = none
  n_list : mg "list" = none
  n_range : mg "range" = none
  n_set : mg "set" = none
  n_sorted : mg "sorted" = none
  n_str : mg "str" = none
  n_sum : mg "sum" = none
  g_FIRST : ∃ tk, mg "FIRST" = some (.str "lamps" tk)
  g_MOST_LAMPS : ∃ tk, mg "MOST_LAMPS" = some (.int 5 tk)
  g_SIGNS : ∃ tk, mg "SIGNS" = some (.str "01-" tk)
  g_WORDS : GTup K mg "WORDS" [[111, 110], [111, 102, 102], [102, 114, 101, 101]]
  ask_0 : AskOk K mg KS 0
  ask_1 : AskOk K mg KS 1
  ask_2 : AskOk K mg KS 2
  ask_3 : AskOk K mg KS 3
  ask_4 : AskOk K mg KS 4
  cls_Saying : Cls K (clsA K "Saying")
  ctch : CatchOk K mg KS "TermError"
  errs : ErrOk K KS
  na_Saying_either : NoAttr K (clsA K "Saying") "either"
  na_Saying_lamps : NoAttr K (clsA K "Saying") "lamps"
  na_Saying_lit : NoAttr K (clsA K "Saying") "lit"
  oex_4 : OexC K (clsA K "BadNote")
  row_4 : RowOk K 4
  te : TeOk K mg "TermError"
  x_BadCount : ExcOk K mg "BadCount"
  x_BadRows : ExcOk K mg "BadRows"
abbrev s_BadNote___init__ : Stmt := inClass (top 7) 0
theorem sc_BadNote___init__ : FnScope N_BadNote___init__ ["self", "row"] (defScope s_BadNote___init__) := ⟨rfl, rfl, rfl, by decide +kernel, rfl, by decide +kernel, by decide +kernel⟩
theorem c_BadNote {P : Program} {w : World} {K : PySem.W.Frag} {mg : Str → Option Value} {base : Heap} (T : Txt K mg) {f : Addr} {fd : FuncData} (Fn : Fun K "__init__" "BadNote.__init__" s_BadNote___init__ f fd)
    (hI : PySem.W.findIn K (.ref (clsA K "BadNote")) "__init__" = some (some (.ref f))) (tI : PySem.W.typeIn K (.ref f) = some (.type "function")) (hm : mg "BadNote" = some (.ref (clsA K "BadNote"))) : NoteOk P w K mg base "BadNote" 1 := by
  refine ⟨f, fd, ["self", "row"], T.oex_4, hI, tI, Fn.okX sc_BadNote___init__ (fun vs H Q E h => by obtain ⟨a, n, rfl, _⟩ := h; rfl) (fun cdv B outer s H vs Q E hr h => ?_), Fn.binds (fun _ _ _ _ _ _ us hl => match us, hl with | [_, _], _ => rfl), hm⟩
  obtain ⟨a, n, rfl, ha, q⟩ := h
  obtain ⟨C0, m0, g0, r0, v0⟩ := T.te.ex
  exact ⟨_, pss_cons (ps_expr (pe_teinit rfl m0 g0 r0 v0 (pa_cons (pe_var (i := 0) rfl (.inl rfl)) (pa_cons pe_str pa_nil)))) (pss_one (ps_ost (pe_var (i := 0) rfl (.inl rfl)) (pe_var (i := 1) rfl (.inl rfl)))), rd_note (C := clsA K "BadNote") (f := "row") T.oex_4 T.row_4.no rfl rfl ha q⟩

abbrev s_is_term : Stmt := top 10
theorem sc_is_term : FnScope N_is_term ["thing", "many"] (defScope s_is_term) := ⟨rfl, rfl, rfl, by decide +kernel, rfl, by decide +kernel, by decide +kernel⟩
theorem d_is_term {P : Program} {w : World} {K : PySem.W.Frag} {mg : Str → Option Value} {base : Heap} (T : Txt K mg)  {f : Addr} {cdv : Value} {B : Around} {outer : List Env} {s : Shared} {H : Hp} {E : XK} {F0 N0 : Hp} (hr : Room 0 (B.deeper (PyProof.Rows.envOfC "is_term" (defScope s_is_term) s.heap.objs.size f cdv))) :
    ∃ t, SimB ⟨F0, N0, K⟩ (ctx P w K mg base N_is_term "is_term" (defScope s_is_term) f cdv B outer s H E) (defBody s_is_term) t (p_is_term) := by
  have nd := sc_is_term.nd
  have hp : PassesOwn (model P w) (B.deeper (PyProof.Rows.envOfC "is_term" (defScope s_is_term) s.heap.objs.size f cdv)) (PyProof.Rows.envOfC "is_term" (defScope s_is_term) s.heap.objs.size f cdv) (ctx P w K mg base N_is_term "is_term" (defScope s_is_term) f cdv B outer s H E).xe := PassesOwn.leaving
  exact ⟨_, (simB_one (sim_ret ((simD_and ((simD_isi ty_str T.n_isinstance T.n_str (simR_var 0))).r (simD_and ((simD_cmp O_eq hr.units ((simD_fn B_len rfl T.n_len (simR_var 0))).r (simR_var 1))).r (simD_one (simD_fn B_all rfl T.n_all ((simS_lc (own := [("sign", 2)]) rfl nd (blkOk_by (by kernel_rfl)) (simIc_str (simR_var 0)) (fun _ _ _ _ _ => (simG_N 2 nd)) (by decide) (fun _ _ _ _ _ => simC_nil) (fun _ _ _ _ _ => (simD_cmp O_in hr.units (simR_var 2) ((simD_gstr [48, 49, 45] T.g_SIGNS)).r)))).r))))).s))⟩
theorem c_is_term {P : Program} {w : World} {K : PySem.W.Frag} {mg : Str → Option Value} {base : Heap} (T : Txt K mg)  {f : Addr} {fd : FuncData} (Fn : Fun K "is_term" "is_term" s_is_term f fd) (hm : mg "is_term" = some (.ref f)) : CallOk P w K mg base "is_term" 1 ph_is_term :=
  callOk (ps := ["thing", "many"]) Fn hm sc_is_term ln_is_term (fun _ => p_is_term) (fun _ _ _ _ _ _ A XQ hA hr hX => by obtain ⟨F0, N0, K0⟩ := A; cases hA; exact d_is_term T   hr) pu_is_term (fun _ _ _ _ _ _ us hl => match us, hl with | [_, _], _ => rfl)
abbrev s_sign_of : Stmt := top 11
theorem sc_sign_of : FnScope N_sign_of ["setting", "lamp"] (defScope s_sign_of) := ⟨rfl, rfl, rfl, by decide +kernel, rfl, by decide +kernel, by decide +kernel⟩
theorem d_sign_of {P : Program} {w : World} {K : PySem.W.Frag} {mg : Str → Option Value} {base : Heap} (T : Txt K mg)  {f : Addr} {cdv : Value} {B : Around} {outer : List Env} {s : Shared} {H : Hp} {E : XK} {F0 N0 : Hp} (hr : Room 0 (B.deeper (PyProof.Rows.envOfC "sign_of" (defScope s_sign_of) s.heap.objs.size f cdv))) :
    ∃ t, SimB ⟨F0, N0, K⟩ (ctx P w K mg base N_sign_of "sign_of" (defScope s_sign_of) f cdv B outer s H E) (defBody s_sign_of) t (p_sign_of) := by
  have nd := sc_sign_of.nd
  have hp : PassesOwn (model P w) (B.deeper (PyProof.Rows.envOfC "sign_of" (defScope s_sign_of) s.heap.objs.size f cdv)) (PyProof.Rows.envOfC "sign_of" (defScope s_sign_of) s.heap.objs.size f cdv) (ctx P w K mg base N_sign_of "sign_of" (defScope s_sign_of) f cdv B outer s H E).xe := PassesOwn.leaving
  exact ⟨_, (simB_one (sim_ret ((simD_at ((simD_str [48, 49])).r ((simD_op O_and hr.units ((simD_op O_shr hr.units (simR_var 0) (simR_var 1))).r (simD_int).r)).r)).s))⟩
theorem c_sign_of {P : Program} {w : World} {K : PySem.W.Frag} {mg : Str → Option Value} {base : Heap} (T : Txt K mg)  {f : Addr} {fd : FuncData} (Fn : Fun K "sign_of" "sign_of" s_sign_of f fd) (hm : mg "sign_of" = some (.ref f)) : CallOk P w K mg base "sign_of" 1 ph_sign_of :=
  callOk (ps := ["setting", "lamp"]) Fn hm sc_sign_of ln_sign_of (fun _ => p_sign_of) (fun _ _ _ _ _ _ A XQ hA hr hX => by obtain ⟨F0, N0, K0⟩ := A; cases hA; exact d_sign_of T   hr) pu_sign_of (fun _ _ _ _ _ _ us hl => match us, hl with | [_, _], _ => rfl)
abbrev s_has : Stmt := top 12
theorem sc_has : FnScope N_has ["term", "setting"] (defScope s_has) := ⟨rfl, rfl, rfl, by decide +kernel, rfl, by decide +kernel, by decide +kernel⟩
theorem d_has {P : Program} {w : World} {K : PySem.W.Frag} {mg : Str → Option Value} {base : Heap} (T : Txt K mg) (C_sign_of : CallOk P w K mg base "sign_of" 1 ph_sign_of) {f : Addr} {cdv : Value} {B : Around} {outer : List Env} {s : Shared} {H : Hp} {E : XK} {F0 N0 : Hp} (hr : Room 1 (B.deeper (PyProof.Rows.envOfC "has" (defScope s_has) s.heap.objs.size f cdv))) :
    ∃ t, SimB ⟨F0, N0, K⟩ (ctx P w K mg base N_has "has" (defScope s_has) f cdv B outer s H E) (defBody s_has) t (p_has) := by
  have nd := sc_has.nd
  have hp : PassesOwn (model P w) (B.deeper (PyProof.Rows.envOfC "has" (defScope s_has) s.heap.objs.size f cdv)) (PyProof.Rows.envOfC "has" (defScope s_has) s.heap.objs.size f cdv) (ctx P w K mg base N_has "has" (defScope s_has) f cdv B outer s H E).xe := PassesOwn.leaving
  exact ⟨_, (simB_one (sim_ret ((simD_fn B_all rfl T.n_all ((simS_lc (own := [("lamp", 2), ("sign", 3)]) rfl nd (blkOk_by (by kernel_rfl)) (simIc_enums (simR_var 0) T.n_enumerate) (fun _ _ _ _ _ => (simG_2 2 3 nd rfl (simG_N 2 nd) (simG_N 3 nd))) (by decide) (fun _ _ _ _ _ => simC_nil) (fun _ _ _ _ _ => (simD_or ((simD_cmp O_eq hr.units (simR_var 3) ((simD_str [45])).r)).r (simD_one (simD_cmp O_eq hr.units (simR_var 3) (((simX_call C_sign_of (hr.mono (by decide)) (simA_cons (simD_var 1) (simA_cons (simD_var 2) simA_nil))).s xc0)).r)))))).r)).s))⟩
theorem c_has {P : Program} {w : World} {K : PySem.W.Frag} {mg : Str → Option Value} {base : Heap} (T : Txt K mg) (C_sign_of : CallOk P w K mg base "sign_of" 1 ph_sign_of) {f : Addr} {fd : FuncData} (Fn : Fun K "has" "has" s_has f fd) (hm : mg "has" = some (.ref f)) : CallOk P w K mg base "has" 2 ph_has :=
  callOk (ps := ["term", "setting"]) Fn hm sc_has ln_has (fun _ => p_has) (fun _ _ _ _ _ _ A XQ hA hr hX => by obtain ⟨F0, N0, K0⟩ := A; cases hA; exact d_has T C_sign_of  hr) pu_has (fun _ _ _ _ _ _ us hl => match us, hl with | [_, _], _ => rfl)
abbrev s_settings_of : Stmt := top 13
theorem sc_settings_of : FnScope N_settings_of ["term"] (defScope s_settings_of) := ⟨rfl, rfl, rfl, by decide +kernel, rfl, by decide +kernel, by decide +kernel⟩
theorem d_settings_of {P : Program} {w : World} {K : PySem.W.Frag} {mg : Str → Option Value} {base : Heap} (T : Txt K mg) (C_has : CallOk P w K mg base "has" 2 ph_has) {f : Addr} {cdv : Value} {B : Around} {outer : List Env} {s : Shared} {H : Hp} {E : XK} {F0 N0 : Hp} (hr : Room 2 (B.deeper (PyProof.Rows.envOfC "settings_of" (defScope s_settings_of) s.heap.objs.size f cdv))) :
    ∃ t, SimB ⟨F0, N0, K⟩ (ctx P w K mg base N_settings_of "settings_of" (defScope s_settings_of) f cdv B outer s H E) (defBody s_settings_of) t (p_settings_of) := by
  have nd := sc_settings_of.nd
  have hp : PassesOwn (model P w) (B.deeper (PyProof.Rows.envOfC "settings_of" (defScope s_settings_of) s.heap.objs.size f cdv)) (PyProof.Rows.envOfC "settings_of" (defScope s_settings_of) s.heap.objs.size f cdv) (ctx P w K mg base N_settings_of "settings_of" (defScope s_settings_of) f cdv B outer s H E).xe := PassesOwn.leaving
  exact ⟨_, (simB_one (sim_ret (simS_lc (own := [("setting", 1)]) rfl nd (blkOk_by (by kernel_rfl)) (simIc_rng1 ((simD_op O_shl hr.units (simD_int).r ((simD_fn B_len rfl T.n_len (simR_var 0))).r)).r T.n_range) (fun _ _ _ _ _ => (simG_N 1 nd)) (by decide) (fun _ _ _ _ _ => (simC_one (simT_val (((simX_call C_has (hr.mono (by decide)) (simA_cons (simD_var 0) (simA_cons (simD_var 1) simA_nil))).s xc0)).r))) (fun _ _ _ _ _ => (simD_var 1)))))⟩
theorem c_settings_of {P : Program} {w : World} {K : PySem.W.Frag} {mg : Str → Option Value} {base : Heap} (T : Txt K mg) (C_has : CallOk P w K mg base "has" 2 ph_has) {f : Addr} {fd : FuncData} (Fn : Fun K "settings_of" "settings_of" s_settings_of f fd) (hm : mg "settings_of" = some (.ref f)) : CallOk P w K mg base "settings_of" 3 ph_settings_of :=
  callOk (ps := ["term"]) Fn hm sc_settings_of ln_settings_of (fun _ => p_settings_of) (fun _ _ _ _ _ _ A XQ hA hr hX => by obtain ⟨F0, N0, K0⟩ := A; cases hA; exact d_settings_of T C_has  hr) pu_settings_of (fun _ _ _ _ _ _ us hl => match us, hl with | [_], _ => rfl)
abbrev s_is_whole_number : Stmt := top 16
theorem sc_is_whole_number : FnScope N_is_whole_number ["thing", "least", "most"] (defScope s_is_whole_number) := ⟨rfl, rfl, rfl, by decide +kernel, rfl, by decide +kernel, by decide +kernel⟩
theorem d_is_whole_number {P : Program} {w : World} {K : PySem.W.Frag} {mg : Str → Option Value} {base : Heap} (T : Txt K mg)  {f : Addr} {cdv : Value} {B : Around} {outer : List Env} {s : Shared} {H : Hp} {E : XK} {F0 N0 : Hp} (hr : Room 0 (B.deeper (PyProof.Rows.envOfC "is_whole_number" (defScope s_is_whole_number) s.heap.objs.size f cdv))) :
    ∃ t, SimB ⟨F0, N0, K⟩ (ctx P w K mg base N_is_whole_number "is_whole_number" (defScope s_is_whole_number) f cdv B outer s H E) (defBody s_is_whole_number) t (p_is_whole_number) := by
  have nd := sc_is_whole_number.nd
  have hp : PassesOwn (model P w) (B.deeper (PyProof.Rows.envOfC "is_whole_number" (defScope s_is_whole_number) s.heap.objs.size f cdv)) (PyProof.Rows.envOfC "is_whole_number" (defScope s_is_whole_number) s.heap.objs.size f cdv) (ctx P w K mg base N_is_whole_number "is_whole_number" (defScope s_is_whole_number) f cdv B outer s H E).xe := PassesOwn.leaving
  exact ⟨_, (simB_one (sim_ret ((simD_and ((simD_isi ty_int T.n_isinstance T.n_int (simR_var 0))).r (simD_and ((simD_not ((simD_isi ty_bool T.n_isinstance T.n_bool (simR_var 0))).r)).r (simD_one (simD_chain (simR_var 1) (simR_var 0) (simR_var 2)))))).s))⟩
theorem c_is_whole_number {P : Program} {w : World} {K : PySem.W.Frag} {mg : Str → Option Value} {base : Heap} (T : Txt K mg)  {f : Addr} {fd : FuncData} (Fn : Fun K "is_whole_number" "is_whole_number" s_is_whole_number f fd) (hm : mg "is_whole_number" = some (.ref f)) : CallOk P w K mg base "is_whole_number" 1 ph_is_whole_number :=
  callOk (ps := ["thing", "least", "most"]) Fn hm sc_is_whole_number ln_is_whole_number (fun _ => p_is_whole_number) (fun _ _ _ _ _ _ A XQ hA hr hX => by obtain ⟨F0, N0, K0⟩ := A; cases hA; exact d_is_whole_number T   hr) pu_is_whole_number (fun _ _ _ _ _ _ us hl => match us, hl with | [_, _, _], _ => rfl)
abbrev s_need_settings : Stmt := top 17
theorem sc_need_settings : FnScope N_need_settings ["thing", "many"] (defScope s_need_settings) := ⟨rfl, rfl, rfl, by decide +kernel, rfl, by decide +kernel, by decide +kernel⟩
theorem d_need_settings {P : Program} {w : World} {K : PySem.W.Frag} {mg : Str → Option Value} {base : Heap} (T : Txt K mg) (C_is_whole_number : CallOk P w K mg base "is_whole_number" 1 ph_is_whole_number) {f : Addr} {cdv : Value} {B : Around} {outer : List Env} {s : Shared} {H : Hp} {E : XK} {F0 N0 : Hp} (XQ : XD → Prop) (hX : ∀ x cls d F H, Wld F0 N0 F H → RepX K F x cls d → XQ x → E cls d H) (hr : Room 1 (B.deeper (PyProof.Rows.envOfC "need_settings" (defScope s_need_settings) s.heap.objs.size f cdv))) :
    ∃ t, SimB ⟨F0, N0, K⟩ (ctx P w K mg base N_need_settings "need_settings" (defScope s_need_settings) f cdv B outer s H E) (defBody s_need_settings) t (p_need_settings XQ) := by
  have nd := sc_need_settings.nd
  have hp : PassesOwn (model P w) (B.deeper (PyProof.Rows.envOfC "need_settings" (defScope s_need_settings) s.heap.objs.size f cdv)) (PyProof.Rows.envOfC "need_settings" (defScope s_need_settings) s.heap.objs.size f cdv) (ctx P w K mg base N_need_settings "need_settings" (defScope s_need_settings) f cdv B outer s H E).xe := PassesOwn.leaving
  exact ⟨_, (simB_cons (sim_if (simT_w (simW_or (simT_not (simT_val ((simD_isi ty_list T.n_isinstance T.n_list (simR_var 0))).r)) (simW_or1 (simT_not (simT_val ((simD_fn B_all rfl T.n_all ((simS_lc (own := [("one", 2)]) rfl nd (blkOk_by (by kernel_rfl)) (simIc_list (simR_var 0)) (fun _ _ _ _ _ => (simG_N 2 nd)) (by decide) (fun _ _ _ _ _ => simC_nil) (fun _ _ _ _ _ => (((simX_call C_is_whole_number (hr.mono (by decide)) (simA_cons (simD_var 2) (simA_cons simD_int (simA_cons (simD_op O_sub hr.units ((simD_op O_shl hr.units (simD_int).r (simR_var 1))).r (simD_int).r) simA_nil)))).s xc0)).D))).r)).r))))) (simB_one (sim_raise 1 T.x_BadRows rfl (takes_of rfl rfl rfl rfl) hX)) simB_nil)
  (simB_one (sim_if (simT_cmp O_lt hr.units ((simD_lenset T.n_len T.n_set (simR_var 0))).r ((simD_fn B_len rfl T.n_len (simR_var 0))).r) (simB_one (sim_raise 1 T.x_BadRows rfl (takes_of rfl rfl rfl rfl) hX)) simB_nil)))⟩
theorem c_need_settings {P : Program} {w : World} {K : PySem.W.Frag} {mg : Str → Option Value} {base : Heap} (T : Txt K mg) (C_is_whole_number : CallOk P w K mg base "is_whole_number" 1 ph_is_whole_number) {f : Addr} {fd : FuncData} (Fn : Fun K "need_settings" "need_settings" s_need_settings f fd) (hm : mg "need_settings" = some (.ref f)) : CallOk P w K mg base "need_settings" 2 ph_need_settings :=
  callOk (ps := ["thing", "many"]) Fn hm sc_need_settings ln_need_settings (fun XQ => p_need_settings XQ) (fun _ _ _ _ _ _ A XQ hA hr hX => by obtain ⟨F0, N0, K0⟩ := A; cases hA; exact d_need_settings T C_is_whole_number XQ hX hr) pu_need_settings (fun _ _ _ _ _ _ us hl => match us, hl with | [_, _], _ => rfl)
abbrev s_Saying___init__ : Stmt := inClass (top 18) 0
theorem sc_Saying___init__ : FnScope N_Saying___init__ ["self", "many", "on", "free"] (defScope s_Saying___init__) := ⟨rfl, rfl, rfl, by decide +kernel, rfl, by decide +kernel, by decide +kernel⟩
theorem init_Saying {P : Program} {w : World} {K : PySem.W.Frag} {mg : Str → Option Value} {base : Heap} (T : Txt K mg) (C_is_whole_number : CallOk P w K mg base "is_whole_number" 1 ph_is_whole_number) (C_need_settings : CallOk P w K mg base "need_settings" 2 ph_need_settings) {f : Addr} {fd : FuncData}
    (Fn : FunD K "__init__" "Saying.__init__" (defArgs s_Saying___init__) (defBody s_Saying___init__) (defScope s_Saying___init__) [.non] [] f fd) : FnOk P w K mg base (L2.CX P w) 3 f fd ["self", "many", "on", "free"] (spMk K "Saying" ph_Saying) := by
  have nd := sc_Saying___init__.nd
  refine Fn.ok sc_Saying___init__ (fun vs H Q E h => ?_) fun cdv B outer s H vs Q E hr h => ?_
  · obtain ⟨p, dx, ws, F, ds, DQ, XQ, rfl, _, _, _, r, hφ, _⟩ := h
    have := ln_Saying ds DQ XQ hφ
    rw [List.length_cons, ← r.len, this]
    rfl
  · obtain ⟨p, dx, ws, F, ds, DQ, XQ, rfl, hp0, hF, e, r, hφ, kfin, hX⟩ := h
    have z : ∃ t, SimZ ⟨F, H, K⟩ (ctx P w K mg base N_Saying___init__ "Saying.__init__" (defScope s_Saying___init__) f cdv B outer s H E) (defBody s_Saying___init__) t { nx := fun _ H' => Q .non H', rt := Q } (p_Saying XQ (q_Saying p DQ)) :=
      ⟨_, simZ_cons (sim_if (simT_not (simT_val (((simX_call C_is_whole_number (hr.mono (by decide)) (simA_cons (simD_var 1) (simA_cons simD_int (simA_cons (simD_gint T.g_MOST_LAMPS) simA_nil)))).s xc0)).r)) (simB_one (sim_raise 0 T.x_BadCount rfl (takes_of rfl rfl rfl rfl) hX)) simB_nil)
  (simZ_cons (sim_expr ((simX_call C_need_settings (hr.mono (by decide)) (simA_cons (simD_var 2) (simA_cons (simD_var 1) simA_nil))).s (xcE hX)))
  (simZ_cons (sim_set 4 nd (simS_if (simT_cmp O_is hr.units (simR_var 3) (simD_non).r) (simS_lst simA_nil) ((simD_var 3)).s))
  (simZ_cons (simSt_fix 4 (sim_expr ((simX_call C_need_settings (hr.mono (by decide)) (simA_cons (simD_var 4) (simA_cons (simD_var 1) simA_nil))).s (xcE hX))))
  (simZ_cons (sim_if (simT_val ((simD_fn B_any rfl T.n_any ((simS_lc (own := [("one", 5)]) rfl nd (blkOk_by (by kernel_rfl)) (simIc_list (simR_var 4)) (fun _ _ _ _ _ => (simG_N 5 nd)) (by decide) (fun _ _ _ _ _ => simC_nil) (fun _ _ _ _ _ => (simD_cmp O_in hr.units (simR_var 5) (simR_var 2))))).r)).r) (simB_one (sim_raise 1 T.x_BadRows rfl (takes_of rfl rfl rfl rfl) hX)) simB_nil)
    ⟨pss_cons (ps_fld (simR_var (A := ⟨F, H, K⟩) 0).pe (simR_var (A := ⟨F, H, K⟩) 1).pe rfl) (pss_cons (ps_fld (simR_var (A := ⟨F, H, K⟩) 0).pe (simS_fn (A := ⟨F, H, K⟩) B_sorted rfl T.n_sorted (simR_var 2)).pe rfl) (pss_one (ps_fld (simR_var (A := ⟨F, H, K⟩) 0).pe (simS_fn (A := ⟨F, H, K⟩) B_sorted rfl T.n_sorted (simR_var 4)).pe rfl))),
      rdz_init3 (Qn := fun H' => Q .non H') (DQ := DQ) hp0 hF T.cls_Saying T.na_Saying_lamps T.na_Saying_lit T.na_Saying_either (by decide +kernel) (by decide +kernel) (by decide +kernel)
        (fun N' => (simS_fn (A := ⟨F, N', K⟩) (X := ctx P w K mg base N_Saying___init__ "Saying.__init__" (defScope s_Saying___init__) f cdv B outer s H E) (p0 := ⟨0, 0, 0, 0⟩) (pos := ⟨0, 0, 0, 0⟩) (e := .Name "on" ⟨0, 0, 0, 0⟩) B_sorted rfl T.n_sorted (simR_var 2)).rd) (fun N' => (simS_fn (A := ⟨F, N', K⟩) (X := ctx P w K mg base N_Saying___init__ "Saying.__init__" (defScope s_Saying___init__) f cdv B outer s H E) (p0 := ⟨0, 0, 0, 0⟩) (pos := ⟨0, 0, 0, 0⟩) (e := .Name "loose" ⟨0, 0, 0, 0⟩) B_sorted rfl T.n_sorted (simR_var 4)).rd) (fun _ _ z => z) kfin⟩))))⟩
    obtain ⟨t, z⟩ := z
    exact ⟨t, z.ps, z.rd F H _ _ (stok_start (.cons (.ptr p) r)) (Wld.refl e) (pu_Saying ds DQ XQ p hφ)⟩
theorem c_Saying {P : Program} {w : World} {K : PySem.W.Frag} {mg : Str → Option Value} {base : Heap} (T : Txt K mg) (C_is_whole_number : CallOk P w K mg base "is_whole_number" 1 ph_is_whole_number) (C_need_settings : CallOk P w K mg base "need_settings" 2 ph_need_settings) {f : Addr} {fd : FuncData}
    (Fn : FunD K "__init__" "Saying.__init__" (defArgs s_Saying___init__) (defBody s_Saying___init__) (defScope s_Saying___init__) [.non] [] f fd) (M : Mk K (clsA K "Saying") f) (hm : mg "Saying" = some (.ref (clsA K "Saying"))) : MkOk P w K mg base "Saying" 3 ph_Saying [] := by
  obtain ⟨ds, hv, hb⟩ := Fn.binds1 (ps := ["self", "many", "on", "free"]) 4 1 (by simp) rfl (fun Ta kV doc pm an cdv ct us its h1 h2 => match us, its, h1, h2 with | [_, _, _, _], [_], _, _ => ⟨_, rfl, rfl⟩)
  cases hv
  exact ⟨f, fd, _, init_Saying T C_is_whole_number C_need_settings Fn, M, hm, hb⟩
theorem c_Saying_d {P : Program} {w : World} {K : PySem.W.Frag} {mg : Str → Option Value} {base : Heap} (T : Txt K mg) (C_is_whole_number : CallOk P w K mg base "is_whole_number" 1 ph_is_whole_number) (C_need_settings : CallOk P w K mg base "need_settings" 2 ph_need_settings) {f : Addr} {fd : FuncData}
    (Fn : FunD K "__init__" "Saying.__init__" (defArgs s_Saying___init__) (defBody s_Saying___init__) (defScope s_Saying___init__) [.non] [] f fd) (M : Mk K (clsA K "Saying") f) (hm : mg "Saying" = some (.ref (clsA K "Saying"))) : MkOk P w K mg base "Saying" 3 ph_Saying [.none] := by
  obtain ⟨ds, hv, hb⟩ := Fn.binds1 (ps := ["self", "many", "on", "free"]) 3 0 (by simp) rfl (fun Ta kV doc pm an cdv ct us its h1 h2 => match us, its, h1, h2 with | [_, _, _], [_], _, _ => ⟨_, rfl, rfl⟩)
  cases hv with
  | cons r t =>
    cases t
    cases (show _ = Value.none from r)
    exact ⟨f, fd, _, init_Saying T C_is_whole_number C_need_settings Fn, M, hm, hb⟩

abbrev s_Saying_many : Stmt := inClass (top 18) 1
theorem sc_Saying_many : FnScope N_Saying_many ["self"] (defScope s_Saying_many) := ⟨rfl, rfl, rfl, by decide +kernel, rfl, by decide +kernel, by decide +kernel⟩
theorem d_Saying_many {P : Program} {w : World} {K : PySem.W.Frag} {mg : Str → Option Value} {base : Heap} (T : Txt K mg)  {f : Addr} {cdv : Value} {B : Around} {outer : List Env} {s : Shared} {H : Hp} {E : XK} {F0 N0 : Hp} (hr : Room 0 (B.deeper (PyProof.Rows.envOfC "Saying.many" (defScope s_Saying_many) s.heap.objs.size f cdv))) :
    ∃ t, SimB ⟨F0, N0, K⟩ (ctx P w K mg base N_Saying_many "Saying.many" (defScope s_Saying_many) f cdv B outer s H E) (defBody s_Saying_many) t (p_Saying_many) := by
  have nd := sc_Saying_many.nd
  have hp : PassesOwn (model P w) (B.deeper (PyProof.Rows.envOfC "Saying.many" (defScope s_Saying_many) s.heap.objs.size f cdv)) (PyProof.Rows.envOfC "Saying.many" (defScope s_Saying_many) s.heap.objs.size f cdv) (ctx P w K mg base N_Saying_many "Saying.many" (defScope s_Saying_many) f cdv B outer s H E).xe := PassesOwn.leaving
  exact ⟨_, (simB_one (sim_ret ((simD_fld "Saying" "lamps" (simR_var 0) T.cls_Saying T.na_Saying_lamps)).s))⟩
theorem c_Saying_many {P : Program} {w : World} {K : PySem.W.Frag} {mg : Str → Option Value} {base : Heap} (T : Txt K mg)  {f : Addr} {fd : FuncData} (Fn : Fun K "many" "Saying.many" s_Saying_many f fd) (hM : Meth K (clsA K "Saying") "many" f) : MethOk P w K mg base "Saying" "many" 1 ph_Saying_many :=
  methOk (ps := ["self"]) Fn T.cls_Saying hM sc_Saying_many ln_Saying_many (fun _ => p_Saying_many) (fun _ _ _ _ _ _ A XQ hA hr hX => by obtain ⟨F0, N0, K0⟩ := A; cases hA; exact d_Saying_many T   hr) pu_Saying_many (fun _ _ _ _ _ _ us hl => match us, hl with | [_], _ => rfl)
abbrev s_Saying_on : Stmt := inClass (top 18) 2
theorem sc_Saying_on : FnScope N_Saying_on ["self"] (defScope s_Saying_on) := ⟨rfl, rfl, rfl, by decide +kernel, rfl, by decide +kernel, by decide +kernel⟩
theorem d_Saying_on {P : Program} {w : World} {K : PySem.W.Frag} {mg : Str → Option Value} {base : Heap} (T : Txt K mg)  {f : Addr} {cdv : Value} {B : Around} {outer : List Env} {s : Shared} {H : Hp} {E : XK} {F0 N0 : Hp} (hr : Room 0 (B.deeper (PyProof.Rows.envOfC "Saying.on" (defScope s_Saying_on) s.heap.objs.size f cdv))) :
    ∃ t, SimB ⟨F0, N0, K⟩ (ctx P w K mg base N_Saying_on "Saying.on" (defScope s_Saying_on) f cdv B outer s H E) (defBody s_Saying_on) t (p_Saying_on) := by
  have nd := sc_Saying_on.nd
  have hp : PassesOwn (model P w) (B.deeper (PyProof.Rows.envOfC "Saying.on" (defScope s_Saying_on) s.heap.objs.size f cdv)) (PyProof.Rows.envOfC "Saying.on" (defScope s_Saying_on) s.heap.objs.size f cdv) (ctx P w K mg base N_Saying_on "Saying.on" (defScope s_Saying_on) f cdv B outer s H E).xe := PassesOwn.leaving
  exact ⟨_, (simB_one (sim_ret (simS_ty B_list rfl T.n_list ((simD_fld "Saying" "lit" (simR_var 0) T.cls_Saying T.na_Saying_lit)).r)))⟩
theorem c_Saying_on {P : Program} {w : World} {K : PySem.W.Frag} {mg : Str → Option Value} {base : Heap} (T : Txt K mg)  {f : Addr} {fd : FuncData} (Fn : Fun K "on" "Saying.on" s_Saying_on f fd) (hM : Meth K (clsA K "Saying") "on" f) : MethOk P w K mg base "Saying" "on" 1 ph_Saying_on :=
  methOk (ps := ["self"]) Fn T.cls_Saying hM sc_Saying_on ln_Saying_on (fun _ => p_Saying_on) (fun _ _ _ _ _ _ A XQ hA hr hX => by obtain ⟨F0, N0, K0⟩ := A; cases hA; exact d_Saying_on T   hr) pu_Saying_on (fun _ _ _ _ _ _ us hl => match us, hl with | [_], _ => rfl)
abbrev s_Saying_free : Stmt := inClass (top 18) 3
theorem sc_Saying_free : FnScope N_Saying_free ["self"] (defScope s_Saying_free) := ⟨rfl, rfl, rfl, by decide +kernel, rfl, by decide +kernel, by decide +kernel⟩
theorem d_Saying_free {P : Program} {w : World} {K : PySem.W.Frag} {mg : Str → Option Value} {base : Heap} (T : Txt K mg)  {f : Addr} {cdv : Value} {B : Around} {outer : List Env} {s : Shared} {H : Hp} {E : XK} {F0 N0 : Hp} (hr : Room 0 (B.deeper (PyProof.Rows.envOfC "Saying.free" (defScope s_Saying_free) s.heap.objs.size f cdv))) :
    ∃ t, SimB ⟨F0, N0, K⟩ (ctx P w K mg base N_Saying_free "Saying.free" (defScope s_Saying_free) f cdv B outer s H E) (defBody s_Saying_free) t (p_Saying_free) := by
  have nd := sc_Saying_free.nd
  have hp : PassesOwn (model P w) (B.deeper (PyProof.Rows.envOfC "Saying.free" (defScope s_Saying_free) s.heap.objs.size f cdv)) (PyProof.Rows.envOfC "Saying.free" (defScope s_Saying_free) s.heap.objs.size f cdv) (ctx P w K mg base N_Saying_free "Saying.free" (defScope s_Saying_free) f cdv B outer s H E).xe := PassesOwn.leaving
  exact ⟨_, (simB_one (sim_ret (simS_ty B_list rfl T.n_list ((simD_fld "Saying" "either" (simR_var 0) T.cls_Saying T.na_Saying_either)).r)))⟩
theorem c_Saying_free {P : Program} {w : World} {K : PySem.W.Frag} {mg : Str → Option Value} {base : Heap} (T : Txt K mg)  {f : Addr} {fd : FuncData} (Fn : Fun K "free" "Saying.free" s_Saying_free f fd) (hM : Meth K (clsA K "Saying") "free" f) : MethOk P w K mg base "Saying" "free" 1 ph_Saying_free :=
  methOk (ps := ["self"]) Fn T.cls_Saying hM sc_Saying_free ln_Saying_free (fun _ => p_Saying_free) (fun _ _ _ _ _ _ A XQ hA hr hX => by obtain ⟨F0, N0, K0⟩ := A; cases hA; exact d_Saying_free T   hr) pu_Saying_free (fun _ _ _ _ _ _ us hl => match us, hl with | [_], _ => rfl)
abbrev s_Saying_off : Stmt := inClass (top 18) 4
theorem sc_Saying_off : FnScope N_Saying_off ["self"] (defScope s_Saying_off) := ⟨rfl, rfl, rfl, by decide +kernel, rfl, by decide +kernel, by decide +kernel⟩
theorem d_Saying_off {P : Program} {w : World} {K : PySem.W.Frag} {mg : Str → Option Value} {base : Heap} (T : Txt K mg)  {f : Addr} {cdv : Value} {B : Around} {outer : List Env} {s : Shared} {H : Hp} {E : XK} {F0 N0 : Hp} (hr : Room 0 (B.deeper (PyProof.Rows.envOfC "Saying.off" (defScope s_Saying_off) s.heap.objs.size f cdv))) :
    ∃ t, SimB ⟨F0, N0, K⟩ (ctx P w K mg base N_Saying_off "Saying.off" (defScope s_Saying_off) f cdv B outer s H E) (defBody s_Saying_off) t (p_Saying_off) := by
  have nd := sc_Saying_off.nd
  have hp : PassesOwn (model P w) (B.deeper (PyProof.Rows.envOfC "Saying.off" (defScope s_Saying_off) s.heap.objs.size f cdv)) (PyProof.Rows.envOfC "Saying.off" (defScope s_Saying_off) s.heap.objs.size f cdv) (ctx P w K mg base N_Saying_off "Saying.off" (defScope s_Saying_off) f cdv B outer s H E).xe := PassesOwn.leaving
  exact ⟨_, (simB_one (sim_ret (simS_lc (own := [("one", 1)]) rfl nd (blkOk_by (by kernel_rfl)) (simIc_rng1 ((simD_op O_shl hr.units (simD_int).r ((simD_fld "Saying" "lamps" (simR_var 0) T.cls_Saying T.na_Saying_lamps)).r)).r T.n_range) (fun _ _ _ _ _ => (simG_N 1 nd)) (by decide) (fun _ _ _ _ _ => (simC_one (simT_w (simW_and (simT_cmp O_notin hr.units (simR_var 1) ((simD_fld "Saying" "lit" (simR_var 0) T.cls_Saying T.na_Saying_lit)).r) (simW_and1 (simT_cmp O_notin hr.units (simR_var 1) ((simD_fld "Saying" "either" (simR_var 0) T.cls_Saying T.na_Saying_either)).r)))))) (fun _ _ _ _ _ => (simD_var 1)))))⟩
theorem c_Saying_off {P : Program} {w : World} {K : PySem.W.Frag} {mg : Str → Option Value} {base : Heap} (T : Txt K mg)  {f : Addr} {fd : FuncData} (Fn : Fun K "off" "Saying.off" s_Saying_off f fd) (hM : Meth K (clsA K "Saying") "off" f) : MethOk P w K mg base "Saying" "off" 1 ph_Saying_off :=
  methOk (ps := ["self"]) Fn T.cls_Saying hM sc_Saying_off ln_Saying_off (fun _ => p_Saying_off) (fun _ _ _ _ _ _ A XQ hA hr hX => by obtain ⟨F0, N0, K0⟩ := A; cases hA; exact d_Saying_off T   hr) pu_Saying_off (fun _ _ _ _ _ _ us hl => match us, hl with | [_], _ => rfl)
abbrev s_note_of : Stmt := top 22
theorem sc_note_of : FnScope N_note_of ["saying"] (defScope s_note_of) := ⟨rfl, rfl, rfl, by decide +kernel, rfl, by decide +kernel, by decide +kernel⟩
theorem d_note_of {P : Program} {w : World} {K : PySem.W.Frag} {mg : Str → Option Value} {base : Heap} (T : Txt K mg) (C_Saying_free : MethOk P w K mg base "Saying" "free" 1 ph_Saying_free) (C_Saying_many : MethOk P w K mg base "Saying" "many" 1 ph_Saying_many) (C_Saying_off : MethOk P w K mg base "Saying" "off" 1 ph_Saying_off) (C_Saying_on : MethOk P w K mg base "Saying" "on" 1 ph_Saying_on) (C_sign_of : CallOk P w K mg base "sign_of" 1 ph_sign_of) {f : Addr} {cdv : Value} {B : Around} {outer : List Env} {s : Shared} {H : Hp} {E : XK} {F0 N0 : Hp} (hr : Room 1 (B.deeper (PyProof.Rows.envOfC "note_of" (defScope s_note_of) s.heap.objs.size f cdv))) :
    ∃ t, SimB ⟨F0, N0, K⟩ (ctx P w K mg base N_note_of "note_of" (defScope s_note_of) f cdv B outer s H E) (defBody s_note_of) t (p_note_of) := by
  have nd := sc_note_of.nd
  have hp : PassesOwn (model P w) (B.deeper (PyProof.Rows.envOfC "note_of" (defScope s_note_of) s.heap.objs.size f cdv)) (PyProof.Rows.envOfC "note_of" (defScope s_note_of) s.heap.objs.size f cdv) (ctx P w K mg base N_note_of "note_of" (defScope s_note_of) f cdv B outer s H E).xe := PassesOwn.leaving
  exact ⟨_, (simB_cons (sim_set 1 nd (simS_lst (simA_cons (simD_op O_add hr.units ((simD_op O_add hr.units ((simD_gstr [108, 97, 109, 112, 115] T.g_FIRST)).r ((simD_str [32])).r)).r ((simD_ty B_str rfl T.n_str (((simX_meth0 C_Saying_many (hr.mono (by decide)) (simD_var 0)).s xc0)).r)).r) simA_nil)))
  (simB_cons (sim_set 2 nd ((simD_cmp O_le hr.units ((simD_op O_mul hr.units (simD_int).r ((simD_fn B_len rfl T.n_len (((simX_meth0 C_Saying_off (hr.mono (by decide)) (simD_var 0)).s xc0)).r)).r)).r ((simD_op O_shl hr.units (simD_int).r (((simX_meth0 C_Saying_many (hr.mono (by decide)) (simD_var 0)).s xc0)).r)).r)).s)
  (simB_cons (sim_for hp rfl (simIf_rng1 ((simD_op O_shl hr.units (simD_int).r (((simX_meth0 C_Saying_many (hr.mono (by decide)) (simD_var 0)).s xc0)).r)).r T.n_range) (simG_N 3 nd) (simB_cons (sim_set 4 nd ((simD_if (simT_cmp O_in hr.units (simR_var 3) (((simX_meth0 C_Saying_on (hr.mono (by decide)) (simD_var 0)).s xc0)).r) (simD_str [111, 110]) (simD_if (simT_cmp O_in hr.units (simR_var 3) (((simX_meth0 C_Saying_free (hr.mono (by decide)) (simD_var 0)).s xc0)).r) (simD_str [102, 114, 101, 101]) (simD_str [111, 102, 102])))).s)
  (simB_one (sim_if (simT_w (simW_or (simT_cmp O_ne hr.units (simR_var 4) ((simD_str [111, 102, 102])).r) (simW_or1 (simT_val (simR_var 2))))) (simB_one (sim_app 1 (simD_op O_add hr.units ((simD_op O_add hr.units ((simD_join ((simD_str [])).r ((simS_lc (own := [("lamp", 5)]) rfl nd (blkOk_by (by kernel_rfl)) (simIc_rng1 (((simX_meth0 C_Saying_many (hr.mono (by decide)) (simD_var 0)).s xc0)).r T.n_range) (fun _ _ _ _ _ => (simG_N 5 nd)) (by decide) (fun _ _ _ _ _ => simC_nil) (fun _ _ _ _ _ => (((simX_call C_sign_of (hr.mono (by decide)) (simA_cons (simD_var 3) (simA_cons (simD_var 5) simA_nil))).s xc0)).D))).r)).r ((simD_str [32])).r)).r (simR_var 4)))) simB_nil))))
  (simB_one (sim_ret ((simD_join ((simD_str [10])).r (simR_var 1))).s)))))⟩
theorem c_note_of {P : Program} {w : World} {K : PySem.W.Frag} {mg : Str → Option Value} {base : Heap} (T : Txt K mg) (C_Saying_free : MethOk P w K mg base "Saying" "free" 1 ph_Saying_free) (C_Saying_many : MethOk P w K mg base "Saying" "many" 1 ph_Saying_many) (C_Saying_off : MethOk P w K mg base "Saying" "off" 1 ph_Saying_off) (C_Saying_on : MethOk P w K mg base "Saying" "on" 1 ph_Saying_on) (C_sign_of : CallOk P w K mg base "sign_of" 1 ph_sign_of) {f : Addr} {fd : FuncData} (Fn : Fun K "note_of" "note_of" s_note_of f fd) (hm : mg "note_of" = some (.ref f)) : CallOk P w K mg base "note_of" 2 ph_note_of :=
  callOk (ps := ["saying"]) Fn hm sc_note_of ln_note_of (fun _ => p_note_of) (fun _ _ _ _ _ _ A XQ hA hr hX => by obtain ⟨F0, N0, K0⟩ := A; cases hA; exact d_note_of T C_Saying_free C_Saying_many C_Saying_off C_Saying_on C_sign_of  hr) pu_note_of (fun _ _ _ _ _ _ us hl => match us, hl with | [_], _ => rfl)
abbrev s_lamps_in : Stmt := top 23
theorem sc_lamps_in : FnScope N_lamps_in ["row"] (defScope s_lamps_in) := ⟨rfl, rfl, rfl, by decide +kernel, rfl, by decide +kernel, by decide +kernel⟩
theorem d_lamps_in {P : Program} {w : World} {K : PySem.W.Frag} {mg : Str → Option Value} {base : Heap} (T : Txt K mg)  {f : Addr} {cdv : Value} {B : Around} {outer : List Env} {s : Shared} {H : Hp} {E : XK} {F0 N0 : Hp} (hr : Room 0 (B.deeper (PyProof.Rows.envOfC "lamps_in" (defScope s_lamps_in) s.heap.objs.size f cdv))) :
    ∃ t, SimB ⟨F0, N0, K⟩ (ctx P w K mg base N_lamps_in "lamps_in" (defScope s_lamps_in) f cdv B outer s H E) (defBody s_lamps_in) t (p_lamps_in) := by
  have nd := sc_lamps_in.nd
  have hp : PassesOwn (model P w) (B.deeper (PyProof.Rows.envOfC "lamps_in" (defScope s_lamps_in) s.heap.objs.size f cdv)) (PyProof.Rows.envOfC "lamps_in" (defScope s_lamps_in) s.heap.objs.size f cdv) (ctx P w K mg base N_lamps_in "lamps_in" (defScope s_lamps_in) f cdv B outer s H E).xe := PassesOwn.leaving
  exact ⟨_, (simB_cons (sim_for hp rfl (simIf_rng2 (simD_int).r ((simD_op O_add hr.units ((simD_gint T.g_MOST_LAMPS)).r (simD_int).r)).r T.n_range) (simG_N 1 nd) (simB_one (sim_if (simT_cmp O_eq hr.units (simR_var 0) ((simD_op O_add hr.units ((simD_op O_add hr.units ((simD_gstr [108, 97, 109, 112, 115] T.g_FIRST)).r ((simD_str [32])).r)).r ((simD_ty B_str rfl T.n_str (simR_var 1))).r)).r) (simB_one (sim_ret ((simD_var 1)).s)) simB_nil)))
  (simB_one (sim_ret (simD_int).s)))⟩
theorem c_lamps_in {P : Program} {w : World} {K : PySem.W.Frag} {mg : Str → Option Value} {base : Heap} (T : Txt K mg)  {f : Addr} {fd : FuncData} (Fn : Fun K "lamps_in" "lamps_in" s_lamps_in f fd) (hm : mg "lamps_in" = some (.ref f)) : CallOk P w K mg base "lamps_in" 1 ph_lamps_in :=
  callOk (ps := ["row"]) Fn hm sc_lamps_in ln_lamps_in (fun _ => p_lamps_in) (fun _ _ _ _ _ _ A XQ hA hr hX => by obtain ⟨F0, N0, K0⟩ := A; cases hA; exact d_lamps_in T   hr) pu_lamps_in (fun _ _ _ _ _ _ us hl => match us, hl with | [_], _ => rfl)
abbrev s_setting_in : Stmt := top 24
theorem sc_setting_in : FnScope N_setting_in ["row", "many"] (defScope s_setting_in) := ⟨rfl, rfl, rfl, by decide +kernel, rfl, by decide +kernel, by decide +kernel⟩
theorem d_setting_in {P : Program} {w : World} {K : PySem.W.Frag} {mg : Str → Option Value} {base : Heap} (T : Txt K mg) (C_is_term : CallOk P w K mg base "is_term" 1 ph_is_term) (C_settings_of : CallOk P w K mg base "settings_of" 3 ph_settings_of) {f : Addr} {cdv : Value} {B : Around} {outer : List Env} {s : Shared} {H : Hp} {E : XK} {F0 N0 : Hp} (hr : Room 3 (B.deeper (PyProof.Rows.envOfC "setting_in" (defScope s_setting_in) s.heap.objs.size f cdv))) :
    ∃ t, SimB ⟨F0, N0, K⟩ (ctx P w K mg base N_setting_in "setting_in" (defScope s_setting_in) f cdv B outer s H E) (defBody s_setting_in) t (p_setting_in) := by
  have nd := sc_setting_in.nd
  have hp : PassesOwn (model P w) (B.deeper (PyProof.Rows.envOfC "setting_in" (defScope s_setting_in) s.heap.objs.size f cdv)) (PyProof.Rows.envOfC "setting_in" (defScope s_setting_in) s.heap.objs.size f cdv) (ctx P w K mg base N_setting_in "setting_in" (defScope s_setting_in) f cdv B outer s H E).xe := PassesOwn.leaving
  exact ⟨_, (simB_cons (sim_set 2 nd (((simS_split 32 (simR_var 0))).D).s)
  (simB_cons (sim_if (simT_w (simW_or (simT_cmp O_ne hr.units ((simD_fn B_len rfl T.n_len (simR_var 2))).r (simD_int).r) (simW_or (simT_cmp O_notin hr.units ((simD_at (simR_var 2) (simD_int).r)).r ((simD_gtup T.g_WORDS)).r) (simW_or (simT_not (simT_val (((simX_call C_is_term (hr.mono (by decide)) (simA_cons (simD_at (simR_var 2) (simD_int).r) (simA_cons (simD_var 1) simA_nil))).s xc0)).r)) (simW_or1 (simT_cmp O_in hr.units ((simD_str [45])).r ((simD_at (simR_var 2) (simD_int).r)).r)))))) (simB_one (sim_ret (simD_non).s)) simB_nil)
  (simB_one (sim_ret ((simD_tup (simA_cons (simD_at (((simX_call C_settings_of (hr.mono (by decide)) (simA_cons (simD_at (simR_var 2) (simD_int).r) simA_nil)).s xc0)).r (simD_int).r) (simA_cons (simD_at (simR_var 2) (simD_int).r) simA_nil)))).s))))⟩
theorem c_setting_in {P : Program} {w : World} {K : PySem.W.Frag} {mg : Str → Option Value} {base : Heap} (T : Txt K mg) (C_is_term : CallOk P w K mg base "is_term" 1 ph_is_term) (C_settings_of : CallOk P w K mg base "settings_of" 3 ph_settings_of) {f : Addr} {fd : FuncData} (Fn : Fun K "setting_in" "setting_in" s_setting_in f fd) (hm : mg "setting_in" = some (.ref f)) : CallOk P w K mg base "setting_in" 4 ph_setting_in :=
  callOk (ps := ["row", "many"]) Fn hm sc_setting_in ln_setting_in (fun _ => p_setting_in) (fun _ _ _ _ _ _ A XQ hA hr hX => by obtain ⟨F0, N0, K0⟩ := A; cases hA; exact d_setting_in T C_is_term C_settings_of  hr) pu_setting_in (fun _ _ _ _ _ _ us hl => match us, hl with | [_, _], _ => rfl)
abbrev s_saying_of : Stmt := top 25
theorem sc_saying_of : FnScope N_saying_of ["text"] (defScope s_saying_of) := ⟨rfl, rfl, rfl, by decide +kernel, rfl, by decide +kernel, by decide +kernel⟩
theorem d_saying_of {P : Program} {w : World} {K : PySem.W.Frag} {mg : Str → Option Value} {base : Heap} (T : Txt K mg) (C_BadNote : NoteOk P w K mg base "BadNote" 1) (C_Saying : MkOk P w K mg base "Saying" 3 ph_Saying []) (C_lamps_in : CallOk P w K mg base "lamps_in" 1 ph_lamps_in) (C_setting_in : CallOk P w K mg base "setting_in" 4 ph_setting_in) {f : Addr} {cdv : Value} {B : Around} {outer : List Env} {s : Shared} {H : Hp} {E : XK} {F0 N0 : Hp} (XQ : XD → Prop) (hX : ∀ x cls d F H, Wld F0 N0 F H → RepX K F x cls d → XQ x → E cls d H) (hr : Room 4 (B.deeper (PyProof.Rows.envOfC "saying_of" (defScope s_saying_of) s.heap.objs.size f cdv))) :
    ∃ t, SimB ⟨F0, N0, K⟩ (ctx P w K mg base N_saying_of "saying_of" (defScope s_saying_of) f cdv B outer s H E) (defBody s_saying_of) t (p_saying_of XQ) := by
  have nd := sc_saying_of.nd
  have hp : PassesOwn (model P w) (B.deeper (PyProof.Rows.envOfC "saying_of" (defScope s_saying_of) s.heap.objs.size f cdv)) (PyProof.Rows.envOfC "saying_of" (defScope s_saying_of) s.heap.objs.size f cdv) (ctx P w K mg base N_saying_of "saying_of" (defScope s_saying_of) f cdv B outer s H E).xe := PassesOwn.leaving
  exact ⟨_, (simB_cons (sim_set 1 nd (((simS_if (simT_val ((simD_isi ty_str T.n_isinstance T.n_str (simR_var 0))).r) (simS_split 10 (simR_var 0)) (simS_lst (simA_cons (simD_str []) simA_nil)))).D).s)
  (simB_cons (sim_set 2 nd ((((simX_call C_lamps_in (hr.mono (by decide)) (simA_cons (simD_at (simR_var 1) (simD_int).r) simA_nil)).s xc0)).D).s)
  (simB_cons (sim_if (simT_cmp O_eq hr.units (simR_var 2) (simD_int).r) (simB_one (sim_raiseN 4 C_BadNote (hr.mono (by decide)) simD_int rfl (takes_of rfl rfl rfl rfl) hX)) simB_nil)
  (simB_cons (sim_set 3 nd simS_dict0)
  (simB_cons (sim_for hp rfl (simIf_enum ((simS_cut (simR_var 1) (simO_some (simD_int).r) simO_none)).D T.n_enumerate) (simG_2 4 5 nd rfl (simG_N 4 nd) (simG_N 5 nd)) (simB_cons (sim_set 6 nd ((((simX_call C_setting_in (hr.mono (by decide)) (simA_cons (simD_var 5) (simA_cons (simD_var 2) simA_nil))).s xc0)).D).s)
  (simB_cons (sim_if (simT_w (simW_or (simT_cmp O_is hr.units (simR_var 6) (simD_non).r) (simW_or1 (simT_inK (u1 hr.units) ((simD_at (simR_var 6) (simD_int).r)).r (simR_var 3))))) (simB_one (sim_raiseN 4 C_BadNote (hr.mono (by decide)) (simD_op O_add hr.units (simR_var 4) (simD_int).r) rfl (takes_of rfl rfl rfl rfl) hX)) simB_nil)
  (simB_one (simSt_putK 3 (u1 hr.units) ((simD_at (simR_var 6) (simD_int).r)).r (simD_at (simR_var 6) (simD_int).r))))))
  (simB_cons (sim_setKeysEq 7 3 8 [111, 110] rfl nd (blkOk_by (by kernel_rfl)) hr.units (sw_true rfl rfl rfl (by kernel_rfl)) (hg := fun _ _ _ _ _ => (simG_N (A := ⟨F0, N0, K⟩) 8 nd).pg) (ht := fun _ _ _ _ _ => pts_one (pt_cmpR (O_eq.op _ hr.units) (pe_dget (u1 hr.units) (simR_var (A := ⟨F0, N0, K⟩) 3).pe (simR_var (A := ⟨F0, N0, K⟩) 8).pe (by intro _ _; rfl)) pe_str rfl)) (he := fun _ _ _ _ _ => (simR_var (A := ⟨F0, N0, K⟩) 8).pe))
  (simB_one (simSt_fix 7 (sim_ret ((simX_make C_Saying (hr.mono (by decide)) .nil (fun _ => .nil) (simA_cons (simD_var 2) (simA_cons (simD_var 7) (simA_cons ((simS_keysEq 3 8 [102, 114, 101, 101] rfl nd (blkOk_by (by kernel_rfl)) hr.units (hg := fun _ _ _ _ _ => (simG_N (A := ⟨F0, N0, K⟩) 8 nd).pg) (ht := fun _ _ _ _ _ => pts_one (pt_cmpR (O_eq.op _ hr.units) (pe_dget (u1 hr.units) (simR_var (A := ⟨F0, N0, K⟩) 3).pe (simR_var (A := ⟨F0, N0, K⟩) 8).pe (by intro _ _; rfl)) pe_str rfl)) (he := fun _ _ _ _ _ => (simR_var (A := ⟨F0, N0, K⟩) 8).pe))).D simA_nil)))).s (xcE hX)))))))))))⟩
theorem c_saying_of {P : Program} {w : World} {K : PySem.W.Frag} {mg : Str → Option Value} {base : Heap} (T : Txt K mg) (C_BadNote : NoteOk P w K mg base "BadNote" 1) (C_Saying : MkOk P w K mg base "Saying" 3 ph_Saying []) (C_lamps_in : CallOk P w K mg base "lamps_in" 1 ph_lamps_in) (C_setting_in : CallOk P w K mg base "setting_in" 4 ph_setting_in) {f : Addr} {fd : FuncData} (Fn : Fun K "saying_of" "saying_of" s_saying_of f fd) (hm : mg "saying_of" = some (.ref f)) : CallOk P w K mg base "saying_of" 5 ph_saying_of :=
  callOk (ps := ["text"]) Fn hm sc_saying_of ln_saying_of (fun XQ => p_saying_of XQ) (fun _ _ _ _ _ _ A XQ hA hr hX => by obtain ⟨F0, N0, K0⟩ := A; cases hA; exact d_saying_of T C_BadNote C_Saying C_lamps_in C_setting_in XQ hX hr) pu_saying_of (fun _ _ _ _ _ _ us hl => match us, hl with | [_], _ => rfl)
abbrev s_law_spread : Stmt := top 28
theorem sc_law_spread : FnScope N_law_spread ["_law_cell", "_law_k"] (defScope s_law_spread) := ⟨rfl, rfl, rfl, by decide +kernel, rfl, by decide +kernel, by decide +kernel⟩
theorem d_law_spread {P : Program} {w : World} {K : PySem.W.Frag} {mg : Str → Option Value} {base : Heap} (T : Txt K mg)  {f : Addr} {cdv : Value} {B : Around} {outer : List Env} {s : Shared} {H : Hp} {E : XK} {F0 N0 : Hp} (hr : Room 0 (B.deeper (PyProof.Rows.envOfC "_law_spread" (defScope s_law_spread) s.heap.objs.size f cdv))) :
    ∃ t, SimB ⟨F0, N0, K⟩ (ctx P w K mg base N_law_spread "_law_spread" (defScope s_law_spread) f cdv B outer s H E) (defBody s_law_spread) t (p_law_spread) := by
  have nd := sc_law_spread.nd
  have hp : PassesOwn (model P w) (B.deeper (PyProof.Rows.envOfC "_law_spread" (defScope s_law_spread) s.heap.objs.size f cdv)) (PyProof.Rows.envOfC "_law_spread" (defScope s_law_spread) s.heap.objs.size f cdv) (ctx P w K mg base N_law_spread "_law_spread" (defScope s_law_spread) f cdv B outer s H E).xe := PassesOwn.leaving
  exact ⟨_, (simB_one (sim_ret ((simD_op O_mod hr.units ((simD_op O_mul hr.units ((simD_op O_add hr.units (simR_var 0) (simD_int).r)).r ((simD_op O_add hr.units ((simD_op O_add hr.units (simD_int).r ((simD_op O_mul hr.units ((simD_op O_mul hr.units (simD_int).r (simR_var 1))).r (simR_var 1))).r)).r (simR_var 1))).r)).r (simD_int).r)).s))⟩
theorem c_law_spread {P : Program} {w : World} {K : PySem.W.Frag} {mg : Str → Option Value} {base : Heap} (T : Txt K mg)  {f : Addr} {fd : FuncData} (Fn : Fun K "_law_spread" "_law_spread" s_law_spread f fd) (hm : mg "_law_spread" = some (.ref f)) : CallOk P w K mg base "_law_spread" 1 ph_law_spread :=
  callOk (ps := ["_law_cell", "_law_k"]) Fn hm sc_law_spread ln_law_spread (fun _ => p_law_spread) (fun _ _ _ _ _ _ A XQ hA hr hX => by obtain ⟨F0, N0, K0⟩ := A; cases hA; exact d_law_spread T   hr) pu_law_spread (fun _ _ _ _ _ _ us hl => match us, hl with | [_, _], _ => rfl)
abbrev s_law_rows : Stmt := top 29
theorem sc_law_rows : FnScope N_law_rows ["_law_cell", "_law_k", "_law_most"] (defScope s_law_rows) := ⟨rfl, rfl, rfl, by decide +kernel, rfl, by decide +kernel, by decide +kernel⟩
theorem d_law_rows {P : Program} {w : World} {K : PySem.W.Frag} {mg : Str → Option Value} {base : Heap} (T : Txt K mg) (C_law_spread : CallOk P w K mg base "_law_spread" 1 ph_law_spread) {f : Addr} {cdv : Value} {B : Around} {outer : List Env} {s : Shared} {H : Hp} {E : XK} {F0 N0 : Hp} (hr : Room 1 (B.deeper (PyProof.Rows.envOfC "_law_rows" (defScope s_law_rows) s.heap.objs.size f cdv))) :
    ∃ t, SimB ⟨F0, N0, K⟩ (ctx P w K mg base N_law_rows "_law_rows" (defScope s_law_rows) f cdv B outer s H E) (defBody s_law_rows) t (p_law_rows) := by
  have nd := sc_law_rows.nd
  have hp : PassesOwn (model P w) (B.deeper (PyProof.Rows.envOfC "_law_rows" (defScope s_law_rows) s.heap.objs.size f cdv)) (PyProof.Rows.envOfC "_law_rows" (defScope s_law_rows) s.heap.objs.size f cdv) (ctx P w K mg base N_law_rows "_law_rows" (defScope s_law_rows) f cdv B outer s H E).xe := PassesOwn.leaving
  exact ⟨_, (simB_cons (sim_set 3 nd ((((simX_call C_law_spread (hr.mono (by decide)) (simA_cons (((simX_call C_law_spread (hr.mono (by decide)) (simA_cons (simD_var 0) (simA_cons (simD_var 1) simA_nil))).s xc0)).D (simA_cons simD_int simA_nil))).s xc0)).D).s)
  (simB_cons (sim_set 4 nd ((simD_if (simT_cmp O_eq hr.units ((simD_op O_mod hr.units (simR_var 0) (simD_int).r)).r (simD_int).r) (simD_op O_div hr.units (simR_var 0) (simD_int).r) (simD_var 3))).s)
  (simB_cons (sim_set 5 nd ((simD_op O_add hr.units (simD_int).r ((simD_op O_mod hr.units (simR_var 4) (simR_var 2))).r)).s)
  (simB_cons (sim_set 4 nd ((simD_op O_div hr.units (simR_var 4) (simR_var 2))).s)
  (simB_cons (sim_set 6 nd (simS_lst simA_nil))
  (simB_cons (sim_set 7 nd (simS_lst simA_nil))
  (simB_cons (sim_for hp rfl (simIf_rng1 ((simD_op O_shl hr.units (simD_int).r (simR_var 5))).r T.n_range) (simG_N 8 nd) (simB_cons (sim_set 9 nd ((simD_op O_mod hr.units (((simX_call C_law_spread (hr.mono (by decide)) (simA_cons (simD_op O_add hr.units (simR_var 3) ((simD_op O_mul hr.units (simD_int).r (simR_var 8))).r) (simA_cons (simD_var 8) simA_nil))).s xc0)).r (simD_int).r)).s)
  (simB_cons (sim_set 10 nd ((simD_op O_mod hr.units ((simD_fn B_sum rfl T.n_sum ((simS_lc (own := [("_law_lamp", 11)]) rfl nd (blkOk_by (by kernel_rfl)) (simIc_rng1 (simR_var 5) T.n_range) (fun _ _ _ _ _ => (simG_N 11 nd)) (by decide) (fun _ _ _ _ _ => simC_nil) (fun _ _ _ _ _ => (simD_op O_and hr.units ((simD_op O_shr hr.units (simR_var 8) (simR_var 11))).r (simD_int).r)))).r)).r (simD_int).r)).s)
  (simB_cons (sim_asg (simD_at ((simS_lst (simA_cons (simD_tup (simA_cons simD_int (simA_cons simD_int simA_nil))) (simA_cons (simD_tup (simA_cons simD_int (simA_cons simD_int simA_nil))) (simA_cons (simD_tup (simA_cons simD_int (simA_cons simD_int simA_nil))) (simA_cons (simD_tup (simA_cons (simD_op O_mul hr.units (simD_int).r (simR_var 10)) (simA_cons (simD_op O_mul hr.units (simD_int).r (simR_var 10)) simA_nil))) simA_nil)))))).r ((simD_op O_mod hr.units ((simD_op O_div hr.units (simR_var 3) (simD_int).r)).r (simD_int).r)).r) (simG_2 12 13 nd rfl (simG_N 12 nd) (simG_N 13 nd)))
  (simB_cons (sim_set 14 nd ((simD_op O_add hr.units ((simD_ty B_int rfl T.n_int ((simD_cmp O_ge hr.units (simR_var 9) (simR_var 12))).r)).r ((simD_ty B_int rfl T.n_int ((simD_cmp O_ge hr.units (simR_var 9) (simR_var 13))).r)).r)).s)
  (simB_cons (sim_if (simT_cmp O_eq hr.units ((simD_op O_mod hr.units (simR_var 0) (simD_int).r)).r (simD_int).r) (simB_cons (sim_set 14 nd ((simD_op O_mod hr.units (simR_var 4) (simD_int).r)).s)
  (simB_one (sim_set 4 nd ((simD_op O_div hr.units (simR_var 4) (simD_int).r)).s))) simB_nil)
  (simB_one (sim_if (simT_cmp O_eq hr.units (simR_var 14) (simD_int).r) (simB_one (sim_app 6 (simD_var 8))) (simB_one (sim_if (simT_cmp O_eq hr.units (simR_var 14) (simD_int).r) (simB_one (sim_app 7 (simD_var 8))) simB_nil))))))))))
  (simB_cons (sim_set 15 nd ((simD_op O_mod hr.units (simR_var 4) (simD_int).r)).s)
  (simB_one (sim_ret ((simD_tup (simA_cons (simD_var 5) (simA_cons ((simS_op O_cat hr.units ((simS_cut (simR_var 6) (simO_some (simR_var 15)) simO_none)).r ((simS_cut (simR_var 6) simO_none (simO_some (simR_var 15)))).r)).D (simA_cons ((simS_op O_cat hr.units ((simS_cut (simR_var 7) (simO_some (simR_var 15)) simO_none)).r ((simS_cut (simR_var 7) simO_none (simO_some (simR_var 15)))).r)).D simA_nil))))).s))))))))))⟩
theorem c_law_rows {P : Program} {w : World} {K : PySem.W.Frag} {mg : Str → Option Value} {base : Heap} (T : Txt K mg) (C_law_spread : CallOk P w K mg base "_law_spread" 1 ph_law_spread) {f : Addr} {fd : FuncData} (Fn : Fun K "_law_rows" "_law_rows" s_law_rows f fd) (hm : mg "_law_rows" = some (.ref f)) : CallOk P w K mg base "_law_rows" 2 ph_law_rows :=
  callOk (ps := ["_law_cell", "_law_k", "_law_most"]) Fn hm sc_law_rows ln_law_rows (fun _ => p_law_rows) (fun _ _ _ _ _ _ A XQ hA hr hX => by obtain ⟨F0, N0, K0⟩ := A; cases hA; exact d_law_rows T C_law_spread  hr) pu_law_rows (fun _ _ _ _ _ _ us hl => match us, hl with | [_, _, _], _ => rfl)
abbrev s_law_word : Stmt := top 30
theorem sc_law_word : FnScope N_law_word ["_law_caught"] (defScope s_law_word) := ⟨rfl, rfl, rfl, by decide +kernel, rfl, by decide +kernel, by decide +kernel⟩
theorem d_law_word {P : Program} {w : World} {K : PySem.W.Frag} {mg : Str → Option Value} {base : Heap} (T : Txt K mg)  {f : Addr} {cdv : Value} {B : Around} {outer : List Env} {s : Shared} {H : Hp} {E : XK} {F0 N0 : Hp} (hr : Room 0 (B.deeper (PyProof.Rows.envOfC "_law_word" (defScope s_law_word) s.heap.objs.size f cdv))) :
    ∃ t, SimB ⟨F0, N0, K⟩ (ctx P w K mg base N_law_word "_law_word" (defScope s_law_word) f cdv B outer s H E) (defBody s_law_word) t (p_law_word) := by
  have nd := sc_law_word.nd
  have hp : PassesOwn (model P w) (B.deeper (PyProof.Rows.envOfC "_law_word" (defScope s_law_word) s.heap.objs.size f cdv)) (PyProof.Rows.envOfC "_law_word" (defScope s_law_word) s.heap.objs.size f cdv) (ctx P w K mg base N_law_word "_law_word" (defScope s_law_word) f cdv B outer s H E).xe := PassesOwn.leaving
  exact ⟨_, (simB_cons (sim_if (simT_w (simW_or (simT_cmp O_is hr.units (simR_var 0) (simD_non).r) (simW_or1 (simT_not (simT_val ((simD_isv (ks := KS) T.errs T.n_isinstance T.n_ValueError (simR_var 0))).r))))) (simB_one (sim_ret ((simD_str [110, 111, 110, 101])).s)) simB_nil)
  (simB_cons (sim_set 1 nd ((simD_op O_add hr.units ((simD_op O_repS hr.units ((simD_str [99, 111, 117, 110, 116, 32])).r ((simD_ty B_int rfl T.n_int ((simD_isx (ks := KS) 0 T.errs T.ask_0 T.n_isinstance (simR_var 0))).r)).r)).r ((simD_op O_repS hr.units ((simD_str [114, 111, 119, 115, 32])).r ((simD_ty B_int rfl T.n_int ((simD_isx (ks := KS) 1 T.errs T.ask_1 T.n_isinstance (simR_var 0))).r)).r)).r)).s)
  (simB_cons (sim_set 1 nd ((simD_op O_add hr.units ((simD_op O_add hr.units (simR_var 1) ((simD_op O_repS hr.units ((simD_str [116, 101, 114, 109, 32])).r ((simD_ty B_int rfl T.n_int ((simD_isx (ks := KS) 2 T.errs T.ask_2 T.n_isinstance (simR_var 0))).r)).r)).r)).r ((simD_op O_repS hr.units ((simD_str [116, 101, 108, 108, 105, 110, 103, 32])).r ((simD_ty B_int rfl T.n_int ((simD_isx (ks := KS) 3 T.errs T.ask_3 T.n_isinstance (simR_var 0))).r)).r)).r)).s)
  (simB_one (sim_ret ((simD_op O_add hr.units (simR_var 1) ((simD_op O_repS hr.units ((simD_str [110, 111, 116, 101, 32])).r ((simD_ty B_int rfl T.n_int ((simD_isx (ks := KS) 4 T.errs T.ask_4 T.n_isinstance (simR_var 0))).r)).r)).r)).s)))))⟩
theorem c_law_word {P : Program} {w : World} {K : PySem.W.Frag} {mg : Str → Option Value} {base : Heap} (T : Txt K mg)  {f : Addr} {fd : FuncData} (Fn : Fun K "_law_word" "_law_word" s_law_word f fd) (hm : mg "_law_word" = some (.ref f)) : CallOk P w K mg base "_law_word" 1 ph_law_word :=
  callOk (ps := ["_law_caught"]) Fn hm sc_law_word ln_law_word (fun _ => p_law_word) (fun _ _ _ _ _ _ A XQ hA hr hX => by obtain ⟨F0, N0, K0⟩ := A; cases hA; exact d_law_word T   hr) pu_law_word (fun _ _ _ _ _ _ us hl => match us, hl with | [_], _ => rfl)
abbrev s_law_refused : Stmt := top 31
theorem sc_law_refused : FnScope N_law_refused ["_law_text"] (defScope s_law_refused) := ⟨rfl, rfl, rfl, by decide +kernel, rfl, by decide +kernel, by decide +kernel⟩
theorem d_law_refused {P : Program} {w : World} {K : PySem.W.Frag} {mg : Str → Option Value} {base : Heap} (T : Txt K mg) (C_law_word : CallOk P w K mg base "_law_word" 1 ph_law_word) (C_saying_of : CallOk P w K mg base "saying_of" 5 ph_saying_of) {f : Addr} {cdv : Value} {B : Around} {outer : List Env} {s : Shared} {H : Hp} {E : XK} {F0 N0 : Hp} (hr : Room 5 (B.deeper (PyProof.Rows.envOfC "_law_refused" (defScope s_law_refused) s.heap.objs.size f cdv))) :
    ∃ t, SimB ⟨F0, N0, K⟩ (ctx P w K mg base N_law_refused "_law_refused" (defScope s_law_refused) f cdv B outer s H E) (defBody s_law_refused) t (p_law_refused) := by
  have nd := sc_law_refused.nd
  have hp : PassesOwn (model P w) (B.deeper (PyProof.Rows.envOfC "_law_refused" (defScope s_law_refused) s.heap.objs.size f cdv)) (PyProof.Rows.envOfC "_law_refused" (defScope s_law_refused) s.heap.objs.size f cdv) (ctx P w K mg base N_law_refused "_law_refused" (defScope s_law_refused) f cdv B outer s H E).xe := PassesOwn.leaving
  exact ⟨_, (simB_cons (sim_set 1 nd (simD_non).s)
  (simB_cons (sim_tryE 2 1 (ks := KS) T.ctch rfl rfl rfl nd (fun pn xe => (simX_call C_saying_of (hr.mono (by decide)) (simA_cons (simD_var 0) simA_nil))))
  (simB_cons (sim_if (simT_w (simW_or (simT_cmp O_ne hr.units (((simX_call C_law_word (hr.mono (by decide)) (simA_cons (simD_var 1) simA_nil)).s xc0)).r ((simD_str [110, 111, 116, 101, 32])).r) (simW_or1 (simT_val ((simD_isi ty_bool T.n_isinstance T.n_bool ((simD_row 4 T.row_4 (simR_var 1))).r)).r)))) (simB_one (sim_ret (simD_non).s)) simB_nil)
  (simB_one (sim_ret ((simD_row 4 T.row_4 (simR_var 1))).s)))))⟩
theorem c_law_refused {P : Program} {w : World} {K : PySem.W.Frag} {mg : Str → Option Value} {base : Heap} (T : Txt K mg) (C_law_word : CallOk P w K mg base "_law_word" 1 ph_law_word) (C_saying_of : CallOk P w K mg base "saying_of" 5 ph_saying_of) {f : Addr} {fd : FuncData} (Fn : Fun K "_law_refused" "_law_refused" s_law_refused f fd) (hm : mg "_law_refused" = some (.ref f)) : CallOk P w K mg base "_law_refused" 6 ph_law_refused :=
  callOk (ps := ["_law_text"]) Fn hm sc_law_refused ln_law_refused (fun _ => p_law_refused) (fun _ _ _ _ _ _ A XQ hA hr hX => by obtain ⟨F0, N0, K0⟩ := A; cases hA; exact d_law_refused T C_law_word C_saying_of  hr) pu_law_refused (fun _ _ _ _ _ _ us hl => match us, hl with | [_], _ => rfl)
abbrev s_law_none : Stmt := top 32
theorem sc_law_none : FnScope N_law_none ["_law_many", "_law_draw_here"] (defScope s_law_none) := ⟨rfl, rfl, rfl, by decide +kernel, rfl, by decide +kernel, by decide +kernel⟩
theorem d_law_none {P : Program} {w : World} {K : PySem.W.Frag} {mg : Str → Option Value} {base : Heap} (T : Txt K mg)  {f : Addr} {cdv : Value} {B : Around} {outer : List Env} {s : Shared} {H : Hp} {E : XK} {F0 N0 : Hp} (hr : Room 0 (B.deeper (PyProof.Rows.envOfC "_law_none" (defScope s_law_none) s.heap.objs.size f cdv))) :
    ∃ t, SimB ⟨F0, N0, K⟩ (ctx P w K mg base N_law_none "_law_none" (defScope s_law_none) f cdv B outer s H E) (defBody s_law_none) t (p_law_none) := by
  have nd := sc_law_none.nd
  have hp : PassesOwn (model P w) (B.deeper (PyProof.Rows.envOfC "_law_none" (defScope s_law_none) s.heap.objs.size f cdv)) (PyProof.Rows.envOfC "_law_none" (defScope s_law_none) s.heap.objs.size f cdv) (ctx P w K mg base N_law_none "_law_none" (defScope s_law_none) f cdv B outer s H E).xe := PassesOwn.leaving
  exact ⟨_, (simB_cons (sim_set 2 nd ((simD_join ((simD_str [])).r ((simS_lc (own := [("_law_lamp", 3)]) rfl nd (blkOk_by (by kernel_rfl)) (simIc_rng1 (simR_var 0) T.n_range) (fun _ _ _ _ _ => (simG_N 3 nd)) (by decide) (fun _ _ _ _ _ => simC_nil) (fun _ _ _ _ _ => (simD_at ((simD_str [48, 49])).r ((simD_op O_and hr.units ((simD_op O_shr hr.units (simR_var 1) (simR_var 3))).r (simD_int).r)).r)))).r)).s)
  (simB_cons (sim_set 4 nd (((simS_lst (simA_cons (simD_str []) (simA_cons (simD_var 2) (simA_cons (simD_op O_add hr.units (simR_var 2) ((simD_str [32, 111, 110, 32])).r) (simA_cons (simD_op O_add hr.units ((simD_op O_add hr.units ((simD_str [32])).r (simR_var 2))).r ((simD_str [32, 111, 110])).r) (simA_cons (simD_op O_add hr.units (simR_var 2) ((simD_str [32, 32, 111, 110])).r) (simA_cons (simD_op O_add hr.units (simR_var 2) ((simD_str [32, 79, 110])).r) (simA_cons (simD_op O_add hr.units (simR_var 2) ((simD_str [32, 111, 110, 32, 111, 102, 102])).r) (simA_cons (simD_op O_add hr.units (simR_var 2) ((simD_str [32, 121, 101, 115])).r) simA_nil)))))))))).D).s)
  (simB_cons (sim_set 4 nd (((simS_op O_cat hr.units (simR_var 4) ((simS_lst (simA_cons (simD_op O_add hr.units (simR_var 2) ((simD_str [48, 32, 111, 110])).r) (simA_cons (simD_op O_add hr.units ((simD_cut (simR_var 2) (simO_some (simD_int).r) simO_none)).r ((simD_str [32, 111, 110])).r) (simA_cons (simD_op O_add hr.units ((simD_op O_add hr.units ((simD_str [45])).r ((simD_cut (simR_var 2) (simO_some (simD_int).r) simO_none)).r)).r ((simD_str [32, 111, 110])).r) (simA_cons (simD_op O_add hr.units ((simD_cut (simR_var 2) simO_none (simO_some ((simD_neg (simD_int).r)).r))).r ((simD_str [50, 32, 111, 110])).r) (simA_cons (simD_str [111, 110]) (simA_cons (simD_op O_add hr.units ((simD_str [111, 110, 32])).r (simR_var 2)) simA_nil)))))))).r)).D).s)
  (simB_one (sim_ret ((simD_at ((simS_op O_cat hr.units (simR_var 4) ((simS_lst (simA_cons (simD_op O_add hr.units ((simD_str [108, 97, 109, 112, 115, 32])).r ((simD_ty B_str rfl T.n_str (simR_var 0))).r) (simA_cons (simD_op O_add hr.units (simR_var 2) ((simD_str [9, 111, 110])).r) (simA_cons (simD_op O_add hr.units (simR_var 2) ((simD_str [32, 49])).r) (simA_cons (simD_str [48]) (simA_cons (simD_op O_add hr.units (simR_var 2) ((simD_str [44, 111, 110])).r) (simA_cons (simD_op O_add hr.units (simR_var 2) ((simD_str [32, 111, 102])).r) simA_nil)))))))).r)).r ((simD_op O_mod hr.units ((simD_op O_div hr.units (simR_var 1) (simD_int).r)).r (simD_int).r)).r)).s)))))⟩
theorem c_law_none {P : Program} {w : World} {K : PySem.W.Frag} {mg : Str → Option Value} {base : Heap} (T : Txt K mg)  {f : Addr} {fd : FuncData} (Fn : Fun K "_law_none" "_law_none" s_law_none f fd) (hm : mg "_law_none" = some (.ref f)) : CallOk P w K mg base "_law_none" 1 ph_law_none :=
  callOk (ps := ["_law_many", "_law_draw_here"]) Fn hm sc_law_none ln_law_none (fun _ => p_law_none) (fun _ _ _ _ _ _ A XQ hA hr hX => by obtain ⟨F0, N0, K0⟩ := A; cases hA; exact d_law_none T   hr) pu_law_none (fun _ _ _ _ _ _ us hl => match us, hl with | [_, _], _ => rfl)
abbrev s_law_first : Stmt := top 33
theorem sc_law_first : FnScope N_law_first ["_law_draw_here"] (defScope s_law_first) := ⟨rfl, rfl, rfl, by decide +kernel, rfl, by decide +kernel, by decide +kernel⟩
theorem d_law_first {P : Program} {w : World} {K : PySem.W.Frag} {mg : Str → Option Value} {base : Heap} (T : Txt K mg)  {f : Addr} {cdv : Value} {B : Around} {outer : List Env} {s : Shared} {H : Hp} {E : XK} {F0 N0 : Hp} (hr : Room 0 (B.deeper (PyProof.Rows.envOfC "_law_first" (defScope s_law_first) s.heap.objs.size f cdv))) :
    ∃ t, SimB ⟨F0, N0, K⟩ (ctx P w K mg base N_law_first "_law_first" (defScope s_law_first) f cdv B outer s H E) (defBody s_law_first) t (p_law_first) := by
  have nd := sc_law_first.nd
  have hp : PassesOwn (model P w) (B.deeper (PyProof.Rows.envOfC "_law_first" (defScope s_law_first) s.heap.objs.size f cdv)) (PyProof.Rows.envOfC "_law_first" (defScope s_law_first) s.heap.objs.size f cdv) (ctx P w K mg base N_law_first "_law_first" (defScope s_law_first) f cdv B outer s H E).xe := PassesOwn.leaving
  exact ⟨_, (simB_cons (sim_set 1 nd (((simS_lst (simA_cons (simD_str []) (simA_cons (simD_str [108, 97, 109, 112, 115]) (simA_cons (simD_str [108, 97, 109, 112, 115, 32, 48]) (simA_cons (simD_str [108, 97, 109, 112, 115, 32, 54]) (simA_cons (simD_str [108, 97, 109, 112, 115, 32, 48, 51]) (simA_cons (simD_str [108, 97, 109, 112, 115, 32, 51, 32]) (simA_cons (simD_str [32, 108, 97, 109, 112, 115, 32, 51]) (simA_cons (simD_str [108, 97, 109, 112, 115, 32, 32, 51]) (simA_cons (simD_str [108, 97, 109, 112, 32, 51]) (simA_cons (simD_str [108, 97, 109, 112, 115, 32, 51, 32, 51]) simA_nil)))))))))))).D).s)
  (simB_one (sim_ret ((simD_at ((simS_op O_cat hr.units (simR_var 1) ((simS_lst (simA_cons (simD_str [76, 97, 109, 112, 115, 32, 51]) (simA_cons (simD_str [51]) (simA_cons (simD_str [108, 97, 109, 112, 115, 32, 43, 51]) (simA_cons (simD_str [108, 97, 109, 112, 115, 32, 51, 46, 48]) (simA_cons (simD_str [108, 97, 109, 112, 115, 32, 51, 51]) (simA_cons (simD_str [108, 97, 109, 112, 115, 32, 116, 104, 114, 101, 101]) (simA_cons (simD_str [108, 97, 109, 112, 115, 32, 45, 49]) (simA_cons (simD_str [111, 110]) simA_nil)))))))))).r)).r ((simD_op O_mod hr.units (simR_var 0) (simD_int).r)).r)).s)))⟩
theorem c_law_first {P : Program} {w : World} {K : PySem.W.Frag} {mg : Str → Option Value} {base : Heap} (T : Txt K mg)  {f : Addr} {fd : FuncData} (Fn : Fun K "_law_first" "_law_first" s_law_first f fd) (hm : mg "_law_first" = some (.ref f)) : CallOk P w K mg base "_law_first" 1 ph_law_first :=
  callOk (ps := ["_law_draw_here"]) Fn hm sc_law_first ln_law_first (fun _ => p_law_first) (fun _ _ _ _ _ _ A XQ hA hr hX => by obtain ⟨F0, N0, K0⟩ := A; cases hA; exact d_law_first T   hr) pu_law_first (fun _ _ _ _ _ _ us hl => match us, hl with | [_], _ => rfl)
abbrev s_law : Stmt := top 34
theorem sc_law : FnScope N_law ["_law_script"] (defScope s_law) := ⟨rfl, rfl, rfl, by decide +kernel, rfl, by decide +kernel, by decide +kernel⟩
theorem d_law {P : Program} {w : World} {K : PySem.W.Frag} {mg : Str → Option Value} {base : Heap} (T : Txt K mg) (C_Saying : MkOk P w K mg base "Saying" 3 ph_Saying []) (C_law_first : CallOk P w K mg base "_law_first" 1 ph_law_first) (C_law_none : CallOk P w K mg base "_law_none" 1 ph_law_none) (C_law_refused : CallOk P w K mg base "_law_refused" 6 ph_law_refused) (C_law_rows : CallOk P w K mg base "_law_rows" 2 ph_law_rows) (C_law_spread : CallOk P w K mg base "_law_spread" 1 ph_law_spread) (C_note_of : CallOk P w K mg base "note_of" 2 ph_note_of) (C_saying_of : CallOk P w K mg base "saying_of" 5 ph_saying_of) {f : Addr} {cdv : Value} {B : Around} {outer : List Env} {s : Shared} {H : Hp} {E : XK} {F0 N0 : Hp} (hr : Room 6 (B.deeper (PyProof.Rows.envOfC "law" (defScope s_law) s.heap.objs.size f cdv))) :
    ∃ t, SimB ⟨F0, N0, K⟩ (ctx P w K mg base N_law "law" (defScope s_law) f cdv B outer s H E) (defBody s_law) t (p_law) := by
  have nd := sc_law.nd
  have hp : PassesOwn (model P w) (B.deeper (PyProof.Rows.envOfC "law" (defScope s_law) s.heap.objs.size f cdv)) (PyProof.Rows.envOfC "law" (defScope s_law) s.heap.objs.size f cdv) (ctx P w K mg base N_law "law" (defScope s_law) f cdv B outer s H E).xe := PassesOwn.leaving
  exact ⟨_, (simB_cons (sim_for hp rfl (simIf_enum ((simS_op O_cat hr.units (simR_var 0) ((simS_lst (simA_cons simD_int simA_nil))).r)).D T.n_enumerate) (simG_2 1 2 nd rfl (simG_N 1 nd) (simG_N 2 nd)) (simB_cons (sim_set 3 nd ((((simX_call C_law_spread (hr.mono (by decide)) (simA_cons (simD_var 2) (simA_cons (simD_op O_mod hr.units (simR_var 1) (simD_int).r) simA_nil))).s xc0)).D).s)
  (simB_cons (sim_asg (((simX_call C_law_rows (hr.mono (by decide)) (simA_cons (simD_var 2) (simA_cons (simD_op O_mod hr.units (simR_var 1) (simD_int).r) (simA_cons simD_int simA_nil)))).s xc0)).D (simG_3 4 5 6 nd rfl (simG_N 4 nd) (simG_N 5 nd) (simG_N 6 nd)))
  (simB_cons (sim_set 7 nd ((((simX_call C_note_of (hr.mono (by decide)) (simA_cons (((simX_make C_Saying (hr.mono (by decide)) .nil (fun _ => .nil) (simA_cons (simD_var 4) (simA_cons (simD_var 5) (simA_cons (simD_var 6) simA_nil)))).s xc0)).D simA_nil)).s xc0)).D).s)
  (simB_cons (sim_set 8 nd (((simS_split 10 (simR_var 7))).D).s)
  (simB_cons (sim_set 9 nd ((simD_op O_add hr.units (simD_int).r ((simD_op O_mod hr.units ((simD_op O_div hr.units (simR_var 3) (simD_int).r)).r ((simD_fn B_len rfl T.n_len (simR_var 8))).r)).r)).s)
  (simB_cons (sim_set 10 nd ((((simX_call C_law_none (hr.mono (by decide)) (simA_cons (simD_var 4) (simA_cons (simD_op O_div hr.units (simR_var 3) (simD_int).r) simA_nil))).s xc0)).D).s)
  (simB_cons (sim_if (simT_w (simW_and (simT_cmp O_eq hr.units ((simD_op O_mod hr.units ((simD_op O_div hr.units (simR_var 3) (simD_int).r)).r (simD_int).r)).r (simD_int).r) (simW_and1 (simT_cmp O_gt hr.units ((simD_fn B_len rfl T.n_len (simR_var 8))).r (simD_int).r)))) (simB_cons (sim_set 10 nd ((simD_at (simR_var 8) ((simD_op O_add hr.units (simD_int).r ((simD_op O_mod hr.units ((simD_op O_div hr.units (simR_var 3) (simD_int).r)).r ((simD_op O_sub hr.units ((simD_fn B_len rfl T.n_len (simR_var 8))).r (simD_int).r)).r)).r)).r)).s)
  (simB_one (sim_set 9 nd ((simD_fn B_len rfl T.n_len (simR_var 8))).s))) simB_nil)
  (simB_cons (sim_set 11 nd (((simS_op O_cat hr.units ((simS_op O_cat hr.units ((simS_cut (simR_var 8) simO_none (simO_some (simR_var 9)))).r ((simS_lst (simA_cons (simD_var 10) simA_nil))).r)).r ((simS_cut (simR_var 8) (simO_some ((simD_op O_add hr.units (simR_var 9) ((simD_op O_mod hr.units ((simD_op O_div hr.units (simR_var 3) (simD_int).r)).r (simD_int).r)).r)).r) simO_none)).r)).D).s)
  (simB_cons (sim_if (simT_cmp O_eq hr.units ((simD_op O_mod hr.units ((simD_op O_div hr.units (simR_var 3) (simD_int).r)).r (simD_int).r)).r (simD_int).r) (simB_one (sim_set 11 nd (((simS_op O_cat hr.units (simR_var 11) ((simS_lst (simA_cons (((simX_call C_law_none (hr.mono (by decide)) (simA_cons (simD_var 4) (simA_cons (simD_op O_div hr.units (simR_var 3) (simD_int).r) simA_nil))).s xc0)).D simA_nil))).r)).D).s)) simB_nil)
  (simB_cons (sim_if (simT_cmp O_ne hr.units (((simX_call C_law_refused (hr.mono (by decide)) (simA_cons (simD_join ((simD_str [10])).r (simR_var 11)) simA_nil)).s xc0)).r ((simD_op O_add hr.units (simR_var 9) (simD_int).r)).r) (simB_one (sim_ret (simD_bl).s)) simB_nil)
  (simB_cons (sim_if (simT_cmp O_ne hr.units (((simX_call C_law_refused (hr.mono (by decide)) (simA_cons (simD_join ((simD_str [10])).r ((simS_op O_cat hr.units ((simS_lst (simA_cons (((simX_call C_law_first (hr.mono (by decide)) (simA_cons (simD_op O_div hr.units (simR_var 3) (simD_int).r) simA_nil)).s xc0)).D simA_nil))).r ((simS_cut (simR_var 11) (simO_some (simD_int).r) simO_none)).r)).r) simA_nil)).s xc0)).r (simD_int).r) (simB_one (sim_ret (simD_bl).s)) simB_nil)
  (simB_cons (sim_set 12 nd ((simD_at ((simS_lst (simA_cons simD_non (simA_cons simD_int (simA_cons ((simS_lst (simA_cons (simD_var 7) simA_nil))).D (simA_cons simD_bl (simA_cons (simS_dict0).D (simA_cons (simD_tup (simA_cons (simD_str [108, 97, 109, 112, 115, 32, 49]) simA_nil)) (simA_cons (simD_str []) simA_nil))))))))).r ((simD_op O_mod hr.units ((simD_op O_div hr.units (simR_var 3) (simD_int).r)).r (simD_int).r)).r)).s)
  (simB_one (sim_if (simT_w (simW_or (simT_cmp O_ne hr.units (((simX_call C_law_refused (hr.mono (by decide)) (simA_cons (simD_var 12) simA_nil)).s xc0)).r (simD_int).r) (simW_or1 (simT_cmp O_ne hr.units (((simX_call C_note_of (hr.mono (by decide)) (simA_cons (((simX_call C_saying_of (hr.mono (by decide)) (simA_cons (simD_var 7) simA_nil)).s xc0)).D simA_nil)).s xc0)).r (simR_var 7))))) (simB_one (sim_ret (simD_bl).s)) simB_nil)))))))))))))))
  (simB_one (sim_ret (simD_bl).s)))⟩
theorem c_law {P : Program} {w : World} {K : PySem.W.Frag} {mg : Str → Option Value} {base : Heap} (T : Txt K mg) (C_Saying : MkOk P w K mg base "Saying" 3 ph_Saying []) (C_law_first : CallOk P w K mg base "_law_first" 1 ph_law_first) (C_law_none : CallOk P w K mg base "_law_none" 1 ph_law_none) (C_law_refused : CallOk P w K mg base "_law_refused" 6 ph_law_refused) (C_law_rows : CallOk P w K mg base "_law_rows" 2 ph_law_rows) (C_law_spread : CallOk P w K mg base "_law_spread" 1 ph_law_spread) (C_note_of : CallOk P w K mg base "note_of" 2 ph_note_of) (C_saying_of : CallOk P w K mg base "saying_of" 5 ph_saying_of) {f : Addr} {fd : FuncData} (Fn : Fun K "law" "law" s_law f fd) (hm : mg "law" = some (.ref f)) : CallOk P w K mg base "law" 7 ph_law :=
  callOk (ps := ["_law_script"]) Fn hm sc_law ln_law (fun _ => p_law) (fun _ _ _ _ _ _ A XQ hA hr hX => by obtain ⟨F0, N0, K0⟩ := A; cases hA; exact d_law T C_Saying C_law_first C_law_none C_law_refused C_law_rows C_law_spread C_note_of C_saying_of  hr) pu_law (fun _ _ _ _ _ _ us hl => match us, hl with | [_], _ => rfl)
theorem sp_law {K : PySem.W.Frag} {H : Hp} {a : Addr} {ns : List Int} (nl : noList K = true) (hl : ns.length ≤ 63) (hS : SqL K H a (ns.map V.int)) : spP K ph_law [.ref a] H (fun v _ => v = .bl true) fun _ _ _ => False := law_spec nl hS ⟨ns, rfl, hl, rfl⟩
theorem clsA_eq {K : PySem.W.Frag} {x : Str} {C : Addr} (h : PySem.W.nsIn K mainGlobals x = some (some (.ref C))) : clsA K x = C := by unfold clsA; rw [h]
theorem all_mk {l : PySem.W.OpenLaw} {w : World} {K : PySem.W.Frag} {h : Heap} {mg : Str → Option Value} {fa f1 f2 f3 f4 f5 f6 f7 f8 f9 f10 f11 f12 f13 f14 f15 f16 f17 f18 f19 f20 f21 f22 f23 C_Saying e0 e1 e2 e3 e4 eT g8 w_WORDS : Addr} (X : K.In h) (G : h.Ns mainGlobals mg) (hfa : mg "law" = some (.ref fa))
    {od1 an1 od2 an2 od3 an3 od4 an4 od5 an5 od6 an6 od7 an7 od8 an8 od9 an9 od10 an10 od11 an11 od12 an12 od13 an13 od14 an14 od15 an15 od16 an16 od17 an17 od18 an18 od19 an19 od20 an20 od21 an21 od22 an22 od23 an23 : Option Addr} {sl1 sl2 sl3 sl4 sl5 sl6 sl7 sl8 sl9 sl10 sl11 sl12 sl13 sl14 sl15 sl16 sl17 sl18 sl19 sl20 sl21 sl22 sl23 : Array (Option Value)} {oc1 kV1 dc1 pm1 cd1 ct1 oc2 kV2 dc2 pm2 cd2 ct2 oc3 kV3 dc3 pm3 cd3 ct3 oc4 kV4 dc4 pm4 cd4 ct4 oc5 kV5 dc5 pm5 cd5 ct5 oc6 kV6 dc6 pm6 cd6 ct6 oc7 kV7 dc7 pm7 cd7 ct7 oc8 kV8 dc8 pm8 cd8 ct8 oc9 kV9 dc9 pm9 cd9 ct9 oc10 kV10 dc10 pm10 cd10 ct10 oc11 kV11 dc11 pm11 cd11 ct11 oc12 kV12 dc12 pm12 cd12 ct12 oc13 kV13 dc13 pm13 cd13 ct13 oc14 kV14 dc14 pm14 cd14 ct14 oc15 kV15 dc15 pm15 cd15 ct15 oc16 kV16 dc16 pm16 cd16 ct16 oc17 kV17 dc17 pm17 cd17 ct17 oc18 kV18 dc18 pm18 cd18 ct18 oc19 kV19 dc19 pm19 cd19 ct19 oc20 kV20 dc20 pm20 cd20 ct20 oc21 kV21 dc21 pm21 cd21 ct21 oc22 kV22 dc22 pm22 cd22 ct22 oc23 kV23 dc23 pm23 cd23 ct23 : Value} {tk_FIRST : Tok} {tk_MOST_LAMPS : Tok} {tk_SIGNS : Tok} {wd_WORDS : Option Addr} {wn_WORDS : Nat} {wl_WORDS : Array (Option Value)} {wt_WORDS_0 : Tok} {wt_WORDS_1 : Tok} {wt_WORDS_2 : Tok} {oz8 : Value} {oy8 : Option Addr} {ow8 : Nat} {ov8 : Array (Option Value)}
    (aC_Saying : PySem.W.nsIn K mainGlobals "Saying" = some (some (.ref C_Saying)))
    (pg_Saying : PySem.W.plainGet K C_Saying Str.empty = true)
    (hd_Saying : PySem.W.hasDictIn K C_Saying = true)
    (po_Saying : PySem.W.plainOver K C_Saying = true)
    (sa_Saying : PySem.W.findIn K (.ref C_Saying) "__setattr__" = some (some (.builtin "object.__setattr__")))
    (mk_Saying : PySem.W.makesIn K C_Saying = true)
    (kc_Saying : PySem.W.keepIn K (.ref C_Saying) = true)
    (na_Saying_either : PySem.W.findIn K (.ref C_Saying) "either" = some none)
    (na_Saying_lamps : PySem.W.findIn K (.ref C_Saying) "lamps" = some none)
    (na_Saying_lit : PySem.W.findIn K (.ref C_Saying) "lit" = some none)
    (aE0 : PySem.W.nsIn K mainGlobals "BadCount" = some (some (.ref e0)))
    (tE0 : PySem.W.typeIn K (.ref e0) = some (.type "type"))
    (bE0 : PySem.W.subIn K (.ref e0) (.type "BaseException") = some true)
    (cE0 : PySem.W.isClsIn K e0 = true)
    (sE0 : PySem.W.subIn K (.ref e0) (.ref e0) = some true)
    (kE0 : PySem.W.keepIn K (.ref e0) = true)
    (aE1 : PySem.W.nsIn K mainGlobals "BadRows" = some (some (.ref e1)))
    (tE1 : PySem.W.typeIn K (.ref e1) = some (.type "type"))
    (bE1 : PySem.W.subIn K (.ref e1) (.type "BaseException") = some true)
    (cE1 : PySem.W.isClsIn K e1 = true)
    (sE1 : PySem.W.subIn K (.ref e1) (.ref e1) = some true)
    (kE1 : PySem.W.keepIn K (.ref e1) = true)
    (aE2 : PySem.W.nsIn K mainGlobals "BadTerm" = some (some (.ref e2)))
    (tE2 : PySem.W.typeIn K (.ref e2) = some (.type "type"))
    (bE2 : PySem.W.subIn K (.ref e2) (.type "BaseException") = some true)
    (cE2 : PySem.W.isClsIn K e2 = true)
    (sE2 : PySem.W.subIn K (.ref e2) (.ref e2) = some true)
    (aE3 : PySem.W.nsIn K mainGlobals "BadTelling" = some (some (.ref e3)))
    (tE3 : PySem.W.typeIn K (.ref e3) = some (.type "type"))
    (bE3 : PySem.W.subIn K (.ref e3) (.type "BaseException") = some true)
    (cE3 : PySem.W.isClsIn K e3 = true)
    (sE3 : PySem.W.subIn K (.ref e3) (.ref e3) = some true)
    (aE4 : PySem.W.nsIn K mainGlobals "BadNote" = some (some (.ref e4)))
    (tE4 : PySem.W.typeIn K (.ref e4) = some (.type "type"))
    (bE4 : PySem.W.subIn K (.ref e4) (.type "BaseException") = some true)
    (cE4 : PySem.W.isClsIn K e4 = true)
    (sE4 : PySem.W.subIn K (.ref e4) (.ref e4) = some true)
    (kE4 : PySem.W.keepIn K (.ref e4) = true)
    (oE4 : oexB K e4 = true)
    (saE4 : PySem.W.findIn K (.ref e4) "__setattr__" = some (some (.builtin "object.__setattr__")))
    (rwE4 : PySem.W.findIn K (.ref e4) "row" = some none)
    (xE0 : PySem.W.excIn K e0 [.type "ValueError", .type "Exception", .type "BaseException", .type "object"] "ValueError.__new__" = true)
    (xE1 : PySem.W.excIn K e1 [.type "ValueError", .type "Exception", .type "BaseException", .type "object"] "ValueError.__new__" = true)
    (gE4 : PySem.W.findIn K (.ref e4) "__getattribute__" = some (some (.builtin "BaseException.__getattribute__")))
    (qq4 : PySem.W.findIn K (.ref e4) "__getattr__" = some none)
    (dE4 : PySem.W.hasDictIn K e4 = true)
    (lE4 : PySem.W.findIn K (.ref e4) "__class__" = some (some (.builtin "object.__class__")))
    (mE4 : PySem.W.mroIn K e4 (.type "object") = some true)
    (vE4 : PySem.W.subIn K (.ref e4) (.type "ValueError") = some true)
    (uE4_0 : PySem.W.subIn K (.ref e4) (.ref e0) = some false)
    (uE4_1 : PySem.W.subIn K (.ref e4) (.ref e1) = some false)
    (uE4_2 : PySem.W.subIn K (.ref e4) (.ref e2) = some false)
    (uE4_3 : PySem.W.subIn K (.ref e4) (.ref e3) = some false)
    (nE : PySem.W.specialIn K (.builtin "object.__class__") "__get__" = some (some (.builtin "getset_descriptor.__get__")))
    (kTE : PySem.W.takesIn K (.builtin "object.__class__") = some true)
    (aT : PySem.W.nsIn K mainGlobals "TermError" = some (some (.ref eT)))
    (bT : PySem.W.subIn K (.ref eT) (.type "BaseException") = some true)
    (dT : PySem.W.hasDictIn K eT = true)
    (tT : PySem.W.typeIn K (.ref eT) = some (.type "type"))
    (gT : PySem.W.specialIn K (.ref eT) "__getattribute__" = some (some (.builtin "type.__getattribute__")))
    (rT : PySem.W.readsIn K eT (.type "type") = true)
    (vT : PySem.W.findCls K (.ref eT) (.type "type") "__init__" = some (.val (.builtin "ValueError.__init__")))
    (wE4 : PySem.W.subIn K (.ref e4) (.ref eT) = some true)
    (a1 : PySem.W.findIn K (.ref e4) "__init__" = some (some (.ref f1)))
    (i1 : PySem.W.isFn K (.ref f1) = true)
    (tf1 : PySem.W.typeIn K (.ref f1) = some (.type "function"))
    (l1 : K.lookup f1 = some ⟨oc1, od1, .func (PySem.W.fnOf "__init__" "BadNote.__init__" (defArgs s_BadNote___init__) (defBody s_BadNote___init__) (defScope s_BadNote___init__) .none kV1 dc1 pm1 an1 cd1 ct1), sl1⟩)
    (c1 : PySem.W.codeIn K cd1 "BadNote.__init__" = true)
    (k1 : PySem.W.keepIn K (.ref f1) = true)
    (a2 : PySem.W.nsIn K mainGlobals "is_term" = some (some (.ref f2)))
    (l2 : K.lookup f2 = some ⟨oc2, od2, .func (PySem.W.fnOf "is_term" "is_term" (defArgs s_is_term) (defBody s_is_term) (defScope s_is_term) .none kV2 dc2 pm2 an2 cd2 ct2), sl2⟩)
    (c2 : PySem.W.codeIn K cd2 "is_term" = true)
    (k2 : PySem.W.keepIn K (.ref f2) = true)
    (a3 : PySem.W.nsIn K mainGlobals "sign_of" = some (some (.ref f3)))
    (l3 : K.lookup f3 = some ⟨oc3, od3, .func (PySem.W.fnOf "sign_of" "sign_of" (defArgs s_sign_of) (defBody s_sign_of) (defScope s_sign_of) .none kV3 dc3 pm3 an3 cd3 ct3), sl3⟩)
    (c3 : PySem.W.codeIn K cd3 "sign_of" = true)
    (k3 : PySem.W.keepIn K (.ref f3) = true)
    (a4 : PySem.W.nsIn K mainGlobals "has" = some (some (.ref f4)))
    (l4 : K.lookup f4 = some ⟨oc4, od4, .func (PySem.W.fnOf "has" "has" (defArgs s_has) (defBody s_has) (defScope s_has) .none kV4 dc4 pm4 an4 cd4 ct4), sl4⟩)
    (c4 : PySem.W.codeIn K cd4 "has" = true)
    (k4 : PySem.W.keepIn K (.ref f4) = true)
    (a5 : PySem.W.nsIn K mainGlobals "settings_of" = some (some (.ref f5)))
    (l5 : K.lookup f5 = some ⟨oc5, od5, .func (PySem.W.fnOf "settings_of" "settings_of" (defArgs s_settings_of) (defBody s_settings_of) (defScope s_settings_of) .none kV5 dc5 pm5 an5 cd5 ct5), sl5⟩)
    (c5 : PySem.W.codeIn K cd5 "settings_of" = true)
    (k5 : PySem.W.keepIn K (.ref f5) = true)
    (a6 : PySem.W.nsIn K mainGlobals "is_whole_number" = some (some (.ref f6)))
    (l6 : K.lookup f6 = some ⟨oc6, od6, .func (PySem.W.fnOf "is_whole_number" "is_whole_number" (defArgs s_is_whole_number) (defBody s_is_whole_number) (defScope s_is_whole_number) .none kV6 dc6 pm6 an6 cd6 ct6), sl6⟩)
    (c6 : PySem.W.codeIn K cd6 "is_whole_number" = true)
    (k6 : PySem.W.keepIn K (.ref f6) = true)
    (a7 : PySem.W.nsIn K mainGlobals "need_settings" = some (some (.ref f7)))
    (l7 : K.lookup f7 = some ⟨oc7, od7, .func (PySem.W.fnOf "need_settings" "need_settings" (defArgs s_need_settings) (defBody s_need_settings) (defScope s_need_settings) .none kV7 dc7 pm7 an7 cd7 ct7), sl7⟩)
    (c7 : PySem.W.codeIn K cd7 "need_settings" = true)
    (k7 : PySem.W.keepIn K (.ref f7) = true)
    (a8 : PySem.W.findIn K (.ref C_Saying) "__init__" = some (some (.ref f8)))
    (i8 : PySem.W.isFn K (.ref f8) = true)
    (l8 : K.lookup f8 = some ⟨oc8, od8, .func (PySem.W.fnOf "__init__" "Saying.__init__" (defArgs s_Saying___init__) (defBody s_Saying___init__) (defScope s_Saying___init__) (.ref g8) kV8 dc8 pm8 an8 cd8 ct8), sl8⟩)
    (c8 : PySem.W.codeIn K cd8 "Saying.__init__" = true)
    (k8 : PySem.W.keepIn K (.ref f8) = true)
    (y8 : K.lookup g8 = some ⟨oz8, oy8, .seq #[.none] ow8, ov8⟩)
    (a9 : PySem.W.findIn K (.ref C_Saying) "many" = some (some (.ref f9)))
    (i9 : PySem.W.isFn K (.ref f9) = true)
    (l9 : K.lookup f9 = some ⟨oc9, od9, .func (PySem.W.fnOf "many" "Saying.many" (defArgs s_Saying_many) (defBody s_Saying_many) (defScope s_Saying_many) .none kV9 dc9 pm9 an9 cd9 ct9), sl9⟩)
    (c9 : PySem.W.codeIn K cd9 "Saying.many" = true)
    (k9 : PySem.W.keepIn K (.ref f9) = true)
    (a10 : PySem.W.findIn K (.ref C_Saying) "on" = some (some (.ref f10)))
    (i10 : PySem.W.isFn K (.ref f10) = true)
    (l10 : K.lookup f10 = some ⟨oc10, od10, .func (PySem.W.fnOf "on" "Saying.on" (defArgs s_Saying_on) (defBody s_Saying_on) (defScope s_Saying_on) .none kV10 dc10 pm10 an10 cd10 ct10), sl10⟩)
    (c10 : PySem.W.codeIn K cd10 "Saying.on" = true)
    (k10 : PySem.W.keepIn K (.ref f10) = true)
    (a11 : PySem.W.findIn K (.ref C_Saying) "free" = some (some (.ref f11)))
    (i11 : PySem.W.isFn K (.ref f11) = true)
    (l11 : K.lookup f11 = some ⟨oc11, od11, .func (PySem.W.fnOf "free" "Saying.free" (defArgs s_Saying_free) (defBody s_Saying_free) (defScope s_Saying_free) .none kV11 dc11 pm11 an11 cd11 ct11), sl11⟩)
    (c11 : PySem.W.codeIn K cd11 "Saying.free" = true)
    (k11 : PySem.W.keepIn K (.ref f11) = true)
    (a12 : PySem.W.findIn K (.ref C_Saying) "off" = some (some (.ref f12)))
    (i12 : PySem.W.isFn K (.ref f12) = true)
    (l12 : K.lookup f12 = some ⟨oc12, od12, .func (PySem.W.fnOf "off" "Saying.off" (defArgs s_Saying_off) (defBody s_Saying_off) (defScope s_Saying_off) .none kV12 dc12 pm12 an12 cd12 ct12), sl12⟩)
    (c12 : PySem.W.codeIn K cd12 "Saying.off" = true)
    (k12 : PySem.W.keepIn K (.ref f12) = true)
    (a13 : PySem.W.nsIn K mainGlobals "note_of" = some (some (.ref f13)))
    (l13 : K.lookup f13 = some ⟨oc13, od13, .func (PySem.W.fnOf "note_of" "note_of" (defArgs s_note_of) (defBody s_note_of) (defScope s_note_of) .none kV13 dc13 pm13 an13 cd13 ct13), sl13⟩)
    (c13 : PySem.W.codeIn K cd13 "note_of" = true)
    (k13 : PySem.W.keepIn K (.ref f13) = true)
    (a14 : PySem.W.nsIn K mainGlobals "lamps_in" = some (some (.ref f14)))
    (l14 : K.lookup f14 = some ⟨oc14, od14, .func (PySem.W.fnOf "lamps_in" "lamps_in" (defArgs s_lamps_in) (defBody s_lamps_in) (defScope s_lamps_in) .none kV14 dc14 pm14 an14 cd14 ct14), sl14⟩)
    (c14 : PySem.W.codeIn K cd14 "lamps_in" = true)
    (k14 : PySem.W.keepIn K (.ref f14) = true)
    (a15 : PySem.W.nsIn K mainGlobals "setting_in" = some (some (.ref f15)))
    (l15 : K.lookup f15 = some ⟨oc15, od15, .func (PySem.W.fnOf "setting_in" "setting_in" (defArgs s_setting_in) (defBody s_setting_in) (defScope s_setting_in) .none kV15 dc15 pm15 an15 cd15 ct15), sl15⟩)
    (c15 : PySem.W.codeIn K cd15 "setting_in" = true)
    (k15 : PySem.W.keepIn K (.ref f15) = true)
    (a16 : PySem.W.nsIn K mainGlobals "saying_of" = some (some (.ref f16)))
    (l16 : K.lookup f16 = some ⟨oc16, od16, .func (PySem.W.fnOf "saying_of" "saying_of" (defArgs s_saying_of) (defBody s_saying_of) (defScope s_saying_of) .none kV16 dc16 pm16 an16 cd16 ct16), sl16⟩)
    (c16 : PySem.W.codeIn K cd16 "saying_of" = true)
    (k16 : PySem.W.keepIn K (.ref f16) = true)
    (a17 : PySem.W.nsIn K mainGlobals "_law_spread" = some (some (.ref f17)))
    (l17 : K.lookup f17 = some ⟨oc17, od17, .func (PySem.W.fnOf "_law_spread" "_law_spread" (defArgs s_law_spread) (defBody s_law_spread) (defScope s_law_spread) .none kV17 dc17 pm17 an17 cd17 ct17), sl17⟩)
    (c17 : PySem.W.codeIn K cd17 "_law_spread" = true)
    (k17 : PySem.W.keepIn K (.ref f17) = true)
    (a18 : PySem.W.nsIn K mainGlobals "_law_rows" = some (some (.ref f18)))
    (l18 : K.lookup f18 = some ⟨oc18, od18, .func (PySem.W.fnOf "_law_rows" "_law_rows" (defArgs s_law_rows) (defBody s_law_rows) (defScope s_law_rows) .none kV18 dc18 pm18 an18 cd18 ct18), sl18⟩)
    (c18 : PySem.W.codeIn K cd18 "_law_rows" = true)
    (k18 : PySem.W.keepIn K (.ref f18) = true)
    (a19 : PySem.W.nsIn K mainGlobals "_law_word" = some (some (.ref f19)))
    (l19 : K.lookup f19 = some ⟨oc19, od19, .func (PySem.W.fnOf "_law_word" "_law_word" (defArgs s_law_word) (defBody s_law_word) (defScope s_law_word) .none kV19 dc19 pm19 an19 cd19 ct19), sl19⟩)
    (c19 : PySem.W.codeIn K cd19 "_law_word" = true)
    (k19 : PySem.W.keepIn K (.ref f19) = true)
    (a20 : PySem.W.nsIn K mainGlobals "_law_refused" = some (some (.ref f20)))
    (l20 : K.lookup f20 = some ⟨oc20, od20, .func (PySem.W.fnOf "_law_refused" "_law_refused" (defArgs s_law_refused) (defBody s_law_refused) (defScope s_law_refused) .none kV20 dc20 pm20 an20 cd20 ct20), sl20⟩)
    (c20 : PySem.W.codeIn K cd20 "_law_refused" = true)
    (k20 : PySem.W.keepIn K (.ref f20) = true)
    (a21 : PySem.W.nsIn K mainGlobals "_law_none" = some (some (.ref f21)))
    (l21 : K.lookup f21 = some ⟨oc21, od21, .func (PySem.W.fnOf "_law_none" "_law_none" (defArgs s_law_none) (defBody s_law_none) (defScope s_law_none) .none kV21 dc21 pm21 an21 cd21 ct21), sl21⟩)
    (c21 : PySem.W.codeIn K cd21 "_law_none" = true)
    (k21 : PySem.W.keepIn K (.ref f21) = true)
    (a22 : PySem.W.nsIn K mainGlobals "_law_first" = some (some (.ref f22)))
    (l22 : K.lookup f22 = some ⟨oc22, od22, .func (PySem.W.fnOf "_law_first" "_law_first" (defArgs s_law_first) (defBody s_law_first) (defScope s_law_first) .none kV22 dc22 pm22 an22 cd22 ct22), sl22⟩)
    (c22 : PySem.W.codeIn K cd22 "_law_first" = true)
    (k22 : PySem.W.keepIn K (.ref f22) = true)
    (a23 : PySem.W.nsIn K mainGlobals "law" = some (some (.ref f23)))
    (l23 : K.lookup f23 = some ⟨oc23, od23, .func (PySem.W.fnOf "law" "law" (defArgs s_law) (defBody s_law) (defScope s_law) .none kV23 dc23 pm23 an23 cd23 ct23), sl23⟩)
    (c23 : PySem.W.codeIn K cd23 "law" = true)
    (k23 : PySem.W.keepIn K (.ref f23) = true)
    (z_ValueError : PySem.W.nsIn K mainGlobals "ValueError" = some none)
    (z_all : PySem.W.nsIn K mainGlobals "all" = some none)
    (z_any : PySem.W.nsIn K mainGlobals "any" = some none)
    (z_bool : PySem.W.nsIn K mainGlobals "bool" = some none)
    (z_enumerate : PySem.W.nsIn K mainGlobals "enumerate" = some none)
    (z_int : PySem.W.nsIn K mainGlobals "int" = some none)
    (z_isinstance : PySem.W.nsIn K mainGlobals "isinstance" = some none)
    (z_len : PySem.W.nsIn K mainGlobals "len" = some none)
    (z_list : PySem.W.nsIn K mainGlobals "list" = some none)
    (z_range : PySem.W.nsIn K mainGlobals "range" = some none)
    (z_set : PySem.W.nsIn K mainGlobals "set" = some none)
    (z_sorted : PySem.W.nsIn K mainGlobals "sorted" = some none)
    (z_str : PySem.W.nsIn K mainGlobals "str" = some none)
    (z_sum : PySem.W.nsIn K mainGlobals "sum" = some none)
    (r_FIRST : PySem.W.nsIn K mainGlobals "FIRST" = some (some (.str "lamps" tk_FIRST)))
    (r_MOST_LAMPS : PySem.W.nsIn K mainGlobals "MOST_LAMPS" = some (some (.int 5 tk_MOST_LAMPS)))
    (r_SIGNS : PySem.W.nsIn K mainGlobals "SIGNS" = some (some (.str "01-" tk_SIGNS)))
    (r_WORDS : PySem.W.nsIn K mainGlobals "WORDS" = some (some (.ref w_WORDS)))
    (t_WORDS : K.lookup w_WORDS = some ⟨.type "tuple", wd_WORDS, .seq #[.str "on" wt_WORDS_0, .str "off" wt_WORDS_1, .str "free" wt_WORDS_2] wn_WORDS, wl_WORDS⟩)
    : ∃ fd : FuncData, (∀ (s : Shared) (v : Value), BindsTo s fd ⟨[v], []⟩ [("_law_script", v)]) ∧ ∀ base : Heap, K.In base → base.Ns mainGlobals mg → FnOk l.prog w K mg base (L2.CX l.prog w) 7 fa fd ["_law_script"] (spP K ph_law) := by
  have e := hfa.symm.trans (PySem.W.mg_of X G a23)
  cases e
  have q_Saying : clsA K "Saying" = C_Saying := clsA_eq aC_Saying
  have qE0 : clsA K (errN 0) = e0 := clsA_eq aE0
  have qE1 : clsA K (errN 1) = e1 := clsA_eq aE1
  have qE2 : clsA K (errN 2) = e2 := clsA_eq aE2
  have qE3 : clsA K (errN 3) = e3 := clsA_eq aE3
  have qE4 : clsA K (errN 4) = e4 := clsA_eq aE4
  have qT : clsA K "TermError" = eT := clsA_eq aT
  have exc4 : ExcC K e4 := ⟨gE4, qq4, bE4, dE4, lE4, nE, kTE, mE4⟩
  have T : Txt K mg := {
    n_ValueError := PySem.W.mg_none_of X G z_ValueError,
    n_all := PySem.W.mg_none_of X G z_all,
    n_any := PySem.W.mg_none_of X G z_any,
    n_bool := PySem.W.mg_none_of X G z_bool,
    n_enumerate := PySem.W.mg_none_of X G z_enumerate,
    n_int := PySem.W.mg_none_of X G z_int,
    n_isinstance := PySem.W.mg_none_of X G z_isinstance,
    n_len := PySem.W.mg_none_of X G z_len,
    n_list := PySem.W.mg_none_of X G z_list,
    n_range := PySem.W.mg_none_of X G z_range,
    n_set := PySem.W.mg_none_of X G z_set,
    n_sorted := PySem.W.mg_none_of X G z_sorted,
    n_str := PySem.W.mg_none_of X G z_str,
    n_sum := PySem.W.mg_none_of X G z_sum,
    g_FIRST := ⟨_, PySem.W.mg_of X G r_FIRST⟩,
    g_MOST_LAMPS := ⟨_, PySem.W.mg_of X G r_MOST_LAMPS⟩,
    g_SIGNS := ⟨_, PySem.W.mg_of X G r_SIGNS⟩,
    g_WORDS := ⟨(PySem.W.mg_of X G r_WORDS).trans (congrArg (fun a => some (Value.ref a)) (clsA_eq r_WORDS).symm), by rw [clsA_eq r_WORDS]; exact ⟨_, _, _, t_WORDS, rfl, rfl, by show 3 ≤ sizeLine; decide, .cons ⟨_, congrArg (fun z => Value.str z _) (by decide +kernel)⟩ (.cons ⟨_, congrArg (fun z => Value.str z _) (by decide +kernel)⟩ (.cons ⟨_, congrArg (fun z => Value.str z _) (by decide +kernel)⟩ (.nil)))⟩⟩,
    ask_0 := ⟨(PySem.W.mg_of X G aE0).trans (congrArg (fun a => some (Value.ref a)) qE0.symm), (by rw [qE0]; exact cE0), (by rw [qE0]; exact tE0), (by rw [qE0]; exact sE0), fun k hk => by simp only [KS, List.mem_cons, List.not_mem_nil, or_false] at hk; subst hk; (rw [qE4, qE0]; exact uE4_0)⟩,
    ask_1 := ⟨(PySem.W.mg_of X G aE1).trans (congrArg (fun a => some (Value.ref a)) qE1.symm), (by rw [qE1]; exact cE1), (by rw [qE1]; exact tE1), (by rw [qE1]; exact sE1), fun k hk => by simp only [KS, List.mem_cons, List.not_mem_nil, or_false] at hk; subst hk; (rw [qE4, qE1]; exact uE4_1)⟩,
    ask_2 := ⟨(PySem.W.mg_of X G aE2).trans (congrArg (fun a => some (Value.ref a)) qE2.symm), (by rw [qE2]; exact cE2), (by rw [qE2]; exact tE2), (by rw [qE2]; exact sE2), fun k hk => by simp only [KS, List.mem_cons, List.not_mem_nil, or_false] at hk; subst hk; (rw [qE4, qE2]; exact uE4_2)⟩,
    ask_3 := ⟨(PySem.W.mg_of X G aE3).trans (congrArg (fun a => some (Value.ref a)) qE3.symm), (by rw [qE3]; exact cE3), (by rw [qE3]; exact tE3), (by rw [qE3]; exact sE3), fun k hk => by simp only [KS, List.mem_cons, List.not_mem_nil, or_false] at hk; subst hk; (rw [qE4, qE3]; exact uE4_3)⟩,
    ask_4 := ⟨(PySem.W.mg_of X G aE4).trans (congrArg (fun a => some (Value.ref a)) qE4.symm), (by rw [qE4]; exact cE4), (by rw [qE4]; exact tE4), (by rw [qE4]; exact sE4), fun k hk => by simp only [KS, List.mem_cons, List.not_mem_nil, or_false] at hk; subst hk; (rw [qE4]; exact sE4)⟩,
    cls_Saying := by rw [q_Saying]; exact ⟨pg_Saying, hd_Saying, po_Saying, sa_Saying⟩,
    ctch := ⟨(PySem.W.mg_of X G aT).trans (congrArg (fun a => some (Value.ref a)) qT.symm), fun k hk => by simp only [KS, List.mem_cons, List.not_mem_nil, or_false] at hk; subst hk; (rw [qE4, qT]; exact PySem.W.exm_ref bT dT tT wE4)⟩,
    errs := ⟨fun k hk => by simp only [KS, List.mem_cons, List.not_mem_nil, or_false] at hk; subst hk; (rw [qE4]; exact exc4), fun k hk => by simp only [KS, List.mem_cons, List.not_mem_nil, or_false] at hk; subst hk; (rw [qE4]; exact cE4), fun k hk => by simp only [KS, List.mem_cons, List.not_mem_nil, or_false] at hk; subst hk; (rw [qE4]; exact tE4), fun k hk => by simp only [KS, List.mem_cons, List.not_mem_nil, or_false] at hk; subst hk; (rw [qE4]; exact vE4)⟩,
    na_Saying_either := by rw [q_Saying]; exact na_Saying_either,
    na_Saying_lamps := by rw [q_Saying]; exact na_Saying_lamps,
    na_Saying_lit := by rw [q_Saying]; exact na_Saying_lit,
    oex_4 := by rw [show clsA K "BadNote" = e4 from qE4]; exact ⟨oexB_ok oE4, saE4, bE4, tE4, kE4⟩,
    row_4 := ⟨by rw [qE4]; exact ⟨gE4, qq4, bE4, dE4⟩, by rw [qE4]; exact rwE4⟩,
    te := ⟨⟨eT, PySem.W.mg_of X G aT, gT, rT, vT⟩⟩,
    x_BadCount := by have q := qE0; exact ⟨(PySem.W.mg_of X G aE0).trans (congrArg (fun a => some (Value.ref a)) q.symm), q ▸ kE0, q ▸ xE0, q ▸ bE0, q ▸ tE0⟩,
    x_BadRows := by have q := qE1; exact ⟨(PySem.W.mg_of X G aE1).trans (congrArg (fun a => some (Value.ref a)) q.symm), q ▸ kE1, q ▸ xE1, q ▸ bE1, q ▸ tE1⟩ }
  have F1 := fun_mk (st := s_BadNote___init__) l1 c1 k1
  have F2 := fun_mk (st := s_is_term) l2 c2 k2
  have F3 := fun_mk (st := s_sign_of) l3 c3 k3
  have F4 := fun_mk (st := s_has) l4 c4 k4
  have F5 := fun_mk (st := s_settings_of) l5 c5 k5
  have F6 := fun_mk (st := s_is_whole_number) l6 c6 k6
  have F7 := fun_mk (st := s_need_settings) l7 c7 k7
  have F8 : FunD K "__init__" "Saying.__init__" (defArgs s_Saying___init__) (defBody s_Saying___init__) (defScope s_Saying___init__) [.non] [] f8 _ := ⟨⟨_, _, _, _, _, _, _, _, _, _, rfl, l8, c8, .inr ⟨by simp, g8, _, [.none], _, rfl, y8, rfl, .cons rfl .nil⟩, .inl rfl⟩, k8⟩
  have F9 := fun_mk (st := s_Saying_many) l9 c9 k9
  have F10 := fun_mk (st := s_Saying_on) l10 c10 k10
  have F11 := fun_mk (st := s_Saying_free) l11 c11 k11
  have F12 := fun_mk (st := s_Saying_off) l12 c12 k12
  have F13 := fun_mk (st := s_note_of) l13 c13 k13
  have F14 := fun_mk (st := s_lamps_in) l14 c14 k14
  have F15 := fun_mk (st := s_setting_in) l15 c15 k15
  have F16 := fun_mk (st := s_saying_of) l16 c16 k16
  have F17 := fun_mk (st := s_law_spread) l17 c17 k17
  have F18 := fun_mk (st := s_law_rows) l18 c18 k18
  have F19 := fun_mk (st := s_law_word) l19 c19 k19
  have F20 := fun_mk (st := s_law_refused) l20 c20 k20
  have F21 := fun_mk (st := s_law_none) l21 c21 k21
  have F22 := fun_mk (st := s_law_first) l22 c22 k22
  have F23 := fun_mk (st := s_law) l23 c23 k23
  refine ⟨PySem.W.fnOf "law" "law" (defArgs s_law) (defBody s_law) (defScope s_law) .none kV23 dc23 pm23 an23 cd23 ct23, fun s v => .of_eq rfl, fun base _ _ => ?_⟩
  have C_BadNote := c_BadNote (P := l.prog) (w := w) (base := base) T F1 (by rw [show clsA K "BadNote" = e4 from qE4]; exact a1) tf1 ((PySem.W.mg_of X G aE4).trans (congrArg (fun a => some (Value.ref a)) (show clsA K "BadNote" = e4 from qE4).symm))
  have C_is_term := c_is_term (P := l.prog) (w := w) (base := base) T  F2 (PySem.W.mg_of X G a2)
  have C_sign_of := c_sign_of (P := l.prog) (w := w) (base := base) T  F3 (PySem.W.mg_of X G a3)
  have C_has := c_has (P := l.prog) (w := w) (base := base) T C_sign_of F4 (PySem.W.mg_of X G a4)
  have C_settings_of := c_settings_of (P := l.prog) (w := w) (base := base) T C_has F5 (PySem.W.mg_of X G a5)
  have C_is_whole_number := c_is_whole_number (P := l.prog) (w := w) (base := base) T  F6 (PySem.W.mg_of X G a6)
  have C_need_settings := c_need_settings (P := l.prog) (w := w) (base := base) T C_is_whole_number F7 (PySem.W.mg_of X G a7)
  have M_Saying : Mk K (clsA K "Saying") f8 := by rw [q_Saying]; exact ⟨mk_Saying, a8, i8, kc_Saying⟩
  have C_Saying := c_Saying (P := l.prog) (w := w) (base := base) T C_is_whole_number C_need_settings F8 M_Saying ((PySem.W.mg_of X G aC_Saying).trans (congrArg (fun a => some (Value.ref a)) q_Saying.symm))
  have C_Saying_d := c_Saying_d (P := l.prog) (w := w) (base := base) T C_is_whole_number C_need_settings F8 M_Saying ((PySem.W.mg_of X G aC_Saying).trans (congrArg (fun a => some (Value.ref a)) q_Saying.symm))
  have C_Saying_many := c_Saying_many (P := l.prog) (w := w) (base := base) T  F9 (by rw [q_Saying]; exact ⟨a9, i9, k9⟩)
  have C_Saying_on := c_Saying_on (P := l.prog) (w := w) (base := base) T  F10 (by rw [q_Saying]; exact ⟨a10, i10, k10⟩)
  have C_Saying_free := c_Saying_free (P := l.prog) (w := w) (base := base) T  F11 (by rw [q_Saying]; exact ⟨a11, i11, k11⟩)
  have C_Saying_off := c_Saying_off (P := l.prog) (w := w) (base := base) T  F12 (by rw [q_Saying]; exact ⟨a12, i12, k12⟩)
  have C_note_of := c_note_of (P := l.prog) (w := w) (base := base) T C_Saying_free C_Saying_many C_Saying_off C_Saying_on C_sign_of F13 (PySem.W.mg_of X G a13)
  have C_lamps_in := c_lamps_in (P := l.prog) (w := w) (base := base) T  F14 (PySem.W.mg_of X G a14)
  have C_setting_in := c_setting_in (P := l.prog) (w := w) (base := base) T C_is_term C_settings_of F15 (PySem.W.mg_of X G a15)
  have C_saying_of := c_saying_of (P := l.prog) (w := w) (base := base) T C_BadNote C_Saying C_lamps_in C_setting_in F16 (PySem.W.mg_of X G a16)
  have C_law_spread := c_law_spread (P := l.prog) (w := w) (base := base) T  F17 (PySem.W.mg_of X G a17)
  have C_law_rows := c_law_rows (P := l.prog) (w := w) (base := base) T C_law_spread F18 (PySem.W.mg_of X G a18)
  have C_law_word := c_law_word (P := l.prog) (w := w) (base := base) T  F19 (PySem.W.mg_of X G a19)
  have C_law_refused := c_law_refused (P := l.prog) (w := w) (base := base) T C_law_word C_saying_of F20 (PySem.W.mg_of X G a20)
  have C_law_none := c_law_none (P := l.prog) (w := w) (base := base) T  F21 (PySem.W.mg_of X G a21)
  have C_law_first := c_law_first (P := l.prog) (w := w) (base := base) T  F22 (PySem.W.mg_of X G a22)
  exact okP F23 sc_law ln_law (fun _ => p_law) (fun _ _ _ _ _ _ A _ hA hr _ => by obtain ⟨F0, N0, K0⟩ := A; cases hA; exact d_law T C_Saying C_law_first C_law_none C_law_refused C_law_rows C_law_spread C_note_of C_saying_of hr) pu_law
theorem walk {l : PySem.W.OpenLaw} {q : Program} {loose : List Str} {XP : (Str → Option Value) → Heap → Prop} {YP : World → Heap → Prop} {d : DefRec} {K : Params → PySem.W.Frag} (hn : l.most = some 63) (hdf : d.params.defaults = [])
    (hY : ∀ (w : World) (h : Heap), YP w h → (K w.params).In h) (nl : ∀ w : World, noList (K w.params) = true)
    (F : ∀ (w : World) (mg : Str → Option Value) (fa : Addr) (h : Heap), (K w.params).In h → h.Ns mainGlobals mg → mg d.name = some (.ref fa) →
      ∃ fd : FuncData, (∀ (s : Shared) (u : Value), BindsTo s fd ⟨[u], []⟩ [("_law_script", u)]) ∧ ∀ base : Heap, (K w.params).In base → base.Ns mainGlobals mg → FnOk l.prog w (K w.params) mg base (L2.CX l.prog w) 7 fa fd ["_law_script"] (spP (K w.params) ph_law)) :
    PySem.W.WalkO q loose XP YP l.row.toRowW d [] (fun f vs => PySem.call f vs) :=
  L2.walk_of (n := 63) (k := 7) (x := "_law_script") (CX := fun w => L2.CX l.prog w) (sp := fun w => spP (K w.params) ph_law) hn (by decide) hdf ⟨rfl, by decide, by decide⟩ hY F (fun w H a ns hl _ hS => sp_law (nl w) hl hS) fun _ _ _ _ _ z => cx_no z
end Pu
open PySem PySem.W PyProof.Rows
set_option maxRecDepth 100000 in
set_option maxHeartbeats 0 in
theorem PySem.Challenge.cw_fewterms_k09_notes_refused_holds : PySem.Challenge.rw_fewterms_k09_notes_refused.Holds := by
  w_on; o_law; k_head; (case hw => w_witness2)
  k_fill
  refine Pu.walk (l := PySem.Challenge.rw_fewterms_k09_notes_refused) rfl rfl (fun w h Y => PySem.W.kIn_of Y) (fun w => by kernel_rfl) ?F
  case F =>
    intro w mg fa h KX G hmg
    refine' Pu.all_mk KX G hmg ?aC_Saying ?pg_Saying ?hd_Saying ?po_Saying ?sa_Saying ?mk_Saying ?kc_Saying ?na_Saying_either ?na_Saying_lamps ?na_Saying_lit ?aE0 ?tE0 ?bE0 ?cE0 ?sE0 ?kE0 ?aE1 ?tE1 ?bE1 ?cE1 ?sE1 ?kE1 ?aE2 ?tE2 ?bE2 ?cE2 ?sE2 ?aE3 ?tE3 ?bE3 ?cE3 ?sE3 ?aE4 ?tE4 ?bE4 ?cE4 ?sE4 ?kE4 ?oE4 ?saE4 ?rwE4 ?xE0 ?xE1 ?gE4 ?qq4 ?dE4 ?lE4 ?mE4 ?vE4 ?uE4_0 ?uE4_1 ?uE4_2 ?uE4_3 ?nE ?kTE ?aT ?bT ?dT ?tT ?gT ?rT ?vT ?wE4 ?a1 ?i1 ?tf1 ?l1 ?c1 ?k1 ?a2 ?l2 ?c2 ?k2 ?a3 ?l3 ?c3 ?k3 ?a4 ?l4 ?c4 ?k4 ?a5 ?l5 ?c5 ?k5 ?a6 ?l6 ?c6 ?k6 ?a7 ?l7 ?c7 ?k7 ?a8 ?i8 ?l8 ?c8 ?k8 ?y8 ?a9 ?i9 ?l9 ?c9 ?k9 ?a10 ?i10 ?l10 ?c10 ?k10 ?a11 ?i11 ?l11 ?c11 ?k11 ?a12 ?i12 ?l12 ?c12 ?k12 ?a13 ?l13 ?c13 ?k13 ?a14 ?l14 ?c14 ?k14 ?a15 ?l15 ?c15 ?k15 ?a16 ?l16 ?c16 ?k16 ?a17 ?l17 ?c17 ?k17 ?a18 ?l18 ?c18 ?k18 ?a19 ?l19 ?c19 ?k19 ?a20 ?l20 ?c20 ?k20 ?a21 ?l21 ?c21 ?k21 ?a22 ?l22 ?c22 ?k22 ?a23 ?l23 ?c23 ?k23 ?z_ValueError ?z_all ?z_any ?z_bool ?z_enumerate ?z_int ?z_isinstance ?z_len ?z_list ?z_range ?z_set ?z_sorted ?z_str ?z_sum ?r_FIRST ?r_MOST_LAMPS ?r_SIGNS ?r_WORDS ?t_WORDS
    (case aC_Saying => k_is); (case pg_Saying => k_is); (case hd_Saying => k_is); (case po_Saying => k_is); (case sa_Saying => k_is); (case mk_Saying => k_is)
    (case kc_Saying => k_is); (case na_Saying_either => k_is); (case na_Saying_lamps => k_is); (case na_Saying_lit => k_is); (case aE0 => k_is); (case tE0 => k_is)
    (case bE0 => k_is); (case cE0 => k_is); (case sE0 => k_is); (case kE0 => k_is); (case aE1 => k_is); (case tE1 => k_is)
    (case bE1 => k_is); (case cE1 => k_is); (case sE1 => k_is); (case kE1 => k_is); (case aE2 => k_is); (case tE2 => k_is)
    (case bE2 => k_is); (case cE2 => k_is); (case sE2 => k_is); (case aE3 => k_is); (case tE3 => k_is); (case bE3 => k_is)
    (case cE3 => k_is); (case sE3 => k_is); (case aE4 => k_is); (case tE4 => k_is); (case bE4 => k_is); (case cE4 => k_is)
    (case sE4 => k_is); (case kE4 => k_is); (case oE4 => kernel_rfl); (case saE4 => k_is); (case rwE4 => k_is); (case xE0 => k_exc)
    (case xE1 => k_exc); (case gE4 => k_is); (case qq4 => k_is); (case dE4 => k_is); (case lE4 => k_is); (case mE4 => k_is)
    (case vE4 => k_is); (case uE4_0 => k_is); (case uE4_1 => k_is); (case uE4_2 => k_is); (case uE4_3 => k_is); (case nE => k_is)
    (case kTE => k_is); (case aT => k_is); (case bT => k_is); (case dT => k_is); (case tT => k_is); (case gT => k_is)
    (case rT => k_is); (case vT => k_is); (case wE4 => k_is); (case a1 => k_is); (case i1 => k_is); (case tf1 => k_is)
    (case l1 => k_is); (case c1 => k_is); (case k1 => k_is); (case a2 => k_is); (case l2 => k_is); (case c2 => k_is)
    (case k2 => k_is); (case a3 => k_is); (case l3 => k_is); (case c3 => k_is); (case k3 => k_is); (case a4 => k_is)
    (case l4 => k_is); (case c4 => k_is); (case k4 => k_is); (case a5 => k_is); (case l5 => k_is); (case c5 => k_is)
    (case k5 => k_is); (case a6 => k_is); (case l6 => k_is); (case c6 => k_is); (case k6 => k_is); (case a7 => k_is)
    (case l7 => k_is); (case c7 => k_is); (case k7 => k_is); (case a8 => k_is); (case i8 => k_is); (case l8 => k_is)
    (case c8 => k_is); (case k8 => k_is); (case y8 => k_is); (case a9 => k_is); (case i9 => k_is); (case l9 => k_is)
    (case c9 => k_is); (case k9 => k_is); (case a10 => k_is); (case i10 => k_is); (case l10 => k_is); (case c10 => k_is)
    (case k10 => k_is); (case a11 => k_is); (case i11 => k_is); (case l11 => k_is); (case c11 => k_is); (case k11 => k_is)
    (case a12 => k_is); (case i12 => k_is); (case l12 => k_is); (case c12 => k_is); (case k12 => k_is); (case a13 => k_is)
    (case l13 => k_is); (case c13 => k_is); (case k13 => k_is); (case a14 => k_is); (case l14 => k_is); (case c14 => k_is)
    (case k14 => k_is); (case a15 => k_is); (case l15 => k_is); (case c15 => k_is); (case k15 => k_is); (case a16 => k_is)
    (case l16 => k_is); (case c16 => k_is); (case k16 => k_is); (case a17 => k_is); (case l17 => k_is); (case c17 => k_is)
    (case k17 => k_is); (case a18 => k_is); (case l18 => k_is); (case c18 => k_is); (case k18 => k_is); (case a19 => k_is)
    (case l19 => k_is); (case c19 => k_is); (case k19 => k_is); (case a20 => k_is); (case l20 => k_is); (case c20 => k_is)
    (case k20 => k_is); (case a21 => k_is); (case l21 => k_is); (case c21 => k_is); (case k21 => k_is); (case a22 => k_is)
    (case l22 => k_is); (case c22 => k_is); (case k22 => k_is); (case a23 => k_is); (case l23 => k_is); (case c23 => k_is)
    (case k23 => k_is); (case z_ValueError => k_is); (case z_all => k_is); (case z_any => k_is); (case z_bool => k_is); (case z_enumerate => k_is)
    (case z_int => k_is); (case z_isinstance => k_is); (case z_len => k_is); (case z_list => k_is); (case z_range => k_is); (case z_set => k_is)
    (case z_sorted => k_is); (case z_str => k_is); (case z_sum => k_is); (case r_FIRST => k_is); (case r_MOST_LAMPS => k_is); (case r_SIGNS => k_is)
    (case r_WORDS => k_is); (case t_WORDS => k_is)
#print axioms PySem.Challenge.cw_fewterms_k09_notes_refused_holds
