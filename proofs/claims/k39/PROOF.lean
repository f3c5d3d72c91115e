import PyProof.Rows.All
import Wide.All
import OpenK.AllK
import Wide.FinOn
import PySem.Challenge.RW_poleheaps_k39_count_lists_by_sums
import HandS.ForMost
import HandS.Wide
import HandS.Flow
import HandS.Style
import HandS.TupAny
import HandS.TupMul
import HandS.Deep
import HandS.SortInts
import HandS.Zip
import HandS.Iter
import HandS.Walk
import HandS.WordsDict
set_option Elab.async false
set_option linter.all false
set_option maxRecDepth 100000
/-! repr of data whose ints have fewer than 4,300 digits, where the limit of digits stands as it is at the start. -/
namespace PySem
open PyProof.Rows
mutual
def PyData.showB : PyData → Bool
  | .none | .bool _ | .str _ => true
  | .int i => decide (i.natAbs.log2 < 12900)
  | .list xs | .tuple xs => PyData.showBAll xs
  | .dict _ => false
def PyData.showBAll : List PyData → Bool
  | [] => true
  | x :: xs => PyData.showB x && PyData.showBAll xs
end
theorem lt10_of_log2 {n : Nat} (h : n.log2 < 12900) : n < 10 ^ 4300 := Nat.lt_of_lt_of_le (lt_of_log2 h) pow_lo
section
variable {prog : Program} {w : World} {h₀ : Heap}
theorem call_int_reprB {A : Around} {E : Value → Shared → Prop} {s : Shared} {a : Int} {t : Tok} {Q : Value → Shared → Prop} (hn : s.heap.NoDigits) (hlt : a.natAbs < 10 ^ 4300)
    (h1 : Q (.str (toString a) s.toks) { s with toks := s.toks + 1 }) :
    wpAny (model prog w) A (call (.builtin "int.__repr__") [.int a t]) Q E s := by
  refine wpAny_call_entry F.slot_int_repr (typeIs_int s a t) F.entry_int_repr ?_ (F.args_int_repr_1 _)
  unfold Builtin.«int.__repr__»
  show wpAny _ _ (do let r ← Builtin.overDigitLimit? a; _) _ _ s
  refine wpAny_bind (overDigitLimit_any hn (fun _ => ?_) (fun hge => absurd hlt (Nat.not_lt.mpr hge)))
  exact wpAny_bind (wpAny_mkStr (wpAny_pure ⟨_, rfl, h1⟩) (int_text_fits10 hlt))
theorem ReprK.intB {as : List Addr} {d : Nat} {a : Int} {t : Tok} (hd : 1 ≤ d) (hn : h₀.NoDigits) (ha : a.natAbs < 10 ^ 4300) : ReprK prog w as h₀ d (.int a t) (toString a) := by
  intro n hz A g E s Q hg hcl hu hk hQ
  have hn' : n ≤ sizeLine := by omega
  rw [pyReprUnder_leaf (v := .int a t) hn' (fun _ e => nomatch e)]
  unfold pyRepr
  refine wpAny_bind (wpAny_pyReprObj_slot (by omega) (typeIs_int s a t) F.slot_int_repr.toG (call_int_reprB (hn.keeps hk) ha ?_))
  exact ⟨_, _, rfl, wpAny_pure (hQ s.heap _ fun _ _ e => e)⟩
mutual
theorem ReprK.of_readsB (hn : h₀.NoDigits) : ∀ {v : Value} {d : PyData} {as : List Addr}, Reads h₀ v d as → d.showB = true → d.shown.length ≤ sizeLine → ∃ bs, ReadAtMost h₀ d.depth bs ∧ ReprK prog w bs h₀ (d.depth + 1) v d.shown
  | _, _, _, .none, _, _ => ⟨[], (fun _ h => nomatch h), by simp only [PyData.shown]; exact .of_is ReprIs.none _ _ _⟩
  | _, _, _, .bool b, _, _ => ⟨[], (fun _ h => nomatch h), by simp only [PyData.shown]; exact .of_is (ReprIs.bool b) _ _ _⟩
  | _, _, _, .int i t, hs, _ => ⟨[], (fun _ h => nomatch h), by simp only [PyData.shown]; exact ReprK.intB (Nat.le_add_left 1 _) hn (lt10_of_log2 (by simpa [PyData.showB] using hs))⟩
  | _, _, _, .str x t, _, hz => ⟨[], (fun _ h => nomatch h), by simp only [PyData.shown]; exact .of_is (ReprIs.str x t (by simpa only [PyData.shown] using hz)) _ _ _⟩
  | _, _, _, .list (a := a) (vs := vs) (xs := xs) h1 h2 h3 h4, hs, hz => by
    have hz' : (listText (PyData.shownAll xs)).length ≤ sizeLine := by simpa only [PyData.shown] using hz
    obtain ⟨bs, hb, hk⟩ := ReprAllK.of_readsB hn h4 (by simpa [PyData.showB] using hs) (fun t ht => Nat.le_trans (listText_mem_le ht) hz')
    have r : Reads h₀ (.ref a) (.list xs) _ := .list h1 h2 h3 h4
    have hna : a ∉ bs := not_mem_of_deeper r (by simp only [PyData.depth]; omega) hb
    refine ⟨a :: bs, ReadAtMost.cons r (by simp only [PyData.depth]; omega) hb, ?_⟩
    simp only [PyData.depth, PyData.shown]
    obtain ⟨l⟩ := vs
    cases l with
    | nil =>
      have h4' : ReadsAll h₀ [] xs _ := h4
      cases h4'
      simp only [PyData.shownAll, listText_nil]
      exact ReprK.listEmpty h1 h2 h3
    | cons x l =>
      have e : PyData.depthAll xs + 1 + 1 = PyData.depthAll xs + 1 + 1 := rfl
      exact ReprK.list h1 h2 h3 hna (by simpa using hk.length_eq) (fun i y e => hk.item i y (by simpa using e))
  | _, _, _, .tuple (a := a) (xs := xs) h1 h2 h3 h4, hs, hz => by
    have hz' : (tupleText (PyData.shownAll xs)).length ≤ sizeLine := by simpa only [PyData.shown] using hz
    obtain ⟨bs, hb, hk⟩ := ReprAllK.of_readsB hn h4 (by simpa [PyData.showB] using hs) (fun t ht => Nat.le_trans (tupleText_mem_le ht) hz')
    have r : Reads h₀ (.ref a) (.tuple xs) _ := .tuple h1 h2 h3 h4
    have hna : a ∉ bs := not_mem_of_deeper r (by simp only [PyData.depth]; omega) hb
    refine ⟨a :: bs, ReadAtMost.cons r (by simp only [PyData.depth]; omega) hb, ?_⟩
    simp only [PyData.depth, PyData.shown]
    exact ReprK.tuple h1 h2 h3 hna hk
  | _, _, _, .dict h1 h2 h3 h4 h5, hs, _ => by simp [PyData.showB] at hs
theorem ReprAllK.of_readsB (hn : h₀.NoDigits) : ∀ {vs : List Value} {ds : List PyData} {as : List Addr}, ReadsAll h₀ vs ds as → PyData.showBAll ds = true → (∀ t ∈ PyData.shownAll ds, t.length ≤ sizeLine) →
    ∃ bs, ReadAtMost h₀ (PyData.depthAll ds) bs ∧ ReprAllK prog w bs h₀ (PyData.depthAll ds + 1) vs (PyData.shownAll ds)
  | _, _, _, .nil, _, _ => ⟨[], (fun _ h => nomatch h), by simp only [PyData.shownAll]; exact .nil⟩
  | _, _, _, .cons (d := d) (ds := ds) r rs, hs, hz => by
    have hs' : d.showB = true ∧ PyData.showBAll ds = true := by simpa [PyData.showBAll] using hs
    obtain ⟨b1, hb1, k1⟩ := ReprK.of_readsB hn r hs'.1 (hz _ (by simp only [PyData.shownAll]; exact List.mem_cons_self ..))
    obtain ⟨b2, hb2, k2⟩ := ReprAllK.of_readsB hn rs hs'.2 (fun t ht => hz t (by simp only [PyData.shownAll]; exact List.mem_cons_of_mem _ ht))
    refine ⟨b1 ++ b2, ?_, ?_⟩
    · intro b hm
      simp only [PyData.depthAll]
      rcases List.mem_append.mp hm with hm | hm
      · obtain ⟨d', as', r', hd'⟩ := hb1 b hm
        exact ⟨d', as', r', Nat.le_trans hd' (Nat.le_max_left _ _)⟩
      · obtain ⟨d', as', r', hd'⟩ := hb2 b hm
        exact ⟨d', as', r', Nat.le_trans hd' (Nat.le_max_right _ _)⟩
    · simp only [PyData.depthAll, PyData.shownAll]
      exact .cons ((k1.more fun b hb => List.mem_append_left _ hb).level_le (Nat.add_le_add_right (Nat.le_max_left _ _) 1)) (k2.more_le (fun b hb => List.mem_append_right _ hb) (Nat.add_le_add_right (Nat.le_max_right _ _) 1))
end
/-- the call of repr, of any such data -/
theorem call_reprB {A : Around} {E : Value → Shared → Prop} {s : Shared} {v : Value} {d : PyData} {as : List Addr} {Q : Value → Shared → Prop} (hn : s.heap.NoDigits) (r : Reads s.heap v d as) (hs : d.showB = true) (hg : A.guards = some []) (hu : A.units + (d.depth + 2) < cLine)
    (hQ : ∀ h' u tk, (∀ b o, s.heap.get? b = some o → h'.get? b = some o) → Q (.str d.shown u) { s with heap := h', toks := tk })
    (hsz : d.shown.length ≤ sizeLine) : wpAny (model prog w) A (call (.builtin "repr") [v]) Q E s := by
  cases r with
  | none => exact PySem.P.repr_of_none (by simpa only [PyData.shown] using hQ s.heap _ _ fun _ _ e => e)
  | bool b => exact PySem.P.repr_of_bool (by simpa only [PyData.shown] using hQ s.heap _ _ fun _ _ e => e)
  | int i t => exact call_repr_slot (by omega) (typeIs_int s i t) F.slot_int_repr.toG (call_int_reprB hn (lt10_of_log2 (by simpa [PyData.showB] using hs)) ⟨_, _, rfl, by simpa only [PyData.shown] using hQ s.heap _ _ fun _ _ e => e⟩)
  | str x t => exact PySem.P.repr_of_str (by simpa only [PyData.shown] using hQ s.heap _ _ fun _ _ e => e) (by simpa only [PyData.shown] using hsz)
  | list h1 h2 h3 h4 =>
    rename_i a o vs n xs bs₀
    have hz' : (listText (PyData.shownAll xs)).length ≤ sizeLine := by simpa only [PyData.shown] using hsz
    obtain ⟨bs, hb, hk⟩ := ReprAllK.of_readsB (prog := prog) (w := w) hn h4 (by simpa [PyData.showB] using hs) (fun t ht => Nat.le_trans (listText_mem_le ht) hz')
    have hna : a ∉ bs := not_mem_of_deeper (.list h1 h2 h3 h4) (by simp only [PyData.depth]; omega) hb
    refine call_repr_slot (by omega) ⟨o, h1, h2⟩ F.slot_list_repr.toG ?_
    simp only [PyData.depth] at hu
    simp only [PyData.shown] at hQ
    obtain ⟨l⟩ := vs
    cases l with
    | nil =>
      have h4' : ReadsAll s.heap [] xs _ := h4
      cases h4'
      simp only [PyData.shownAll, listText_nil] at hQ
      exact call_list_repr_empty ⟨o, h1, h2⟩ h1 h3 ⟨_, _, rfl, hQ s.heap _ _ fun _ _ e => e⟩
    | cons x l =>
      exact call_list_reprK (h₀ := s.heap) h1 h2 h3 hna (by simpa using hk.length_eq) (fun i y e => hk.item i y (by simpa using e)) hg (fun b _ => Clear.nil b) (by show A.units + 1 + _ < _; omega) (fun _ _ e => e) (fun h' u tk kk => ⟨_, _, rfl, hQ h' u tk kk⟩) hz'
  | tuple h1 h2 h3 h4 =>
    rename_i a o vs n xs
    have hz' : (tupleText (PyData.shownAll xs)).length ≤ sizeLine := by simpa only [PyData.shown] using hsz
    obtain ⟨bs, hb, hk⟩ := ReprAllK.of_readsB (prog := prog) (w := w) hn h4 (by simpa [PyData.showB] using hs) (fun t ht => Nat.le_trans (tupleText_mem_le ht) hz')
    have hna : a ∉ bs := not_mem_of_deeper (.tuple h1 h2 h3 h4) (by simp only [PyData.depth]; omega) hb
    refine call_repr_slot (by omega) ⟨o, h1, h2⟩ F.slot_tuple_repr ?_
    simp only [PyData.depth] at hu
    simp only [PyData.shown] at hQ
    exact call_tuple_reprK (h₀ := s.heap) h1 h2 h3 hna hk hg (fun b _ => Clear.nil b) (by show A.units + 1 + _ < _; omega) (fun _ _ e => e) (fun h' u tk kk => ⟨_, _, rfl, hQ h' u tk kk⟩) hz'
  | dict h1 h2 h3 h4 h5 => simp [PyData.showB] at hs
end
end PySem

set_option Elab.async false
set_option linter.all false
set_option maxRecDepth 100000
/-! Mini: a small language without positions over pure values, its meaning by weakest preconditions. -/
namespace Mp
open PySem

/-- a value: tuples are values, so are lists that nobody may write (rol: the script); other lists and dicts are cells of the heap -/
inductive M where
  | non | bl (b : Bool) | int (i : Int) | str (s : Str) | tup (xs : List M) | rol (xs : List M) | ref (a : Nat)
/-- what stands in a cell -/
inductive MO where
  | lst (xs : List M)
  | dic (kvs : List (M × M))
abbrev MH := Nat → Option MO
def put (h : MH) (a : Nat) (o : MO) : MH := fun b => if b = a then some o else h b
theorem put_same {h : MH} {a : Nat} {o : MO} : put h a o a = some o := if_pos rfl
theorem put_ne {h : MH} {a b : Nat} {o : MO} (e : b ≠ a) : put h a o b = h b := if_neg e
theorem put_put {h : MH} {a : Nat} {o u : MO} : put (put h a o) a u = put h a u := by
  funext b; unfold put; split <;> rfl
def Sub (h h' : MH) : Prop := ∀ a o, h a = some o → h' a = some o
theorem Sub.refl (h : MH) : Sub h h := fun _ _ e => e
theorem Sub.trans {h h1 h2 : MH} (a : Sub h h1) (b : Sub h1 h2) : Sub h h2 := fun c o e => b c o (a c o e)
theorem Sub.put {h : MH} {a : Nat} {o : MO} (e : h a = none) : Sub h (put h a o) := fun b u q => by
  unfold Mp.put
  split
  · rename_i z; rw [z, e] at q; cases q
  · exact q
theorem Sub.put2 {h h' : MH} {a : Nat} {o : MO} (s : Sub h h') : Sub (Mp.put h a o) (Mp.put h' a o) := fun b u q => by
  unfold Mp.put at q ⊢
  split
  · rename_i z; rw [if_pos z] at q; exact q
  · rename_i z; rw [if_neg z] at q; exact s b u q
theorem Sub.none {h h' : MH} {a : Nat} (s : Sub h h') (e : h' a = none) : h a = none := by
  cases q : h a with
  | none => rfl
  | some o => rw [s a o q] at e; cases e

abbrev SZ : Nat := 16777216

inductive Op where | add | sub | mul | fdiv | mod | pow
  deriving DecidableEq
inductive Cmp where | eq | ne | lt | le | gt | ge | is | isnot | isin | notin
  deriving DecidableEq
/-- built-ins called by name with plain values -/
inductive Bi where | abs | int | len | repr | max2 | min2
  deriving DecidableEq
/-- built-ins that read one sequence -/
inductive Bq where | sum | all | any | max | min | tuple
  deriving DecidableEq
/-- built-ins that make a new list out of a sequence -/
inductive Bl where | list | sorted
  deriving DecidableEq
inductive Me where | append | pop | extend
  deriving DecidableEq

inductive E where
  | nil | cons (e es : E)
  | var (i : Nat) | int (i : Int) | bl (b : Bool) | non | str (s : String) | glob (x : String)
  | op (o : Op) (a b : E) | neg (a : E) | not (a : E)
  | and (a b : E) | or (a b : E) | ife (c a b : E)
  | cmp (o : Cmp) (a b : E) | chain (o p : Cmp) (a b c : E)
  | tup (es : E) | lst (es : E) | ix (a b : E) | sl (a lo hi : E) | rev (a : E) | step2 (a : E)
  | call (f : String) (es : E) | bi (b : Bi) (es : E) | bq (b : Bq) (a : E) | bl1 (b : Bl) (a : E)
  | meth (m : Me) (o es : E)
  | comp (own : List Nat) (t it c e : E)
  | comp2 (own own1 : List Nat) (t it t1 it1 e : E)
  | rng (es : E) | enum (a : E) | zip (a b : E)
inductive S where
  | skip | seq (a b : S) | asg (t e : E) | aug (o : Op) (i : Nat) (e : E) | augS (o : Op) (a i e : E) | expr (e : E) | ret (e : E)
  | iff (c : E) (a b : S) | for_ (t it : E) (b : S) | while_ (c : E) (b : S) | brk | cont | never

/-! ### the meaning of operations on values -/
abbrev KE := M → MH → Prop
def truM (m : M) (h : MH) : Option Bool := match m with
  | .non => some false
  | .bl b => some b
  | .int i => some (decide (i ≠ 0))
  | .str s => if s.length ≤ SZ then some (decide (s.length ≠ 0)) else none
  | .tup xs => some (!xs.isEmpty)
  | .rol xs => some (!xs.isEmpty)
  | .ref a => match h a with
    | some (.lst xs) => some (!xs.isEmpty)
    | some (.dic kvs) => some (!kvs.isEmpty)
    | none => none
/-- bounds under which a product, a power is reckoned -/
def MulOk (i j : Int) : Prop := i.natAbs.log2 + j.natAbs.log2 < 1000000
def DivOk (j : Int) : Prop := 0 < j ∧ j.natAbs.log2 < 9000
def opM (o : Op) (x y : M) (h : MH) (Q : KE) : Prop := match o, x, y with
  | .add, .int i, .int j => Q (.int (i + j)) h
  | .sub, .int i, .int j => Q (.int (i - j)) h
  | .mul, .int i, .int j => MulOk i j ∧ Q (.int (i * j)) h
  | .fdiv, .int i, .int j => DivOk j ∧ Q (.int (i / j)) h
  | .mod, .int i, .int j => 0 < j ∧ Q (.int (i % j)) h
  | .pow, .int i, .int j => (0 ≤ j ∧ j ≤ 1000000 ∧ i.natAbs < 18446744073709551616) ∧ Q (.int (i ^ j.toNat)) h
  | .add, .tup xs, .tup ys => xs.length + ys.length ≤ SZ ∧ Q (.tup (xs ++ ys)) h
  | .mul, .tup xs, .int k => (xs ≠ [] ∧ 2 ≤ k ∧ k ≤ 1000 ∧ xs.length ≤ 1000) ∧ Q (.tup (List.replicate k.toNat xs).flatten) h
  | _, _, _ => False
/-- in place: whole numbers alone -/
def augM (o : Op) (x y : M) (h : MH) (Q : KE) : Prop := match x, y with
  | .int i, .int j => opM o (.int i) (.int j) h Q
  | _, _ => False
/-- data that stands in the heap, read as a tree -/
inductive Dat (h : MH) : M → PyData → Prop where
  | non : Dat h .non .none
  | bl (b : Bool) : Dat h (.bl b) (.bool b)
  | int (i : Int) : Dat h (.int i) (.int i)
  | str (s : Str) : Dat h (.str s) (.str s)
  | tnil : Dat h (.tup []) (.tuple [])
  | tcons {m : M} {d : PyData} {ms : List M} {ds : List PyData} : Dat h m d → Dat h (.tup ms) (.tuple ds) → Dat h (.tup (m :: ms)) (.tuple (d :: ds))
  | lst {a : Nat} {ms : List M} {ds : List PyData} : h a = some (.lst ms) → Dat h (.tup ms) (.tuple ds) → Dat h (.ref a) (.list ds)
  | rol {ms : List M} {ds : List PyData} : Dat h (.tup ms) (.tuple ds) → Dat h (.rol ms) (.list ds)
def isNon : M → Bool
  | .non => true
  | _ => false
def cmpM (o : Cmp) (x y : M) (h : MH) (Q : Bool → Prop) : Prop := match o, x, y with
  | .eq, .int i, .int j => Q (decide (i = j))
  | .ne, .int i, .int j => Q (!decide (i = j))
  | .eq, .str i, .str j => Q (decide (i = j))
  | .ne, .str i, .str j => Q (!decide (i = j))
  | .eq, x, y => ∃ d e, Dat h x d ∧ Dat h y e ∧ SeqAt.shaped d = true ∧ SeqAt.shaped e = true ∧ Q (d.eqv e)
  | .ne, x, y => ∃ d e, Dat h x d ∧ Dat h y e ∧ SeqAt.shaped d = true ∧ SeqAt.shaped e = true ∧ Q (!d.eqv e)
  | .lt, .int i, .int j => Q (decide (i < j))
  | .le, .int i, .int j => Q (decide (i ≤ j))
  | .gt, .int i, .int j => Q (decide (j < i))
  | .ge, .int i, .int j => Q (decide (j ≤ i))
  | .is, x, .non => Q (isNon x)
  | .isnot, x, .non => Q (!isNon x)
  | .isin, x, y => ∃ d ds, Dat h x d ∧ Dat h y (.list ds) ∧ SeqAt.shaped d = true ∧ SeqAt.shaped (.list ds) = true ∧ Q (ds.any fun z => PyData.eqv z d)
  | .notin, x, y => ∃ d ds, Dat h x d ∧ Dat h y (.list ds) ∧ SeqAt.shaped d = true ∧ SeqAt.shaped (.list ds) = true ∧ Q (!ds.any fun z => PyData.eqv z d)
  | _, _, _ => False
def ixM (x y : M) (h : MH) (Q : KE) : Prop := match x, y with
  | .tup xs, .int i => match L2.atI xs i with
    | some v => Q v h
    | none => False
  | .rol xs, .int i => match L2.atI xs i with
    | some v => Q v h
    | none => False
  | .ref a, .int i => match h a with
    | some (.lst xs) => match L2.atI xs i with
      | some v => Q v h
      | none => False
    | _ => False
  | _, _ => False
def setM (x y m : M) (h : MH) (K : MH → Prop) : Prop := match x, y with
  | .ref a, .int i => match h a with
    | some (.lst xs) => match L2.ixN xs.length i with
      | some j => K (put h a (.lst (xs.set j m)))
      | none => False
    | _ => False
  | _, _ => False
def cutM (xs : List M) (lo hi : Option Int) : List M := (xs.drop (HT.sIx xs.length 0 lo)).take (HT.sIx xs.length xs.length hi - HT.sIx xs.length 0 lo)
def every2 : List M → List M
  | [] => []
  | [x] => [x]
  | x :: _ :: r => x :: every2 r
def slM (x : M) (l u : Option Int) (h : MH) (Q : KE) : Prop := match x with
  | .tup xs => Q (.tup (cutM xs l u)) h
  | .ref a => match h a with
    | some (.lst xs) => ∀ p, h p = none → Q (.ref p) (put h p (.lst (cutM xs l u)))
    | _ => False
  | _ => False
def revM (x : M) (h : MH) (Q : KE) : Prop := match x with
  | .tup xs => Q (.tup xs.reverse) h
  | .ref a => match h a with
    | some (.lst xs) => ∀ p, h p = none → Q (.ref p) (put h p (.lst xs.reverse))
    | _ => False
  | _ => False
def step2M (x : M) (h : MH) (Q : KE) : Prop := match x with
  | .ref a => match h a with
    | some (.lst xs) => ∀ p, h p = none → Q (.ref p) (put h p (.lst (every2 xs)))
    | _ => False
  | _ => False
def lenM (x : M) (h : MH) : Option Nat := match x with
  | .tup xs => some xs.length
  | .rol xs => some xs.length
  | .ref a => match h a with
    | some (.lst xs) => some xs.length
    | some (.dic kvs) => some kvs.length
    | none => none
  | _ => none
def biM (b : Bi) (ms : List M) (h : MH) (Q : KE) : Prop := match b, ms with
  | .abs, [.int i] => Q (.int (if i < 0 then -i else i)) h
  | .int, [.int i] => Q (.int i) h
  | .len, [x] => match lenM x h with
    | some n => Q (.int (n : Nat)) h
    | none => False
  | .max2, [.int i, .int j] => Q (.int (if j > i then j else i)) h
  | .min2, [.int i, .int j] => Q (.int (if j < i then j else i)) h
  | .repr, [x] => ∃ d, Dat h x d ∧ (d.showB = true ∧ d.depth ≤ 60 ∧ d.shown.length ≤ SZ) ∧ Q (.str d.shown) h
  | _, _ => False
/-- a sequence's kind: a tuple, a list, a list that nobody may write -/
inductive QK where | t | l | r
  deriving DecidableEq
def QK.isT : QK → Bool
  | .t => true
  | _ => false
def bqM (b : Bq) (k : QK) (ms : List M) (h : MH) (Q : KE) : Prop := match b with
  | .sum => k.isT = false ∧ ∃ ns : List Int, ms = ns.map M.int ∧ Q (.int ns.sum) h
  | .all => k.isT = false ∧ ∃ bs : List Bool, ms = bs.map M.bl ∧ Q (.bl (bs.all id)) h
  | .any => k.isT = false ∧ ∃ bs : List Bool, ms = bs.map M.bl ∧ Q (.bl (bs.any id)) h
  | .max => k.isT = false ∧ ∃ ns : List Int, ms = ns.map M.int ∧ 0 < ns.length ∧ ∀ m, m ∈ ns → (∀ y, y ∈ ns → y ≤ m) → Q (.int m) h
  | .min => k.isT = false ∧ ∃ ns : List Int, ms = ns.map M.int ∧ 0 < ns.length ∧ ∀ m, m ∈ ns → (∀ y, y ∈ ns → m ≤ y) → Q (.int m) h
  | .tuple => Q (.tup ms) h
def blM (b : Bl) (k : QK) (ms : List M) (K : List M → Prop) : Prop := match b with
  | .list => K ms
  | .sorted => k.isT = false ∧ ∃ ns : List Int, ms = ns.map M.int ∧ ∀ ns' : List Int, ns'.Perm ns → ns'.Pairwise (· ≤ ·) → K (ns'.map M.int)
def lstM (x : M) (h : MH) : Prop := match x with
  | .ref a => match h a with
    | some (.lst _) => True
    | _ => False
  | _ => False
def methM (b : Me) (x : M) (ms : List M) (h : MH) (Q : KE) : Prop := match b, x, ms with
  | .append, .ref a, [y] => match h a with
    | some (.lst xs) => xs.length < SZ ∧ Q .non (put h a (.lst (xs ++ [y])))
    | _ => False
  | .pop, .ref a, [] => match h a with
    | some (.lst xs) => match xs.getLast? with
      | some y => Q y (put h a (.lst xs.dropLast))
      | none => False
    | _ => False
  | .extend, .ref a, [.ref b] => match h a, h b with
    | some (.lst xs), some (.lst ys) => xs.length + ys.length ≤ SZ ∧ Q .non (put h a (.lst (xs ++ ys)))
    | _, _ => False
  | _, _, _ => False

/-! ### loops -/
/-- lists that are walked must stay as they are -/
abbrev G := List (Nat × List M)
def gOk : G → MH → Prop
  | [], _ => True
  | p :: g, h => h p.1 = some (.lst p.2) ∧ gOk g h
abbrev Sl := List (Option M)
/-- what follows a sequence: its kind, its items, the lists to be watched -/
abbrev KQ := QK → List M → G → MH → Prop
/-- one turn for each item; behind the last (and ahead of each) the lists walked stand as they were -/
def forI (turn : M → Sl → MH → (Sl → MH → Prop) → Prop) (g : G) (fin : Sl → MH → Prop) : List M → Sl → MH → Prop
  | [], σ, h => gOk g h ∧ fin σ h
  | m :: ms, σ, h => gOk g h ∧ turn m σ h fun σ1 h1 => ∃ h0, Sub h0 h1 ∧ forI turn g fin ms σ1 h0
/-- a comprehension: each item gives one value or none -/
def compI (turn : M → MH → (Option M → MH → Prop) → Prop) (g : G) (fin : List M → MH → Prop) : List M → List M → MH → Prop
  | [], acc, h => gOk g h ∧ fin acc h
  | m :: ms, acc, h => gOk g h ∧ turn m h fun r h1 => ∃ h0, Sub h0 h1 ∧ compI turn g fin ms (match r with | some y => acc ++ [y] | none => acc) h0
def whileI (test : Sl → MH → (Bool → MH → Prop) → Prop) (body : Sl → MH → (Sl → MH → Prop) → Prop) (fin : Sl → MH → Prop) : Nat → Sl → MH → Prop
  | 0, _, _ => False
  | n + 1, σ, h => test σ h fun b h1 => if b = true then body σ h1 fun σ2 h2 => ∃ h0, Sub h0 h2 ∧ whileI test body fin n σ2 h0 else fin σ h1
def wipeM (σ : Sl) : List Nat → Sl
  | [] => σ
  | v :: vs => (wipeM σ vs).set v none
def enumL : Nat → List M → List M
  | _, [] => []
  | n, m :: ms => .tup [.int (n : Nat), m] :: enumL (n + 1) ms
def zipL : List M → List M → List M
  | x :: xs, y :: ys => .tup [x, y] :: zipL xs ys
  | _, _ => []
/-- lo, lo + c, ..: n of them -/
def rngL (lo c : Int) : Nat → List M
  | 0 => []
  | n + 1 => .int lo :: rngL (lo + c) c n
def rngM (ms : List M) (K : List M → Prop) : Prop := match ms with
  | [.int n] => (-4611686018427387904 ≤ n ∧ n < 4611686018427387904) ∧ K (rngL 0 1 n.toNat)
  | [.int a, .int b] => (-4611686018427387904 ≤ a ∧ a < 4611686018427387904 ∧ -4611686018427387904 ≤ b ∧ b < 4611686018427387904) ∧ K (rngL a 1 (b - a).toNat)
  | [.int a, .int b, .int c] => (-4611686018427387904 ≤ a ∧ a < 4611686018427387904 ∧ -4611686018427387904 ≤ b ∧ b < 4611686018427387904) ∧
      ((c = -1 ∧ K (rngL a (-1) (a - b).toNat)) ∨ (0 < c ∧ c < 1073741824 ∧ K (rngL a c ((b - a + c - 1) / c).toNat)))
  | _ => False

/-! ### the meaning of a text -/
abbrev SpM := List M → MH → KE → (String → M → MH → Prop) → Prop
structure Phi where
  fn : String → SpM
  gl : String → Option M
/-- an exception's wish: its class, its place -/
abbrev WM := String → M → Sl → MH → Prop
/-- the readings of one piece of text: as a value, a test, a sequence, what a for walks, arguments, a target, targets -/
structure B where
  v : Sl → MH → KE → Prop
  t : Sl → MH → (Bool → MH → Prop) → Prop
  q : Sl → MH → KQ → Prop
  i : Sl → MH → KQ → Prop
  a : Sl → MH → (List M → MH → Prop) → Prop
  g : M → Sl → MH → (Sl → MH → Prop) → Prop
  gs : List M → Sl → MH → (Sl → MH → Prop) → Prop
def tOfV (v : Sl → MH → KE → Prop) : Sl → MH → (Bool → MH → Prop) → Prop := fun σ h K => v σ h fun m h1 => match truM m h1 with
  | some b => K b h1
  | none => False
def qOfV (v : Sl → MH → KE → Prop) : Sl → MH → KQ → Prop := fun σ h K => v σ h fun m h1 => match m with
  | .tup xs => K .t xs [] h1
  | .rol xs => K .r xs [] h1
  | .ref a => match h1 a with
    | some (.lst xs) => K .l xs [(a, xs)] h1
    | _ => False
  | _ => False
/-- a piece that is a value -/
def B.ofV (v : Sl → MH → KE → Prop) : B := ⟨v, tOfV v, qOfV v, qOfV v, fun _ _ _ => False, fun _ _ _ _ => False, fun _ _ _ _ => False⟩
/-- .. a test of its own -/
def B.ofT (v : Sl → MH → KE → Prop) (t : Sl → MH → (Bool → MH → Prop) → Prop) : B := { B.ofV v with t := t }
/-- a list that is made here -/
def vOfQ (q : Sl → MH → KQ → Prop) : Sl → MH → KE → Prop := fun σ h K => q σ h fun _ xs g h1 => gOk g h1 ∧ ∀ p, h1 p = none → K (.ref p) (put h1 p (.lst xs))
def B.ofQ (q : Sl → MH → KQ → Prop) : B := { B.ofV (vOfQ q) with q := q, i := q }
def B.ofI (i : Sl → MH → KQ → Prop) : B := { B.ofV (fun _ _ _ => False) with q := fun _ _ _ => False, i := i }
def B.ofA (a : Sl → MH → (List M → MH → Prop) → Prop) (gs : List M → Sl → MH → (Sl → MH → Prop) → Prop) : B := { B.ofV (fun _ _ _ => False) with a := a, gs := gs }
/-- whether an expression makes a list of its own, by its form -/
def isL : E → Bool
  | .lst _ => true
  | .comp .. => true
  | .comp2 .. => true
  | .bl1 .. => true
  | .op .add a b => isL a || isL b
  | .op .mul a _ => isL a
  | _ => false
def catQ (a b : B) : Sl → MH → KQ → Prop := fun σ h K => a.q σ h fun k xs g h1 => b.q σ h1 fun k' ys g' h2 => k = .l ∧ k' = .l ∧ gOk g h2 ∧ gOk g' h2 ∧ xs.length + ys.length ≤ SZ ∧ K .l (xs ++ ys) [] h2
def repQ (a b : B) : Sl → MH → KQ → Prop := fun σ h K => a.q σ h fun t xs g h1 => b.v σ h1 fun m h2 => match m with
  | .int k => t = .l ∧ gOk g h2 ∧ (-9223372036854775808 ≤ k ∧ k < 9223372036854775808) ∧ xs.length * k.toNat ≤ SZ ∧ K .l (List.replicate k.toNat xs).flatten [] h2
  | _ => False
def isNonE : E → Bool
  | .non => true
  | _ => false
/-- a bound of a slice; miss: it is left out -/
def bndV (miss : Bool) (v : Sl → MH → KE → Prop) (σ : Sl) (h : MH) (K : Option Int → MH → Prop) : Prop := match miss with
  | true => K none h
  | false => v σ h fun m h1 => match m with | .int i => K (some i) h1 | _ => False
def isNil : E → Bool
  | .nil => true
  | _ => false
def lenE : E → Nat
  | .cons _ es => lenE es + 1
  | _ => 0
/-- one turn of a comprehension; cn: no test -/
def compTurn (t c e : B) (cn : Bool) (σ : Sl) : M → MH → (Option M → MH → Prop) → Prop := fun m h R => t.g m σ h fun σ3 h3 => match cn with
  | true => e.v σ3 h3 fun y h4 => R (some y) h4
  | false => c.t σ3 h3 fun k h4 => if k = true then e.v σ3 h4 (fun y h5 => R (some y) h5) else R none h4
/-- no exception -/
def W0 : WM := fun _ _ _ _ => False
def sem (Φ : Phi) (W : WM) : E → B
  | .nil => B.ofA (fun _ h K => K [] h) (fun ms σ h K => match ms with | [] => K σ h | _ => False)
  | .cons e es => B.ofA (fun σ h K => (sem Φ W e).v σ h fun m h1 => (sem Φ W es).a σ h1 fun ms h2 => K (m :: ms) h2)
      (fun ms σ h K => match ms with | m :: r => (sem Φ W e).g m σ h fun σ1 h1 => (sem Φ W es).gs r σ1 h1 K | [] => False)
  | .var i => { B.ofV (fun σ h K => match σ[i]? with | some (some m) => K m h | _ => False) with g := fun m σ h K => K (σ.set i (some m)) h }
  | .int i => B.ofV fun _ h K => K (.int i) h
  | .bl b => B.ofV fun _ h K => K (.bl b) h
  | .non => B.ofV fun _ h K => K .non h
  | .str s => B.ofV fun _ h K => K (.str (Str.ofString s)) h
  | .glob x => B.ofV fun _ h K => match Φ.gl x with | some m => K m h | none => False
  | .op o a b => match o, isL a, isL b with
    | .add, false, false => B.ofV fun σ h K => (sem Φ W a).v σ h fun x h1 => (sem Φ W b).v σ h1 fun y h2 => match x, y with
      | .ref p, .ref q => match h2 p, h2 q with
        | some (.lst xs), some (.lst ys) => xs.length + ys.length ≤ SZ ∧ ∀ r, h2 r = none → K (.ref r) (put h2 r (.lst (xs ++ ys)))
        | _, _ => False
      | _, _ => opM .add x y h2 K
    | .add, _, _ => B.ofQ (catQ (sem Φ W a) (sem Φ W b))
    | .mul, true, _ => B.ofQ (repQ (sem Φ W a) (sem Φ W b))
    | _, _, _ => B.ofV fun σ h K => (sem Φ W a).v σ h fun x h1 => (sem Φ W b).v σ h1 fun y h2 => opM o x y h2 K
  | .neg a => B.ofV fun σ h K => (sem Φ W a).v σ h fun x h1 => match x with | .int i => K (.int (-i)) h1 | _ => False
  | .not a => B.ofT (fun σ h K => (sem Φ W a).t σ h fun b h1 => K (.bl (!b)) h1) (fun σ h K => (sem Φ W a).t σ h fun b h1 => K (!b) h1)
  | .and a b => B.ofT (fun σ h K => (sem Φ W a).v σ h fun x h1 => match truM x h1 with | some true => (sem Φ W b).v σ h1 K | some false => K x h1 | none => False)
      (fun σ h K => (sem Φ W a).t σ h fun k h1 => if k = true then (sem Φ W b).t σ h1 K else K false h1)
  | .or a b => B.ofT (fun σ h K => (sem Φ W a).v σ h fun x h1 => match truM x h1 with | some true => K x h1 | some false => (sem Φ W b).v σ h1 K | none => False)
      (fun σ h K => (sem Φ W a).t σ h fun k h1 => if k = true then K true h1 else (sem Φ W b).t σ h1 K)
  | .ife c a b => B.ofV fun σ h K => (sem Φ W c).t σ h fun k h1 => if k = true then (sem Φ W a).v σ h1 K else (sem Φ W b).v σ h1 K
  | .cmp o a b => B.ofT (fun σ h K => (sem Φ W a).v σ h fun x h1 => (sem Φ W b).v σ h1 fun y h2 => cmpM o x y h2 fun k => K (.bl k) h2)
      (fun σ h K => (sem Φ W a).v σ h fun x h1 => (sem Φ W b).v σ h1 fun y h2 => cmpM o x y h2 fun k => K k h2)
  | .chain o p a b c => B.ofT (fun σ h K => (sem Φ W a).v σ h fun x h1 => (sem Φ W b).v σ h1 fun y h2 => cmpM o x y h2 fun k => if k = true then (sem Φ W c).v σ h2 fun z h3 => cmpM p y z h3 fun k' => K (.bl k') h3 else K (.bl false) h2)
      (fun σ h K => (sem Φ W a).v σ h fun x h1 => (sem Φ W b).v σ h1 fun y h2 => cmpM o x y h2 fun k => if k = true then (sem Φ W c).v σ h2 fun z h3 => cmpM p y z h3 fun k' => K k' h3 else K false h2)
  | .tup es => { B.ofV (fun σ h K => (sem Φ W es).a σ h fun ms h1 => ms.length ≤ 1000 ∧ K (.tup ms) h1) with
      g := fun m σ h K => match m with | .tup ms => ms.length = lenE es ∧ (sem Φ W es).gs ms σ h K | _ => False }
  | .lst es => B.ofQ fun σ h K => (sem Φ W es).a σ h fun ms h1 => ms.length ≤ 1000 ∧ K .l ms [] h1
  | .ix a b => { B.ofV (fun σ h K => (sem Φ W a).v σ h fun x h1 => (sem Φ W b).v σ h1 fun y h2 => ixM x y h2 K) with
      g := fun m σ h K => (sem Φ W a).v σ h fun x h1 => (sem Φ W b).v σ h1 fun y h2 => setM x y m h2 fun h3 => K σ h3 }
  | .sl a lo hi => B.ofV fun σ h K => (sem Φ W a).v σ h fun x h1 => bndV (isNonE lo) (sem Φ W lo).v σ h1 fun l h2 => bndV (isNonE hi) (sem Φ W hi).v σ h2 fun u h3 => slM x l u h3 K
  | .rev a => B.ofV fun σ h K => (sem Φ W a).v σ h fun x h1 => revM x h1 K
  | .step2 a => B.ofV fun σ h K => (sem Φ W a).v σ h fun x h1 => step2M x h1 K
  | .call f es => B.ofV fun σ h K => (sem Φ W es).a σ h fun ms h1 => Φ.fn f ms h1 K fun c m h2 => W c m σ h2
  | .bi b es => B.ofV fun σ h K => (sem Φ W es).a σ h fun ms h1 => biM b ms h1 K
  | .bq b a => B.ofV fun σ h K => (sem Φ W a).q σ h fun k ms g h1 => gOk g h1 ∧ bqM b k ms h1 K
  | .bl1 b a => B.ofQ fun σ h K => (sem Φ W a).q σ h fun k ms g h1 => gOk g h1 ∧ blM b k ms fun xs => K .l xs [] h1
  | .meth m o es => B.ofV fun σ h K => (sem Φ W o).v σ h fun x h1 => lstM x h1 ∧ (sem Φ W es).a σ h1 fun ms h2 => methM m x ms h2 K
  | .comp own t it c e => B.ofQ fun σ h K => (sem Φ W it).i σ h fun _ ms g h1 => ms.length ≤ SZ ∧
      compI (compTurn (sem Φ W0 t) (sem Φ W0 c) (sem Φ W0 e) (isNil c) (wipeM σ own)) g (fun acc h2 => K .l acc [] h2) ms [] h1
  | .comp2 own own1 t it t1 it1 e => B.ofQ fun _ _ _ => False
  | .rng es => B.ofI fun σ h K => (sem Φ W es).a σ h fun ms h1 => rngM ms fun xs => K .l xs [] h1
  | .enum a => B.ofI fun σ h K => (sem Φ W a).q σ h fun k ms g h1 => k.isT = false ∧ K .l (enumL 0 ms) g h1
  | .zip a b => B.ofI fun σ h K => (sem Φ W a).q σ h fun k xs g h1 => (sem Φ W b).q σ h1 fun k' ys g' h2 => k.isT = k'.isT ∧ gOk g h2 ∧ K .l (zipL xs ys) (g ++ g') h2

structure DM where
  nx : Sl → MH → Prop
  rt : KE
  bk : Sl → MH → Prop := fun _ _ => False
  ct : Sl → MH → Prop := fun _ _ => False
def wS (Φ : Phi) (W : WM) : S → DM → Sl → MH → Prop
  | .skip, D, σ, h => D.nx σ h
  | .seq a b, D, σ, h => wS Φ W a { D with nx := fun σ1 h1 => ∃ h0, Sub h0 h1 ∧ wS Φ W b D σ1 h0 } σ h
  | .asg t e, D, σ, h => (sem Φ W e).v σ h fun m h1 => (sem Φ W t).g m σ h1 D.nx
  | .aug o i e, D, σ, h => match σ[i]? with
    | some (some x) => (sem Φ W e).v σ h fun y h1 => augM o x y h1 fun z h2 => D.nx (σ.set i (some z)) h2
    | _ => False
  | .augS o a i e, D, σ, h => (sem Φ W a).v σ h fun x h1 => (sem Φ W i).v σ h1 fun y h2 => ixM x y h2 fun z h3 => (sem Φ W e).v σ h3 fun u h4 => augM o z u h4 fun r h5 => setM x y r h5 fun h6 => D.nx σ h6
  | .expr e, D, σ, h => (sem Φ W e).v σ h fun _ h1 => D.nx σ h1
  | .ret e, D, σ, h => (sem Φ W e).v σ h D.rt
  | .iff c a b, D, σ, h => (sem Φ W c).t σ h fun k h1 => if k = true then wS Φ W a D σ h1 else wS Φ W b D σ h1
  | .for_ t it b, D, σ, h => (sem Φ W it).i σ h fun _ ms g h1 =>
      forI (fun m σ2 h2 nx => (sem Φ W t).g m σ2 h2 fun σ3 h3 => wS Φ W b { D with nx := nx, ct := nx, bk := D.nx } σ3 h3) g D.nx ms σ h1
  | .while_ c b, D, σ, h => ∃ n, whileI (sem Φ W c).t (fun σ2 h2 nx => wS Φ W b { D with nx := nx, ct := nx, bk := D.nx } σ2 h2) D.nx n σ h
  | .brk, D, σ, h => D.bk σ h
  | .cont, D, σ, h => D.ct σ h
  | .never, _, _, _ => False
/-- a def's body keeps a promise -/
def startM (n : Nat) (ms : List M) : Sl := ms.map some ++ List.replicate (n - ms.length) none
def Keeps (Φ : Phi) (n : Nat) (body : S) (sp : SpM) : Prop :=
  ∀ ms h Q, sp ms h Q (fun _ _ _ => False) → wS Φ W0 body { nx := fun _ h1 => ∃ h0, Sub h0 h1 ∧ Q .non h0, rt := fun m h1 => ∃ h0, Sub h0 h1 ∧ Q m h0 } (startM n ms) h
end Mp

set_option Elab.async false
set_option linter.all false
set_option maxRecDepth 100000
/-! Mini: values and heaps of the model as Mini sees them; the meaning is monotone. -/
namespace Mp
open PySem L2

/-- a list that nobody may write: known to the object, or of the module -/
def SqR (K : PySem.W.Frag) (H : Hp) (a : Addr) (xs : List V) : Prop :=
  (∃ o, H a = some (.frz o (.lst xs))) ∨
    ∃ (o : Obj) (its : Array Value) (n : Nat), K.lookup a = some o ∧ o.cls = .type "list" ∧ o.dict = none ∧ o.data = .seq its n ∧ its.size ≤ sizeLine ∧ Vals xs its.toList
mutual
inductive Rp (K : PySem.W.Frag) (H : Hp) : V → M → Prop where
  | non : Rp K H .non .non
  | bl (b : Bool) : Rp K H (.bl b) (.bl b)
  | int (i : Int) : Rp K H (.int i) (.int i)
  | str (s : Str) : Rp K H (.str s) (.str s)
  | ref (a : Addr) : Rp K H (.ref a) (.ref a)
  | tup {a : Addr} {vs : List V} {ms : List M} : SqT K H a vs → RpAll K H vs ms → Rp K H (.ref a) (.tup ms)
  | rol {a : Addr} {vs : List V} {ms : List M} : SqR K H a vs → RpAll K H vs ms → Rp K H (.ref a) (.rol ms)
inductive RpAll (K : PySem.W.Frag) (H : Hp) : List V → List M → Prop where
  | nil : RpAll K H [] []
  | cons {v : V} {m : M} {vs : List V} {ms : List M} : Rp K H v m → RpAll K H vs ms → RpAll K H (v :: vs) (m :: ms)
end
theorem SqR.l {K : PySem.W.Frag} {H : Hp} {a : Addr} {xs : List V} (h : SqR K H a xs) : SqL K H a xs := by
  rcases h with h | h
  · exact .inl (.inr h)
  · exact .inr h
def keyM : Key → M
  | .inl i => .int i
  | .inr s => .str s
inductive RpKv (K : PySem.W.Frag) (H : Hp) : List (Key × V) → List (M × M) → Prop where
  | nil : RpKv K H [] []
  | cons {k : Key} {v : V} {m : M} {vs : List (Key × V)} {ms : List (M × M)} : Rp K H v m → RpKv K H vs ms → RpKv K H ((k, v) :: vs) ((keyM k, m) :: ms)
def SimO (K : PySem.W.Frag) (H : Hp) (a : Addr) : MO → Prop
  | .lst ms => ∃ vs, H a = some (.lst vs) ∧ RpAll K H vs ms
  | .dic kvs => ∃ vs, H a = some (.dK vs) ∧ RpKv K H vs kvs
/-- all that Mini knows of the heap holds -/
def Sim (K : PySem.W.Frag) (h : MH) (H : Hp) : Prop := ∀ a o, h a = some o → SimO K H a o
/-- what Mini does not know is as it was, and is not known afterwards -/
structure Frm (h : MH) (H : Hp) (h' : MH) (H' : Hp) : Prop where
  keep : ∀ a o, H a = some o → h a = none → H' a = some o ∧ h' a = none
  dom : ∀ a, H' a = none → H a = none
theorem Frm.refl (h : MH) (H : Hp) : Frm h H h H := ⟨fun _ _ e n => ⟨e, n⟩, fun _ e => e⟩
theorem Frm.trans {h h1 h2 : MH} {H H1 H2 : Hp} (a : Frm h H h1 H1) (b : Frm h1 H1 h2 H2) : Frm h H h2 H2 := ⟨fun c o e n =>
  let ⟨e1, n1⟩ := a.keep c o e n
  b.keep c o e1 n1, fun c e => a.dom c (b.dom c e)⟩
theorem Sim.sub {K : PySem.W.Frag} {h h' : MH} {H : Hp} (s : Sim K h' H) (e : Sub h h') : Sim K h H := fun a o q => s a o (e a o q)
theorem Frm.sub {h h1 h2 : MH} {H H1 : Hp} (s : Frm h H h1 H1) (e : Sub h2 h1) : Frm h H h2 H1 := ⟨fun a o q n => let ⟨q1, n1⟩ := s.keep a o q n; ⟨q1, e.none n1⟩, s.dom⟩
section
variable {K : PySem.W.Frag} {h h' : MH} {H H' : Hp}
theorem RpAll.length : ∀ {vs : List V} {ms : List M}, RpAll K H vs ms → vs.length = ms.length
  | _, _, .nil => rfl
  | _, _, .cons _ t => congrArg (· + 1) t.length
theorem RpAll.get : ∀ {vs : List V} {ms : List M} {i : Nat} {m : M}, RpAll K H vs ms → ms[i]? = some m → ∃ v, vs[i]? = some v ∧ Rp K H v m
  | _, _, _, _, .nil, e => by simp at e
  | _, _, 0, _, .cons r _, e => by simp at e; subst e; exact ⟨_, rfl, r⟩
  | _, _, i + 1, m, .cons _ t, e => by
    obtain ⟨v, h1, h2⟩ := RpAll.get (i := i) (m := m) t (by simpa using e)
    exact ⟨v, by simpa using h1, h2⟩
theorem RpAll.getV : ∀ {vs : List V} {ms : List M} {i : Nat} {v : V}, RpAll K H vs ms → vs[i]? = some v → ∃ m, ms[i]? = some m ∧ Rp K H v m
  | _, _, _, _, .nil, e => by simp at e
  | _, _, 0, _, .cons r _, e => by simp at e; subst e; exact ⟨_, rfl, r⟩
  | _, _, i + 1, v, .cons _ t, e => by
    obtain ⟨m, h1, h2⟩ := RpAll.getV (i := i) (v := v) t (by simpa using e)
    exact ⟨m, by simpa using h1, h2⟩
theorem RpAll.append : ∀ {vs ws : List V} {ms ns : List M}, RpAll K H vs ms → RpAll K H ws ns → RpAll K H (vs ++ ws) (ms ++ ns)
  | _, _, _, _, .nil, s => s
  | _, _, _, _, .cons r t, s => .cons r (t.append s)
theorem RpAll.set {v : V} {m : M} (r : Rp K H v m) : ∀ {vs : List V} {ms : List M} (i : Nat), RpAll K H vs ms → RpAll K H (vs.set i v) (ms.set i m)
  | _, _, _, .nil => .nil
  | _, _, 0, .cons _ t => .cons r t
  | _, _, i + 1, .cons q t => .cons q (t.set r i)
theorem RpAll.take : ∀ {vs : List V} {ms : List M} (n : Nat), RpAll K H vs ms → RpAll K H (vs.take n) (ms.take n)
  | _, _, 0, _ => .nil
  | _, _, _ + 1, .nil => .nil
  | _, _, n + 1, .cons r t => .cons r (t.take n)
theorem RpAll.drop : ∀ {vs : List V} {ms : List M} (n : Nat), RpAll K H vs ms → RpAll K H (vs.drop n) (ms.drop n)
  | _, _, 0, r => r
  | _, _, _ + 1, .nil => .nil
  | _, _, n + 1, .cons _ t => t.drop n
theorem RpAll.reverse : ∀ {vs : List V} {ms : List M}, RpAll K H vs ms → RpAll K H vs.reverse ms.reverse
  | _, _, .nil => .nil
  | _, _, .cons r t => by
    rw [List.reverse_cons, List.reverse_cons]
    exact t.reverse.append (.cons r .nil)
theorem RpAll.dropLast : ∀ {vs : List V} {ms : List M}, RpAll K H vs ms → RpAll K H vs.dropLast ms.dropLast
  | _, _, .nil => .nil
  | _, _, .cons r .nil => .nil
  | _, _, .cons r (.cons q t) => .cons r (RpAll.dropLast (.cons q t))
theorem RpAll.rep : ∀ {vs : List V} {ms : List M} (n : Nat), RpAll K H vs ms → RpAll K H (List.replicate n vs).flatten (List.replicate n ms).flatten
  | _, _, 0, _ => .nil
  | _, _, n + 1, r => by
    rw [List.replicate_succ, List.replicate_succ, List.flatten_cons, List.flatten_cons]
    exact r.append (r.rep n)

mutual
theorem Rp.to {v : V} {m : M} (tu : ∀ a vs, SqT K H a vs → SqT K H' a vs) (ro : ∀ a vs, SqR K H a vs → SqR K H' a vs) : Rp K H v m → Rp K H' v m
  | .non => .non
  | .bl b => .bl b
  | .int i => .int i
  | .str s => .str s
  | .ref a => .ref a
  | .tup a b => .tup (tu _ _ a) (RpAll.to tu ro b)
  | .rol a b => .rol (ro _ _ a) (RpAll.to tu ro b)
theorem RpAll.to {vs : List V} {ms : List M} (tu : ∀ a vs, SqT K H a vs → SqT K H' a vs) (ro : ∀ a vs, SqR K H a vs → SqR K H' a vs) : RpAll K H vs ms → RpAll K H' vs ms
  | .nil => .nil
  | .cons r t => .cons (Rp.to tu ro r) (RpAll.to tu ro t)
end
theorem RpKv.to (tu : ∀ a vs, SqT K H a vs → SqT K H' a vs) (ro : ∀ a vs, SqR K H a vs → SqR K H' a vs) : ∀ {vs : List (Key × V)} {ms : List (M × M)}, RpKv K H vs ms → RpKv K H' vs ms
  | _, _, .nil => .nil
  | _, _, .cons r t => .cons (r.to tu ro) (t.to tu ro)
theorem SimO.to (tu : ∀ a vs, SqT K H a vs → SqT K H' a vs) (ro : ∀ a vs, SqR K H a vs → SqR K H' a vs) {a : Addr} {o : MO} (e : H' a = H a) (s : SimO K H a o) : SimO K H' a o := by
  cases o with
  | lst ms => obtain ⟨vs, q, r⟩ := s; exact ⟨vs, e.trans q, r.to tu ro⟩
  | dic kvs => obtain ⟨vs, q, r⟩ := s; exact ⟨vs, e.trans q, r.to tu ro⟩
/-- what is read only is not among Mini's cells -/
theorem Sim.notT (s : Sim K h H) {a : Addr} {u : HO} (e : H a = some u) (hu : (∀ vs, u ≠ .lst vs) ∧ ∀ vs, u ≠ .dK vs) : h a = none := by
  cases q : h a with
  | none => rfl
  | some o =>
    have := s a o q
    cases o with
    | lst ms => obtain ⟨vs, z, _⟩ := this; rw [e] at z; cases z; exact absurd rfl (hu.1 _)
    | dic kvs => obtain ⟨vs, z, _⟩ := this; rw [e] at z; cases z; exact absurd rfl (hu.2 _)
theorem Frm.tups (s : Sim K h H) (f : Frm h H h' H') (a : Addr) (vs : List V) (t : SqT K H a vs) : SqT K H' a vs := by
  rcases t with (t | ⟨o, t⟩) | t
  · exact .inl (.inl (f.keep a _ t (s.notT t ⟨fun _ z => (nomatch z), fun _ z => (nomatch z)⟩)).1)
  · exact .inl (.inr ⟨o, (f.keep a _ t (s.notT t ⟨fun _ z => (nomatch z), fun _ z => (nomatch z)⟩)).1⟩)
  · exact .inr t
theorem Frm.rols (s : Sim K h H) (f : Frm h H h' H') (a : Addr) (vs : List V) (t : SqR K H a vs) : SqR K H' a vs := by
  rcases t with ⟨o, t⟩ | t
  · exact .inl ⟨o, (f.keep a _ t (s.notT t ⟨fun _ z => (nomatch z), fun _ z => (nomatch z)⟩)).1⟩
  · exact .inr t
theorem Rp.frm {v : V} {m : M} (r : Rp K H v m) (s : Sim K h H) (f : Frm h H h' H') : Rp K H' v m := r.to (f.tups s) (f.rols s)
theorem RpAll.frm {vs : List V} {ms : List M} (r : RpAll K H vs ms) (s : Sim K h H) (f : Frm h H h' H') : RpAll K H' vs ms := r.to (f.tups s) (f.rols s)
/-- a new cell -/
theorem upd_free_tups {p : Addr} {o : HO} (e : H p = none) (a : Addr) (vs : List V) (t : SqT K H a vs) : SqT K (upd H p o) a vs := by
  rcases t with (t | ⟨u, t⟩) | t
  · exact .inl (.inl (by rw [upd_ne (ne_of_none t e)]; exact t))
  · exact .inl (.inr ⟨u, by rw [upd_ne (ne_of_none t e)]; exact t⟩)
  · exact .inr t
theorem upd_free_rols {p : Addr} {o : HO} (e : H p = none) (a : Addr) (vs : List V) (t : SqR K H a vs) : SqR K (upd H p o) a vs := by
  rcases t with ⟨u, t⟩ | t
  · exact .inl ⟨u, by rw [upd_ne (ne_of_none t e)]; exact t⟩
  · exact .inr t
theorem Rp.free {v : V} {m : M} {p : Addr} {o : HO} (r : Rp K H v m) (e : H p = none) : Rp K (upd H p o) v m := r.to (upd_free_tups e) (upd_free_rols e)
theorem RpAll.free {v : List V} {m : List M} {p : Addr} {o : HO} (r : RpAll K H v m) (e : H p = none) : RpAll K (upd H p o) v m := r.to (upd_free_tups e) (upd_free_rols e)
theorem Sim.free (s : Sim K h H) {p : Addr} (e : H p = none) : h p = none := by
  cases q : h p with
  | none => rfl
  | some o =>
    have := s p o q
    cases o with
    | lst ms => obtain ⟨vs, z, _⟩ := this; rw [e] at z; cases z
    | dic kvs => obtain ⟨vs, z, _⟩ := this; rw [e] at z; cases z
/-- an object laid at a free place that Mini does not know -/
theorem Sim.laid0 (s : Sim K h H) {p : Addr} {u : HO} (e : H p = none) : Sim K h (upd H p u) := fun a o q =>
  (s a o q).to (upd_free_tups e) (upd_free_rols e) (upd_ne (fun z => by rw [z, s.free e] at q; cases q))
theorem Frm.laid0 {p : Addr} {u : HO} (e : H p = none) : Frm h H h (upd H p u) := ⟨fun a o q n => ⟨by rw [upd_ne (ne_of_none q e)]; exact q, n⟩, fun a q => by
    by_cases z : a = p
    · rw [z]; exact e
    · rw [upd_ne z] at q; exact q⟩
/-- .. that Mini knows -/
theorem Sim.laid (s : Sim K h H) {p : Addr} {u : HO} {o : MO} (e : H p = none) (n : SimO K (upd H p u) p o) : Sim K (put h p o) (upd H p u) := fun a o' q => by
  by_cases z : a = p
  · subst z; rw [put_same] at q; cases q; exact n
  · rw [put_ne z] at q; exact s.laid0 e a o' q
theorem Frm.laid {p : Addr} {u : HO} {o : MO} (e : H p = none) : Frm h H (put h p o) (upd H p u) := ⟨fun a o q n => by
  have z := ne_of_none q e
  exact ⟨by rw [upd_ne z]; exact q, by rw [put_ne z]; exact n⟩, (Frm.laid0 (h := h) e).dom⟩
/-- a cell written -/
theorem upd_cell_tups {p : Addr} {o u : HO} (e : H p = some u) (hu : (∃ vs, u = .lst vs) ∨ ∃ vs, u = .dK vs) (a : Addr) (vs : List V) (t : SqT K H a vs) : SqT K (upd H p o) a vs := by
  have d : ∀ x, H a = some x → (∀ vs, x ≠ .lst vs) → (∀ vs, x ≠ .dK vs) → a ≠ p := fun x q h1 h2 z => by
    rw [z, e] at q; cases q
    rcases hu with ⟨vs, rfl⟩ | ⟨vs, rfl⟩
    · exact h1 _ rfl
    · exact h2 _ rfl
  rcases t with (t | ⟨w, t⟩) | t
  · exact .inl (.inl (by rw [upd_ne (d _ t (fun _ z => (nomatch z)) fun _ z => (nomatch z))]; exact t))
  · exact .inl (.inr ⟨w, by rw [upd_ne (d _ t (fun _ z => (nomatch z)) fun _ z => (nomatch z))]; exact t⟩)
  · exact .inr t
theorem upd_cell_rols {p : Addr} {o u : HO} (e : H p = some u) (hu : (∃ vs, u = .lst vs) ∨ ∃ vs, u = .dK vs) (a : Addr) (vs : List V) (t : SqR K H a vs) : SqR K (upd H p o) a vs := by
  rcases t with ⟨w, t⟩ | t
  · refine .inl ⟨w, ?_⟩
    rw [upd_ne]
    · exact t
    · intro z
      rw [z, e] at t; cases t
      rcases hu with ⟨vs, q⟩ | ⟨vs, q⟩ <;> cases q
  · exact .inr t
theorem Sim.cell (s : Sim K h H) {p : Addr} {o : MO} (e : h p = some o) : ∃ u, H p = some u ∧ ((∃ vs, u = .lst vs) ∨ ∃ vs, u = .dK vs) := by
  have := s p o e
  cases o with
  | lst ms => obtain ⟨vs, z, _⟩ := this; exact ⟨_, z, .inl ⟨_, rfl⟩⟩
  | dic kvs => obtain ⟨vs, z, _⟩ := this; exact ⟨_, z, .inr ⟨_, rfl⟩⟩
theorem Sim.wrote (s : Sim K h H) {p : Addr} {o o' : MO} {u' : HO} (e : h p = some o) (n : SimO K (upd H p u') p o') : Sim K (put h p o') (upd H p u') := fun a w q => by
  obtain ⟨u, eu, hu⟩ := s.cell e
  by_cases z : a = p
  · subst z; rw [put_same] at q; cases q; exact n
  · rw [put_ne z] at q
    exact (s a w q).to (upd_cell_tups eu hu) (upd_cell_rols eu hu) (upd_ne z)
theorem Frm.wrote {p : Addr} {o o' : MO} {u' : HO} (e : h p = some o) : Frm h H (put h p o') (upd H p u') := ⟨fun a w q n => by
  have z : a ≠ p := fun z => by rw [z, e] at n; cases n
  exact ⟨by rw [upd_ne z]; exact q, by rw [put_ne z]; exact n⟩, fun a q => by
    by_cases z : a = p
    · rw [z, upd_same] at q; cases q
    · rw [upd_ne z] at q; exact q⟩
theorem Rp.cell {v : V} {m : M} {p : Addr} {o : MO} {u' : HO} (r : Rp K H v m) (s : Sim K h H) (e : h p = some o) : Rp K (upd H p u') v m := by
  obtain ⟨u, eu, hu⟩ := s.cell e
  exact r.to (upd_cell_tups eu hu) (upd_cell_rols eu hu)
theorem RpAll.cell {v : List V} {m : List M} {p : Addr} {o : MO} {u' : HO} (r : RpAll K H v m) (s : Sim K h H) (e : h p = some o) : RpAll K (upd H p u') v m := by
  obtain ⟨u, eu, hu⟩ := s.cell e
  exact r.to (upd_cell_tups eu hu) (upd_cell_rols eu hu)
end
/-- the slots -/
structure RpS (K : PySem.W.Frag) (H : Hp) (s : L2.St) (σ : Sl) : Prop where
  len : σ.length = s.length
  at' : ∀ (i : Nat) (m : M), σ[i]? = some (some m) → ∃ v, s[i]? = some (some v) ∧ Rp K H v m
section
variable {K : PySem.W.Frag} {h h' : MH} {H H' : Hp} {s : L2.St} {σ : Sl}
theorem RpS.frm (r : RpS K H s σ) (q : Sim K h H) (f : Frm h H h' H') : RpS K H' s σ := ⟨r.len, fun i m e => let ⟨v, e1, e2⟩ := r.at' i m e; ⟨v, e1, e2.frm q f⟩⟩
theorem RpS.set (r : RpS K H s σ) {v : V} {m : M} (i : Nat) (e : Rp K H v m) : RpS K H (s.set i (some v)) (σ.set i (some m)) := by
  refine ⟨by rw [List.length_set, List.length_set]; exact r.len, fun j x q => ?_⟩
  by_cases hj : i = j
  · subst hj
    by_cases hi : i < σ.length
    · rw [List.getElem?_set_self hi] at q
      cases q
      exact ⟨v, List.getElem?_set_self (by rw [← r.len]; exact hi), e⟩
    · rw [List.getElem?_eq_none (by simpa using hi)] at q; cases q
  · rw [List.getElem?_set_ne hj] at q ⊢
    exact r.at' j x q
theorem RpS.setN (r : RpS K H s σ) (i : Nat) : RpS K H (s.set i none) (σ.set i none) := by
  refine ⟨by rw [List.length_set, List.length_set]; exact r.len, fun j x q => ?_⟩
  by_cases hj : i = j
  · subst hj
    by_cases hi : i < σ.length
    · rw [List.getElem?_set_self hi] at q; cases q
    · rw [List.getElem?_eq_none (by simpa using hi)] at q; cases q
  · rw [List.getElem?_set_ne hj] at q ⊢
    exact r.at' j x q
theorem RpS.wipe (r : RpS K H s σ) : ∀ vs : List Nat, RpS K H (wipe s vs) (wipeM σ vs)
  | [] => r
  | v :: vs => (r.wipe vs).setN v
end

/-! ### monotone -/
theorem forI_mono {turn turn' : M → Sl → MH → (Sl → MH → Prop) → Prop} {g : G} {fin fin' : Sl → MH → Prop}
    (ht : ∀ m σ h (K K' : Sl → MH → Prop), (∀ σ h, K σ h → K' σ h) → turn m σ h K → turn' m σ h K') (hf : ∀ σ h, fin σ h → fin' σ h) : ∀ ms σ h, forI turn g fin ms σ h → forI turn' g fin' ms σ h
  | [], σ, h, q => ⟨q.1, hf _ _ q.2⟩
  | m :: ms, σ, h, q => ⟨q.1, ht _ _ _ _ _ (fun σ1 h1 ⟨h0, s, w⟩ => ⟨h0, s, forI_mono ht hf ms σ1 h0 w⟩) q.2⟩
theorem compI_mono {turn : M → MH → (Option M → MH → Prop) → Prop} {g : G} {fin fin' : List M → MH → Prop}
    (ht : ∀ m h (K K' : Option M → MH → Prop), (∀ r h, K r h → K' r h) → turn m h K → turn m h K') (hf : ∀ a h, fin a h → fin' a h) : ∀ ms acc h, compI turn g fin ms acc h → compI turn g fin' ms acc h
  | [], acc, h, q => ⟨q.1, hf _ _ q.2⟩
  | m :: ms, acc, h, q => ⟨q.1, ht _ _ _ _ (fun r h1 ⟨h0, s, w⟩ => ⟨h0, s, compI_mono ht hf ms _ h0 w⟩) q.2⟩
theorem whileI_mono {test : Sl → MH → (Bool → MH → Prop) → Prop} {body body' : Sl → MH → (Sl → MH → Prop) → Prop} {fin fin' : Sl → MH → Prop}
    (ht : ∀ σ h (K K' : Bool → MH → Prop), (∀ b h, K b h → K' b h) → test σ h K → test σ h K') (hb : ∀ σ h (K K' : Sl → MH → Prop), (∀ σ h, K σ h → K' σ h) → body σ h K → body' σ h K')
    (hf : ∀ σ h, fin σ h → fin' σ h) : ∀ n σ h, whileI test body fin n σ h → whileI test body' fin' n σ h
  | 0, _, _, q => q.elim
  | n + 1, σ, h, q => ht _ _ _ _ (fun b h1 w => by
      cases b with
      | true => rw [if_pos rfl] at w ⊢; exact hb _ _ _ _ (fun σ2 h2 ⟨h0, s, w⟩ => ⟨h0, s, whileI_mono ht hb hf n σ2 h0 w⟩) w
      | false => rw [if_neg Bool.false_ne_true] at w ⊢; exact hf _ _ w) q
/-- a bundle is monotone in what follows -/
structure B.Mono (b : B) : Prop where
  v : ∀ σ h (K K' : KE), (∀ m h, K m h → K' m h) → b.v σ h K → b.v σ h K'
  t : ∀ σ h (K K' : Bool → MH → Prop), (∀ m h, K m h → K' m h) → b.t σ h K → b.t σ h K'
  q : ∀ σ h (K K' : KQ), (∀ k m g h, K k m g h → K' k m g h) → b.q σ h K → b.q σ h K'
  i : ∀ σ h (K K' : KQ), (∀ k m g h, K k m g h → K' k m g h) → b.i σ h K → b.i σ h K'
  a : ∀ σ h (K K' : List M → MH → Prop), (∀ m h, K m h → K' m h) → b.a σ h K → b.a σ h K'
  g : ∀ m σ h (K K' : Sl → MH → Prop), (∀ σ h, K σ h → K' σ h) → b.g m σ h K → b.g m σ h K'
  gs : ∀ m σ h (K K' : Sl → MH → Prop), (∀ σ h, K σ h → K' σ h) → b.gs m σ h K → b.gs m σ h K'
def VMono (v : Sl → MH → KE → Prop) : Prop := ∀ σ h (K K' : KE), (∀ m h, K m h → K' m h) → v σ h K → v σ h K'
def QMono (v : Sl → MH → KQ → Prop) : Prop := ∀ σ h (K K' : KQ), (∀ k m g h, K k m g h → K' k m g h) → v σ h K → v σ h K'
theorem tOfV_mono {v : Sl → MH → KE → Prop} (hv : VMono v) : ∀ σ h (K K' : Bool → MH → Prop), (∀ m h, K m h → K' m h) → tOfV v σ h K → tOfV v σ h K' := fun σ h K K' f q =>
  hv _ _ _ _ (fun m h1 w => by
    show match truM m h1 with | some b => K' b h1 | none => False
    cases e : truM m h1 with
    | none => rw [e] at w; exact w
    | some b => rw [e] at w; exact f _ _ w) q
theorem qOfV_mono {v : Sl → MH → KE → Prop} (hv : VMono v) : QMono (qOfV v) := fun σ h K K' f q =>
  hv _ _ _ _ (fun m h1 w => by
    cases m with
    | tup xs => exact f _ _ _ _ w
    | rol xs => exact f _ _ _ _ w
    | ref a =>
      show match h1 a with | some (.lst xs) => K' .l xs [(a, xs)] h1 | _ => False
      have w' : match h1 a with | some (.lst xs) => K .l xs [(a, xs)] h1 | _ => False := w
      cases e : h1 a with
      | none => rw [e] at w'; exact w'
      | some o =>
        rw [e] at w'
        cases o with
        | lst xs => exact f _ _ _ _ w'
        | dic _ => exact w'
    | _ => exact w) q
theorem vOfQ_mono {q : Sl → MH → KQ → Prop} (hq : QMono q) : VMono (vOfQ q) := fun σ h K K' f w =>
  hq _ _ _ _ (fun k xs g h1 ⟨a, b⟩ => ⟨a, fun p e => f _ _ (b p e)⟩) w
theorem B.Mono.ofV {v : Sl → MH → KE → Prop} (hv : VMono v) : (B.ofV v).Mono :=
  ⟨hv, tOfV_mono hv, qOfV_mono hv, qOfV_mono hv, fun _ _ _ _ _ q => q, fun _ _ _ _ _ _ q => q, fun _ _ _ _ _ _ q => q⟩
theorem B.Mono.ofT {v : Sl → MH → KE → Prop} {t : Sl → MH → (Bool → MH → Prop) → Prop} (hv : VMono v) (ht : ∀ σ h (K K' : Bool → MH → Prop), (∀ m h, K m h → K' m h) → t σ h K → t σ h K') : (B.ofT v t).Mono :=
  ⟨hv, ht, qOfV_mono hv, qOfV_mono hv, fun _ _ _ _ _ q => q, fun _ _ _ _ _ _ q => q, fun _ _ _ _ _ _ q => q⟩
theorem B.Mono.ofQ {q : Sl → MH → KQ → Prop} (hq : QMono q) : (B.ofQ q).Mono :=
  ⟨vOfQ_mono hq, tOfV_mono (vOfQ_mono hq), hq, hq, fun _ _ _ _ _ q => q, fun _ _ _ _ _ _ q => q, fun _ _ _ _ _ _ q => q⟩
theorem B.Mono.ofI {q : Sl → MH → KQ → Prop} (hq : QMono q) : (B.ofI q).Mono :=
  ⟨fun _ _ _ _ _ q => q, tOfV_mono (v := fun _ _ _ => False) fun _ _ _ _ _ q => q, fun _ _ _ _ _ q => q, hq, fun _ _ _ _ _ q => q, fun _ _ _ _ _ _ q => q, fun _ _ _ _ _ _ q => q⟩
theorem B.Mono.ofA {a : Sl → MH → (List M → MH → Prop) → Prop} {gs : List M → Sl → MH → (Sl → MH → Prop) → Prop} (ha : ∀ σ h (K K' : List M → MH → Prop), (∀ m h, K m h → K' m h) → a σ h K → a σ h K')
    (hg : ∀ m σ h (K K' : Sl → MH → Prop), (∀ σ h, K σ h → K' σ h) → gs m σ h K → gs m σ h K') : (B.ofA a gs).Mono :=
  let z : VMono (fun _ _ _ => False) := fun _ _ _ _ _ q => q
  ⟨z, tOfV_mono z, qOfV_mono z, qOfV_mono z, ha, fun _ _ _ _ _ _ q => q, hg⟩
theorem opM_mono {o : Op} {x y : M} {h : MH} {K K' : KE} (f : ∀ m h, K m h → K' m h) (w : opM o x y h K) : opM o x y h K' := by
  unfold opM at w ⊢
  split at w <;> first | exact f _ _ w | exact ⟨w.1, f _ _ w.2⟩ | exact w.elim
theorem augM_mono {o : Op} {x y : M} {h : MH} {K K' : KE} (f : ∀ m h, K m h → K' m h) (w : augM o x y h K) : augM o x y h K' := by
  unfold augM at w ⊢
  split at w
  · exact opM_mono f w
  · exact w
theorem cmpM_mono {o : Cmp} {x y : M} {h : MH} {K K' : Bool → Prop} (f : ∀ m, K m → K' m) (w : cmpM o x y h K) : cmpM o x y h K' := by
  unfold cmpM at w ⊢
  split at w <;> first | exact f _ w | exact w.elim | (obtain ⟨d, e, h1, h2, h3, h4, h5⟩ := w; exact ⟨d, e, h1, h2, h3, h4, f _ h5⟩)
theorem ixM_mono {x y : M} {h : MH} {K K' : KE} (f : ∀ m h, K m h → K' m h) (w : ixM x y h K) : ixM x y h K' := by
  unfold ixM at w ⊢
  split at w
  · split at w <;> first | exact f _ _ w | exact w
  · split at w <;> first | exact f _ _ w | exact w
  · split at w
    · split at w <;> first | exact f _ _ w | exact w
    · exact w
  · exact w
theorem setM_mono {x y m : M} {h : MH} {K K' : MH → Prop} (f : ∀ h, K h → K' h) (w : setM x y m h K) : setM x y m h K' := by
  unfold setM at w ⊢
  split at w
  · split at w
    · split at w <;> first | exact f _ w | exact w
    · exact w
  · exact w
theorem slM_mono {x : M} {l u : Option Int} {h : MH} {K K' : KE} (f : ∀ m h, K m h → K' m h) (w : slM x l u h K) : slM x l u h K' := by
  unfold slM at w ⊢
  split at w
  · exact f _ _ w
  · split at w
    · exact fun p e => f _ _ (w p e)
    · exact w
  · exact w
theorem bndV_mono {miss : Bool} {v : Sl → MH → KE → Prop} (hv : VMono v) {σ : Sl} {h : MH} {K K' : Option Int → MH → Prop} (f : ∀ o h, K o h → K' o h) (w : bndV miss v σ h K) : bndV miss v σ h K' := by
  cases miss with
  | true => exact f _ _ w
  | false => exact hv _ _ _ _ (fun m h1 w => by cases m <;> first | exact f _ _ w | exact w) w
theorem revM_mono {x : M} {h : MH} {K K' : KE} (f : ∀ m h, K m h → K' m h) (w : revM x h K) : revM x h K' := by
  unfold revM at w ⊢
  split at w
  · exact f _ _ w
  · split at w
    · exact fun p e => f _ _ (w p e)
    · exact w
  · exact w
theorem step2M_mono {x : M} {h : MH} {K K' : KE} (f : ∀ m h, K m h → K' m h) (w : step2M x h K) : step2M x h K' := by
  unfold step2M at w ⊢
  split at w
  · split at w
    · exact fun p e => f _ _ (w p e)
    · exact w
  · exact w
theorem biM_mono {b : Bi} {ms : List M} {h : MH} {K K' : KE} (f : ∀ m h, K m h → K' m h) (w : biM b ms h K) : biM b ms h K' := by
  unfold biM at w ⊢
  split at w <;> first | exact f _ _ w | exact w.elim | (split at w <;> first | exact f _ _ w | exact w) | (obtain ⟨d, h1, h2, h5⟩ := w; exact ⟨d, h1, h2, f _ _ h5⟩)
theorem bqM_mono {b : Bq} {k : QK} {ms : List M} {h : MH} {K K' : KE} (f : ∀ m h, K m h → K' m h) (w : bqM b k ms h K) : bqM b k ms h K' := by
  unfold bqM at w ⊢
  split at w
  · obtain ⟨z, ns, e, q⟩ := w; exact ⟨z, ns, e, f _ _ q⟩
  · obtain ⟨z, ns, e, q⟩ := w; exact ⟨z, ns, e, f _ _ q⟩
  · obtain ⟨z, ns, e, q⟩ := w; exact ⟨z, ns, e, f _ _ q⟩
  · obtain ⟨z, ns, e, n, q⟩ := w; exact ⟨z, ns, e, n, fun m h1 h2 => f _ _ (q m h1 h2)⟩
  · obtain ⟨z, ns, e, n, q⟩ := w; exact ⟨z, ns, e, n, fun m h1 h2 => f _ _ (q m h1 h2)⟩
  · exact f _ _ w
theorem blM_mono {b : Bl} {k : QK} {ms : List M} {K K' : List M → Prop} (f : ∀ m, K m → K' m) (w : blM b k ms K) : blM b k ms K' := by
  unfold blM at w ⊢
  split at w
  · exact f _ w
  · obtain ⟨z, ns, e, q⟩ := w; exact ⟨z, ns, e, fun n' h1 h2 => f _ (q n' h1 h2)⟩
theorem methM_mono {b : Me} {x : M} {ms : List M} {h : MH} {K K' : KE} (f : ∀ m h, K m h → K' m h) (w : methM b x ms h K) : methM b x ms h K' := by
  unfold methM at w ⊢
  split at w
  · split at w
    · exact ⟨w.1, f _ _ w.2⟩
    · exact w
  · split at w
    · split at w <;> first | exact f _ _ w | exact w
    · exact w
  · split at w
    · exact ⟨w.1, f _ _ w.2⟩
    · exact w
  · exact w
theorem rngM_mono {ms : List M} {K K' : List M → Prop} (f : ∀ m, K m → K' m) (w : rngM ms K) : rngM ms K' := by
  unfold rngM at w ⊢
  split at w
  · exact ⟨w.1, f _ w.2⟩
  · exact ⟨w.1, f _ w.2⟩
  · refine ⟨w.1, ?_⟩
    rcases w.2 with ⟨a, b⟩ | ⟨a, b, c⟩
    · exact .inl ⟨a, f _ b⟩
    · exact .inr ⟨a, b, f _ c⟩
  · exact w
theorem compTurn_mono {t c e : B} {cn : Bool} {σ : Sl} {m : M} {h : MH} {R R' : Option M → MH → Prop} (ht : t.Mono) (hc : c.Mono) (he : e.Mono) (f : ∀ r h, R r h → R' r h) (w : compTurn t c e cn σ m h R) : compTurn t c e cn σ m h R' := by
  refine ht.g _ _ _ _ _ (fun σ3 h3 w => ?_) w
  cases cn with
  | true => exact he.v _ _ _ _ (fun y h4 w => f _ _ w) w
  | false =>
    refine hc.t _ _ _ _ (fun k h4 w => ?_) w
    cases k with
    | true => rw [if_pos rfl] at w ⊢; exact he.v _ _ _ _ (fun y h5 w => f _ _ w) w
    | false => rw [if_neg Bool.false_ne_true] at w ⊢; exact f _ _ w
/-- the promises are monotone in what follows -/
def Phi.Mono (Φ : Phi) : Prop := ∀ f ms h (K K' : KE) W, (∀ m h, K m h → K' m h) → Φ.fn f ms h K W → Φ.fn f ms h K' W
section
variable {Φ : Phi}
theorem sem_mono (hΦ : Φ.Mono) : ∀ (e : E) (W : WM), (sem Φ W e).Mono := by
  intro e
  induction e with
  | nil =>
    exact fun W => .ofA (fun _ _ _ _ f q => f _ _ q) (fun ms σ h K K' f q => by cases ms with | nil => exact f _ _ q | cons m r => exact q)
  | cons e es ihe ihs =>
    exact fun W => .ofA (fun σ h K K' f q => (ihe W).v _ _ _ _ (fun m h1 w => (ihs W).a _ _ _ _ (fun ms h2 w => f _ _ w) w) q)
      (fun ms σ h K K' f q => by
        cases ms with
        | nil => exact q
        | cons m r => exact (ihe W).g _ _ _ _ _ (fun σ1 h1 w => (ihs W).gs _ _ _ _ _ f w) q)
  | var i =>
    exact fun W => { B.Mono.ofV (v := fun σ h K => match σ[i]? with | some (some m) => K m h | _ => False) (fun σ h K K' f q => by
        show match σ[i]? with | some (some m) => K' m h | _ => False
        revert q
        show (match σ[i]? with | some (some m) => K m h | _ => False) → _
        split
        · exact fun q => f _ _ q
        · exact fun q => q) with g := fun m σ h K K' f q => f _ _ q }
  | int i =>
    exact fun W => .ofV fun _ _ _ _ f q => f _ _ q
  | bl i =>
    exact fun W => .ofV fun _ _ _ _ f q => f _ _ q
  | non =>
    exact fun W => .ofV fun _ _ _ _ f q => f _ _ q
  | str i =>
    exact fun W => .ofV fun _ _ _ _ f q => f _ _ q
  | glob x =>
    exact fun W => .ofV (fun σ h K K' f q => by
        revert q
        show (match Φ.gl x with | some m => K m h | none => False) → (match Φ.gl x with | some m => K' m h | none => False)
        split
        · exact fun q => f _ _ q
        · exact fun q => q)
  | op o a b iha ihb =>
    intro W
    have plain : ∀ o, (B.ofV fun σ h K => (sem Φ W a).v σ h fun x h1 => (sem Φ W b).v σ h1 fun y h2 => opM o x y h2 K).Mono := fun o =>
      .ofV fun σ h K K' f q => (iha W).v _ _ _ _ (fun x h1 w => (ihb W).v _ _ _ _ (fun y h2 w => opM_mono f w) w) q
    have cat : (B.ofQ (catQ (sem Φ W a) (sem Φ W b))).Mono := .ofQ fun σ h K K' f q => (iha W).q _ _ _ _ (fun k x g h1 w => (ihb W).q _ _ _ _ (fun k' y g' h2 ⟨u1, u2, w1, w2, w3, w4⟩ => ⟨u1, u2, w1, w2, w3, f _ _ _ _ w4⟩) w) q
    have rep : (B.ofQ (repQ (sem Φ W a) (sem Φ W b))).Mono := .ofQ fun σ h K K' f q => (iha W).q _ _ _ _ (fun k x g h1 w => (ihb W).v _ _ _ _ (fun y h2 w => by
      cases y <;> first | exact ⟨w.1, w.2.1, w.2.2.1, w.2.2.2.1, f _ _ _ _ w.2.2.2.2⟩ | exact w) w) q
    have add : (B.ofV fun σ h K => (sem Φ W a).v σ h fun x h1 => (sem Φ W b).v σ h1 fun y h2 => match x, y with
      | .ref p, .ref q => match h2 p, h2 q with
        | some (.lst xs), some (.lst ys) => xs.length + ys.length ≤ SZ ∧ ∀ r, h2 r = none → K (.ref r) (put h2 r (.lst (xs ++ ys)))
        | _, _ => False
      | _, _ => opM .add x y h2 K).Mono := .ofV fun σ h K K' f q => (iha W).v _ _ _ _ (fun x h1 w => (ihb W).v _ _ _ _ (fun y h2 w => by
        revert w
        split
        · split
          · exact fun w => ⟨w.1, fun r e => f _ _ (w.2 r e)⟩
          · exact fun w => w
        · exact fun w => opM_mono f w) w) q
    unfold sem
    split
    · exact add
    · exact cat
    · exact rep
    · exact plain _
  | neg a iha =>
    exact fun W => .ofV fun σ h K K' f q => (iha W).v _ _ _ _ (fun x h1 w => by cases x <;> first | exact f _ _ w | exact w) q
  | not a iha =>
    exact fun W => .ofT (fun σ h K K' f q => (iha W).t _ _ _ _ (fun x h1 w => f _ _ w) q) (fun σ h K K' f q => (iha W).t _ _ _ _ (fun x h1 w => f _ _ w) q)
  | and a b iha ihb =>
    exact fun W => .ofT (fun σ h K K' f q => (iha W).v _ _ _ _ (fun x h1 w => by
        revert w
        show (match truM x h1 with | some true => (sem Φ W b).v σ h1 K | some false => K x h1 | none => False) → (match truM x h1 with | some true => (sem Φ W b).v σ h1 K' | some false => K' x h1 | none => False)
        split
        · exact fun w => (ihb W).v _ _ _ _ f w
        · exact fun w => f _ _ w
        · exact fun w => w) q) (fun σ h K K' f q => (iha W).t _ _ _ _ (fun k h1 w => by
          cases k with
          | true => rw [if_pos rfl] at w ⊢; exact (ihb W).t _ _ _ _ f w
          | false => rw [if_neg Bool.false_ne_true] at w ⊢; exact f _ _ w) q)
  | or a b iha ihb =>
    exact fun W => .ofT (fun σ h K K' f q => (iha W).v _ _ _ _ (fun x h1 w => by
        revert w
        show (match truM x h1 with | some true => K x h1 | some false => (sem Φ W b).v σ h1 K | none => False) → (match truM x h1 with | some true => K' x h1 | some false => (sem Φ W b).v σ h1 K' | none => False)
        split
        · exact fun w => f _ _ w
        · exact fun w => (ihb W).v _ _ _ _ f w
        · exact fun w => w) q) (fun σ h K K' f q => (iha W).t _ _ _ _ (fun k h1 w => by
          cases k with
          | true => rw [if_pos rfl] at w ⊢; exact f _ _ w
          | false => rw [if_neg Bool.false_ne_true] at w ⊢; exact (ihb W).t _ _ _ _ f w) q)
  | ife c a b ihc iha ihb =>
    exact fun W => .ofV fun σ h K K' f q => (ihc W).t _ _ _ _ (fun k h1 w => by
          cases k with
          | true => rw [if_pos rfl] at w ⊢; exact (iha W).v _ _ _ _ f w
          | false => rw [if_neg Bool.false_ne_true] at w ⊢; exact (ihb W).v _ _ _ _ f w) q
  | cmp o a b iha ihb =>
    exact fun W => .ofT (fun σ h K K' f q => (iha W).v _ _ _ _ (fun x h1 w => (ihb W).v _ _ _ _ (fun y h2 w => cmpM_mono (fun _ w => f _ _ w) w) w) q)
      (fun σ h K K' f q => (iha W).v _ _ _ _ (fun x h1 w => (ihb W).v _ _ _ _ (fun y h2 w => cmpM_mono (fun _ w => f _ _ w) w) w) q)
  | chain o p a b c iha ihb ihc =>
    exact fun W => .ofT (fun σ h K K' f q => (iha W).v _ _ _ _ (fun x h1 w => (ihb W).v _ _ _ _ (fun y h2 w => cmpM_mono (fun k w => by
          cases k with
          | true => rw [if_pos rfl] at w ⊢; exact (ihc W).v _ _ _ _ (fun z h3 w => cmpM_mono (fun _ w => f _ _ w) w) w
          | false => rw [if_neg Bool.false_ne_true] at w ⊢; exact f _ _ w) w) w) q)
      (fun σ h K K' f q => (iha W).v _ _ _ _ (fun x h1 w => (ihb W).v _ _ _ _ (fun y h2 w => cmpM_mono (fun k w => by
          cases k with
          | true => rw [if_pos rfl] at w ⊢; exact (ihc W).v _ _ _ _ (fun z h3 w => cmpM_mono (fun _ w => f _ _ w) w) w
          | false => rw [if_neg Bool.false_ne_true] at w ⊢; exact f _ _ w) w) w) q)
  | tup es ih =>
    exact fun W => { B.Mono.ofV (v := fun σ h K => (sem Φ W es).a σ h fun ms h1 => ms.length ≤ 1000 ∧ K (.tup ms) h1) (fun σ h K K' f q => (ih W).a _ _ _ _ (fun ms h1 w => ⟨w.1, f _ _ w.2⟩) q) with
      g := fun m σ h K K' f q => by cases m <;> first | exact ⟨q.1, (ih W).gs _ _ _ _ _ f q.2⟩ | exact q }
  | lst es ih =>
    exact fun W => .ofQ fun σ h K K' f q => (ih W).a _ _ _ _ (fun ms h1 w => ⟨w.1, f _ _ _ _ w.2⟩) q
  | ix a b iha ihb =>
    exact fun W => { B.Mono.ofV (v := fun σ h K => (sem Φ W a).v σ h fun x h1 => (sem Φ W b).v σ h1 fun y h2 => ixM x y h2 K) (fun σ h K K' f q => (iha W).v _ _ _ _ (fun x h1 w => (ihb W).v _ _ _ _ (fun y h2 w => ixM_mono f w) w) q) with
      g := fun m σ h K K' f q => (iha W).v _ _ _ _ (fun x h1 w => (ihb W).v _ _ _ _ (fun y h2 w => setM_mono (fun h3 w => f _ _ w) w) w) q }
  | sl a lo hi iha ihl ihh =>
    exact fun W => .ofV fun σ h K K' f q => (iha W).v _ _ _ _ (fun x h1 w => bndV_mono (ihl W).v (fun l h2 w => bndV_mono (ihh W).v (fun u h3 w => slM_mono f w) w) w) q
  | rev a iha =>
    exact fun W => .ofV fun σ h K K' f q => (iha W).v _ _ _ _ (fun x h1 w => revM_mono f w) q
  | step2 a iha =>
    exact fun W => .ofV fun σ h K K' f q => (iha W).v _ _ _ _ (fun x h1 w => step2M_mono f w) q
  | call x es ih =>
    exact fun W => .ofV fun σ h K K' f q => (ih W).a _ _ _ _ (fun ms h1 w => hΦ _ _ _ _ _ _ f w) q
  | bi b es ih =>
    exact fun W => .ofV fun σ h K K' f q => (ih W).a _ _ _ _ (fun ms h1 w => biM_mono f w) q
  | bq b a ih =>
    exact fun W => .ofV fun σ h K K' f q => (ih W).q _ _ _ _ (fun k ms g h1 w => ⟨w.1, bqM_mono f w.2⟩) q
  | bl1 b a ih =>
    exact fun W => .ofQ fun σ h K K' f q => (ih W).q _ _ _ _ (fun k ms g h1 w => ⟨w.1, blM_mono (fun _ w => f _ _ _ _ w) w.2⟩) q
  | meth m o es iho ihs =>
    exact fun W => .ofV fun σ h K K' f q => (iho W).v _ _ _ _ (fun x h1 w => ⟨w.1, (ihs W).a _ _ _ _ (fun ms h2 w => methM_mono f w) w.2⟩) q
  | comp own t it c e iht ihi ihc ihe =>
    exact fun W => .ofQ fun σ h K K' f q => (ihi W).i _ _ _ _ (fun k ms g h1 w => ⟨w.1, compI_mono (fin := fun acc h2 => K .l acc [] h2) (fin' := fun acc h2 => K' .l acc [] h2) (fun m h2 R R' fr w => compTurn_mono (m := m) (h := h2) (iht W0) (ihc W0) (ihe W0) fr w) (fun acc h2 w => f .l acc [] h2 w) ms [] h1 w.2⟩) q
  | comp2 own own1 t it t1 it1 e _ _ _ _ _ =>
    exact fun W => .ofQ fun _ _ _ _ _ q => q
  | rng es ih =>
    exact fun W => .ofI fun σ h K K' f q => (ih W).a _ _ _ _ (fun ms h1 w => rngM_mono (fun _ w => f _ _ _ _ w) w) q
  | enum a ih =>
    exact fun W => .ofI fun σ h K K' f q => (ih W).q _ _ _ _ (fun k ms g h1 w => ⟨w.1, f _ _ _ _ w.2⟩) q
  | zip a b iha ihb =>
    exact fun W => .ofI fun σ h K K' f q => (iha W).q _ _ _ _ (fun k xs g h1 w => (ihb W).q _ _ _ _ (fun k' ys g' h2 w => ⟨w.1, w.2.1, f _ _ _ _ w.2.2⟩) w) q
/-- as many values as are written -/
theorem sem_alen (hΦ : Φ.Mono) : ∀ (e : E) (W : WM) σ h (K : List M → MH → Prop), (sem Φ W e).a σ h K → (sem Φ W e).a σ h fun ms h' => ms.length = lenE e ∧ K ms h' := by
  intro e
  induction e with
  | nil => exact fun W σ h K q => ⟨rfl, q⟩
  | cons e es _ ih =>
    intro W σ h K q
    refine (sem_mono hΦ e W).v _ _ _ _ (fun m h1 w => ?_) q
    refine (sem_mono hΦ es W).a _ _ _ _ (fun ms h2 w => ?_) (ih W σ h1 _ w)
    exact ⟨by show ms.length + 1 = lenE es + 1; rw [w.1], w.2⟩
  | op o a b _ _ =>
    intro W σ h K q
    revert q
    unfold sem
    split <;> exact fun q => q.elim
  | _ => exact fun W σ h K q => q.elim
structure DM.Le (D D' : DM) : Prop where
  nx : ∀ σ h, D.nx σ h → D'.nx σ h
  rt : ∀ m h, D.rt m h → D'.rt m h
  bk : ∀ σ h, D.bk σ h → D'.bk σ h
  ct : ∀ σ h, D.ct σ h → D'.ct σ h
theorem wS_mono (hΦ : Φ.Mono) {W : WM} : ∀ (s : S) {D D' : DM} {σ : Sl} {h : MH}, D.Le D' → wS Φ W s D σ h → wS Φ W s D' σ h := by
  intro s
  induction s with
  | skip =>
    exact fun l q => l.nx _ _ q
  | seq a b iha ihb =>
    exact fun {D D' σ h} l q => iha (D := { D with nx := fun σ1 h1 => ∃ h0, Sub h0 h1 ∧ wS Φ W b D σ1 h0 }) (D' := { D' with nx := fun σ1 h1 => ∃ h0, Sub h0 h1 ∧ wS Φ W b D' σ1 h0 }) ⟨fun σ1 h1 ⟨h0, s, w⟩ => ⟨h0, s, ihb l w⟩, l.rt, l.bk, l.ct⟩ q
  | asg t e =>
    exact fun l q => (sem_mono hΦ e W).v _ _ _ _ (fun m h1 w => (sem_mono hΦ t W).g _ _ _ _ _ l.nx w) q
  | aug o i e =>
    intro D D' σ h l q
    revert q
    show (match σ[i]? with | some (some x) => (sem Φ W e).v σ h fun y h1 => augM o x y h1 fun z h2 => D.nx (σ.set i (some z)) h2 | _ => False) → (match σ[i]? with | some (some x) => (sem Φ W e).v σ h fun y h1 => augM o x y h1 fun z h2 => D'.nx (σ.set i (some z)) h2 | _ => False)
    split
    · exact fun q => (sem_mono hΦ e W).v _ _ _ _ (fun m h1 w => augM_mono (fun z h2 w => l.nx _ _ w) w) q
    · exact fun q => q
  | augS o a i e =>
    exact fun l q => (sem_mono hΦ a W).v _ _ _ _ (fun x h1 w => (sem_mono hΦ i W).v _ _ _ _ (fun y h2 w => ixM_mono (fun z h3 w => (sem_mono hΦ e W).v _ _ _ _ (fun u h4 w => augM_mono (fun r h5 w => setM_mono (fun h6 w => l.nx _ _ w) w) w) w) w) w) q
  | expr e =>
    exact fun l q => (sem_mono hΦ e W).v _ _ _ _ (fun m h1 w => l.nx _ _ w) q
  | ret e =>
    exact fun l q => (sem_mono hΦ e W).v _ _ _ _ l.rt q
  | iff c a b iha ihb =>
    exact fun l q => (sem_mono hΦ c W).t _ _ _ _ (fun k h1 w => by
      cases k with
      | true => rw [if_pos rfl] at w ⊢; exact iha l w
      | false => rw [if_neg Bool.false_ne_true] at w ⊢; exact ihb l w) q
  | for_ t it b ihb =>
    exact fun {D D' σ h} l q => (sem_mono hΦ it W).i σ h (fun _ ms g h1 => forI (fun m σ2 h2 nx => (sem Φ W t).g m σ2 h2 fun σ3 h3 => wS Φ W b { D with nx := nx, ct := nx, bk := D.nx } σ3 h3) g D.nx ms σ h1) _ (fun k ms g h1 w => forI_mono (fun m σ2 h2 K K' f w => (sem_mono hΦ t W).g m σ2 h2 (fun σ3 h3 => wS Φ W b { D with nx := K, ct := K, bk := D.nx } σ3 h3) (fun σ3 h3 => wS Φ W b { D' with nx := K', ct := K', bk := D'.nx } σ3 h3) (fun σ3 h3 w => ihb (σ := σ3) (h := h3) (D := { D with nx := K, ct := K, bk := D.nx }) (D' := { D' with nx := K', ct := K', bk := D'.nx }) ⟨f, l.rt, l.nx, f⟩ w) w) l.nx _ _ _ w) q
  | while_ c b ihb =>
    exact fun {D D' σ h} l ⟨n, q⟩ => ⟨n, whileI_mono (sem_mono hΦ c W).t (fun σ2 h2 K K' f w => ihb (σ := σ2) (h := h2) (D := { D with nx := K, ct := K, bk := D.nx }) (D' := { D' with nx := K', ct := K', bk := D'.nx }) ⟨f, l.rt, l.nx, f⟩ w) l.nx _ _ _ q⟩
  | brk =>
    exact fun l q => l.bk _ _ q
  | cont =>
    exact fun l q => l.ct _ _ q
  | never =>
    exact fun l q => q
end
end Mp

set_option Elab.async false
set_option linter.all false
set_option maxRecDepth 100000
/-! Mini: each rule of HandS seen from Mini. -/
namespace Mp
open PySem PySem.Spec PyProof.Rows L2

theorem szEq : sizeLine = SZ := by decide +kernel
/-- what a sequence's value is -/
inductive SeqV (K : PySem.W.Frag) (h : MH) (H : Hp) : V → QK → List M → G → Prop where
  | tup {a : Addr} {vs : List V} {ms : List M} : SqT K H a vs → RpAll K H vs ms → SeqV K h H (.ref a) .t ms []
  | rol {a : Addr} {vs : List V} {ms : List M} : SqR K H a vs → RpAll K H vs ms → SeqV K h H (.ref a) .r ms []
  | own {a : Addr} {vs : List V} {ms : List M} : H a = some (.lst vs) → h a = none → RpAll K H vs ms → SeqV K h H (.ref a) .l ms []
  | cell {a : Addr} {ms : List M} : h a = some (.lst ms) → SeqV K h H (.ref a) .l ms [(a, ms)]
section
variable {K : PySem.W.Frag}
def liftE (K : PySem.W.Frag) (t : Sl → MH → KE → Prop) : TE := fun s H Q => ∃ σ h, RpS K H s σ ∧ Sim K h H ∧ t σ h fun m h' => ∀ v H', Rp K H' v m → Sim K h' H' → Frm h H h' H' → Q v H'
def liftT (K : PySem.W.Frag) (t : Sl → MH → (Bool → MH → Prop) → Prop) : TT := fun s H Q => ∃ σ h, RpS K H s σ ∧ Sim K h H ∧ t σ h fun b h' => ∀ H', Sim K h' H' → Frm h H h' H' → Q b H'
def liftA (K : PySem.W.Frag) (t : Sl → MH → (List M → MH → Prop) → Prop) : TA := fun s H Q => ∃ σ h, RpS K H s σ ∧ Sim K h H ∧ t σ h fun ms h' => ∀ vs H', RpAll K H' vs ms → Sim K h' H' → Frm h H h' H' → Q vs H'
def liftQ (K : PySem.W.Frag) (t : Sl → MH → KQ → Prop) : TE := fun s H Q => ∃ σ h, RpS K H s σ ∧ Sim K h H ∧ t σ h fun k ms g h' => ∀ v H', SeqV K h' H' v k ms g → Sim K h' H' → Frm h H h' H' → Q v H'
/-- by values -/
def lift2 (K : PySem.W.Frag) (f : M → M → MH → KE → Prop) : R2 := fun x y H Q => ∃ m n h, Rp K H x m ∧ Rp K H y n ∧ Sim K h H ∧ f m n h fun z h' => ∀ v H', Rp K H' v z → Sim K h' H' → Frm h H h' H' → Q v H'
def lift1 (K : PySem.W.Frag) (f : M → MH → KE → Prop) : V → Hp → VK → Prop := fun x H Q => ∃ m h, Rp K H x m ∧ Sim K h H ∧ f m h fun z h' => ∀ v H', Rp K H' v z → Sim K h' H' → Frm h H h' H' → Q v H'
def liftN (K : PySem.W.Frag) (f : List M → MH → KE → Prop) : List V → Hp → VK → Prop := fun xs H Q => ∃ ms h, RpAll K H xs ms ∧ Sim K h H ∧ f ms h fun z h' => ∀ v H', Rp K H' v z → Sim K h' H' → Frm h H h' H' → Q v H'
end
theorem PE.imp {X : Cx} {e : Expr} {t t' : TE} (p : PE X e t) (f : ∀ s H Q, t' s H Q → t s H Q) : PE X e t' := ⟨fun pins s σ H Q I h => p.run pins s σ H Q I (f _ _ _ h)⟩
theorem PT.imp {X : Cx} {e : Expr} {t t' : TT} (p : PT X e t) (f : ∀ s H Q, t' s H Q → t s H Q) : PT X e t' := ⟨fun pins s σ H Q I h => p.run pins s σ H Q I (f _ _ _ h)⟩
theorem PA.imp {X : Cx} {e : List Expr} {t t' : TA} (p : PA X e t) (f : ∀ s H Q, t' s H Q → t s H Q) : PA X e t' := ⟨fun pos pins s σ H Q I h => p.run pos pins s σ H Q I (f _ _ _ h)⟩
theorem PS.imp {X : Cx} {e : Stmt} {t t' : TS} (p : PS X e t) (f : ∀ D s H, t' D s H → t D s H) : PS X e t' := ⟨fun pins s σ H Q I h => p.run pins s σ H Q I (f _ _ _ h)⟩
theorem OpR.imp {X : Cx} {f : Value → Value → Sem Value} {r r' : R2} (p : OpR X f r) (i : ∀ x y H Q, r' x y H Q → r x y H Q) : OpR X f r' := fun pins s σ H x y v u Q I rx ry h => p pins s σ H x y v u Q I rx ry (i _ _ _ _ h)
theorem CallR.imp {X : Cx} {f : Value} {r r' : List V → Hp → VK → Prop} (p : CallR X f r) (i : ∀ x H Q, r' x H Q → r x H Q) : CallR X f r' := fun pins s σ H xs us Q I rx h => p pins s σ H xs us Q I rx (i _ _ _ h)
section
variable {X : Cx} {K : PySem.W.Frag} {h : MH} {H : Hp}
/-- two parts, one behind the other -/
theorem lift_two {va vb : Sl → MH → KE → Prop} (ma : VMono va) (mb : VMono vb) {f : M → M → MH → KE → Prop} (fm : ∀ x y h (K K' : KE), (∀ m h, K m h → K' m h) → f x y h K → f x y h K')
    {s : L2.St} {H : Hp} {Q : VK} (w : liftE K (fun σ h R => va σ h fun x h1 => vb σ h1 fun y h2 => f x y h2 R) s H Q) : tOp (lift2 K f) (liftE K va) (liftE K vb) s H Q := by
  obtain ⟨σ, h, rs, sm, w⟩ := w
  refine ⟨σ, h, rs, sm, ma _ _ _ _ (fun x h1 w => ?_) w⟩
  intro v H1 rx s1 f1
  refine ⟨σ, h1, rs.frm sm f1, s1, mb _ _ _ _ (fun y h2 w => ?_) w⟩
  intro u H2 ry s2 f2
  exact ⟨x, y, h2, rx.frm s1 f2, ry, s2, fm _ _ _ _ _ (fun z h3 w => fun v3 H3 r3 s3 f3 => w v3 H3 r3 s3 (f1.trans (f2.trans f3))) w⟩
theorem lift_one {va : Sl → MH → KE → Prop} (ma : VMono va) {f : M → MH → KE → Prop} (fm : ∀ x h (K K' : KE), (∀ m h, K m h → K' m h) → f x h K → f x h K')
    {s : L2.St} {H : Hp} {Q : VK} (w : liftE K (fun σ h R => va σ h fun x h1 => f x h1 R) s H Q) : tUn (lift1 K f) (liftE K va) s H Q := by
  obtain ⟨σ, h, rs, sm, w⟩ := w
  refine ⟨σ, h, rs, sm, ma _ _ _ _ (fun x h1 w => ?_) w⟩
  intro v H1 rx s1 f1
  exact ⟨x, h1, rx, s1, fm _ _ _ _ (fun z h3 w => fun v3 H3 r3 s3 f3 => w v3 H3 r3 s3 (f1.trans f3)) w⟩

/-! ### what a known value is -/
theorem Rp.toInt {v : V} {i : Int} (r : Rp K H v (.int i)) : v = .int i := by cases r; rfl
theorem Rp.toBl {v : V} {i : Bool} (r : Rp K H v (.bl i)) : v = .bl i := by cases r; rfl
theorem Rp.toNon {v : V} (r : Rp K H v .non) : v = .non := by cases r; rfl
theorem Rp.toStr {v : V} {s : Str} (r : Rp K H v (.str s)) : v = .str s := by cases r; rfl
theorem Rp.toRef {v : V} {a : Addr} (r : Rp K H v (.ref a)) : v = .ref a := by cases r; rfl
theorem Rp.toTup {v : V} {ms : List M} (r : Rp K H v (.tup ms)) : ∃ a vs, v = .ref a ∧ SqT K H a vs ∧ RpAll K H vs ms := by cases r with | tup a b => exact ⟨_, _, rfl, a, b⟩
theorem Rp.toRol {v : V} {ms : List M} (r : Rp K H v (.rol ms)) : ∃ a vs, v = .ref a ∧ SqR K H a vs ∧ RpAll K H vs ms := by cases r with | rol a b => exact ⟨_, _, rfl, a, b⟩
theorem Sim.lst (s : Sim K h H) {a : Addr} {ms : List M} (e : h a = some (.lst ms)) : ∃ vs, H a = some (.lst vs) ∧ RpAll K H vs ms := s a _ e
theorem Sim.dic (s : Sim K h H) {a : Addr} {ms : List (M × M)} (e : h a = some (.dic ms)) : ∃ vs, H a = some (.dK vs) ∧ RpKv K H vs ms := s a _ e
theorem RpKv.length : ∀ {vs : List (Key × V)} {ms : List (M × M)}, RpKv K H vs ms → vs.length = ms.length
  | _, _, .nil => rfl
  | _, _, .cons _ t => congrArg (· + 1) t.length
theorem RpAll.isEmpty {vs : List V} {ms : List M} (r : RpAll K H vs ms) : vs.isEmpty = ms.isEmpty := by cases r <;> rfl
theorem RpKv.isEmpty {vs : List (Key × V)} {ms : List (M × M)} (r : RpKv K H vs ms) : vs.isEmpty = ms.isEmpty := by cases r <;> rfl
theorem RpAll.ints : ∀ {vs : List V} {ns : List Int}, RpAll K H vs (ns.map M.int) → vs = ns.map V.int
  | _, [], .nil => rfl
  | _, n :: ns, .cons r t => by cases r; rw [RpAll.ints t]; rfl
theorem RpAll.bls : ∀ {vs : List V} {ns : List Bool}, RpAll K H vs (ns.map M.bl) → vs = ns.map V.bl
  | _, [], .nil => rfl
  | _, n :: ns, .cons r t => by cases r; rw [RpAll.bls t]; rfl
theorem RpAll.ofInts : ∀ (ns : List Int), RpAll K H (ns.map V.int) (ns.map M.int)
  | [] => .nil
  | n :: ns => .cons (.int n) (RpAll.ofInts ns)
/-- its truth -/
theorem tru_of {v : V} {m : M} {b : Bool} (r : Rp K H v m) (s : Sim K h H) (e : truM m h = some b) : TruV K v H b := by
  cases r with
  | non => cases e; rfl
  | bl k => cases e; rfl
  | int i =>
    cases e
    show decide (i ≠ 0) = (i != 0)
    by_cases z : i = 0
    · subst z; rfl
    · rw [decide_eq_true z]; exact (bne_iff_ne.mpr z).symm
  | str x =>
    have e' : (if x.length ≤ SZ then some (decide (x.length ≠ 0)) else none) = some b := e
    split at e'
    · rename_i hl
      cases e'
      refine ⟨by rw [szEq]; exact hl, ?_⟩
      by_cases z : x.length = 0
      · rw [z]; rfl
      · rw [decide_eq_true z]
        exact (bne_iff_ne.mpr (by omega)).symm
    · cases e'
  | ref a =>
    have e' : (match h a with | some (.lst xs) => some (!xs.isEmpty) | some (.dic kvs) => some (!kvs.isEmpty) | none => none) = some b := e
    cases q : h a with
    | none => rw [q] at e'; cases e'
    | some o =>
      rw [q] at e'
      cases o with
      | lst ms =>
        cases e'
        obtain ⟨vs, e1, e2⟩ := s.lst q
        exact .inl ⟨vs, SqL.of e1, by rw [e2.isEmpty]⟩
      | dic kvs =>
        cases e'
        obtain ⟨vs, e1, e2⟩ := s.dic q
        exact .inr (.inr ⟨vs, e1, by rw [e2.isEmpty]⟩)
  | tup a b =>
    cases e
    exact .inr (.inl ⟨_, a, by rw [b.isEmpty]⟩)
  | rol a b =>
    cases e
    exact .inl ⟨_, a.l, by rw [b.isEmpty]⟩

/-! ### operators -/
theorem opr_add : OpR X (binaryOp .Add) (lift2 X.K (opM .add)) := by
  refine OpR.imp (OpR.or op_add op_catA) fun x y H Q w => ?_
  obtain ⟨m, n, h, rx, ry, sm, w⟩ := w
  unfold opM at w
  split at w <;> rename_i e1 <;> try contradiction
  · refine .inl ⟨_, _, rx.toInt, ry.toInt, w _ H (.int _) sm (Frm.refl _ _)⟩
  · obtain ⟨hl, w⟩ := w
    obtain ⟨a, vs, rfl, ta, ra⟩ := rx.toTup
    obtain ⟨b, us, rfl, tb, rb⟩ := ry.toTup
    refine .inr ⟨a, b, vs, us, rfl, rfl, ta, tb, by rw [szEq, ra.length, rb.length]; exact hl, fun e => ?_, fun _ e => ?_, fun _ _ p hp => ?_⟩
    · subst e
      cases ra
      exact w _ H (.tup tb rb) sm (Frm.refl _ _)
    · subst e
      cases rb
      exact w _ H (.tup ta (by rw [List.append_nil]; exact ra)) sm (Frm.refl _ _)
    · exact w _ _ (.tup (.inl (.inl upd_same)) ((ra.append rb).free hp)) (sm.laid0 hp) (Frm.laid0 hp)
theorem opr_sub : OpR X (binaryOp .Sub) (lift2 X.K (opM .sub)) := by
  refine OpR.imp op_sub fun x y H Q w => ?_
  obtain ⟨m, n, h, rx, ry, sm, w⟩ := w
  unfold opM at w
  split at w <;> try contradiction
  exact ⟨_, _, rx.toInt, ry.toInt, w _ H (.int _) sm (Frm.refl _ _)⟩
theorem opr_mul : OpR X (binaryOp .Mult) (lift2 X.K (opM .mul)) := by
  refine OpR.imp (OpR.or op_mulW op_repT) fun x y H Q w => ?_
  obtain ⟨m, n, h, rx, ry, sm, w⟩ := w
  unfold opM at w
  split at w <;> try contradiction
  · exact .inl ⟨_, _, rx.toInt, ry.toInt, w.1, w.2 _ H (.int _) sm (Frm.refl _ _)⟩
  · obtain ⟨⟨h0, h1, h2, h3⟩, w⟩ := w
    obtain ⟨a, vs, rfl, ta, ra⟩ := rx.toTup
    refine .inr ⟨a, _, vs, rfl, ry.toInt, ta, fun e => h0 ?_, h1, h2, by rw [ra.length]; exact h3, fun p hp => ?_⟩
    · subst e; cases ra; rfl
    · exact w _ _ (.tup (.inl (.inl upd_same)) ((ra.rep _).free hp)) (sm.laid0 hp) (Frm.laid0 hp)
theorem opr_fdiv : OpR X (binaryOp .FloorDiv) (lift2 X.K (opM .fdiv)) := by
  refine OpR.imp op_fdivW fun x y H Q w => ?_
  obtain ⟨m, n, h, rx, ry, sm, w⟩ := w
  unfold opM at w
  split at w <;> try contradiction
  exact ⟨_, _, rx.toInt, ry.toInt, w.1, w.2 _ H (.int _) sm (Frm.refl _ _)⟩
theorem opr_mod : OpR X (binaryOp .Mod) (lift2 X.K (opM .mod)) := by
  refine OpR.imp op_mod fun x y H Q w => ?_
  obtain ⟨m, n, h, rx, ry, sm, w⟩ := w
  unfold opM at w
  split at w <;> try contradiction
  exact ⟨_, _, rx.toInt, ry.toInt, w.1, w.2 _ H (.int _) sm (Frm.refl _ _)⟩
theorem opr_pow : OpR X (binaryOp .Pow) (lift2 X.K (opM .pow)) := by
  refine OpR.imp op_pow fun x y H Q w => ?_
  obtain ⟨m, n, h, rx, ry, sm, w⟩ := w
  unfold opM at w
  split at w <;> try contradiction
  exact ⟨_, _, rx.toInt, ry.toInt, w.1, w.2 _ H (.int _) sm (Frm.refl _ _)⟩
def pyOp : Op → Operator
  | .add => .Add | .sub => .Sub | .mul => .Mult | .fdiv => .FloorDiv | .mod => .Mod | .pow => .Pow
theorem opr (o : Op) : OpR X (binaryOp (pyOp o)) (lift2 X.K (opM o)) := by
  cases o
  · exact opr_add
  · exact opr_sub
  · exact opr_mul
  · exact opr_fdiv
  · exact opr_mod
  · exact opr_pow
/-- list + list of cells -/
def addM (x y : M) (h : MH) (K : KE) : Prop := match x, y with
  | .ref p, .ref q => match h p, h q with
    | some (.lst xs), some (.lst ys) => xs.length + ys.length ≤ SZ ∧ ∀ r, h r = none → K (.ref r) (put h r (.lst (xs ++ ys)))
    | _, _ => False
  | _, _ => opM .add x y h K
theorem addM_mono {x y : M} {h : MH} {K K' : KE} (f : ∀ m h, K m h → K' m h) (w : addM x y h K) : addM x y h K' := by
  unfold addM at w ⊢
  split at w
  · split at w
    · exact ⟨w.1, fun r e => f _ _ (w.2 r e)⟩
    · exact w
  · exact opM_mono f w
theorem opr_addL : OpR X (binaryOp .Add) (lift2 X.K addM) := by
  refine OpR.imp (OpR.or opr_add op_cat) fun x y H Q w => ?_
  obtain ⟨m, n, h, rx, ry, sm, w⟩ := w
  unfold addM at w
  split at w
  · rename_i p q
    split at w
    · rename_i xs ys ep eq
      obtain ⟨vs, e1, r1⟩ := sm.lst ep
      obtain ⟨us, e2, r2⟩ := sm.lst eq
      refine .inr ⟨p, q, vs, us, rx.toRef, ry.toRef, e1, e2, by rw [szEq, r1.length, r2.length]; exact w.1, fun a ha => ?_⟩
      exact w.2 a (sm.free ha) _ _ (.ref a) (sm.laid ha ⟨_, upd_same, (r1.append r2).free ha⟩) (Frm.laid ha)
    · exact w.elim
  · exact .inl ⟨m, n, h, rx, ry, sm, w⟩
/-! in place -/
theorem iop_mulW : OpR X (inplaceOp .Mult) (rI CMulW fun i j => .int (i * j)) := opI fun _ _ _ _ _ _ _ hc q => imul_int q hc.ok
theorem iop_fdivW' : OpR X (inplaceOp .FloorDiv) (rI CDivW fun i j => .int (i / j)) := opI fun i j _ _ _ _ _ hc q => by
  have h1 : (0 : Int) < j := hc.1
  exact ifloordiv_int (by omega) (by rw [Int.fdiv_eq_ediv_of_nonneg i (by omega)]; exact q) (.inl (PyProof.noPylong_of_log2 hc.2))
def augOk : Op → Bool
  | .pow => false
  | _ => true
theorem ipr {o : Op} (ho : augOk o = true) : OpR X (inplaceOp (pyOp o)) (lift2 X.K (augM o)) := by
  have key : ∀ {r : R2}, OpR X (inplaceOp (pyOp o)) r → (∀ i j H Q, (∀ h, Sim X.K h H → ∀ (K : KE), opM o (.int i) (.int j) h K → (∀ m, K m h → ∀ v, Rp X.K H v m → Q v H) → r (.int i) (.int j) H Q)) → OpR X (inplaceOp (pyOp o)) (lift2 X.K (augM o)) := fun p f => by
    refine OpR.imp p fun x y H Q w => ?_
    obtain ⟨m, n, h, rx, ry, sm, w⟩ := w
    unfold augM at w
    split at w
    · rw [rx.toInt, ry.toInt]
      exact f _ _ H Q h sm _ w fun m k v r => k v H r sm (Frm.refl _ _)
    · exact w.elim
  cases o with
  | add => exact key iop_add fun i j H Q h sm K w k => ⟨i, j, rfl, rfl, k _ w _ (.int _)⟩
  | sub => exact key iop_sub fun i j H Q h sm K w k => ⟨i, j, rfl, rfl, k _ w _ (.int _)⟩
  | mul => exact key iop_mulW fun i j H Q h sm K w k => ⟨i, j, rfl, rfl, w.1, k _ w.2 _ (.int _)⟩
  | fdiv => exact key iop_fdivW' fun i j H Q h sm K w k => ⟨i, j, rfl, rfl, w.1, k _ w.2 _ (.int _)⟩
  | mod => exact key iop_mod fun i j H Q h sm K w k => ⟨i, j, rfl, rfl, w.1, k _ w.2 _ (.int _)⟩
  | pow => cases ho

/-! ### comparisons -/
mutual
theorem Dat.dp : ∀ {m : M} {d : PyData} {v : V}, Dat h m d → Rp K H v m → Sim K h H → Dp K H v d
  | _, _, _, .non, r, s => by rw [r.toNon]; exact .non
  | _, _, _, .bl b, r, s => by rw [r.toBl]; exact .bl b
  | _, _, _, .int b, r, s => by rw [r.toInt]; exact .int b
  | _, _, _, .str b, r, s => by rw [r.toStr]; exact .str b
  | _, _, _, .tnil, r, s => by
    obtain ⟨a, vs, rfl, t, q⟩ := r.toTup
    cases q
    exact .tup t .nil
  | _, _, _, .tcons x y, r, s => by
    obtain ⟨a, vs, rfl, t, q⟩ := r.toTup
    exact .tup t (Dat.dpAll (.tcons x y) q s)
  | _, _, _, .lst e x, r, s => by
    rw [r.toRef]
    obtain ⟨vs, e1, q⟩ := s.lst e
    exact .lst (SqL.of e1) (Dat.dpAll x q s)
  | _, _, _, .rol x, r, s => by
    obtain ⟨a, vs, rfl, t, q⟩ := r.toRol
    exact .lst t.l (Dat.dpAll x q s)
theorem Dat.dpAll : ∀ {ms : List M} {ds : List PyData} {vs : List V}, Dat h (.tup ms) (.tuple ds) → RpAll K H vs ms → Sim K h H → DpAll K H vs ds
  | _, _, _, .tnil, r, s => by cases r; exact .nil
  | _, _, _, .tcons x y, r, s => by
    cases r with
    | cons r1 r2 => exact .cons (Dat.dp x r1 s) (Dat.dpAll y r2 s)
end
def pyCmp : Cmp → CmpOp
  | .eq => .Eq | .ne => .NotEq | .lt => .Lt | .le => .LtE | .gt => .Gt | .ge => .GtE | .is => .Is | .isnot => .IsNot | .isin => .In | .notin => .NotIn
/-- a comparison's answer as a value -/
def cmpV (o : Cmp) (x y : M) (h : MH) (Q : KE) : Prop := cmpM o x y h fun k => Q (.bl k) h
theorem isNon_of {v : V} {m : M} (r : Rp K H v m) : decide (v = .non) = isNon m := by
  cases r <;> rfl
theorem cpr (hu : X.A.units + 65 < cLine) (o : Cmp) : OpR X (compareOp (pyCmp o)) (lift2 X.K (cmpV o)) := by
  have hu' : X.A.units + 64 < cLine := by omega
  have hint : ∀ {o : Cmp} {p : Int → Int → Bool}, (∀ x y h K, cmpM o x y h K → ∃ i j, x = .int i ∧ y = .int j ∧ K (p i j)) → OpR X (compareOp (pyCmp o)) (rI0 fun i j => .bl (p i j)) → OpR X (compareOp (pyCmp o)) (lift2 X.K (cmpV o)) := fun f q => by
    refine OpR.imp q fun x y H Q w => ?_
    obtain ⟨m, n, h, rx, ry, sm, w⟩ := w
    obtain ⟨i, j, em, en, w2⟩ := f _ _ _ _ (show cmpM _ m n h _ from w)
    subst em en
    exact ⟨i, j, rx.toInt, ry.toInt, w2 _ H (.bl _) sm (Frm.refl _ _)⟩
  cases o with
  | lt => exact hint (fun x y h K w => by unfold cmpM at w; split at w <;> first | exact ⟨_, _, rfl, rfl, w⟩ | contradiction | skip) op_lt
  | le => exact hint (fun x y h K w => by unfold cmpM at w; split at w <;> first | exact ⟨_, _, rfl, rfl, w⟩ | contradiction | skip) op_le
  | gt => exact hint (fun x y h K w => by unfold cmpM at w; split at w <;> first | exact ⟨_, _, rfl, rfl, w⟩ | contradiction | skip) op_gt
  | ge => exact hint (fun x y h K w => by unfold cmpM at w; split at w <;> first | exact ⟨_, _, rfl, rfl, w⟩ | contradiction | skip) op_ge
  | eq =>
    refine OpR.imp (OpR.or op_eq (op_eqD hu')) fun x y H Q w => ?_
    obtain ⟨m, n, h, rx, ry, sm, w⟩ := w
    unfold cmpV cmpM at w
    split at w <;> try contradiction
    · refine .inl ?_
      rw [rx.toInt, ry.toInt]
      refine ⟨rfl, ?_⟩
      have := w _ H (.bl _) sm (Frm.refl _ _)
      simpa only [V.int.injEq] using this
    · refine .inl ?_
      rw [rx.toStr, ry.toStr]
      refine ⟨rfl, ?_⟩
      have := w _ H (.bl _) sm (Frm.refl _ _)
      simpa only [V.str.injEq] using this
    · obtain ⟨d, e, hd, he, sd, se, w⟩ := w
      exact .inr ⟨d, e, hd.dp rx sm, he.dp ry sm, sd, se, w _ H (.bl _) sm (Frm.refl _ _)⟩
  | ne =>
    refine OpR.imp (OpR.or op_ne (op_neD hu')) fun x y H Q w => ?_
    obtain ⟨m, n, h, rx, ry, sm, w⟩ := w
    unfold cmpV cmpM at w
    split at w <;> try contradiction
    · refine .inl ?_
      rw [rx.toInt, ry.toInt]
      refine ⟨rfl, ?_⟩
      have := w _ H (.bl _) sm (Frm.refl _ _)
      simpa only [V.int.injEq] using this
    · refine .inl ?_
      rw [rx.toStr, ry.toStr]
      refine ⟨rfl, ?_⟩
      have := w _ H (.bl _) sm (Frm.refl _ _)
      simpa only [V.str.injEq] using this
    · obtain ⟨d, e, hd, he, sd, se, w⟩ := w
      exact .inr ⟨d, e, hd.dp rx sm, he.dp ry sm, sd, se, w _ H (.bl _) sm (Frm.refl _ _)⟩
  | is =>
    refine OpR.imp op_isN fun x y H Q w => ?_
    obtain ⟨m, n, h, rx, ry, sm, w⟩ := w
    unfold cmpV cmpM at w
    split at w <;> try contradiction
    refine ⟨ry.toNon, ?_⟩
    rw [isNon_of rx]
    exact w _ H (.bl _) sm (Frm.refl _ _)
  | isnot =>
    refine OpR.imp op_notN fun x y H Q w => ?_
    obtain ⟨m, n, h, rx, ry, sm, w⟩ := w
    unfold cmpV cmpM at w
    split at w <;> try contradiction
    refine ⟨ry.toNon, ?_⟩
    rw [isNon_of rx]
    exact w _ H (.bl _) sm (Frm.refl _ _)
  | isin =>
    refine OpR.imp (op_inD hu) fun x y H Q w => ?_
    obtain ⟨m, n, h, rx, ry, sm, w⟩ := w
    unfold cmpV cmpM at w
    split at w <;> try contradiction
    obtain ⟨d, ds, hd, he, sd, se, w⟩ := w
    exact ⟨d, ds, hd.dp rx sm, he.dp ry sm, sd, se, w _ H (.bl _) sm (Frm.refl _ _)⟩
  | notin =>
    refine OpR.imp (op_notInD hu) fun x y H Q w => ?_
    obtain ⟨m, n, h, rx, ry, sm, w⟩ := w
    unfold cmpV cmpM at w
    split at w <;> try contradiction
    obtain ⟨d, ds, hd, he, sd, se, w⟩ := w
    exact ⟨d, ds, hd.dp rx sm, he.dp ry sm, sd, se, w _ H (.bl _) sm (Frm.refl _ _)⟩

/-! ### subscripts, slices -/
theorem RpAll.atI {vs : List V} {ms : List M} {i : Int} {m : M} (r : RpAll K H vs ms) (e : L2.atI ms i = some m) : ∃ v, L2.atI vs i = some v ∧ Rp K H v m := by
  unfold L2.atI at e ⊢
  rw [r.length]
  cases q : ixN ms.length i with
  | none => rw [q] at e; cases e
  | some j =>
    rw [q] at e
    exact r.get e
theorem ixr : IxR X (lift2 X.K ixM) := by
  intro value slice pins s σ H x y v u Q I rx ry w hs
  refine IxR.or ix_list ix_tup value slice pins s σ H x y v u Q I rx ry ?_ hs
  obtain ⟨m, n, h, qx, qy, sm, w⟩ := w
  unfold ixM at w
  split at w <;> try contradiction
  · split at w <;> try contradiction
    rename_i z e
    obtain ⟨a, vs, rfl, t, r⟩ := qx.toTup
    obtain ⟨v', e', r'⟩ := r.atI e
    exact .inr ⟨a, vs, _, v', rfl, qy.toInt, t, e', w v' H r' sm (Frm.refl _ _)⟩
  · split at w <;> try contradiction
    rename_i z e
    obtain ⟨a, vs, rfl, t, r⟩ := qx.toRol
    obtain ⟨v', e', r'⟩ := r.atI e
    exact .inl ⟨a, vs, _, v', rfl, qy.toInt, t.l, e', w v' H r' sm (Frm.refl _ _)⟩
  · split at w <;> try contradiction
    rename_i xs ea
    split at w <;> try contradiction
    rename_i z e
    obtain ⟨vs, e1, r⟩ := sm.lst ea
    obtain ⟨v', e', r'⟩ := r.atI e
    exact .inl ⟨_, vs, _, v', qx.toRef, qy.toInt, SqL.of e1, e', w v' H r' sm (Frm.refl _ _)⟩
/-- a list's item for a stored operation: o[i] op= e reads by getItem -/
theorem setr : PSet X (fun o i v H Q => ∃ m n z h, Rp X.K H o m ∧ Rp X.K H i n ∧ Rp X.K H v z ∧ Sim X.K h H ∧ setM m n z h fun h' => ∀ H', Sim X.K h' H' → Frm h H h' H' → Q H') := by
  intro pins s σ H o i v ov iv u Q I ro ri rv w
  obtain ⟨m, n, z, h, r1, r2, r3, sm, w⟩ := w
  refine set_list pins s σ H o i v ov iv u Q I ro ri rv ?_
  unfold setM at w
  split at w <;> try contradiction
  rename_i a k
  split at w <;> try contradiction
  rename_i xs e
  split at w <;> try contradiction
  rename_i j ej
  obtain ⟨vs, e1, r⟩ := sm.lst e
  refine ⟨a, vs, k, j, r1.toRef, r2.toInt, e1, by rw [r.length]; exact ej, ?_⟩
  exact w _ (sm.wrote e ⟨_, upd_same, (r.set r3 j).cell sm e⟩) (Frm.wrote e)
theorem RpAll.cut {vs : List V} {ms : List M} (r : RpAll K H vs ms) (l u : Option Int) : RpAll K H (cutV vs l u) (cutM ms l u) := by
  unfold cutV cutM
  rw [r.length]
  exact (r.drop _).take _
theorem slr : SlR X (fun x l u H Q => lift1 X.K (fun m h K => slM m l u h K) x H Q) := by
  intro pins s σ H x v vl vu lo hi sl Q I rx hs pl pu w
  refine SlR.or sl_list sl_tupA pins s σ H x v vl vu lo hi sl Q I rx hs pl pu ?_
  obtain ⟨m, h, qx, sm, w⟩ := w
  unfold slM at w
  split at w <;> try contradiction
  · obtain ⟨a, vs, rfl, t, r⟩ := qx.toTup
    refine .inr ⟨a, vs, rfl, t, fun ⟨e1, e2⟩ => ?_, fun _ p hp => ?_⟩
    · refine w _ H (.tup t ?_) sm (Frm.refl _ _)
      have q := r.cut lo hi
      unfold cutV at q
      rw [e1, e2] at q
      simpa using q
    · exact w _ _ (.tup (.inl (.inl upd_same)) ((r.cut _ _).free hp)) (sm.laid0 hp) (Frm.laid0 hp)
  · split at w <;> try contradiction
    rename_i xs e
    obtain ⟨vs, e1, r⟩ := sm.lst e
    refine .inl ⟨_, vs, qx.toRef, SqL.of e1, fun p hp => ?_⟩
    exact w p (sm.free hp) _ _ (.ref p) (sm.laid hp ⟨_, upd_same, (r.cut _ _).free hp⟩) (Frm.laid hp)
end
end Mp

set_option Elab.async false
set_option linter.all false
set_option maxRecDepth 100000
/-! Mini: calls of built-ins, sequences, what a for walks. -/
namespace Mp
open PySem PySem.Spec PyProof.Rows L2

/-- what a body's surroundings must grant -/
structure Cn (X : Cx) : Prop where
  calm : X.calm = true
  units : X.A.units + 100 < cLine
  guards : X.A.guards = some []
  digits : X.base.NoDigits
section
variable {X : Cx} {K : PySem.W.Frag} {h : MH} {H : Hp}
theorem RpAll.one {vs : List V} {m : M} (r : RpAll K H vs [m]) : ∃ v, vs = [v] ∧ Rp K H v m := by
  cases r with
  | cons a b => cases b; exact ⟨_, rfl, a⟩
theorem RpAll.two {vs : List V} {m n : M} (r : RpAll K H vs [m, n]) : ∃ v u, vs = [v, u] ∧ Rp K H v m ∧ Rp K H u n := by
  cases r with
  | cons a b => obtain ⟨u, rfl, q⟩ := b.one; exact ⟨_, _, rfl, a, q⟩
theorem RpAll.three {vs : List V} {m n o : M} (r : RpAll K H vs [m, n, o]) : ∃ v u t, vs = [v, u, t] ∧ Rp K H v m ∧ Rp K H u n ∧ Rp K H t o := by
  cases r with
  | cons a b => obtain ⟨u, t, rfl, q⟩ := b.two; exact ⟨_, _, _, rfl, a, q⟩
/-- which value stands behind the name -/
def biV : Bi → Value
  | .abs => .builtin "abs" | .int => .type "int" | .len => .builtin "len" | .repr => .builtin "repr" | .max2 => .builtin "max" | .min2 => .builtin "min"
theorem len_of {v : V} {m : M} {n : Nat} (r : Rp K H v m) (s : Sim K h H) (e : lenM m h = some n) : ∃ a, v = .ref a ∧ ((∃ ys, (SqL K H a ys ∨ SqT K H a ys) ∧ ys.length = n) ∨ ∃ kvs, H a = some (.dK kvs) ∧ kvs.length = n) := by
  unfold lenM at e
  split at e
  · obtain ⟨a, vs, rfl, t, q⟩ := r.toTup
    exact ⟨a, rfl, .inl ⟨vs, .inr t, by rw [q.length]; exact Option.some.inj e⟩⟩
  · obtain ⟨a, vs, rfl, t, q⟩ := r.toRol
    exact ⟨a, rfl, .inl ⟨vs, .inl t.l, by rw [q.length]; exact Option.some.inj e⟩⟩
  · rename_i a
    refine ⟨a, r.toRef, ?_⟩
    split at e
    · rename_i xs ea
      obtain ⟨vs, e1, q⟩ := s.lst ea
      exact .inl ⟨vs, .inl (SqL.of e1), by rw [q.length]; exact Option.some.inj e⟩
    · rename_i xs ea
      obtain ⟨vs, e1, q⟩ := s.dic ea
      exact .inr ⟨vs, e1, by rw [q.length]; exact Option.some.inj e⟩
    · cases e
  · cases e
theorem bir (c : Cn X) (b : Bi) : CallR X (biV b) (liftN X.K (biM b)) := by
  cases b with
  | abs =>
    refine CallR.imp call_abs fun xs H Q w => ?_
    obtain ⟨ms, h, rs, sm, w⟩ := w
    unfold biM at w
    split at w <;> try contradiction
    obtain ⟨v, rfl, r⟩ := rs.one
    exact ⟨_, by rw [r.toInt], w _ H (.int _) sm (Frm.refl _ _)⟩
  | int =>
    refine CallR.imp call_int1 fun xs H Q w => ?_
    obtain ⟨ms, h, rs, sm, w⟩ := w
    unfold biM at w
    split at w <;> try contradiction
    obtain ⟨v, rfl, r⟩ := rs.one
    exact .inl ⟨_, by rw [r.toInt], w _ H (.int _) sm (Frm.refl _ _)⟩
  | len =>
    refine CallR.imp (CallR.or call_len_seq call_lenD) fun xs H Q w => ?_
    obtain ⟨ms, h, rs, sm, w⟩ := w
    unfold biM at w
    split at w <;> try contradiction
    split at w <;> try contradiction
    rename_i n e
    obtain ⟨v, rfl, r⟩ := rs.one
    obtain ⟨a, rfl, ⟨ys, hs, hl⟩ | ⟨ys, hs, hl⟩⟩ := len_of r sm e
    · exact .inl ⟨a, ys, rfl, hs, by rw [hl]; exact w _ H (.int _) sm (Frm.refl _ _)⟩
    · exact .inr ⟨a, ys, rfl, hs, by rw [hl]; exact w _ H (.int _) sm (Frm.refl _ _)⟩
  | repr =>
    intro pins s σ H xs us Q I rv w
    obtain ⟨ms, h, rs, sm, w⟩ := w
    unfold biM at w
    split at w <;> try contradiction
    obtain ⟨d, hd, ⟨hs, hdep, hl⟩, w⟩ := w
    obtain ⟨v, rfl, r⟩ := rs.one
    obtain ⟨u, rfl, ru⟩ := vals1 rv
    obtain ⟨as, hr⟩ := Dp.reads I d v u (hd.dp r sm) ru
    refine call_reprB (c.digits.keeps I.bk) hr hs c.guards (by have := c.units; omega) (fun h' t tk kk => ?_) (by rw [szEq]; exact hl)
    exact ⟨.str d.shown, H, I.kept (t' := tk) kk, ⟨_, rfl⟩, w _ H (.str _) sm (Frm.refl _ _)⟩
  | max2 =>
    refine CallR.imp (call_max2 c.calm) fun xs H Q w => ?_
    obtain ⟨ms, h, rs, sm, w⟩ := w
    unfold biM at w
    split at w <;> try contradiction
    obtain ⟨v, u, rfl, r, r'⟩ := rs.two
    exact ⟨_, _, by rw [r.toInt, r'.toInt], w _ H (.int _) sm (Frm.refl _ _)⟩
  | min2 =>
    refine CallR.imp (call_min2 c.calm) fun xs H Q w => ?_
    obtain ⟨ms, h, rs, sm, w⟩ := w
    unfold biM at w
    split at w <;> try contradiction
    obtain ⟨v, u, rfl, r, r'⟩ := rs.two
    exact ⟨_, _, by rw [r.toInt, r'.toInt], w _ H (.int _) sm (Frm.refl _ _)⟩

/-! ### sequences -/
theorem SeqV.at {v : V} {k : QK} {ms : List M} {g : G} (q : SeqV K h H v k ms g) (s : Sim K h H) : ∃ a vs, v = .ref a ∧ RpAll K H vs ms ∧ (k.isT = false → SqL K H a vs) ∧ (k.isT = true → SqT K H a vs) ∧ (k = .l → H a = some (.lst vs)) := by
  cases q with
  | tup t r => exact ⟨_, _, rfl, r, fun z => (nomatch z), fun _ => t, fun z => (nomatch z)⟩
  | rol t r => exact ⟨_, _, rfl, r, fun _ => t.l, fun z => (nomatch z), fun z => (nomatch z)⟩
  | own e n r => exact ⟨_, _, rfl, r, fun _ => SqL.of e, fun z => (nomatch z), fun _ => e⟩
  | cell e =>
    obtain ⟨vs, e1, r⟩ := s.lst e
    exact ⟨_, _, rfl, r, fun _ => SqL.of e1, fun z => (nomatch z), fun _ => e1⟩
theorem SeqV.frm {h' : MH} {H' : Hp} {v : V} {k : QK} {ms : List M} {g : G} (q : SeqV K h H v k ms g) (s : Sim K h H) (f : Frm h H h' H') (o : gOk g h') : SeqV K h' H' v k ms g := by
  cases q with
  | tup t r => exact .tup (f.tups s _ _ t) (r.frm s f)
  | rol t r => exact .rol (f.rols s _ _ t) (r.frm s f)
  | own e n r => exact .own (f.keep _ _ e n).1 (f.keep _ _ e n).2 (r.frm s f)
  | cell e => exact .cell o.1
theorem SeqV.addr {v : V} {k : QK} {ms : List M} {g : G} (q : SeqV K h H v k ms g) : ∃ a, v = .ref a := by
  cases q <;> exact ⟨_, rfl⟩
/-- built-ins over a sequence -/
def bqV : Bq → Value
  | .sum => .builtin "sum" | .all => .builtin "all" | .any => .builtin "any" | .max => .builtin "max" | .min => .builtin "min" | .tuple => .type "tuple"
def liftS (K : PySem.W.Frag) (f : QK → List M → MH → KE → Prop) : List V → Hp → VK → Prop := fun xs H Q => ∃ v k ms g h, xs = [v] ∧ SeqV K h H v k ms g ∧ Sim K h H ∧ gOk g h ∧ f k ms h fun z h' => ∀ v H', Rp K H' v z → Sim K h' H' → Frm h H h' H' → Q v H'
theorem bqr (c : Cn X) (b : Bq) : CallR X (bqV b) (liftS X.K (bqM b)) := by
  cases b with
  | sum =>
    refine CallR.imp (cr_sum c.calm) fun xs H Q w => ?_
    obtain ⟨v, k, ms, g, h, rfl, sv, sm, _, hk, ns, rfl, w⟩ := w
    obtain ⟨a, vs, rfl, r, l, _⟩ := sv.at sm
    exact ⟨a, ns, rfl, by rw [← r.ints]; exact l hk, w _ H (.int _) sm (Frm.refl _ _)⟩
  | all =>
    refine CallR.imp (cr_all c.calm) fun xs H Q w => ?_
    obtain ⟨v, k, ms, g, h, rfl, sv, sm, _, hk, ns, rfl, w⟩ := w
    obtain ⟨a, vs, rfl, r, l, _⟩ := sv.at sm
    exact ⟨a, ns, rfl, by rw [← r.bls]; exact l hk, w _ H (.bl _) sm (Frm.refl _ _)⟩
  | any =>
    refine CallR.imp (cr_any c.calm) fun xs H Q w => ?_
    obtain ⟨v, k, ms, g, h, rfl, sv, sm, _, hk, ns, rfl, w⟩ := w
    obtain ⟨a, vs, rfl, r, l, _⟩ := sv.at sm
    exact ⟨a, ns, rfl, by rw [← r.bls]; exact l hk, w _ H (.bl _) sm (Frm.refl _ _)⟩
  | max =>
    refine CallR.imp (cr_max c.calm) fun xs H Q w => ?_
    obtain ⟨v, k, ms, g, h, rfl, sv, sm, _, hk, ns, rfl, n, w⟩ := w
    obtain ⟨a, vs, rfl, r, l, _⟩ := sv.at sm
    exact ⟨a, ns, rfl, by rw [← r.ints]; exact l hk, n, fun m h1 h2 => w m h1 h2 _ H (.int _) sm (Frm.refl _ _)⟩
  | min =>
    refine CallR.imp (cr_min c.calm) fun xs H Q w => ?_
    obtain ⟨v, k, ms, g, h, rfl, sv, sm, _, hk, ns, rfl, n, w⟩ := w
    obtain ⟨a, vs, rfl, r, l, _⟩ := sv.at sm
    exact ⟨a, ns, rfl, by rw [← r.ints]; exact l hk, n, fun m h1 h2 => w m h1 h2 _ H (.int _) sm (Frm.refl _ _)⟩
  | tuple =>
    refine CallR.imp call_tuple_of fun xs H Q w => ?_
    obtain ⟨v, k, ms, g, h, rfl, sv, sm, _, w⟩ := w
    obtain ⟨a, vs, rfl, r, l, t⟩ := sv.at sm
    obtain ⟨t, _⟩ := t
    cases hk : k.isT with
    | false => exact ⟨a, vs, rfl, .inl ⟨l hk, fun p hp => w _ _ (.tup (.inl (.inl upd_same)) (r.free hp)) (sm.laid0 hp) (Frm.laid0 hp)⟩⟩
    | true => exact ⟨a, vs, rfl, .inr ⟨t hk, w _ H (.tup (t hk) r) sm (Frm.refl _ _)⟩⟩
/-- built-ins that make a list -/
def blV : Bl → Value
  | .list => .type "list" | .sorted => .builtin "sorted"
def liftL (K : PySem.W.Frag) (f : QK → List M → (List M → Prop) → Prop) : List V → Hp → VK → Prop := fun xs H Q => ∃ v k ms g h, xs = [v] ∧ SeqV K h H v k ms g ∧ Sim K h H ∧ gOk g h ∧ f k ms fun zs => ∀ D vs H', H D = none → H' D = some (.lst vs) → h D = none → RpAll K H' vs zs → Sim K h H' → Frm h H h H' → Q (.ref D) H'
theorem blr (b : Bl) : CallR X (blV b) (liftL X.K (blM b)) := by
  cases b with
  | list =>
    refine CallR.imp call_list_of fun xs H Q w => ?_
    obtain ⟨v, k, ms, g, h, rfl, sv, sm, _, w⟩ := w
    obtain ⟨a, vs, rfl, r, l, t⟩ := sv.at sm
    refine ⟨a, vs, rfl, ?_, fun p hp => w p vs _ hp upd_same (sm.free hp) (r.free hp) (sm.laid0 hp) (Frm.laid0 hp)⟩
    cases hk : k.isT with
    | false => exact .inl (l hk)
    | true => exact .inr (t.1 hk)
  | sorted =>
    refine CallR.imp cr_sortedI fun xs H Q w => ?_
    obtain ⟨v, k, ms, g, h, rfl, sv, sm, _, hk, ns, rfl, w⟩ := w
    obtain ⟨a, vs, rfl, r, l, t⟩ := sv.at sm
    refine ⟨a, ns, rfl, by rw [← r.ints]; exact l hk, fun ns' p h1 h2 hp => ?_⟩
    exact w ns' h1 h2 p _ _ hp upd_same (sm.free hp) (RpAll.ofInts ns') (sm.laid0 hp) (Frm.laid0 hp)

/-! ### methods of lists -/
theorem mtr_append : MtR X "list.append" (fun x vs H Q => ∃ m ms h, Rp X.K H x m ∧ RpAll X.K H vs ms ∧ Sim X.K h H ∧ methM .append m ms h fun z h' => ∀ v H', Rp X.K H' v z → Sim X.K h' H' → Frm h H h' H' → Q v H') := by
  intro pins s σ H x xs v us Q I rx rv w
  obtain ⟨m, ms, h, r, rs, sm, w⟩ := w
  refine mt_append pins s σ H x xs v us Q I rx rv ?_
  unfold methM at w
  split at w <;> try contradiction
  rename_i a y _
  split at w <;> try contradiction
  rename_i zs e
  obtain ⟨u, rfl, ry⟩ := rs.one
  obtain ⟨vs, e1, r1⟩ := sm.lst e
  refine ⟨a, vs, u, r.toRef, rfl, e1, by rw [szEq, r1.length]; exact w.1, ?_⟩
  exact w.2 _ _ .non (sm.wrote e ⟨_, upd_same, (r1.append (.cons ry .nil)).cell sm e⟩) (Frm.wrote e)
theorem mtr_pop : MtR X "list.pop" (fun x vs H Q => ∃ m ms h, Rp X.K H x m ∧ RpAll X.K H vs ms ∧ Sim X.K h H ∧ methM .pop m ms h fun z h' => ∀ v H', Rp X.K H' v z → Sim X.K h' H' → Frm h H h' H' → Q v H') := by
  intro pins s σ H x xs v us Q I rx rv w
  obtain ⟨m, ms, h, r, rs, sm, w⟩ := w
  refine mt_pop pins s σ H x xs v us Q I rx rv ?_
  unfold methM at w
  split at w <;> try contradiction
  rename_i a _
  split at w <;> try contradiction
  rename_i zs e
  split at w <;> try contradiction
  rename_i y ey
  cases rs
  obtain ⟨vs, e1, r1⟩ := sm.lst e
  rw [List.getLast?_eq_getElem?] at ey
  obtain ⟨u, eu, ru⟩ := r1.get ey
  refine ⟨a, vs, u, r.toRef, rfl, e1, by rw [r1.length]; exact eu, ?_⟩
  exact w _ _ (ru.cell sm e) (sm.wrote e ⟨_, upd_same, r1.dropLast.cell sm e⟩) (Frm.wrote e)
theorem mtr_extend : MtR X "list.extend" (fun x vs H Q => ∃ m ms h, Rp X.K H x m ∧ RpAll X.K H vs ms ∧ Sim X.K h H ∧ methM .extend m ms h fun z h' => ∀ v H', Rp X.K H' v z → Sim X.K h' H' → Frm h H h' H' → Q v H') := by
  intro pins s σ H x xs v us Q I rx rv w
  obtain ⟨m, ms, h, r, rs, sm, w⟩ := w
  refine mt_extend pins s σ H x xs v us Q I rx rv ?_
  unfold methM at w
  split at w <;> try contradiction
  rename_i a b _
  split at w <;> try contradiction
  rename_i zs ys e eb
  obtain ⟨u, rfl, ry⟩ := rs.one
  obtain ⟨vs, e1, r1⟩ := sm.lst e
  obtain ⟨vb, e2, r2⟩ := sm.lst eb
  refine ⟨a, b, vs, vb, r.toRef, by rw [ry.toRef], e1, e2, by rw [szEq, r1.length, r2.length]; exact w.1, ?_⟩
  exact w.2 _ _ .non (sm.wrote e ⟨_, upd_same, (r1.append r2).cell sm e⟩) (Frm.wrote e)

/-! ### what a for walks -/
/-- J gives the items ms while the lists g stand, from (h₀, H₀) on -/
structure WalkM (K : PySem.W.Frag) (J : It) (ms : List M) (g : G) (h₀ : MH) (H₀ : Hp) : Prop where
  goes : ∀ i h H, i < ms.length → Frm h₀ H₀ h H → Sim K h H → gOk g h → J.go i H
  stops : ∀ h H, Frm h₀ H₀ h H → Sim K h H → gOk g h → J.stop ms.length H
  yields : ∀ i h H x H', i < ms.length → Frm h₀ H₀ h H → Sim K h H → gOk g h → J.yld i H x H' → ∃ m, ms[i]? = some m ∧ Rp K H' x m ∧ Sim K h H' ∧ Frm h H h H'
def liftI (K : PySem.W.Frag) (t : Sl → MH → KQ → Prop) : TI := fun s H R => ∃ σ h, RpS K H s σ ∧ Sim K h H ∧ t σ h fun _ ms g h' => ∀ J H', WalkM K J ms g h' H' → Sim K h' H' → Frm h H h' H' → R J H'
theorem PI.imp {tg e : Expr} {t t' : TI} (p : PI X tg e t) (f : ∀ s H Q, t' s H Q → t s H Q) : PI X tg e t' := ⟨fun pins s σ H Q I h => p.run pins s σ H Q I (f _ _ _ h)⟩
/-- over a list or a tuple, whichever it is -/
def iSeq (K : PySem.W.Frag) (tl : TE) : TI := fun σ H R => tl σ H fun x H1 => (∃ a, x = .ref a ∧ (∃ xs, SqL K H1 a xs) ∧ R (Itl K a) H1) ∨ (∃ a, x = .ref a ∧ (∃ xs, SqT K H1 a xs) ∧ R (Itt K a) H1)
theorem pi_seq {tg l : Expr} {tl : TE} (hl : PE X l tl) : PI X tg l (iSeq X.K tl) := by
  refine ⟨fun pins s σ H R I h => ?_⟩
  refine thn (hl.run pins s σ H _ I h) fun v s1 ⟨x, H1, I1, r1, q1⟩ => ?_
  rcases q1 with ⟨a, e, ⟨xs, hq⟩, q⟩ | ⟨a, e, ⟨xs, hq⟩, q⟩
  · subst e
    cases r1
    obtain ⟨its, rv, p, hz⟩ := I1.list hq
    refine wpAny_pyIter_list p.isList ?_
    refine ⟨s1.heap.objs.size, [s1.heap.objs.size], _, _, H1, rfl, I1.kept (t' := s1.toks) fun b o e => Heap.get?_push_of_some _ e, turn_list a _, ⟨_, Heap.get?_push_size _ rfl, rfl, rfl⟩, fun b hb => ?_, q⟩
    have e : b = s1.heap.objs.size := by simpa using hb
    subst e
    exact I1.fpOk (Nat.le_refl _) (I1.hok.fresh (Nat.le_refl _))
  · subst e
    cases r1
    obtain ⟨its, rv, p, hz⟩ := I1.tuple hq
    refine wpAny_pyIter_tuple (show s1.heap.IsTuple a its.toArray from p) ?_
    refine ⟨s1.heap.objs.size, [s1.heap.objs.size], _, _, H1, rfl, I1.kept (t' := s1.toks) fun b o e => Heap.get?_push_of_some _ e, turn_tuple a _, ⟨_, Heap.get?_push_size _ rfl, rfl, rfl⟩, fun b hb => ?_, q⟩
    have e : b = s1.heap.objs.size := by simpa using hb
    subst e
    exact I1.fpOk (Nat.le_refl _) (I1.hok.fresh (Nat.le_refl _))
theorem walkM_list {a : Addr} {ms : List M} {g : G} {h : MH} {H : Hp} {k : QK} (hk : k.isT = false) (sv : SeqV K h H (.ref a) k ms g) (s : Sim K h H) : WalkM K (Itl K a) ms g h H := by
  have at' : ∀ {h2 H2}, Frm h H h2 H2 → Sim K h2 H2 → gOk g h2 → ∃ vs, SqL K H2 a vs ∧ RpAll K H2 vs ms := fun f sm o => by
    obtain ⟨b, vs, e, r, l, _⟩ := (sv.frm s f o).at sm
    cases e
    exact ⟨vs, l hk, r⟩
  refine ⟨fun i h2 H2 hi f sm o => ?_, fun h2 H2 f sm o => ?_, fun i h2 H2 x H3 hi f sm o y => ?_⟩
  · obtain ⟨vs, l, r⟩ := at' f sm o
    have hl : i < vs.length := by rw [r.length]; exact hi
    exact ⟨vs, vs[i], l, by simp [hl]⟩
  · obtain ⟨vs, l, r⟩ := at' f sm o
    exact ⟨vs, l, by rw [r.length]; exact Nat.le_refl _⟩
  · obtain ⟨vs, l, r⟩ := at' f sm o
    obtain ⟨rfl, y⟩ := y
    obtain ⟨m, e, q⟩ := r.getV (y vs l)
    exact ⟨m, e, q, sm, Frm.refl _ _⟩
theorem walkM_tup {a : Addr} {ms : List M} {g : G} {h : MH} {H : Hp} {k : QK} (hk : k.isT = true) (sv : SeqV K h H (.ref a) k ms g) (s : Sim K h H) : WalkM K (Itt K a) ms g h H := by
  have at' : ∀ {h2 H2}, Frm h H h2 H2 → Sim K h2 H2 → gOk g h2 → ∃ vs, SqT K H2 a vs ∧ RpAll K H2 vs ms := fun f sm o => by
    obtain ⟨b, vs, e, r, _, l, _⟩ := (sv.frm s f o).at sm
    cases e
    exact ⟨vs, l hk, r⟩
  refine ⟨fun i h2 H2 hi f sm o => ?_, fun h2 H2 f sm o => ?_, fun i h2 H2 x H3 hi f sm o y => ?_⟩
  · obtain ⟨vs, l, r⟩ := at' f sm o
    have hl : i < vs.length := by rw [r.length]; exact hi
    exact ⟨vs, vs[i], l, by simp [hl]⟩
  · obtain ⟨vs, l, r⟩ := at' f sm o
    exact ⟨vs, l, by rw [r.length]; exact Nat.le_refl _⟩
  · obtain ⟨vs, l, r⟩ := at' f sm o
    obtain ⟨rfl, y⟩ := y
    obtain ⟨m, e, q⟩ := r.getV (y vs l)
    exact ⟨m, e, q, sm, Frm.refl _ _⟩
theorem rngL_length (c : Int) : ∀ (n : Nat) (lo : Int), (rngL lo c n).length = n
  | 0, _ => rfl
  | n + 1, lo => congrArg (· + 1) (rngL_length c n (lo + c))
theorem rngL_get (c : Int) : ∀ (n : Nat) (lo : Int) (i : Nat), i < n → (rngL lo c n)[i]? = some (.int (lo + i * c))
  | 0, _, _, h => absurd h (Nat.not_lt_zero _)
  | n + 1, lo, 0, _ => by simp [rngL]
  | n + 1, lo, i + 1, h => by
    show (rngL (lo + c) c n)[i]? = _
    rw [rngL_get c n (lo + c) i (Nat.lt_of_succ_lt_succ h)]
    congr 2
    rw [Int.natCast_add, Int.add_mul]
    omega
theorem walkM_range {lo : Int} {n : Nat} {h : MH} {H : Hp} : WalkM K (Itr lo n) (rngL lo 1 n) [] h H :=
  ⟨fun i _ _ hi _ _ _ => by rw [rngL_length] at hi; exact hi, fun _ _ _ _ _ => by rw [rngL_length]; exact Nat.le_refl _, fun i h2 H2 x H3 hi f sm o y => by
    rw [rngL_length] at hi
    obtain ⟨rfl, rfl⟩ := y
    exact ⟨_, rngL_get 1 n lo i hi, by rw [Int.mul_one]; exact .int _, sm, Frm.refl _ _⟩⟩
theorem walkM_rangeC {lo c : Int} {n : Nat} {h : MH} {H : Hp} : WalkM K (Itc lo c n) (rngL lo c n) [] h H :=
  ⟨fun i _ _ hi _ _ _ => by rw [rngL_length] at hi; exact hi, fun _ _ _ _ _ => by rw [rngL_length]; exact Nat.le_refl _, fun i h2 H2 x H3 hi f sm o y => by
    rw [rngL_length] at hi
    obtain ⟨rfl, rfl⟩ := y
    exact ⟨_, rngL_get c n lo i hi, .int _, sm, Frm.refl _ _⟩⟩
theorem enumL_length : ∀ (n : Nat) (ms : List M), (enumL n ms).length = ms.length
  | _, [] => rfl
  | n, _ :: ms => congrArg (· + 1) (enumL_length (n + 1) ms)
theorem enumL_get : ∀ (n : Nat) (ms : List M) (i : Nat) (m : M), ms[i]? = some m → (enumL n ms)[i]? = some (.tup [.int ((n + i : Nat) : Int), m])
  | _, [], _, _, e => by simp at e
  | n, x :: ms, 0, m, e => by simp at e; subst e; simp [enumL]
  | n, x :: ms, i + 1, m, e => by
    show (enumL (n + 1) ms)[i]? = _
    rw [enumL_get (n + 1) ms i m (by simpa using e), Nat.add_assoc, Nat.add_comm 1 i]
theorem walkM_enum {a : Addr} {ms : List M} {g : G} {h : MH} {H : Hp} {k : QK} (hk : k.isT = false) (sv : SeqV K h H (.ref a) k ms g) (s : Sim K h H) : WalkM K (Ite K a) (enumL 0 ms) g h H := by
  have at' : ∀ {h2 H2}, Frm h H h2 H2 → Sim K h2 H2 → gOk g h2 → ∃ vs, SqL K H2 a vs ∧ RpAll K H2 vs ms := fun f sm o => by
    obtain ⟨b, vs, e, r, l, _⟩ := (sv.frm s f o).at sm
    cases e
    exact ⟨vs, l hk, r⟩
  refine ⟨fun i h2 H2 hi f sm o => ?_, fun h2 H2 f sm o => ?_, fun i h2 H2 x H3 hi f sm o y => ?_⟩
  · obtain ⟨vs, l, r⟩ := at' f sm o
    have hl : i < vs.length := by rw [r.length]; rw [enumL_length] at hi; exact hi
    exact ⟨vs, vs[i], l, by simp [hl]⟩
  · obtain ⟨vs, l, r⟩ := at' f sm o
    exact ⟨vs, l, by rw [r.length, enumL_length]; exact Nat.le_refl _⟩
  · obtain ⟨vs, l, r⟩ := at' f sm o
    obtain ⟨T, z, rfl, nT, rfl, y⟩ := y
    obtain ⟨m, e, q⟩ := r.getV (y vs l)
    refine ⟨_, enumL_get 0 ms i m e, ?_, sm.laid0 nT, Frm.laid0 nT⟩
    rw [Nat.zero_add]
    exact .tup (.inl (.inl upd_same)) (.cons (.int _) (.cons (q.free nT) .nil))
theorem zipL_length : ∀ (xs ys : List M), (zipL xs ys).length = min xs.length ys.length
  | [], _ => by simp [zipL]
  | _ :: _, [] => by simp [zipL]
  | x :: xs, y :: ys => by
    show (zipL xs ys).length + 1 = min (xs.length + 1) (ys.length + 1)
    rw [zipL_length xs ys]
    omega
theorem zipL_get : ∀ (xs ys : List M) (i : Nat) (x y : M), xs[i]? = some x → ys[i]? = some y → (zipL xs ys)[i]? = some (.tup [x, y])
  | [], _, _, _, _, e, _ => by simp at e
  | _ :: _, [], _, _, _, _, e => by simp at e
  | a :: xs, b :: ys, 0, x, y, e, f => by simp at e f; subst e; subst f; simp [zipL]
  | a :: xs, b :: ys, i + 1, x, y, e, f => by
    show (zipL xs ys)[i]? = _
    exact zipL_get xs ys i x y (by simpa using e) (by simpa using f)
theorem gOk_append : ∀ {g g' : G} {h : MH}, gOk (g ++ g') h → gOk g h ∧ gOk g' h
  | [], _, _, o => ⟨trivial, o⟩
  | _ :: g, g', h, o => let ⟨a, b⟩ := gOk_append (g := g) o.2; ⟨⟨o.1, a⟩, b⟩
theorem walkM_zip {a b : Addr} {ms ns : List M} {g g' : G} {h : MH} {H : Hp} {k k' : QK} (hk : k.isT = false) (hk' : k'.isT = false) (sv : SeqV K h H (.ref a) k ms g) (sw : SeqV K h H (.ref b) k' ns g') (s : Sim K h H) : WalkM K (Itz K a b) (zipL ms ns) (g ++ g') h H := by
  have at' : ∀ {h2 H2}, Frm h H h2 H2 → Sim K h2 H2 → gOk (g ++ g') h2 → ∃ vs us, SqL K H2 a vs ∧ RpAll K H2 vs ms ∧ SqL K H2 b us ∧ RpAll K H2 us ns := fun f sm o => by
    obtain ⟨o1, o2⟩ := gOk_append o
    obtain ⟨_, vs, e, r, l, _⟩ := (sv.frm s f o1).at sm
    cases e
    obtain ⟨_, us, e, r', l', _⟩ := (sw.frm s f o2).at sm
    cases e
    exact ⟨vs, us, l hk, r, l' hk', r'⟩
  refine ⟨fun i h2 H2 hi f sm o => ?_, fun h2 H2 f sm o => ?_, fun i h2 H2 x H3 hi f sm o y => ?_⟩
  · obtain ⟨vs, us, l, r, l', r'⟩ := at' f sm o
    rw [zipL_length, ← r.length, ← r'.length] at hi
    have h1 : i < vs.length := by omega
    have h2 : i < us.length := by omega
    exact ⟨vs, us, vs[i], us[i], l, l', by simp [h1], by simp [h2]⟩
  · obtain ⟨vs, us, l, r, l', r'⟩ := at' f sm o
    refine ⟨vs, us, l, l', ?_⟩
    rw [zipL_length, ← r.length, ← r'.length]
    omega
  · obtain ⟨vs, us, l, r, l', r'⟩ := at' f sm o
    obtain ⟨T, z, z', rfl, nT, rfl, y, y'⟩ := y
    obtain ⟨m, e, q⟩ := r.getV (y vs l)
    obtain ⟨n, e', q'⟩ := r'.getV (y' us l')
    exact ⟨_, zipL_get _ _ _ _ _ e e', .tup (.inl (.inl upd_same)) (.cons (q.free nT) (.cons (q'.free nT) .nil)), sm.laid0 nT, Frm.laid0 nT⟩
theorem walkM_zipT {a b : Addr} {ms ns : List M} {g g' : G} {h : MH} {H : Hp} {k k' : QK} (hk : k.isT = true) (hk' : k'.isT = true) (sv : SeqV K h H (.ref a) k ms g) (sw : SeqV K h H (.ref b) k' ns g') (s : Sim K h H) : WalkM K (RZ.ItzT K a b) (zipL ms ns) (g ++ g') h H := by
  have at' : ∀ {h2 H2}, Frm h H h2 H2 → Sim K h2 H2 → gOk (g ++ g') h2 → ∃ vs us, SqT K H2 a vs ∧ RpAll K H2 vs ms ∧ SqT K H2 b us ∧ RpAll K H2 us ns := fun f sm o => by
    obtain ⟨o1, o2⟩ := gOk_append o
    obtain ⟨_, vs, e, r, _, l, _⟩ := (sv.frm s f o1).at sm
    cases e
    obtain ⟨_, us, e, r', _, l', _⟩ := (sw.frm s f o2).at sm
    cases e
    exact ⟨vs, us, l hk, r, l' hk', r'⟩
  refine ⟨fun i h2 H2 hi f sm o => ?_, fun h2 H2 f sm o => ?_, fun i h2 H2 x H3 hi f sm o y => ?_⟩
  · obtain ⟨vs, us, l, r, l', r'⟩ := at' f sm o
    rw [zipL_length, ← r.length, ← r'.length] at hi
    have h1 : i < vs.length := by omega
    have h2 : i < us.length := by omega
    exact ⟨vs, us, vs[i], us[i], l, l', by simp [h1], by simp [h2]⟩
  · obtain ⟨vs, us, l, r, l', r'⟩ := at' f sm o
    refine ⟨vs, us, l, l', ?_⟩
    rw [zipL_length, ← r.length, ← r'.length]
    omega
  · obtain ⟨vs, us, l, r, l', r'⟩ := at' f sm o
    obtain ⟨T, z, z', rfl, nT, rfl, y, y'⟩ := y
    obtain ⟨m, e, q⟩ := r.getV (y vs l)
    obtain ⟨n, e', q'⟩ := r'.getV (y' us l')
    exact ⟨_, zipL_get _ _ _ _ _ e e', .tup (.inl (.inl upd_same)) (.cons (q.free nT) (.cons (q'.free nT) .nil)), sm.laid0 nT, Frm.laid0 nT⟩
end
end Mp

set_option Elab.async false
set_option linter.all false
set_option maxRecDepth 100000
/-! Mini: defs and their calls where the guards and the limit of digits are known; targets; comprehensions; loops. -/
namespace Mp
open PySem PySem.Spec PyProof.Rows L2

/-! ### a def, as FnOk, where nothing is being shown (guards) -/
structure FnG (P : Program) (w : World) (K : PySem.W.Frag) (mg : Str → Option Value) (base : Heap) (CX : CXT) (k : Nat) (f : Addr) (fd : FuncData) (ps : List Str) (sp : Sp) : Prop where
  len : ∀ vs H Q E, sp vs H Q E → vs.length = ps.length
  run : ∀ (A : Around) (outer : List Env) (s : Shared) (H : Hp) (args : Args) (us : List Value) (vs : List V) (Q : VK) (E : XK), A.guards = some [] → Room k A → Env0 P w K mg base A outer s H → BindsTo s fd args (ps.zip us) → Vals vs us → sp vs H Q E →
    codeAny (model P w) A (.call (.ref f) args) (CR CX outer P w H s Q E) s
theorem FnG.mono {P : Program} {w : World} {K : PySem.W.Frag} {mg : Str → Option Value} {base : Heap} {CX : CXT} {j k : Nat} {f : Addr} {fd : FuncData} {ps : List Str} {sp : Sp} (F : FnG P w K mg base CX j f fd ps sp) (h : j ≤ k) :
    FnG P w K mg base CX k f fd ps sp := ⟨F.len, fun A outer s H args us vs Q E hg hr => F.run A outer s H args us vs Q E hg (hr.mono h)⟩
theorem fn_ofG {CX : CXT} {P : Program} {w : World} {K : PySem.W.Frag} {mg : Str → Option Value} {base : Heap} {k : Nat} {f : Addr} {name qual : Str} {params : Arguments} {body : List Stmt} {scope : Scope} {dV kV doc pm cdv ct oc : Value} {an od : Option Addr}
    {osl : Array (Option Value)} {N ps : List Str} {sp : Sp} (lk : K.lookup f = some ⟨oc, od, .func (PySem.W.fnOf name qual params body scope dV kV doc pm an cdv ct), osl⟩) (hcd : PySem.W.codeIn K cdv qual = true) (S : FnScope N ps scope)
    (len : ∀ vs H Q E, sp vs H Q E → vs.length = ps.length)
    (hbody : ∀ (A : Around) (outer : List Env) (s : Shared) (H : Hp) (vs : List V) (Q : VK) (E : XK), A.guards = some [] → Room k (A.deeper (envOfC qual scope s.heap.objs.size f cdv)) → sp vs H Q E →
      ∃ t, PSs (cxOf CX P w K mg base N qual scope f cdv A outer s H E) body t ∧ t { nx := fun _ H' => Q .non H', rt := Q } (start N vs) H) :
    FnG P w K mg base CX (k + 1) f (PySem.W.fnOf name qual params body scope dV kV doc pm an cdv ct) ps sp where
  len := len
  run A outer s H args us vs Q E hg hr e0 hb r hsp := by
    have ofBase : ∀ {b o}, base.get? b = some o → s.heap.get? b = some o := fun e => (e0.bs _ _ e).1
    have kin : K.In s.heap := e0.mod.kin.keeps fun _ _ => ofBase
    have lim : s.heap.NoLimit := e0.mod.nolimit.keeps fun _ _ => ofBase
    refine codeAny_call_function hr.depth (kin _ _ lk) rfl S.co S.gen rfl (PySem.W.codeRec_of kin hcd) (hb _ _ _ _ ?_)
    refine wpAny_newFunctionEnv_cells S.kind (fun y hy => ?_) fun env he s1 x => ?_
    · rcases S.par y.1 (List.of_mem_zip hy).1 with q | q
      · exact .inl q
      · exact .inr ⟨q, PySem.W.cellsFrom_some _ _ _ (.inl q)⟩
    · subst he
      refine ⟨lim.keeps x.toInCall.keep, codeAny_func ?_⟩
      obtain ⟨t, ht, hq⟩ := hbody A outer s H vs Q E hg (hr.deeper _) hsp
      refine wpAny_mono (ht.run [] s1 _ H _ (inv_start S hr.hd e0 (len _ _ _ _ hsp) r x) hq) (fun fl s' hs => ?_) fun e s' hs => hs
      cases fl with
      | ret u => obtain ⟨v, σ', H', J, rv, q⟩ := hs; exact ⟨v, H', J.os, J.bare, J.base, J.hok, rv, q⟩
      | next => obtain ⟨σ', H', J, q⟩ := hs; exact ⟨.non, H', J.os, J.bare, J.base, J.hok, rfl, q⟩
      | brk => exact hs.elim fun _ z => z.elim fun _ z => z.2.elim
      | cont => exact hs.elim fun _ z => z.elim fun _ z => z.2.elim
section
variable {X : Cx} {CX : CXT} {k : Nat} {f : Addr} {fd : FuncData} {ps : List Str} {sp : Sp} {dvs : List V} {ds : List Value} {E : XK} {x : Str} {p pos : Pos} {e : Expr} {es : List Expr} {t : TA}
theorem run_fnG {pins : List (Addr × Obj)} {σ : L2.St} {H : Hp} {s : Shared} {Q : VK} {us : List Value} {vs : List V} (F : FnG X.prog X.w X.K X.mg X.base CX k f fd ps sp) (hg : X.A.guards = some []) (hr : Room k X.A) (hb : Binds X.K fd ps ds) (hd : Vals dvs ds) (hx : Passes CX X E)
    (I : Inv X pins σ H s) (r : Vals vs us) (h : sp (vs ++ dvs) H Q E) : wpAny (model X.prog X.w) X.A (call (.ref f) us) (EP X pins σ Q) X.xe s := by
  have r2 : Vals (vs ++ dvs) (us ++ ds) := r.append hd
  refine wpAny_call (codeAny_mono (F.run X.A X.stack s H ⟨us, []⟩ (us ++ ds) (vs ++ dvs) Q E hg hr I.env0 (hb s us I.kIn (by rw [← r2.length]; exact F.len _ _ _ _ h)) r2 h) fun r s' hq => ?_)
  match r, hq with
  | .error e, hq => exact hx pins σ H s e s' I hq
  | .ok (.ret u), hq => exact I.after hq
theorem pe_callG (F : FnG X.prog X.w X.K X.mg X.base CX k f fd ps sp) (hg' : X.A.guards = some []) (hr : Room k X.A) (hg : Gl X x) (hm : X.mg x = some (.ref f)) (hk : PySem.W.keepIn X.K (.ref f) = true) (hb : Binds X.K fd ps ds) (hd : Vals dvs ds) (hx : Passes CX X E)
    (ha : PA X (e :: es) t) (hdb : (x == ("__debug__" : Str)) = false) (he : starEach (e :: es) X.env = (false, eval e X.env) :: starEach es X.env) (hpl : (backTo pos (starEach es X.env)).any (·.1) = false) :
    PE X (.Call (.Name x p) (e :: es) [] pos) (tCall sp dvs E t) :=
  ⟨fun pins s σ H Q I h => wpAny_Call_Name_kw (ld_glob I hg hm (PySem.W.callWith_K (h₀ := X.base) I.ok.mod.kin hk (thn (ha.run pos pins s σ H _ I h) fun us s1 ⟨vs, H1, I1, r, q⟩ => ⟨I1.kIn, run_fnG F hg' hr hb hd hx I1 r q⟩) he hpl) hdb)⟩
theorem pe_callG0 (F : FnG X.prog X.w X.K X.mg X.base CX k f fd ps sp) (hg' : X.A.guards = some []) (hr : Room k X.A) (hg : Gl X x) (hm : X.mg x = some (.ref f)) (hk : PySem.W.keepIn X.K (.ref f) = true) (hb : Binds X.K fd ps ds) (hd : Vals dvs ds) (hx : Passes CX X E)
    (hdb : (x == ("__debug__" : Str)) = false) : PE X (.Call (.Name x p) [] [] pos) (tCall sp dvs E tNil) :=
  ⟨fun pins s σ H Q I h => wpAny_Call_Name_kw (ld_glob I hg hm (PySem.W.callWith_K0 I.kIn hk (run_fnG (us := []) F hg' hr hb hd hx I .nil h)) hdb)⟩
end

/-! ### promises over Mini's values -/
def liftSp (K : PySem.W.Frag) (sp : SpM) : Sp := fun vs H Q _ => ∃ ms h, RpAll K H vs ms ∧ Sim K h H ∧ sp ms h (fun m h' => ∀ v H', Rp K H' v m → Sim K h' H' → Frm h H h' H' → Q v H') fun _ _ _ => False
/-- the def of that name may be called with n arguments -/
def CallOk (Φ : Phi) (P : Program) (w : World) (K : PySem.W.Frag) (mg : Str → Option Value) (base : Heap) (A : Around) (f : String) (n : Nat) : Prop :=
  ∃ (fa : Addr) (fd : FuncData) (ps : List Str) (ds : List Value) (dvs : List V) (k : Nat) (sp : Sp), FnG P w K mg base CX0 k fa fd ps sp ∧ Room k A ∧ mg (Str.ofString f) = some (.ref fa) ∧ PySem.W.keepIn K (.ref fa) = true ∧ Binds K fd ps ds ∧ Vals dvs ds ∧
    ∀ vs H Q E, vs.length = n → liftSp K (Φ.fn f) vs H Q E → sp (vs ++ dvs) H Q E
def biNames : List Str := ["abs", "int", "len", "repr", "max", "min", "sum", "all", "any", "tuple", "list", "sorted", "range", "enumerate", "zip"].map Str.ofString
/-- a block's surroundings -/
structure XOk (Φ : Phi) (fns : List (String × Nat)) (N : List Str) (so : Scope) (X : Cx) : Prop extends Cn X where
  names : X.N = N
  nd : N.Nodup
  kind : X.env.scope.kind = .function
  fn : ∀ q ∈ fns, CallOk Φ X.prog X.w X.K X.mg X.base X.A q.1 q.2
  bi : ∀ y ∈ biNames, X.mg y = none
  gl : ∀ y m, Φ.gl y = some m → ∃ v u, X.mg (Str.ofString y) = some u ∧ RelV v u ∧ ∀ H, Rp X.K H v m
  stor : ∀ y, so.names.lookup y = some .local ∨ so.names.lookup y = some .cell → Loc X.env.scope y ∧ (X.fn y = true ∨ X.env.scope.names.lookup y = some .local)

/-! ### targets -/
/-- only these slots may have changed -/
def Out (vars : List Nat) (s s' : L2.St) : Prop := s'.length = s.length ∧ ∀ i : Nat, i ∉ vars → s'[i]? = s[i]?
theorem Out.refl (vars : List Nat) (s : L2.St) : Out vars s s := ⟨rfl, fun _ _ => rfl⟩
theorem Out.trans {vars : List Nat} {s s1 s2 : L2.St} (a : Out vars s s1) (b : Out vars s1 s2) : Out vars s s2 := ⟨b.1.trans a.1, fun i hi => (b.2 i hi).trans (a.2 i hi)⟩
theorem Out.mono {v u : List Nat} {s s1 : L2.St} (a : Out v s s1) (h : ∀ i ∈ v, i ∈ u) : Out u s s1 := ⟨a.1, fun i hi => a.2 i fun z => hi (h i z)⟩
theorem wipe_get (s : L2.St) : ∀ (vs : List Nat) (i : Nat), (wipe s vs)[i]? = if i ∈ vs ∧ i < s.length then some none else s[i]?
  | [], i => by simp [wipe]
  | v :: vs, i => by
    unfold wipe
    by_cases hv : v = i
    · subst hv
      by_cases hl : v < s.length
      · rw [List.getElem?_set_self (by rw [wipe_length]; exact hl), if_pos ⟨List.mem_cons_self, hl⟩]
      · rw [List.getElem?_eq_none (by rw [List.length_set, wipe_length]; omega), if_neg (fun z => hl z.2), List.getElem?_eq_none (by omega)]
    · rw [List.getElem?_set_ne hv, wipe_get s vs i]
      by_cases hm : i ∈ vs
      · simp [hm]
      · have : i ∉ v :: vs := fun z => (List.mem_cons.mp z).elim (fun e => hv e.symm) hm
        rw [if_neg (fun z => hm z.1), if_neg (fun z => this z.1)]
theorem Out.wipe {vars own : List Nat} {s s' : L2.St} (a : Out vars (L2.wipe s own) s') (h : ∀ i ∈ vars, i ∈ own) : L2.wipe s' own = L2.wipe s own := by
  refine List.ext_getElem? fun i => ?_
  have hl : s'.length = s.length := by rw [a.1, wipe_length]
  rw [wipe_get, wipe_get, hl]
  by_cases hi : i ∈ own ∧ i < s.length
  · rw [if_pos hi, if_pos hi]
  · rw [if_neg hi, if_neg hi]
    by_cases hv : i ∈ vars
    · have : ¬ i < s.length := fun z => hi ⟨h i hv, z⟩
      rw [List.getElem?_eq_none (by omega), List.getElem?_eq_none (by omega)]
    · rw [a.2 i hv, wipe_get, if_neg hi]
def liftG (K : PySem.W.Frag) (vars : List Nat) (g : M → Sl → MH → (Sl → MH → Prop) → Prop) : TG := fun v s H Q => ∃ m σ h, Rp K H v m ∧ RpS K H s σ ∧ Sim K h H ∧ g m σ h fun σ' h' => ∀ s' H', RpS K H' s' σ' → Sim K h' H' → Frm h H h' H' → Out vars s s' → Q s' H'
def liftGs (K : PySem.W.Frag) (vars : List Nat) (g : List M → Sl → MH → (Sl → MH → Prop) → Prop) : TGs := fun v s H Q => ∃ m σ h, RpAll K H v m ∧ RpS K H s σ ∧ Sim K h H ∧ g m σ h fun σ' h' => ∀ s' H', RpS K H' s' σ' → Sim K h' H' → Frm h H h' H' → Out vars s s' → Q s' H'
theorem PG.imp {X : Cx} {e : Expr} {t t' : TG} (p : PG X e t) (f : ∀ v s H Q, t' v s H Q → t v s H Q) : PG X e t' := ⟨fun pins s σ H v u Q I r h => p.run pins s σ H v u Q I r (f _ _ _ _ h)⟩
theorem PGs.imp {X : Cx} {e : List Expr} {t t' : TGs} (p : PGs X e t) (f : ∀ v s H Q, t' v s H Q → t v s H Q) : PGs X e t' := ⟨fun pins s σ H v u Q I r h => p.run pins s σ H v u Q I r (f _ _ _ _ h)⟩

/-! ### comprehensions -/
section
variable {K : PySem.W.Frag} {h h' : MH} {H H' : Hp}
theorem Sim.other (s : Sim K h H) {D : Addr} {vs : List V} {u : HO} (n : h D = none) (e : H D = some (.lst vs)) : Sim K h (upd H D u) := fun a o q => by
  have z : a ≠ D := fun z => by rw [z, n] at q; cases q
  exact (s a o q).to (upd_cell_tups e (.inl ⟨_, rfl⟩)) (upd_cell_rols e (.inl ⟨_, rfl⟩)) (upd_ne z)
/-- the same but for what stands at D, which Mini does not know -/
def FrmD (D : Addr) (h : MH) (H : Hp) (h' : MH) (H' : Hp) : Prop := Frm h H h' H' ∧ h' D = none
/-- a list made here: new, not known to Mini -/
def liftM (K : PySem.W.Frag) (t : Sl → MH → KQ → Prop) : TE := fun s H Q => ∃ σ h, RpS K H s σ ∧ Sim K h H ∧ t σ h fun k ms g h' => k = .l ∧ g = [] ∧ ∀ D vs H', H D = none → H' D = some (.lst vs) → h' D = none → RpAll K H' vs ms → Sim K h' H' → Frm h H h' H' → Q (.ref D) H'
def tCond (K : PySem.W.Frag) (cn : Bool) (t : Sl → MH → (Bool → MH → Prop) → Prop) : TT := match cn with
  | true => tYes
  | false => liftT K t
theorem comp_read {it t c e : B} {own vars : List Nat} {cn : Bool} (mi : it.Mono) (mt : t.Mono) (mc : c.Mono) (me : e.Mono) (hv : ∀ i ∈ vars, i ∈ own) {s : L2.St} {Q : VK}
    (w : liftM K (fun σ h R => it.i σ h fun _ ms g h1 => ms.length ≤ SZ ∧ compI (compTurn t c e cn (wipeM σ own)) g (fun acc h2 => R .l acc [] h2) ms [] h1) s H Q) :
    tLc (liftI K it.i) (liftG K vars t.g) (tCond K cn c.t) (liftE K e.v) own s H Q := by
  obtain ⟨σ, h, rs, sm, w⟩ := w
  refine ⟨σ, h, rs, sm, mi.i _ _ _ _ (fun k ms g h1 w => ?_) w⟩
  intro J H1 wk s1 f1 D hD
  obtain ⟨hlen, w⟩ := w
  have rs1 := rs.frm sm f1
  have hD1 : h1 D = none := s1.free hD
  refine ⟨fun i m H => m = ms.length - i ∧ i ≤ ms.length ∧ ∃ h acc vs, Frm h1 H1 h H ∧ Sim K h H ∧ H D = some (.lst vs) ∧ h D = none ∧ RpAll K H vs acc ∧ acc.length ≤ i ∧
      compI (compTurn t c e cn (wipeM σ own)) g (fun acc h2 => ∀ D vs H', H1 D = none → H' D = some (.lst vs) → h2 D = none → RpAll K H' vs acc → Sim K h2 H' → Frm h1 H1 h2 H' → Q (.ref D) H') (ms.drop i) acc h, ⟨ms.length, by simp, Nat.zero_le _, h1, [], [], Frm.laid0 hD, s1.laid0 hD, upd_same, hD1, .nil, Nat.le_refl _, ?_⟩, ?_⟩
  · exact compI_mono (fin := fun acc h2 => QK.l = QK.l ∧ ([] : G) = [] ∧ ∀ D vs H', H D = none → H' D = some (.lst vs) → h2 D = none → RpAll K H' vs acc → Sim K h2 H' → Frm h H h2 H' → Q (.ref D) H') (fun m h R R' f w => compTurn_mono (m := m) (h := h) mt mc me f w) (fun acc h2 w D vs H' n0 q1 q2 q3 q4 q5 => w.2.2 D vs H' (f1.dom D n0) q1 q2 q3 q4 (f1.trans q5)) _ _ _ w
  · rintro i m H2 ⟨rfl, hi, h2, acc, vs, f2, s2, eD, nD, ra, hacc, w⟩
    by_cases hlt : i < ms.length
    · have ed : ms.drop i = ms[i] :: ms.drop (i + 1) := List.drop_eq_getElem_cons hlt
      rw [ed] at w
      obtain ⟨ok, w⟩ := w
      refine .inr ⟨wk.goes i h2 H2 hlt f2 s2 ok, fun H3 => ∃ h acc vs, Frm h1 H1 h H3 ∧ Sim K h H3 ∧ H3 D = some (.lst vs) ∧ h D = none ∧ RpAll K H3 vs acc ∧ acc.length ≤ i + 1 ∧
          compI (compTurn t c e cn (wipeM σ own)) g (fun acc h2 => ∀ D vs H', H1 D = none → H' D = some (.lst vs) → h2 D = none → RpAll K H' vs acc → Sim K h2 H' → Frm h1 H1 h2 H' → Q (.ref D) H') (ms.drop (i + 1)) acc h, fun H3 q => ⟨_, by omega, rfl, hlt, q⟩, fun x H3 y => ?_⟩
      obtain ⟨m, em, rx, s3, f3⟩ := wk.yields i h2 H2 x H3 hlt f2 s2 ok y
      have em' : ms[i] = m := by simpa [hlt] using em
      rw [em'] at w
      obtain ⟨eD3, nD3⟩ := f3.keep D _ eD nD
      have f23 := f2.trans f3
      refine ⟨m, wipeM σ own, h2, rx, (rs1.frm s1 f23).wipe own, s3, mt.g _ _ _ _ _ (fun σ4 h4 w => ?_) w⟩
      intro s4 H4 rs4 s4' f4 out
      refine ⟨out.wipe hv, ?_⟩
      -- the value kept
      have keep : ∀ (h5 : MH) (H5 : Hp), Sim K h5 H5 → Frm h4 H4 h5 H5 → e.v σ4 h5 (fun y h6 => ∃ h0, Sub h0 h6 ∧ compI (compTurn t c e cn (wipeM σ own)) g (fun acc h2 => ∀ D vs H', H1 D = none → H' D = some (.lst vs) → h2 D = none → RpAll K H' vs acc → Sim K h2 H' → Frm h1 H1 h2 H' → Q (.ref D) H') (ms.drop (i + 1)) (acc ++ [y]) h0) →
          liftE K e.v s4 H5 fun y H6 => ∃ acc, H6 D = some (.lst acc) ∧ acc.length < sizeLine ∧ (fun H3 => ∃ h acc vs, Frm h1 H1 h H3 ∧ Sim K h H3 ∧ H3 D = some (.lst vs) ∧ h D = none ∧ RpAll K H3 vs acc ∧ acc.length ≤ i + 1 ∧
            compI (compTurn t c e cn (wipeM σ own)) g (fun acc h2 => ∀ D vs H', H1 D = none → H' D = some (.lst vs) → h2 D = none → RpAll K H' vs acc → Sim K h2 H' → Frm h1 H1 h2 H' → Q (.ref D) H') (ms.drop (i + 1)) acc h) (upd H6 D (.lst (acc ++ [y]))) := fun h5 H5 s5 f5 w => by
        refine ⟨σ4, h5, rs4.frm s4' f5, s5, me.v _ _ _ _ (fun y h6 w => ?_) w⟩
        intro u H6 ru s6 f6
        obtain ⟨h0, sb, w⟩ := w
        have fall := f4.trans (f5.trans f6)
        obtain ⟨eD6, nD6⟩ := fall.keep D _ eD3 nD3
        have ra6 : RpAll K H6 vs acc := ra.frm s2 (f3.trans fall)
        refine ⟨vs, eD6, by rw [szEq, ra.length]; omega, h0, acc ++ [y], vs ++ [u], ?_, ?_, upd_same, sb.none nD6, ?_, by simp; omega, w⟩
        · have f7 : Frm h1 H1 h0 H6 := (f23.trans fall).sub sb
          refine ⟨fun a o q n => ?_, fun a q => ?_⟩
          · obtain ⟨q1, n1⟩ := f7.keep a o q n
            exact ⟨(upd_ne (ne_of_none q hD)).trans q1, n1⟩
          · by_cases z : a = D
            · rw [z]; exact hD
            · rw [upd_ne z] at q; exact f7.dom a q
        · exact (s6.sub sb).other (sb.none nD6) eD6
        · exact (ra6.append (.cons ru .nil)).to (upd_cell_tups eD6 (.inl ⟨_, rfl⟩)) (upd_cell_rols eD6 (.inl ⟨_, rfl⟩))
      cases cn with
      | true =>
        simp only [tCond, tYes, if_true]
        exact keep h4 H4 s4' (Frm.refl _ _) w
      | false =>
        refine ⟨σ4, h4, rs4, s4', mc.t _ _ _ _ (fun b h5 w => ?_) w⟩
        intro H5 s5 f5
        cases b with
        | true =>
          rw [if_pos rfl] at w ⊢
          exact keep h5 H5 s5 f5 w
        | false =>
          rw [if_neg Bool.false_ne_true] at w ⊢
          obtain ⟨h0, sb, w⟩ := w
          have fall := f4.trans f5
          obtain ⟨eD5, nD5⟩ := fall.keep D _ eD3 nD3
          exact ⟨h0, acc, vs, (f23.trans fall).sub sb, s5.sub sb, eD5, sb.none nD5, ra.frm s2 (f3.trans fall), by omega, w⟩
    · have e : i = ms.length := by omega
      subst e
      rw [List.drop_length] at w
      obtain ⟨ok, w⟩ := w
      exact .inl ⟨wk.stops h2 H2 f2 s2 ok, w D vs H2 hD eD nD ra s2 f2⟩

/-! ### statements -/
/-- the ends of Mini serve those of HandS, from (h, H) on -/
structure Serves (K : PySem.W.Frag) (h : MH) (H : Hp) (D : DM) (E : Ends) : Prop where
  nx : ∀ σ h' s H', D.nx σ h' → RpS K H' s σ → Sim K h' H' → Frm h H h' H' → E.nx s H'
  rt : ∀ m h' v H', D.rt m h' → Rp K H' v m → Sim K h' H' → Frm h H h' H' → E.rt v H'
  bk : ∀ σ h' s H', D.bk σ h' → RpS K H' s σ → Sim K h' H' → Frm h H h' H' → E.bk s H'
  ct : ∀ σ h' s H', D.ct σ h' → RpS K H' s σ → Sim K h' H' → Frm h H h' H' → E.ct s H'
def liftSt (K : PySem.W.Frag) (t : DM → Sl → MH → Prop) : TS := fun E s H => ∃ D σ h, RpS K H s σ ∧ Sim K h H ∧ t D σ h ∧ Serves K h H D E
theorem Serves.frm {D : DM} {E : Ends} (s : Serves K h H D E) (f : Frm h H h' H') : Serves K h' H' D E :=
  ⟨fun σ h2 s2 H2 a b c d => s.nx σ h2 s2 H2 a b c (f.trans d), fun m h2 v H2 a b c d => s.rt m h2 v H2 a b c (f.trans d), fun σ h2 s2 H2 a b c d => s.bk σ h2 s2 H2 a b c (f.trans d), fun σ h2 s2 H2 a b c d => s.ct σ h2 s2 H2 a b c (f.trans d)⟩
/-- a for -/
theorem for_read {it t : B} {tb : DM → Sl → MH → Prop} {vars : List Nat} (mi : it.Mono) (mt : t.Mono) (mb : ∀ D D' σ h, D.Le D' → tb D σ h → tb D' σ h) {s : L2.St} {E : Ends}
    (w : liftSt K (fun D σ h => it.i σ h fun _ ms g h1 => forI (fun m σ2 h2 nx => t.g m σ2 h2 fun σ3 h3 => tb { D with nx := nx, ct := nx, bk := D.nx } σ3 h3) g D.nx ms σ h1) E s H) :
    tFor (liftI K it.i) (liftG K vars t.g) (liftSt K tb) E s H := by
  obtain ⟨D, σ, h, rs, sm, w, sv⟩ := w
  refine ⟨σ, h, rs, sm, mi.i _ _ _ _ (fun k ms g h1 w => ?_) w⟩
  intro J H1 wk s1 f1
  have sv1 := sv.frm f1
  let turn : M → Sl → MH → (Sl → MH → Prop) → Prop := fun m σ2 h2 nx => t.g m σ2 h2 fun σ3 h3 => tb { D with nx := nx, ct := nx, bk := D.nx } σ3 h3
  refine ⟨fun i m s' H' => m = ms.length - i ∧ i ≤ ms.length ∧ ∃ σ' h', RpS K H' s' σ' ∧ Sim K h' H' ∧ Frm h1 H1 h' H' ∧ forI turn g D.nx (ms.drop i) σ' h', ⟨ms.length, by simp, Nat.zero_le _, σ, h1, rs.frm sm f1, s1, Frm.refl _ _, w⟩, ?_⟩
  rintro i m s2 H2 ⟨rfl, hi, σ2, h2, rs2, s2', f2, w⟩
  by_cases hlt : i < ms.length
  · have ed : ms.drop i = ms[i] :: ms.drop (i + 1) := List.drop_eq_getElem_cons hlt
    rw [ed] at w
    obtain ⟨ok, w⟩ := w
    refine .inr ⟨wk.goes i h2 H2 hlt f2 s2' ok, fun s' H' => ∃ σ' h', RpS K H' s' σ' ∧ Sim K h' H' ∧ Frm h1 H1 h' H' ∧ forI turn g D.nx (ms.drop (i + 1)) σ' h', fun s' H' q => ⟨_, by omega, rfl, hlt, q⟩, fun x H3 y => ?_⟩
    obtain ⟨m, em, rx, s3, f3⟩ := wk.yields i h2 H2 x H3 hlt f2 s2' ok y
    have em' : ms[i] = m := by simpa [hlt] using em
    rw [em'] at w
    have f23 := f2.trans f3
    refine ⟨m, σ2, h2, rx, rs2.frm s2' f3, s3, mt.g _ _ _ _ _ (fun σ4 h4 w => ?_) w⟩
    intro s4 H4 rs4 s4' f4 _
    refine ⟨_, σ4, h4, rs4, s4', w, ?_⟩
    have f24 := f23.trans f4
    refine ⟨fun σ5 h5 s5 H5 q r5 s5' f5 => ?_, fun m h5 v H5 q r5 s5' f5 => sv1.rt m h5 v H5 q r5 s5' (f24.trans f5), fun σ5 h5 s5 H5 q r5 s5' f5 => sv1.nx σ5 h5 s5 H5 q r5 s5' (f24.trans f5), fun σ5 h5 s5 H5 q r5 s5' f5 => ?_⟩
    · obtain ⟨h0, sb, q⟩ := q
      exact ⟨σ5, h0, r5, s5'.sub sb, (f24.trans f5).sub sb, q⟩
    · obtain ⟨h0, sb, q⟩ := q
      exact ⟨σ5, h0, r5, s5'.sub sb, (f24.trans f5).sub sb, q⟩
  · have e : i = ms.length := by omega
    subst e
    rw [List.drop_length] at w
    obtain ⟨ok, w⟩ := w
    exact .inl ⟨wk.stops h2 H2 f2 s2' ok, sv1.nx σ2 h2 s2 H2 w rs2 s2' f2⟩
/-- a while -/
theorem while_read {c : B} {tb : DM → Sl → MH → Prop} (mc : c.Mono) {s : L2.St} {E : Ends}
    (w : liftSt K (fun D σ h => ∃ n, whileI c.t (fun σ2 h2 nx => tb { D with nx := nx, ct := nx, bk := D.nx } σ2 h2) D.nx n σ h) E s H) : tWhile (liftT K c.t) (liftSt K tb) E s H := by
  obtain ⟨D, σ, h, rs, sm, ⟨n, w⟩, sv⟩ := w
  let body : Sl → MH → (Sl → MH → Prop) → Prop := fun σ2 h2 nx => tb { D with nx := nx, ct := nx, bk := D.nx } σ2 h2
  refine ⟨fun m s' H' => ∃ σ' h', RpS K H' s' σ' ∧ Sim K h' H' ∧ Frm h H h' H' ∧ whileI c.t body D.nx m σ' h', ⟨n, σ, h, rs, sm, Frm.refl _ _, w⟩, ?_⟩
  rintro m s2 H2 ⟨σ2, h2, rs2, s2', f2, w⟩
  cases m with
  | zero => exact w.elim
  | succ m =>
    refine ⟨σ2, h2, rs2, s2', mc.t _ _ _ _ (fun b h3 w => ?_) w⟩
    intro H3 s3 f3
    have f23 := f2.trans f3
    have rs3 := rs2.frm s2' f3
    cases b with
    | true =>
      rw [if_pos rfl] at w ⊢
      refine ⟨fun s' H' => ∃ σ' h', RpS K H' s' σ' ∧ Sim K h' H' ∧ Frm h H h' H' ∧ whileI c.t body D.nx m σ' h', fun s' H' q => ⟨m, Nat.lt_succ_self m, q⟩, ?_⟩
      refine ⟨_, σ2, h3, rs3, s3, w, ?_⟩
      refine ⟨fun σ5 h5 s5 H5 q r5 s5' f5 => ?_, fun m h5 v H5 q r5 s5' f5 => sv.rt m h5 v H5 q r5 s5' (f23.trans f5), fun σ5 h5 s5 H5 q r5 s5' f5 => sv.nx σ5 h5 s5 H5 q r5 s5' (f23.trans f5), fun σ5 h5 s5 H5 q r5 s5' f5 => ?_⟩
      · obtain ⟨h0, sb, q⟩ := q
        exact ⟨σ5, h0, r5, s5'.sub sb, (f23.trans f5).sub sb, q⟩
      · obtain ⟨h0, sb, q⟩ := q
        exact ⟨σ5, h0, r5, s5'.sub sb, (f23.trans f5).sub sb, q⟩
    | false =>
      rw [if_neg Bool.false_ne_true] at w ⊢
      exact sv.nx σ2 h3 s2 H3 w rs3 s3 f23
end
end Mp

set_option Elab.async false
set_option linter.all false
set_option maxRecDepth 100000
/-! Mini: each construct's rule, from its parts. -/
namespace Mp
open PySem PySem.Spec PyProof.Rows L2

def plainX : Expr → Bool
  | .Starred .. => false
  | .Slice .. => false
  | .Set .. => false
  | .NamedExpr .. => false
  | _ => true
theorem star_plain {x : Expr} {xs : List Expr} {env : Env} (h : plainX x = true) : starEach (x :: xs) env = (false, eval x env) :: starEach xs env := by
  cases x <;> first | rfl | cases h
theorem star_all : ∀ {xs : List Expr} {env : Env} {pos : Pos}, xs.all plainX = true → (backTo pos (starEach xs env)).any (·.1) = false
  | [], _, _, _ => rfl
  | x :: xs, env, pos, h => by
    rw [List.all_cons, Bool.and_eq_true] at h
    rw [star_plain h.1]
    show (false || (backTo pos (starEach xs env)).any (·.1)) = false
    rw [star_all h.2]
    rfl
theorem star_all' : ∀ {xs : List Expr} {env : Env} {pos : Pos}, xs.all plainX = true → (backTo pos (starEach xs env)).all (fun x => !x.1) = true
  | [], _, _, _ => rfl
  | x :: xs, env, pos, h => by
    rw [List.all_cons, Bool.and_eq_true] at h
    rw [star_plain h.1]
    show (true && (backTo pos (starEach xs env)).all (fun x => !x.1)) = true
    rw [star_all' h.2]
    rfl
theorem behind_plain {x : Expr} {o : CmpOp} (h : plainX x = true) : behindInMarks o x = false := by
  cases x <;> first | rfl | cases h
theorem ix_plain {x : Expr} (h : plainX x = true) : PlainIx x := fun o i => by
  cases x <;> first | rfl | cases h
theorem aug_plain {x : Expr} (h : plainX x = true) : ∀ ov iv new, augStore x ov iv new = (do holding [new, ov, iv] (setItem ov iv new); release [new, ov, iv] []; pure .next) := fun ov iv new => by
  cases x <;> first | rfl | cases h
section
variable {X : Cx}
/-- the readings of one piece hold of this expression -/
structure Snd (X : Cx) (b : B) (x : Expr) : Prop where
  v : PE X x (liftE X.K b.v)
  t : PT X x (liftT X.K b.t)
  q : PE X x (liftQ X.K b.q)
theorem Snd.i {b : B} {x tg : Expr} (s : PE X x (liftQ X.K b.q)) (m : b.Mono) : PI X tg x (liftI X.K b.q) := by
  refine PI.imp (pi_seq s) fun st H R w => ?_
  obtain ⟨σ, h, rs, sm, w⟩ := w
  refine ⟨σ, h, rs, sm, m.q _ _ _ _ (fun k ms g h1 w => ?_) w⟩
  intro v H1 sv s1 f1
  obtain ⟨a, rfl⟩ := sv.addr
  obtain ⟨a', vs, e, r, l, t⟩ := sv.at s1
  cases e
  cases hk : k.isT with
  | false => exact .inl ⟨a, rfl, ⟨vs, l hk⟩, w _ H1 (walkM_list hk sv s1) s1 f1⟩
  | true => exact .inr ⟨a, rfl, ⟨vs, t.1 hk⟩, w _ H1 (walkM_tup hk sv s1) s1 f1⟩
/-- tests of a plain value -/
theorem snd_tOfV {v : Sl → MH → KE → Prop} {x : Expr} (mv : VMono v) (p : PE X x (liftE X.K v)) (he : ∀ whole, isTrue x X.env whole = (do let v ← whole; standAt x.pos; holding [v] (truthy v))) : PT X x (liftT X.K (tOfV v)) := by
  refine PT.imp (pt_truth p he) fun st H Q w => ?_
  obtain ⟨σ, h, rs, sm, w⟩ := w
  refine ⟨σ, h, rs, sm, mv _ _ _ _ (fun m h1 w => ?_) w⟩
  intro u H1 ru s1 f1
  cases e : truM m h1 with
  | none => rw [e] at w; exact w.elim
  | some k =>
    rw [e] at w
    exact ⟨k, tru_of ru s1 e, w H1 s1 f1⟩
theorem snd_qOfV {v : Sl → MH → KE → Prop} {x : Expr} (mv : VMono v) (p : PE X x (liftE X.K v)) : PE X x (liftQ X.K (qOfV v)) := by
  refine PE.imp p fun st H Q w => ?_
  obtain ⟨σ, h, rs, sm, w⟩ := w
  refine ⟨σ, h, rs, sm, mv _ _ _ _ (fun m h1 w => ?_) w⟩
  intro u H1 ru s1 f1
  cases m with
  | tup ms =>
    obtain ⟨a, vs, rfl, t, r⟩ := ru.toTup
    exact w _ H1 (.tup t r) s1 f1
  | rol ms =>
    obtain ⟨a, vs, rfl, t, r⟩ := ru.toRol
    exact w _ H1 (.rol t r) s1 f1
  | ref a =>
    rw [ru.toRef]
    revert w
    show (match h1 a with | some (.lst xs) => _ | _ => False) → _
    cases e : h1 a with
    | none => exact fun w => w.elim
    | some o =>
      cases o with
      | lst xs => exact fun w => w _ H1 (.cell e) s1 f1
      | dic _ => exact fun w => w.elim
  | _ => exact w.elim
theorem Snd.ofV {v : Sl → MH → KE → Prop} {x : Expr} (mv : VMono v) (p : PE X x (liftE X.K v)) (he : ∀ whole, isTrue x X.env whole = (do let v ← whole; standAt x.pos; holding [v] (truthy v))) : Snd X (B.ofV v) x :=
  ⟨p, snd_tOfV mv p he, snd_qOfV mv p⟩
/-- what a making gives: a list, nothing to be watched -/
def Made (q : Sl → MH → KQ → Prop) : Prop := ∀ σ h (K : KQ), q σ h K → q σ h fun k ms g h1 => k = .l ∧ g = [] ∧ K k ms g h1
theorem snd_qOfM {q : Sl → MH → KQ → Prop} {x : Expr} (mq : QMono q) (hk : Made q) (p : PE X x (liftM X.K q)) : PE X x (liftQ X.K q) := by
  refine PE.imp p fun st H Q w => ?_
  obtain ⟨σ, h, rs, sm, w⟩ := w
  refine ⟨σ, h, rs, sm, mq _ _ _ _ (fun k ms g h1 w => ?_) (hk _ _ _ w)⟩
  obtain ⟨rfl, rfl, w⟩ := w
  exact ⟨rfl, rfl, fun D vs H1 hD e n r s1 f1 => w _ H1 (.own e n r) s1 f1⟩
theorem snd_vOfM {q : Sl → MH → KQ → Prop} {x : Expr} (mq : QMono q) (hk : Made q) (p : PE X x (liftM X.K q)) : PE X x (liftE X.K (vOfQ q)) := by
  refine PE.imp p fun st H Q w => ?_
  obtain ⟨σ, h, rs, sm, w⟩ := w
  refine ⟨σ, h, rs, sm, mq _ _ _ _ (fun k ms g h1 w => ?_) (hk _ _ _ w)⟩
  obtain ⟨rfl, rfl, _, w⟩ := w
  refine ⟨rfl, rfl, fun D vs H1 hD e n r s1 f1 => w D n _ H1 (.ref D) (fun a o q => ?_) ⟨fun a o q n' => ?_, f1.dom⟩⟩
  · by_cases z : a = D
    · subst z; rw [put_same] at q; cases q; exact ⟨_, e, r⟩
    · rw [put_ne z] at q; exact s1 a o q
  · obtain ⟨q1, n1⟩ := f1.keep a o q n'
    exact ⟨q1, by rw [put_ne (ne_of_none q hD)]; exact n1⟩
theorem Snd.ofM {q : Sl → MH → KQ → Prop} {x : Expr} (mq : QMono q) (hk : Made q) (p : PE X x (liftM X.K q)) (he : ∀ whole, isTrue x X.env whole = (do let v ← whole; standAt x.pos; holding [v] (truthy v))) : Snd X (B.ofQ q) x :=
  ⟨snd_vOfM mq hk p, snd_tOfV (vOfQ_mono mq) (snd_vOfM mq hk p) he, snd_qOfM mq hk p⟩

/-! ### arguments -/
theorem pa_nilM : PA X [] (liftA X.K fun _ h K => K [] h) := PA.imp pa_nil fun st H Q w => by
  obtain ⟨σ, h, rs, sm, w⟩ := w
  exact w [] H .nil sm (Frm.refl _ _)
theorem pa_consM {x : Expr} {xs : List Expr} {v : Sl → MH → KE → Prop} {a : Sl → MH → (List M → MH → Prop) → Prop} (mv : VMono v) (ma : ∀ σ h (K K' : List M → MH → Prop), (∀ m h, K m h → K' m h) → a σ h K → a σ h K') (hx : plainX x = true)
    (p : PE X x (liftE X.K v)) (q : PA X xs (liftA X.K a)) : PA X (x :: xs) (liftA X.K fun σ h K => v σ h fun m h1 => a σ h1 fun ms h2 => K (m :: ms) h2) := PA.imp (pa_cons p q (star_plain hx)) fun st H Q w => by
  obtain ⟨σ, h, rs, sm, w⟩ := w
  refine ⟨σ, h, rs, sm, mv _ _ _ _ (fun m h1 w => ?_) w⟩
  intro u H1 ru s1 f1
  refine ⟨σ, h1, rs.frm sm f1, s1, ma _ _ _ _ (fun ms h2 w => ?_) w⟩
  intro us H2 rus s2 f2
  exact w (u :: us) H2 (.cons (ru.frm s1 f2) rus) s2 (f1.trans f2)
theorem lift_args {a : Sl → MH → (List M → MH → Prop) → Prop} {f : List M → MH → KE → Prop} (ma : ∀ σ h (K K' : List M → MH → Prop), (∀ m h, K m h → K' m h) → a σ h K → a σ h K') (fm : ∀ ms h (K K' : KE), (∀ m h, K m h → K' m h) → f ms h K → f ms h K') {s : L2.St} {H : Hp} {Q : VK}
    (w : liftE X.K (fun σ h R => a σ h fun ms h1 => f ms h1 R) s H Q) : tCB (liftN X.K f) (liftA X.K a) s H Q := by
  obtain ⟨σ, h, rs, sm, w⟩ := w
  refine ⟨σ, h, rs, sm, ma _ _ _ _ (fun ms h1 w => ?_) w⟩
  intro us H1 rus s1 f1
  exact ⟨ms, h1, rus, s1, fm _ _ _ _ (fun z h3 w v3 H3 r3 s3 f3 => w v3 H3 r3 s3 (f1.trans f3)) w⟩
/-! ### built-ins -/
theorem pe_builtin {f : Value} {r : List V → Hp → VK → Prop} {x : Str} {p pos : Pos} {e : Expr} {es : List Expr} {t : TA} (hc : CallR X f r) (hg : Gl X x) (hm : X.mg x = none) (hv : bootBuiltins x = some f) (hf : (∃ id, f = .builtin id) ∨ ∃ T, f = .type T) (ha : PA X (e :: es) t)
    (hn : x ≠ "__name__") (hdb : (x == ("__debug__" : Str)) = false) (hp : (e :: es).all plainX = true) : PE X (.Call (.Name x p) (e :: es) [] pos) (tCB r t) := by
  rw [List.all_cons, Bool.and_eq_true] at hp
  rcases hf with ⟨id, rfl⟩ | ⟨T, rfl⟩
  · exact pe_callB hc hg hm hv ha hn hdb (star_plain hp.1) (star_all hp.2)
  · exact pe_callTy hc hg hm hv ha hn hdb (star_plain hp.1) (star_all hp.2)
def biS : Bi → String
  | .abs => "abs" | .int => "int" | .len => "len" | .repr => "repr" | .max2 => "max" | .min2 => "min"
def bqS : Bq → String
  | .sum => "sum" | .all => "all" | .any => "any" | .max => "max" | .min => "min" | .tuple => "tuple"
def blS : Bl → String
  | .list => "list" | .sorted => "sorted"
theorem bi_boot (b : Bi) : bootBuiltins (Str.ofString (biS b)) = some (biV b) ∧ ((∃ id, biV b = .builtin id) ∨ ∃ T, biV b = .type T) ∧ Str.ofString (biS b) ≠ "__name__" ∧ (Str.ofString (biS b) == ("__debug__" : Str)) = false ∧ Str.ofString (biS b) ∈ biNames := by
  cases b <;> exact ⟨by decide +kernel, by first | exact .inl ⟨_, rfl⟩ | exact .inr ⟨_, rfl⟩, by decide +kernel, by decide +kernel, by decide +kernel⟩
theorem bq_boot (b : Bq) : bootBuiltins (Str.ofString (bqS b)) = some (bqV b) ∧ ((∃ id, bqV b = .builtin id) ∨ ∃ T, bqV b = .type T) ∧ Str.ofString (bqS b) ≠ "__name__" ∧ (Str.ofString (bqS b) == ("__debug__" : Str)) = false ∧ Str.ofString (bqS b) ∈ biNames := by
  cases b <;> exact ⟨by decide +kernel, by first | exact .inl ⟨_, rfl⟩ | exact .inr ⟨_, rfl⟩, by decide +kernel, by decide +kernel, by decide +kernel⟩
theorem bl_boot (b : Bl) : bootBuiltins (Str.ofString (blS b)) = some (blV b) ∧ ((∃ id, blV b = .builtin id) ∨ ∃ T, blV b = .type T) ∧ Str.ofString (blS b) ≠ "__name__" ∧ (Str.ofString (blS b) == ("__debug__" : Str)) = false ∧ Str.ofString (blS b) ∈ biNames := by
  cases b <;> exact ⟨by decide +kernel, by first | exact .inl ⟨_, rfl⟩ | exact .inr ⟨_, rfl⟩, by decide +kernel, by decide +kernel, by decide +kernel⟩
variable {Φ : Phi} {fns : List (String × Nat)} {N : List Str} {so : Scope}
theorem pe_bi (c : XOk Φ fns N so X) (b : Bi) {x : Str} {p pos : Pos} {xs : List Expr} {a : Sl → MH → (List M → MH → Prop) → Prop} (ma : ∀ σ h (K K' : List M → MH → Prop), (∀ m h, K m h → K' m h) → a σ h K → a σ h K') (hx : x = Str.ofString (biS b)) (hg : Gl X x) (hp : xs.all plainX = true) (hne : xs ≠ [])
    (q : PA X xs (liftA X.K a)) : PE X (.Call (.Name x p) xs [] pos) (liftE X.K fun σ h K => a σ h fun ms h1 => biM b ms h1 K) := by
  subst hx
  obtain ⟨h1, h2, h3, h4, h5⟩ := bi_boot b
  cases xs with
  | nil => exact absurd rfl hne
  | cons e es => exact PE.imp (pe_builtin (bir c.toCn b) hg (c.bi _ h5) h1 h2 q h3 h4 hp) fun s H Q w => lift_args (f := biM b) ma (fun ms h K K' f w => biM_mono f w) w
theorem lift_seq1 {q : Sl → MH → KQ → Prop} {f : QK → List M → MH → KE → Prop} (mq : QMono q) (fm : ∀ k ms h (K K' : KE), (∀ m h, K m h → K' m h) → f k ms h K → f k ms h K') {s : L2.St} {H : Hp} {Q : VK}
    (w : liftE X.K (fun σ h R => q σ h fun k ms g h1 => gOk g h1 ∧ f k ms h1 R) s H Q) : tCB (liftS X.K f) (tCons (liftQ X.K q) tNil) s H Q := by
  obtain ⟨σ, h, rs, sm, w⟩ := w
  refine ⟨σ, h, rs, sm, mq _ _ _ _ (fun k ms g h1 w => ?_) w⟩
  intro u H1 sv s1 f1
  exact ⟨u, k, ms, g, h1, rfl, sv, s1, w.1, fm _ _ _ _ _ (fun z h3 w v3 H3 r3 s3 f3 => w v3 H3 r3 s3 (f1.trans f3)) w.2⟩
theorem pe_bq (c : XOk Φ fns N so X) (b : Bq) {x : Str} {p pos : Pos} {e : Expr} {q : Sl → MH → KQ → Prop} (mq : QMono q) (hx : x = Str.ofString (bqS b)) (hg : Gl X x) (hp : plainX e = true)
    (pq : PE X e (liftQ X.K q)) : PE X (.Call (.Name x p) [e] [] pos) (liftE X.K fun σ h K => q σ h fun k ms g h1 => gOk g h1 ∧ bqM b k ms h1 K) := by
  subst hx
  obtain ⟨h1, h2, h3, h4, h5⟩ := bq_boot b
  exact PE.imp (pe_builtin (bqr c.toCn b) hg (c.bi _ h5) h1 h2 (pa_cons pq pa_nil (star_plain hp)) h3 h4 (by simp [hp])) fun s H Q w => lift_seq1 (f := bqM b) mq (fun k ms h K K' f w => bqM_mono f w) w
theorem pe_bl (c : XOk Φ fns N so X) (b : Bl) {x : Str} {p pos : Pos} {e : Expr} {q : Sl → MH → KQ → Prop} (mq : QMono q) (hx : x = Str.ofString (blS b)) (hg : Gl X x) (hp : plainX e = true)
    (pq : PE X e (liftQ X.K q)) : PE X (.Call (.Name x p) [e] [] pos) (liftM X.K fun σ h K => q σ h fun k ms g h1 => gOk g h1 ∧ blM b k ms fun xs => K .l xs [] h1) := by
  subst hx
  obtain ⟨h1, h2, h3, h4, h5⟩ := bl_boot b
  refine PE.imp (pe_builtin (blr b) hg (c.bi _ h5) h1 h2 (pa_cons pq pa_nil (star_plain hp)) h3 h4 (by simp [hp])) fun s H Q w => ?_
  obtain ⟨σ, h, rs, sm, w⟩ := w
  refine ⟨σ, h, rs, sm, mq _ _ _ _ (fun k ms g h1 w => ?_) w⟩
  intro u H1 sv s1 f1
  exact ⟨u, k, ms, g, h1, rfl, sv, s1, w.1, blM_mono (fun zs w D vs H' d e n r s' f' => w.2.2 D vs H' (f1.dom D d) e n r s' (f1.trans f')) w.2⟩
/-! ### calls of defs -/
theorem liftSp_of {sp : SpM} {vs : List V} {H : Hp} {Q : VK} {E : XK} {ms : List M} {h : MH} (r : RpAll X.K H vs ms) (s : Sim X.K h H) (w : sp ms h (fun m h' => ∀ v H', Rp X.K H' v m → Sim X.K h' H' → Frm h H h' H' → Q v H') fun _ _ _ => False) : liftSp X.K sp vs H Q E := ⟨ms, h, r, s, w⟩
theorem pe_fn (hΦ : Φ.Mono) (c : XOk Φ fns N so X) {f : String} {n : Nat} {x : Str} {p pos : Pos} {e : Expr} {es : List Expr} {a : Sl → MH → (List M → MH → Prop) → Prop} (ma : ∀ σ h (K K' : List M → MH → Prop), (∀ m h, K m h → K' m h) → a σ h K → a σ h K') (hx : x = Str.ofString f) (hf : (f, n) ∈ fns) (hg : Gl X x)
    (hdb : (x == ("__debug__" : Str)) = false) (hp : (e :: es).all plainX = true) (hl : ∀ σ h (K : List M → MH → Prop), a σ h K → a σ h fun ms h' => ms.length = n ∧ K ms h') (q : PA X (e :: es) (liftA X.K a)) :
    PE X (.Call (.Name x p) (e :: es) [] pos) (liftE X.K fun σ h K => a σ h fun ms h1 => Φ.fn f ms h1 K fun _ _ _ => False) := by
  subst hx
  obtain ⟨fa, fd, ps, ds, dvs, k, sp, F, hr, hm, hk, hb, hd, imp⟩ := c.fn _ hf
  rw [List.all_cons, Bool.and_eq_true] at hp
  refine PE.imp (pe_callG F c.guards hr hg hm hk hb hd pass0 q hdb (star_plain hp.1) (star_all hp.2)) fun s H Q w => ?_
  obtain ⟨σ, h, rs, sm, w⟩ := w
  refine ⟨σ, h, rs, sm, ma _ _ _ _ (fun ms h1 w => ?_) (hl _ _ _ w)⟩
  intro us H1 rus s1 f1
  exact imp us H1 Q E0 (by rw [rus.length]; exact w.1) ⟨ms, h1, rus, s1, hΦ _ _ _ _ _ _ (fun z h3 w v3 H3 r3 s3 f3 => w v3 H3 r3 s3 (f1.trans f3)) w.2⟩
theorem pe_fn0 (hΦ : Φ.Mono) (c : XOk Φ fns N so X) {f : String} {x : Str} {p pos : Pos} (hx : x = Str.ofString f) (hf : (f, 0) ∈ fns) (hg : Gl X x) (hdb : (x == ("__debug__" : Str)) = false) :
    PE X (.Call (.Name x p) [] [] pos) (liftE X.K fun σ h K => Φ.fn f [] h K fun _ _ _ => False) := by
  subst hx
  obtain ⟨fa, fd, ps, ds, dvs, k, sp, F, hr, hm, hk, hb, hd, imp⟩ := c.fn _ hf
  refine PE.imp (pe_callG0 F c.guards hr hg hm hk hb hd pass0 hdb) fun s H Q w => ?_
  obtain ⟨σ, h, rs, sm, w⟩ := w
  exact imp [] H Q E0 rfl ⟨[], h, .nil, sm, w⟩
/-! ### methods -/
def meS : Me → String
  | .append => "append" | .pop => "pop" | .extend => "extend"
theorem lstM_ty {K : PySem.W.Frag} {h : MH} {H : Hp} {v : V} {m : M} (r : Rp K H v m) (s : Sim K h H) (e : lstM m h) : tyV K "list" v H := by
  unfold lstM at e
  split at e <;> try contradiction
  rename_i a
  split at e <;> try contradiction
  rename_i xs ea
  rw [r.toRef]
  obtain ⟨vs, e1, _⟩ := s.lst ea
  exact .inl ⟨rfl, vs, SqL.of e1⟩
def rMe (K : PySem.W.Frag) (m : Me) : V → List V → Hp → VK → Prop := fun x vs H Q => ∃ z ms h, Rp K H x z ∧ RpAll K H vs ms ∧ Sim K h H ∧ methM m z ms h fun z h' => ∀ v H', Rp K H' v z → Sim K h' H' → Frm h H h' H' → Q v H'
theorem pe_me (m : Me) {name : Str} {apos pos : Pos} {o : Expr} {xs : List Expr} {v : Sl → MH → KE → Prop} {a : Sl → MH → (List M → MH → Prop) → Prop} (mv : VMono v) (ma : ∀ σ h (K K' : List M → MH → Prop), (∀ m h, K m h → K' m h) → a σ h K → a σ h K') (hx : name = Str.ofString (meS m))
    (ho : (match o with | .Call .. => false | _ => true) = true) (hline : (apos.endLine == pos.line) = true) (hp : xs.all plainX = true) (hlen : xs.length < 20) (hz : xs = [] → ∀ σ h K, a σ h K → K [] h) (hne : xs = [] → m = .pop) (hne' : xs ≠ [] → m ≠ .pop) (pv : PE X o (liftE X.K v)) (q : PA X xs (liftA X.K a)) :
    PE X (.Call (.Attribute o name apos) xs [] pos) (liftE X.K fun σ h K => v σ h fun x h1 => lstM x h1 ∧ a σ h1 fun ms h2 => methM m x ms h2 K) := by
  subst hx
  have hbase : ∀ nm, attributeBase o nm X.env (eval o X.env) = eval o X.env := fun nm => by cases o <;> first | rfl | cases ho
  cases xs with
  | nil =>
    have em := hne rfl
    subst em
    refine PE.imp (pe_bm0 (r := rMe X.K .pop) PySem.F.plainAttrs_list PySem.F.slot_list_pop PySem.F.type_list_pop mtr_pop pv (hbase _) hline) fun st H Q w => ?_
    obtain ⟨σ, h, rs, sm, w⟩ := w
    refine ⟨σ, h, rs, sm, mv _ _ _ _ (fun x h1 w => ?_) w⟩
    intro u H1 ru s1 f1
    refine ⟨lstM_ty ru s1 w.1, x, [], h1, ru, .nil, s1, methM_mono (fun z h3 w v3 H3 r3 s3 f3 => w v3 H3 r3 s3 (f1.trans f3)) (hz rfl _ _ _ w.2)⟩
  | cons e es =>
    have hp' := hp
    rw [List.all_cons, Bool.and_eq_true] at hp
    have hfew : ((backTo pos (starEach (e :: es) X.env)).all (fun x => !x.1) && (backToKw pos (keywordEach [] X.env)).all (fun x => x.1.isSome)
      && decide ((e :: es).length + ([] : List Keyword).length + (if ([] : List Keyword).isEmpty then 0 else 1) < 30)) = true := by
      rw [star_all' hp']
      have : decide ((e :: es).length + ([] : List Keyword).length + (if ([] : List Keyword).isEmpty then 0 else 1) < 30) = true := decide_eq_true (by show (e :: es).length + 0 + 0 < 30; omega)
      rw [this]
      rfl
    have fin : ∀ m, PE X (.Call (.Attribute o (Str.ofString (meS m)) apos) (e :: es) [] pos) (tBM X.K "list" (rMe X.K m) (liftE X.K v) (liftA X.K a)) → PE X (.Call (.Attribute o (Str.ofString (meS m)) apos) (e :: es) [] pos) (liftE X.K fun σ h K => v σ h fun x h1 => lstM x h1 ∧ a σ h1 fun ms h2 => methM m x ms h2 K) := fun m p => by
      refine PE.imp p fun st H Q w => ?_
      obtain ⟨σ, h, rs, sm, w⟩ := w
      refine ⟨σ, h, rs, sm, mv _ _ _ _ (fun x h1 w => ?_) w⟩
      intro u H1 ru s1 f1
      refine ⟨lstM_ty ru s1 w.1, σ, h1, rs.frm sm f1, s1, ma _ _ _ _ (fun ms h2 w => ?_) w.2⟩
      intro us H2 rus s2 f2
      exact ⟨x, ms, h2, ru.frm s1 f2, rus, s2, methM_mono (fun z h3 w v3 H3 r3 s3 f3 => w v3 H3 r3 s3 (f1.trans (f2.trans f3))) w⟩
    cases m with
    | append => exact fin .append (pe_bm PySem.F.plainAttrs_list PySem.F.slot_list_append PySem.F.type_list_append mtr_append pv q (hbase _) hfew hline (star_plain hp.1) (star_all hp.2))
    | extend => exact fin .extend (pe_bm PySem.F.plainAttrs_list PySem.F.slot_list_extend PySem.F.type_list_extend mtr_extend pv q (hbase _) hfew hline (star_plain hp.1) (star_all hp.2))
    | pop => exact absurd rfl (hne' (fun z => by cases z))
end
end Mp

set_option Elab.async false
set_option linter.all false
set_option maxRecDepth 100000
/-! Mini: the remaining constructs. -/
namespace Mp
open PySem PySem.Spec PyProof.Rows L2
section
variable {X : Cx} {Φ : Phi} {fns : List (String × Nat)} {N : List Str} {so : Scope}
theorem pe_varM {i : Nat} {x : Str} {pos : Pos} (hN : X.N[i]? = some x) (hv : Vis X.env.scope x) (hd : (x == ("__debug__" : Str)) = false) (hcd : (x == ("__classdict__" : Str)) = false) :
    PE X (.Name x pos) (liftE X.K fun σ h K => match σ[i]? with | some (some m) => K m h | _ => False) := by
  refine PE.imp (pe_var hN hv hd hcd) fun st H Q w => ?_
  obtain ⟨σ, h, rs, sm, w⟩ := w
  revert w
  show (match σ[i]? with | some (some m) => _ | _ => False) → _
  split
  · rename_i m e
    intro w
    obtain ⟨v, e1, r⟩ := rs.at' i m e
    exact ⟨v, e1, w v H r sm (Frm.refl _ _)⟩
  · exact fun w => w.elim
theorem pe_constM {e : Expr} {v : V} {m : M} (p : PE X e (tC v)) (r : ∀ H, Rp X.K H v m) : PE X e (liftE X.K fun σ h K => K m h) := by
  refine PE.imp p fun st H Q w => ?_
  obtain ⟨σ, h, rs, sm, w⟩ := w
  exact w v H (r H) sm (Frm.refl _ _)
theorem pe_opM (o : Op) {a b : Expr} {pos : Pos} {va vb : Sl → MH → KE → Prop} (ma : VMono va) (mb : VMono vb) (pa : PE X a (liftE X.K va)) (pb : PE X b (liftE X.K vb)) :
    PE X (.BinOp a (pyOp o) b pos) (liftE X.K fun σ h K => va σ h fun x h1 => vb σ h1 fun y h2 => opM o x y h2 K) :=
  PE.imp (pe_op (opr o) pa pb) fun s H Q w => lift_two (f := opM o) ma mb (fun x y h K K' f w => opM_mono f w) w
theorem pe_addM {a b : Expr} {pos : Pos} {va vb : Sl → MH → KE → Prop} (ma : VMono va) (mb : VMono vb) (pa : PE X a (liftE X.K va)) (pb : PE X b (liftE X.K vb)) :
    PE X (.BinOp a .Add b pos) (liftE X.K fun σ h K => va σ h fun x h1 => vb σ h1 fun y h2 => addM x y h2 K) :=
  PE.imp (pe_op opr_addL pa pb) fun s H Q w => lift_two (f := addM) ma mb (fun x y h K K' f w => addM_mono f w) w
/-- lists joined: a new list -/
theorem pe_catM {a b : Expr} {pos : Pos} {ba bb : B} (ma : ba.Mono) (mb : bb.Mono) (pa : PE X a (liftQ X.K ba.q)) (pb : PE X b (liftQ X.K bb.q)) : PE X (.BinOp a .Add b pos) (liftM X.K (catQ ba bb)) := by
  refine PE.imp (pe_op op_cat pa pb) fun st H Q w => ?_
  obtain ⟨σ, h, rs, sm, w⟩ := w
  refine ⟨σ, h, rs, sm, ma.q _ _ _ _ (fun k xs g h1 w => ?_) w⟩
  intro v H1 sv s1 f1
  refine ⟨σ, h1, rs.frm sm f1, s1, mb.q _ _ _ _ (fun k' ys g' h2 w => ?_) w⟩
  intro u H2 su s2 f2
  obtain ⟨rfl, rfl, o1, o2, hl, w⟩ := w
  obtain ⟨p, vs, rfl, r1, _, _, e1⟩ := (sv.frm s1 f2 o1).at s2
  obtain ⟨q, us, rfl, r2, _, _, e2⟩ := su.at s2
  refine ⟨p, q, vs, us, rfl, rfl, e1 rfl, e2 rfl, by rw [szEq, r1.length, r2.length]; exact hl, fun D hD => ?_⟩
  have f12 := f1.trans f2
  exact w.2.2 D _ _ (f12.dom D hD) upd_same (s2.free hD) ((r1.append r2).free hD) (s2.laid0 hD) (f12.trans (Frm.laid0 hD))
theorem pe_repM {a b : Expr} {pos : Pos} {ba bb : B} (ma : ba.Mono) (mb : bb.Mono) (pa : PE X a (liftQ X.K ba.q)) (pb : PE X b (liftE X.K bb.v)) : PE X (.BinOp a .Mult b pos) (liftM X.K (repQ ba bb)) := by
  refine PE.imp (pe_op op_rep pa pb) fun st H Q w => ?_
  obtain ⟨σ, h, rs, sm, w⟩ := w
  refine ⟨σ, h, rs, sm, ma.q _ _ _ _ (fun k xs g h1 w => ?_) w⟩
  intro v H1 sv s1 f1
  refine ⟨σ, h1, rs.frm sm f1, s1, mb.v _ _ _ _ (fun m h2 w => ?_) w⟩
  intro u H2 ru s2 f2
  cases m with
  | int n =>
    obtain ⟨rfl, o1, ⟨b1, b2⟩, hl, w⟩ := w
    obtain ⟨p, vs, rfl, r1, _, _, e1⟩ := (sv.frm s1 f2 o1).at s2
    refine ⟨p, n, vs, rfl, ru.toInt, e1 rfl, by omega, by omega, by rw [szEq, r1.length]; exact hl, fun D hD => ?_⟩
    have f12 := f1.trans f2
    exact w.2.2 D _ _ (f12.dom D hD) upd_same (s2.free hD) ((r1.rep _).free hD) (s2.laid0 hD) (f12.trans (Frm.laid0 hD))
  | _ => exact w.elim
theorem pe_negM {a : Expr} {pos : Pos} {va : Sl → MH → KE → Prop} (ma : VMono va) (pa : PE X a (liftE X.K va)) :
    PE X (.UnaryOp .USub a pos) (liftE X.K fun σ h K => va σ h fun x h1 => match x with | .int i => K (.int (-i)) h1 | _ => False) := by
  refine PE.imp (pe_un un_neg pa) fun st H Q w => ?_
  obtain ⟨σ, h, rs, sm, w⟩ := w
  refine ⟨σ, h, rs, sm, ma _ _ _ _ (fun m h1 w => ?_) w⟩
  intro u H1 ru s1 f1
  cases m with
  | int i => exact ⟨i, ru.toInt, w _ H1 (.int _) s1 f1⟩
  | _ => exact w.elim
/-! tests and truth -/
theorem pt_notM {a : Expr} {pos : Pos} {ta : Sl → MH → (Bool → MH → Prop) → Prop} (ma : ∀ σ h (K K' : Bool → MH → Prop), (∀ m h, K m h → K' m h) → ta σ h K → ta σ h K') (pa : PT X a (liftT X.K ta)) :
    PT X (.UnaryOp .Not a pos) (liftT X.K fun σ h K => ta σ h fun b h1 => K (!b) h1) := by
  refine PT.imp (pt_not pa) fun st H Q w => ?_
  obtain ⟨σ, h, rs, sm, w⟩ := w
  exact ⟨σ, h, rs, sm, ma _ _ _ _ (fun b h1 w H1 s1 f1 => w H1 s1 f1) w⟩
/-- not as a value: by its own test -/
theorem pe_notM {a : Expr} {pos : Pos} {va : Sl → MH → KE → Prop} (ma : VMono va) (pa : PE X a (liftE X.K va)) :
    PE X (.UnaryOp .Not a pos) (liftE X.K fun σ h K => tOfV va σ h fun b h1 => K (.bl (!b)) h1) := by
  refine PE.imp (pe_notT pa) fun st H Q w => ?_
  obtain ⟨σ, h, rs, sm, w⟩ := w
  refine ⟨σ, h, rs, sm, ma _ _ _ _ (fun m h1 w => ?_) w⟩
  intro u H1 ru s1 f1
  cases e : truM m h1 with
  | none => rw [e] at w; exact w.elim
  | some k =>
    rw [e] at w
    exact ⟨k, tru_of ru s1 e, w _ H1 (.bl _) s1 f1⟩
theorem pw_of {op : BoolOp} {es : List Expr} {pos : Pos} {t : TT} (h : PT X (.BoolOp op es pos) t) : PW X (.BoolOp op es pos) t := ⟨fun wh pins s σ H Q I w => h.run pins s σ H Q I w⟩
theorem pt_andM {a b : Expr} {rest : List Expr} {pos : Pos} {ta tb : Sl → MH → (Bool → MH → Prop) → Prop} (ma : ∀ σ h (K K' : Bool → MH → Prop), (∀ m h, K m h → K' m h) → ta σ h K → ta σ h K') (pa : PT X a (liftT X.K ta)) (mb : ∀ σ h (K K' : Bool → MH → Prop), (∀ m h, K m h → K' m h) → tb σ h K → tb σ h K')
    (pb : PT X (.BoolOp .And (b :: rest) pos) (liftT X.K tb)) : PT X (.BoolOp .And (a :: b :: rest) pos) (liftT X.K fun σ h K => ta σ h fun k h1 => if k = true then tb σ h1 K else K false h1) := by
  refine PT.imp (pw_and pa (pw_of pb)).pt fun st H Q w => ?_
  obtain ⟨σ, h, rs, sm, w⟩ := w
  refine ⟨σ, h, rs, sm, ma _ _ _ _ (fun k h1 w H1 s1 f1 => ?_) w⟩
  cases k with
  | true => rw [if_pos rfl] at w ⊢; exact ⟨σ, h1, rs.frm sm f1, s1, mb _ _ _ _ (fun m h2 w H2 s2 f2 => w H2 s2 (f1.trans f2)) w⟩
  | false => rw [if_neg Bool.false_ne_true] at w ⊢; exact w H1 s1 f1
theorem pt_orM {a b : Expr} {rest : List Expr} {pos : Pos} {ta tb : Sl → MH → (Bool → MH → Prop) → Prop} (ma : ∀ σ h (K K' : Bool → MH → Prop), (∀ m h, K m h → K' m h) → ta σ h K → ta σ h K') (pa : PT X a (liftT X.K ta)) (mb : ∀ σ h (K K' : Bool → MH → Prop), (∀ m h, K m h → K' m h) → tb σ h K → tb σ h K')
    (pb : PT X (.BoolOp .Or (b :: rest) pos) (liftT X.K tb)) : PT X (.BoolOp .Or (a :: b :: rest) pos) (liftT X.K fun σ h K => ta σ h fun k h1 => if k = true then K true h1 else tb σ h1 K) := by
  refine PT.imp (pw_or pa (pw_of pb)).pt fun st H Q w => ?_
  obtain ⟨σ, h, rs, sm, w⟩ := w
  refine ⟨σ, h, rs, sm, ma _ _ _ _ (fun k h1 w H1 s1 f1 => ?_) w⟩
  cases k with
  | true => rw [if_pos rfl] at w ⊢; exact w H1 s1 f1
  | false => rw [if_neg Bool.false_ne_true] at w ⊢; exact ⟨σ, h1, rs.frm sm f1, s1, mb _ _ _ _ (fun m h2 w H2 s2 f2 => w H2 s2 (f1.trans f2)) w⟩
theorem pe_andM {a b : Expr} {rest : List Expr} {pos : Pos} {va vb : Sl → MH → KE → Prop} (ma : VMono va) (pa : PE X a (liftE X.K va)) (mb : VMono vb) (pb : PE X (.BoolOp .And (b :: rest) pos) (liftE X.K vb)) :
    PE X (.BoolOp .And (a :: b :: rest) pos) (liftE X.K fun σ h K => va σ h fun x h1 => match truM x h1 with | some true => vb σ h1 K | some false => K x h1 | none => False) := by
  refine PE.imp (pe_andT pa pb) fun st H Q w => ?_
  obtain ⟨σ, h, rs, sm, w⟩ := w
  refine ⟨σ, h, rs, sm, ma _ _ _ _ (fun x h1 w => ?_) w⟩
  intro u H1 ru s1 f1
  cases e : truM x h1 with
  | none => rw [e] at w; exact w.elim
  | some k =>
    rw [e] at w
    refine ⟨k, tru_of ru s1 e, ?_⟩
    cases k with
    | true => rw [if_pos rfl]; exact ⟨σ, h1, rs.frm sm f1, s1, mb _ _ _ _ (fun m h2 w v2 H2 r2 s2 f2 => w v2 H2 r2 s2 (f1.trans f2)) w⟩
    | false => rw [if_neg Bool.false_ne_true]; exact w u H1 ru s1 f1
theorem pe_orM {a b : Expr} {rest : List Expr} {pos : Pos} {va vb : Sl → MH → KE → Prop} (ma : VMono va) (pa : PE X a (liftE X.K va)) (mb : VMono vb) (pb : PE X (.BoolOp .Or (b :: rest) pos) (liftE X.K vb)) :
    PE X (.BoolOp .Or (a :: b :: rest) pos) (liftE X.K fun σ h K => va σ h fun x h1 => match truM x h1 with | some true => K x h1 | some false => vb σ h1 K | none => False) := by
  refine PE.imp (pe_orT pa pb) fun st H Q w => ?_
  obtain ⟨σ, h, rs, sm, w⟩ := w
  refine ⟨σ, h, rs, sm, ma _ _ _ _ (fun x h1 w => ?_) w⟩
  intro u H1 ru s1 f1
  cases e : truM x h1 with
  | none => rw [e] at w; exact w.elim
  | some k =>
    rw [e] at w
    refine ⟨k, tru_of ru s1 e, ?_⟩
    cases k with
    | true => rw [if_pos rfl]; exact w u H1 ru s1 f1
    | false => rw [if_neg Bool.false_ne_true]; exact ⟨σ, h1, rs.frm sm f1, s1, mb _ _ _ _ (fun m h2 w v2 H2 r2 s2 f2 => w v2 H2 r2 s2 (f1.trans f2)) w⟩
theorem pe_ifeM {c a b : Expr} {pos : Pos} {tc : Sl → MH → (Bool → MH → Prop) → Prop} {va vb : Sl → MH → KE → Prop} (mc : ∀ σ h (K K' : Bool → MH → Prop), (∀ m h, K m h → K' m h) → tc σ h K → tc σ h K') (ma : VMono va) (mb : VMono vb) (pc : PT X c (liftT X.K tc)) (pa : PE X a (liftE X.K va)) (pb : PE X b (liftE X.K vb)) :
    PE X (.IfExp c a b pos) (liftE X.K fun σ h K => tc σ h fun k h1 => if k = true then va σ h1 K else vb σ h1 K) := by
  refine PE.imp (pe_ifExp pc pa pb) fun st H Q w => ?_
  obtain ⟨σ, h, rs, sm, w⟩ := w
  refine ⟨σ, h, rs, sm, mc _ _ _ _ (fun k h1 w H1 s1 f1 => ?_) w⟩
  cases k with
  | true => rw [if_pos rfl] at w ⊢; exact ⟨σ, h1, rs.frm sm f1, s1, ma _ _ _ _ (fun m h2 w v2 H2 r2 s2 f2 => w v2 H2 r2 s2 (f1.trans f2)) w⟩
  | false => rw [if_neg Bool.false_ne_true] at w ⊢; exact ⟨σ, h1, rs.frm sm f1, s1, mb _ _ _ _ (fun m h2 w v2 H2 r2 s2 f2 => w v2 H2 r2 s2 (f1.trans f2)) w⟩
theorem pe_cmpM (hu : X.A.units + 65 < cLine) (o : Cmp) {a b : Expr} {pos : Pos} {va vb : Sl → MH → KE → Prop} (ma : VMono va) (mb : VMono vb) (pa : PE X a (liftE X.K va)) (pb : PE X b (liftE X.K vb)) (hp : plainX b = true) :
    PE X (.Compare a [pyCmp o] [b] pos) (liftE X.K fun σ h K => va σ h fun x h1 => vb σ h1 fun y h2 => cmpM o x y h2 fun k => K (.bl k) h2) :=
  PE.imp (pe_cmpR (cpr hu o) pa pb (behind_plain hp)) fun s H Q w => lift_two (f := cmpV o) ma mb (fun x y h K K' f w => cmpM_mono (fun k w => f _ _ w) w) w
theorem pt_cmpM (hu : X.A.units + 65 < cLine) (o : Cmp) {a b : Expr} {pos : Pos} {va vb : Sl → MH → KE → Prop} (ma : VMono va) (mb : VMono vb) (pa : PE X a (liftE X.K va)) (pb : PE X b (liftE X.K vb)) (hp : plainX b = true) :
    PT X (.Compare a [pyCmp o] [b] pos) (liftT X.K fun σ h K => va σ h fun x h1 => vb σ h1 fun y h2 => cmpM o x y h2 fun k => K k h2) := by
  refine PT.imp (pt_cmpR (cpr hu o) pa pb (behind_plain hp)) fun s H Q w => ?_
  refine lift_two (Q := fun x H' => ∃ k, x = .bl k ∧ Q k H') (f := cmpV o) ma mb (fun x y h K K' f w => cmpM_mono (fun k w => f _ _ w) w) ?_
  obtain ⟨σ, h, rs, sm, w⟩ := w
  refine ⟨σ, h, rs, sm, ma _ _ _ _ (fun x h1 w => mb _ _ _ _ (fun y h2 w => cmpM_mono (fun k w => ?_) w) w) w⟩
  intro v H' r s' f
  exact ⟨k, r.toBl, w H' s' f⟩
/-! displays, subscripts -/
theorem pe_tupM {es : List Expr} {k : Nat} {pos : Pos} {a : Sl → MH → (List M → MH → Prop) → Prop} (ma : ∀ σ h (K K' : List M → MH → Prop), (∀ m h, K m h → K' m h) → a σ h K → a σ h K') (p : PA X es (liftA X.K a)) :
    PE X (.Tuple es k pos) (liftE X.K fun σ h K => a σ h fun ms h1 => ms.length ≤ 1000 ∧ K (.tup ms) h1) := by
  refine PE.imp (pe_tup p) fun st H Q w => ?_
  obtain ⟨σ, h, rs, sm, w⟩ := w
  refine ⟨σ, h, rs, sm, ma _ _ _ _ (fun ms h1 w => ?_) w⟩
  intro us H1 rus s1 f1
  refine ⟨by rw [szEq, rus.length]; exact Nat.le_trans w.1 (by decide), fun D hD => ?_⟩
  exact w.2 _ _ (.tup (.inl (.inl upd_same)) (rus.free hD)) (s1.laid0 hD) (f1.trans (Frm.laid0 hD))
theorem pe_lstM {es : List Expr} {pos : Pos} {a : Sl → MH → (List M → MH → Prop) → Prop} (ma : ∀ σ h (K K' : List M → MH → Prop), (∀ m h, K m h → K' m h) → a σ h K → a σ h K') (p : PA X es (liftA X.K a)) :
    PE X (.List es pos) (liftM X.K fun σ h K => a σ h fun ms h1 => ms.length ≤ 1000 ∧ K .l ms [] h1) := by
  refine PE.imp (pe_lst p) fun st H Q w => ?_
  obtain ⟨σ, h, rs, sm, w⟩ := w
  refine ⟨σ, h, rs, sm, ma _ _ _ _ (fun ms h1 w => ?_) w⟩
  intro us H1 rus s1 f1
  refine ⟨by rw [szEq, rus.length]; exact Nat.le_trans w.1 (by decide), fun D hD => ?_⟩
  exact w.2.2.2 D _ _ (f1.dom D hD) upd_same (s1.free hD) (rus.free hD) (s1.laid0 hD) (f1.trans (Frm.laid0 hD))
theorem pe_ixM {a b : Expr} {pos : Pos} {va vb : Sl → MH → KE → Prop} (ma : VMono va) (mb : VMono vb) (pa : PE X a (liftE X.K va)) (pb : PE X b (liftE X.K vb)) (hp : plainX b = true) :
    PE X (.Subscript a b pos) (liftE X.K fun σ h K => va σ h fun x h1 => vb σ h1 fun y h2 => ixM x y h2 K) :=
  PE.imp (pe_ix ixr pa pb (ix_plain hp)) fun s H Q w => lift_two (f := ixM) ma mb (fun x y h K K' f w => ixM_mono f w) w
def liftO (K : PySem.W.Frag) (t : Sl → MH → (Option Int → MH → Prop) → Prop) : TO := fun s H Q => ∃ σ h, RpS K H s σ ∧ Sim K h H ∧ t σ h fun o h' => ∀ H', Sim K h' H' → Frm h H h' H' → Q o H'
theorem PO.imp {e : Option Expr} {t t' : TO} (p : PO X e t) (f : ∀ s H Q, t' s H Q → t s H Q) : PO X e t' := ⟨fun pins s σ H Q I h => p.run pins s σ H Q I (f _ _ _ h)⟩
theorem po_noneM {v : Sl → MH → KE → Prop} : PO X none (liftO X.K (bndV true v)) := PO.imp po_none fun st H Q w => by
  obtain ⟨σ, h, rs, sm, w⟩ := w
  exact w H sm (Frm.refl _ _)
theorem po_someM {e : Expr} {v : Sl → MH → KE → Prop} (mv : VMono v) (p : PE X e (liftE X.K v)) : PO X (some e) (liftO X.K (bndV false v)) := PO.imp (po_some p) fun st H Q w => by
  obtain ⟨σ, h, rs, sm, w⟩ := w
  refine ⟨σ, h, rs, sm, mv _ _ _ _ (fun m h1 w => ?_) w⟩
  intro u H1 ru s1 f1
  cases m with
  | int i => exact ⟨i, ru.toInt, w H1 s1 f1⟩
  | _ => exact w.elim
theorem pe_slM {a : Expr} {lo hi : Option Expr} {p2 pos : Pos} {va vl vu : Sl → MH → KE → Prop} {bl bu : Bool} (ma : VMono va) (ml : VMono vl) (mu : VMono vu) (pa : PE X a (liftE X.K va)) (pl : PO X lo (liftO X.K (bndV bl vl))) (pu : PO X hi (liftO X.K (bndV bu vu))) :
    PE X (.Subscript a (.Slice lo hi none p2) pos) (liftE X.K fun σ h K => va σ h fun x h1 => bndV bl vl σ h1 fun l h2 => bndV bu vu σ h2 fun u h3 => slM x l u h3 K) := by
  refine PE.imp (pe_slice slr pa pl pu) fun st H Q w => ?_
  obtain ⟨σ, h, rs, sm, w⟩ := w
  refine ⟨σ, h, rs, sm, ma _ _ _ _ (fun x h1 w => ?_) w⟩
  intro v H1 rx s1 f1
  refine ⟨σ, h1, rs.frm sm f1, s1, bndV_mono ml (fun l h2 w => ?_) w⟩
  intro H2 s2 f2
  refine ⟨σ, h2, (rs.frm sm f1).frm s1 f2, s2, bndV_mono mu (fun u h3 w => ?_) w⟩
  intro H3 s3 f3
  exact ⟨x, h3, (rx.frm s1 f2).frm s2 f3, s3, slM_mono (fun z h4 w v4 H4 r4 s4 f4 => w v4 H4 r4 s4 (f1.trans (f2.trans (f3.trans f4)))) w⟩

/-! names of the module -/
theorem pe_globM (c : XOk Φ fns N so X) {y : String} {x : Str} {pos : Pos} (hx : x = Str.ofString y) (hg : Gl X x) (hd : (x == ("__debug__" : Str)) = false) : PE X (.Name x pos) (liftE X.K fun _ h K => match Φ.gl y with | some m => K m h | none => False) := by
  subst hx
  cases e : Φ.gl y with
  | none =>
    refine ⟨fun pins s σ H Q I w => ?_⟩
    obtain ⟨σ, h, rs, sm, w⟩ := w
    exact w.elim
  | some m =>
    obtain ⟨v, u, hm, r, rp⟩ := c.gl y m e
    exact pe_constM (pe_glob hg hm r hd) rp
/-! what is walked -/
theorem rangeSize_up {a b c : Int} (hc : 0 < c) : Builtin.Range.rangeSize a b c = (((b - a + c - 1) / c).toNat : Int) := by
  unfold Builtin.Range.rangeSize
  rw [if_pos hc]
  have e : b - a + c - 1 = (b - a - 1) + 1 * c := by omega
  rw [e, Int.add_mul_ediv_right _ _ (by omega)]
  split
  · have : 0 ≤ (b - a - 1) / c := Int.ediv_nonneg (by omega) (by omega)
    omega
  · have : (b - a - 1) / c < 0 := Int.ediv_neg_of_neg_of_pos (by omega) hc
    omega
theorem RgC.up {i j c : Int} (hc : 0 < c) (hc' : c < 1073741824) (ha : -(2 ^ 62) ≤ i) (ha' : i < 2 ^ 62) (hb : -(2 ^ 62) ≤ j) (hb' : j < 2 ^ 62) : RgC i j c ((j - i + c - 1) / c).toNat := by
  refine ⟨by omega, by omega, ?_, rangeSize_up hc⟩
  have h1 : (j - i - 1) / c ≤ j - i - 1 ∨ j - i - 1 < 0 := by
    by_cases h : j - i - 1 < 0
    · exact .inr h
    · exact .inl (Int.ediv_le_self _ (by omega))
  unfold Builtin.Range.small
  simp only [Builtin.Range.rangeFitsLong, Bool.and_eq_true, Bool.or_eq_true, decide_eq_true_eq, beq_iff_eq, Builtin.Range.rangeSize, if_pos hc]
  have h2 := Int.mul_ediv_self_le (x := j - i - 1) (k := c) (by omega)
  have h3 : 0 ≤ j - i - 1 → 0 ≤ (j - i - 1) / c := fun h => Int.ediv_nonneg h (by omega)
  generalize (j - i - 1) / c = q at h1 h2 h3 ⊢
  split <;> omega
abbrev AMono (a : Sl → MH → (List M → MH → Prop) → Prop) : Prop := ∀ σ h (K K' : List M → MH → Prop), (∀ m h, K m h → K' m h) → a σ h K → a σ h K'
theorem pi_rngM (c : XOk Φ fns N so X) {tg : Expr} {x : Str} {p pos : Pos} {xs : List Expr} {n : Nat} {a : Sl → MH → (List M → MH → Prop) → Prop} (ma : AMono a) (hl : ∀ σ h (K : List M → MH → Prop), a σ h K → a σ h fun ms h' => ms.length = n ∧ K ms h')
    (hx : x = Str.ofString "range") (hg : Gl X x) (hp : xs.all plainX = true) (hn : xs.length = n) (h1 : 1 ≤ n) (h3 : n ≤ 3) (q : PA X xs (liftA X.K a)) : PI X tg (.Call (.Name x p) xs [] pos) (liftI X.K fun σ h K => a σ h fun ms h1 => rngM ms fun xs => K .l xs [] h1) := by
  have ex : x = ("range" : Str) := hx
  subst ex
  have hm : X.mg ("range" : Str) = none := c.bi _ (by decide +kernel)
  match xs, hp, hn, q with
  | [], _, hn, _ => exact absurd hn (by simp; omega)
  | [e1], hp, hn, q =>
    refine PI.imp (pi_range1 hg hm q (star_plain (by simpa using hp))) fun st H R w => ?_
    obtain ⟨σ, h, rs, sm, w⟩ := w
    refine ⟨σ, h, rs, sm, ma _ _ _ _ (fun ms h1 w => ?_) (hl _ _ _ w)⟩
    intro us H1 rus s1 f1
    obtain ⟨el, w⟩ := w
    have el : ms.length = 1 := by rw [el, ← hn]; rfl
    obtain ⟨m1, rfl⟩ : ∃ m1, ms = [m1] := List.length_eq_one_iff.mp el
    cases m1 with
    | int i1 =>
      obtain ⟨b, w⟩ := w
      obtain ⟨v, rfl, r⟩ := rus.one
      rw [r.toInt]
      exact ⟨_, rfl, by omega, by omega, w _ H1 walkM_range s1 f1⟩
    | _ => exact w.elim
  | [e1, e2], hp, hn, q =>
    simp only [List.all_cons, List.all_nil, Bool.and_true, Bool.and_eq_true] at hp
    refine PI.imp (pi_range2 hg hm q (by rw [star_plain hp.1, star_plain hp.2]; rfl) (star_plain hp.2)) fun st H R w => ?_
    obtain ⟨σ, h, rs, sm, w⟩ := w
    refine ⟨σ, h, rs, sm, ma _ _ _ _ (fun ms h1 w => ?_) (hl _ _ _ w)⟩
    intro us H1 rus s1 f1
    obtain ⟨el, w⟩ := w
    have el : ms.length = 2 := by rw [el, ← hn]; rfl
    obtain ⟨m1, m2, rfl⟩ : ∃ m1 m2, ms = [m1, m2] := by
      match ms, el with
      | [m1, m2], _ => exact ⟨m1, m2, rfl⟩
    cases m1 with
    | int i1 =>
      cases m2 with
      | int i2 =>
        obtain ⟨b, w⟩ := w
        obtain ⟨v, u, rfl, r, r'⟩ := rus.two
        rw [r.toInt, r'.toInt]
        exact ⟨_, _, rfl, by omega, w _ H1 walkM_range s1 f1⟩
      | _ => exact w.elim
    | _ => exact w.elim
  | [e1, e2, e3], hp, hn, q =>
    simp only [List.all_cons, List.all_nil, Bool.and_true, Bool.and_eq_true] at hp
    refine PI.imp (pi_range3 hg hm q (star_plain hp.1) (star_all (by simp [hp.2.1, hp.2.2]))) fun st H R w => ?_
    obtain ⟨σ, h, rs, sm, w⟩ := w
    refine ⟨σ, h, rs, sm, ma _ _ _ _ (fun ms h1 w => ?_) (hl _ _ _ w)⟩
    intro us H1 rus s1 f1
    obtain ⟨el, w⟩ := w
    have el : ms.length = 3 := by rw [el, ← hn]; rfl
    obtain ⟨m1, m2, m3, rfl⟩ : ∃ m1 m2 m3, ms = [m1, m2, m3] := by
      match ms, el with
      | [m1, m2, m3], _ => exact ⟨m1, m2, m3, rfl⟩
    cases m1 with
    | int i1 =>
      cases m2 with
      | int i2 =>
        cases m3 with
        | int i3 =>
          obtain ⟨b, w⟩ := w
          obtain ⟨v, u, t, rfl, r, r', r''⟩ := rus.three
          rw [r.toInt, r'.toInt, r''.toInt]
          rcases w with ⟨rfl, w⟩ | ⟨c1, c2, w⟩
          · exact ⟨_, _, _, _, rfl, RgC.neg (by omega) (by omega) (by omega) (by omega), w _ H1 walkM_rangeC s1 f1⟩
          · exact ⟨_, _, _, _, rfl, RgC.up c1 c2 (by omega) (by omega) (by omega) (by omega), w _ H1 walkM_rangeC s1 f1⟩
        | _ => exact w.elim
      | _ => exact w.elim
    | _ => exact w.elim
  | _ :: _ :: _ :: _ :: r, _, hn, _ => exact absurd hn (by simp; omega)
theorem pi_enumM (c : XOk Φ fns N so X) {es : List Expr} {k : Nat} {tp : Pos} {x : Str} {p pos : Pos} {e : Expr} {b : B} (mb : b.Mono) (hx : x = Str.ofString "enumerate") (hg : Gl X x) (hp : plainX e = true) (q : PE X e (liftQ X.K b.q)) :
    PI X (.Tuple es k tp) (.Call (.Name x p) [e] [] pos) (liftI X.K fun σ h K => b.q σ h fun k ms g h1 => k.isT = false ∧ K .l (enumL 0 ms) g h1) := by
  have ex : x = ("enumerate" : Str) := hx
  subst ex
  have hm : X.mg ("enumerate" : Str) = none := c.bi _ (by decide +kernel)
  refine PI.imp (pi_enum hg hm (pa_cons q pa_nil (star_plain hp)) (star_plain hp)) fun st H R w => ?_
  obtain ⟨σ, h, rs, sm, w⟩ := w
  refine ⟨σ, h, rs, sm, mb.q _ _ _ _ (fun k ms g h1 w => ?_) w⟩
  intro v H1 sv s1 f1
  obtain ⟨a, rfl⟩ := sv.addr
  obtain ⟨a', vs, e, r, l, t⟩ := sv.at s1
  cases e
  exact ⟨a, vs, rfl, l w.1, w.2 _ H1 (walkM_enum w.1 sv s1) s1 f1⟩
theorem pi_zipM (c : XOk Φ fns N so X) {es : List Expr} {k : Nat} {tp : Pos} {x : Str} {p pos : Pos} {e e2 : Expr} {b b2 : B} (mb : b.Mono) (mb2 : b2.Mono) (hx : x = Str.ofString "zip") (hg : Gl X x) (hp : plainX e = true) (hp2 : plainX e2 = true) (q : PE X e (liftQ X.K b.q)) (q2 : PE X e2 (liftQ X.K b2.q)) :
    PI X (.Tuple es k tp) (.Call (.Name x p) [e, e2] [] pos) (liftI X.K fun σ h K => b.q σ h fun k xs g h1 => b2.q σ h1 fun k' ys g' h2 => k.isT = k'.isT ∧ gOk g h2 ∧ K .l (zipL xs ys) (g ++ g') h2) := by
  have ex : x = ("zip" : Str) := hx
  subst ex
  have hm : X.mg ("zip" : Str) = none := c.bi _ (by decide +kernel)
  refine PI.imp (RZ.pi_zipA hg hm (pa_cons q (pa_cons q2 pa_nil (star_plain hp2)) (star_plain hp)) (star_plain hp) (star_all (by simp [hp2]))) fun st H R w => ?_
  obtain ⟨σ, h, rs, sm, w⟩ := w
  refine ⟨σ, h, rs, sm, mb.q _ _ _ _ (fun k xs g h1 w => ?_) w⟩
  intro v H1 sv s1 f1
  refine ⟨σ, h1, rs.frm sm f1, s1, mb2.q _ _ _ _ (fun k' ys g' h2 w => ?_) w⟩
  intro u H2 su s2 f2
  obtain ⟨ek, o, w⟩ := w
  have sv2 := sv.frm s1 f2 o
  obtain ⟨a, rfl⟩ := sv2.addr
  obtain ⟨a', vs, e, r, l, t⟩ := sv2.at s2
  cases e
  obtain ⟨b', rfl⟩ := su.addr
  obtain ⟨b'', us, e, r', l', t'⟩ := su.at s2
  cases e
  refine ⟨a, b', vs, us, rfl, ?_⟩
  cases hk : k.isT with
  | false => exact .inl ⟨l hk, l' (ek ▸ hk), w _ H2 (walkM_zip hk (ek ▸ hk) sv2 su s2) s2 (f1.trans f2)⟩
  | true => exact .inr ⟨t.1 hk, t'.1 (ek ▸ hk), w _ H2 (walkM_zipT hk (ek ▸ hk) sv2 su s2) s2 (f1.trans f2)⟩
/-! targets -/
theorem Out.set (s : L2.St) (i : Nat) (v : Option V) : Out [i] s (s.set i v) := ⟨by simp, fun j hj => by rw [List.getElem?_set_ne (fun z => hj (by simp [z]))]⟩
theorem pg_varM {i : Nat} {x : Str} {pos : Pos} (hN : X.N.Nodup) (hi : X.N[i]? = some x) (hx : Loc X.env.scope x) (hf : X.fn x = true ∨ X.env.scope.names.lookup x = some .local) :
    PG X (.Name x pos) (liftG X.K [i] fun m σ h K => K (σ.set i (some m)) h) := by
  refine PG.imp (pg_name hN hi hx hf) fun v s H Q w => ?_
  obtain ⟨m, σ, h, rv, rs, sm, w⟩ := w
  exact w _ H (rs.set i rv) sm (Frm.refl _ _) (Out.set s i _)
theorem pgs_nilM : PGs X [] (liftGs X.K [] fun ms σ h K => match ms with | [] => K σ h | _ => False) := by
  refine PGs.imp pgs_nil fun v s H Q w => ?_
  obtain ⟨ms, σ, h, rv, rs, sm, w⟩ := w
  cases rv with
  | nil => exact ⟨rfl, w _ H rs sm (Frm.refl _ _) (Out.refl _ _)⟩
  | cons _ _ => exact w.elim
theorem pgs_consM {e : Expr} {es : List Expr} {vs us : List Nat} {b c : B} (mb : b.Mono) (mc : c.Mono) (p : PG X e (liftG X.K vs b.g)) (q : PGs X es (liftGs X.K us c.gs)) (hs : (assignEach (e :: es) X.env).map (·.2) = assign e X.env :: (assignEach es X.env).map (·.2)) :
    PGs X (e :: es) (liftGs X.K (vs ++ us) fun ms σ h K => match ms with | m :: r => b.g m σ h fun σ1 h1 => c.gs r σ1 h1 K | [] => False) := by
  refine PGs.imp (pgs_cons p q hs) fun v s H Q w => ?_
  obtain ⟨ms, σ, h, rv, rs, sm, w⟩ := w
  cases rv with
  | nil => exact w.elim
  | cons r rr =>
    refine ⟨_, _, rfl, _, σ, h, r, rs, sm, mb.g _ _ _ _ _ (fun σ1 h1 w => ?_) w⟩
    intro s1 H1 rs1 sm1 f1 o1
    refine ⟨_, σ1, h1, rr.frm sm f1, rs1, sm1, mc.gs _ _ _ _ _ (fun σ2 h2 w => ?_) w⟩
    intro s2 H2 rs2 sm2 f2 o2
    exact w s2 H2 rs2 sm2 (f1.trans f2) ((o1.mono fun i hi => List.mem_append_left _ hi).trans (o2.mono fun i hi => List.mem_append_right _ hi))
theorem pg_tupM (hc : X.calm = true) {es : List Expr} {k n : Nat} {pos : Pos} {vs : List Nat} {b : B} (mb : b.Mono) (q : PGs X es (liftGs X.K vs b.gs)) (hn : (assignEach es X.env).length = n) (hst : (assignEach es X.env).findIdx? (·.1) = none) :
    PG X (.Tuple es k pos) (liftG X.K vs fun m σ h K => match m with | .tup ms => ms.length = n ∧ b.gs ms σ h K | _ => False) := by
  refine PG.imp (pg_tup hc q hn hst) fun v s H Q w => ?_
  obtain ⟨m, σ, h, rv, rs, sm, w⟩ := w
  cases m with
  | tup ms =>
    obtain ⟨a, xs, rfl, t, r⟩ := rv.toTup
    exact ⟨a, xs, rfl, t, by rw [r.length]; exact w.1, ms, σ, h, r, rs, sm, w.2⟩
  | _ => exact w.elim
theorem pg_ixM {o i : Expr} {pos : Pos} {vo vi : Sl → MH → KE → Prop} (mo : VMono vo) (mi : VMono vi) (po : PE X o (liftE X.K vo)) (pi : PE X i (liftE X.K vi)) (ha : ∀ v, assign (.Subscript o i pos) X.env v = (do
      let ov ← holding [v] (eval o X.env)
      let iv ← holding [v, ov] (eval i X.env)
      standAt pos
      holding [v, ov, iv] (setItem ov iv v)
      release [v, ov, iv] [])) : PG X (.Subscript o i pos) (liftG X.K [] fun m σ h K => vo σ h fun x h1 => vi σ h1 fun y h2 => setM x y m h2 fun h3 => K σ h3) := by
  refine PG.imp (pg_sub po pi setr ha) fun v s H Q w => ?_
  obtain ⟨m, σ, h, rv, rs, sm, w⟩ := w
  refine ⟨σ, h, rs, sm, mo _ _ _ _ (fun x h1 w => ?_) w⟩
  intro o1 H1 r1 s1 f1
  refine ⟨σ, h1, rs.frm sm f1, s1, mi _ _ _ _ (fun y h2 w => ?_) w⟩
  intro i1 H2 r2 s2 f2
  refine ⟨x, y, m, h2, r1.frm s1 f2, r2, (rv.frm sm f1).frm s1 f2, s2, setM_mono (fun h3 w H3 s3 f3 => ?_) w⟩
  exact w s H3 (((rs.frm sm f1).frm s1 f2).frm s2 f3) s3 (f1.trans (f2.trans f3)) (Out.refl _ _)
/-! comprehensions -/
def relF (sc : Scope) (p : Str × NameKind) : Str × NameKind := if (p.2 == .free && sc.kind == .function && sc.names.lookup p.1 == some .cell) then (p.1, NameKind.cell) else (p.1, p.2)
theorem relF_eq (sc : Scope) (l : List (Str × NameKind)) : (l.map fun (n, k) => if (k == .free && sc.kind == .function && sc.names.lookup n == some .cell) then (n, NameKind.cell) else (n, k)) = l.map (relF sc) := rfl
theorem relS_look' {sc : Scope} {y : Str} {k : NameKind} (hk : k = .local ∨ k = .cell) : ∀ (l : List (Str × NameKind)), l.lookup y = some k → (l.map (relF sc)).lookup y = some k
  | [], h => by cases h
  | (n, k') :: r, h => by
    rw [List.map_cons]
    have ih := relS_look' (sc := sc) (y := y) hk r
    unfold relF
    by_cases e : y = n
    · subst e
      rw [List.lookup_cons_self] at h
      cases h
      rcases hk with rfl | rfl <;> exact List.lookup_cons_self
    · have hne : (y == n) = false := by simpa using e
      rw [List.lookup_cons, hne] at h
      split <;> (rw [List.lookup_cons, hne]; exact ih h)
theorem relS_look {sc scope : Scope} {y : Str} {k : NameKind} (hk : k = .local ∨ k = .cell) (h : scope.names.lookup y = some k) : (relS scope sc).names.lookup y = some k := relS_look' hk _ h
theorem XOk.blk (c : XOk Φ fns N so X) {scope : Scope} {own : List (Str × Nat)} (hk : scope.kind = .function) (s : Shared) (H : Hp) (C : Addr) (cl : List (Str × Addr)) (fp : List Addr) : XOk Φ fns N scope (X.blk s H scope (compEnvC scope cl C X.env) fp) where
  calm := c.calm
  units := c.units
  guards := c.guards
  digits := c.digits
  names := c.names
  nd := c.nd
  kind := hk
  fn := c.fn
  bi := c.bi
  gl := c.gl
  stor y h := by
    rcases h with h | h
    · have q : (relS scope X.env.scope).names.lookup y = some .local := relS_look (.inl rfl) h
      exact ⟨.inl q, .inr q⟩
    · have q : (relS scope X.env.scope).names.lookup y = some .cell := relS_look (.inr rfl) h
      exact ⟨.inr q, .inl (by show (scope.names.lookup y == some NameKind.cell) = true; rw [h]; rfl)⟩
theorem compMade {it t c e : B} {cn : Bool} {own : List Nat} (mi : it.Mono) (mt : t.Mono) (mc : c.Mono) (me : e.Mono) :
    Made (fun σ h R => it.i σ h fun _ ms g h1 => ms.length ≤ SZ ∧ compI (compTurn t c e cn (wipeM σ own)) g (fun acc h2 => R .l acc [] h2) ms [] h1) := fun σ h K w =>
  mi.i _ _ _ _ (fun k ms g h1 w => ⟨w.1, compI_mono (fun m h R R' f w => compTurn_mono (m := m) (h := h) mt mc me f w) (fun acc h2 w => ⟨rfl, rfl, w⟩) _ _ _ w.2⟩) w
end
end Mp

set_option Elab.async false
set_option linter.all false
set_option maxRecDepth 100000
/-! Mini: a text of Mini is held against the syntax of the program. -/
namespace Mp
open PySem PySem.Spec PyProof.Rows L2

structure Ck where
  v : Expr → Bool
  i : Expr → Expr → Bool
  a : List Expr → Bool
  g : Expr → Bool
  gs : List Expr → Bool
def Ck.ofV (v : Expr → Bool) : Ck := ⟨v, fun _ x => v x, fun _ => false, fun _ => false, fun _ => false⟩
def Ck.ofI (i : Expr → Expr → Bool) : Ck := ⟨fun _ => false, i, fun _ => false, fun _ => false, fun _ => false⟩
def Ck.no : Ck := ⟨fun _ => false, fun _ _ => false, fun _ => false, fun _ => false, fun _ => false⟩
def visB (sc : Scope) (x : Str) : Bool := match sc.names.lookup x with
  | some .local => true
  | some .cell => true
  | some .free => true
  | _ => false
def locB (sc : Scope) (x : Str) : Bool := match sc.names.lookup x with
  | some .local => true
  | some .cell => true
  | _ => false
def glB (sc : Scope) (x : Str) : Bool := match sc.names.lookup x with
  | some .globalImplicit => true
  | _ => false
def okDb (x : Str) : Bool := !(x == ("__debug__" : Str))
def okNm (x : Str) : Bool := okDb x && !(x == ("__classdict__" : Str))
theorem visB_of {sc : Scope} {x : Str} (h : visB sc x = true) : Vis sc x := by
  unfold visB at h
  split at h <;> first | exact .inl (by assumption) | exact .inr (.inl (by assumption)) | exact .inr (.inr (by assumption)) | cases h
theorem locB_of {sc : Scope} {x : Str} (h : locB sc x = true) : sc.names.lookup x = some .local ∨ sc.names.lookup x = some .cell := by
  unfold locB at h
  split at h <;> first | exact .inl (by assumption) | exact .inr (by assumption) | cases h
theorem glB_of {X : Cx} {x : Str} (h : glB X.env.scope x = true) : Gl X x := by
  unfold glB at h
  split at h <;> first | assumption | cases h
theorem okDb_of {x : Str} (h : okDb x = true) : (x == ("__debug__" : Str)) = false := by
  unfold okDb at h
  cases q : (x == ("__debug__" : Str)) with
  | false => rfl
  | true => rw [q] at h; cases h
theorem okNm_of {x : Str} (h : okNm x = true) : (x == ("__debug__" : Str)) = false ∧ (x == ("__classdict__" : Str)) = false := by
  unfold okNm at h
  rw [Bool.and_eq_true] at h
  refine ⟨okDb_of h.1, ?_⟩
  cases q : (x == ("__classdict__" : Str)) with
  | false => rfl
  | true => rw [q] at h; cases h.2
/-- not a test of its own kind that HandS has no rule for -/
def tOk : E → Bool
  | .ife .. => false
  | _ => true
def notCall : Expr → Bool
  | .Call .. => false
  | _ => true
def varsE : E → List Nat
  | .nil => []
  | .cons e es => varsE e ++ varsE es
  | .var i => [i]
  | .tup es => varsE es
  | _ => []
def isTupX : Expr → Bool
  | .Tuple .. => true
  | _ => false
def ownL (N : List Str) (own : List Nat) : List (Str × Nat) := own.map fun i => ((N[i]?).getD (Str.ofString ""), i)
def chk (fns : List (String × Nat)) (N : List Str) : E → Scope → Scope → Ck
  | .nil, _, _ => { Ck.no with a := fun xs => xs.isEmpty, gs := fun xs => xs.isEmpty }
  | .cons e es, sc, so => { Ck.no with
      a := fun xs => match xs with | x :: r => plainX x && (chk fns N e sc so).v x && (chk fns N es sc so).a r | [] => false
      gs := fun xs => match xs with | x :: r => plainX x && (chk fns N e sc so).g x && (chk fns N es sc so).gs r | [] => false }
  | .var i, sc, so => { Ck.ofV (fun x => match x with | .Name y _ => decide (N[i]? = some y) && visB sc y && okNm y | _ => false) with
      g := fun x => match x with | .Name y _ => decide (N[i]? = some y) && locB so y | _ => false }
  | .int k, _, _ => Ck.ofV fun x => match x with | .Constant (.int j) _ _ => decide (j = k) | _ => false
  | .bl k, _, _ => Ck.ofV fun x => match x with | .Constant (.bool j) _ _ => decide (j = k) | _ => false
  | .non, _, _ => Ck.ofV fun x => match x with | .Constant .none _ _ => true | _ => false
  | .str s, _, _ => Ck.ofV fun x => match x with | .Constant (.str t) _ _ => decide (t = Str.ofString s) | _ => false
  | .glob y, sc, _ => Ck.ofV fun x => match x with | .Name z _ => decide (z = Str.ofString y) && glB sc z && okDb z | _ => false
  | .op o a b, sc, so => Ck.ofV fun x => match x with | .BinOp l p r _ => decide (p = pyOp o) && (chk fns N a sc so).v l && (chk fns N b sc so).v r | _ => false
  | .neg a, sc, so => Ck.ofV fun x => match x with | .UnaryOp .USub y _ => (chk fns N a sc so).v y | _ => false
  | .not a, sc, so => Ck.ofV fun x => match x with | .UnaryOp .Not y _ => tOk a && (chk fns N a sc so).v y | _ => false
  | .and a b, sc, so => Ck.ofV fun x => match x with
    | .BoolOp .And (y :: z :: r) pos => tOk a && tOk b && (chk fns N a sc so).v y && (match r with | [] => (chk fns N b sc so).v z | w :: r => (chk fns N b sc so).v (.BoolOp .And (z :: w :: r) pos))
    | _ => false
  | .or a b, sc, so => Ck.ofV fun x => match x with
    | .BoolOp .Or (y :: z :: r) pos => tOk a && tOk b && (chk fns N a sc so).v y && (match r with | [] => (chk fns N b sc so).v z | w :: r => (chk fns N b sc so).v (.BoolOp .Or (z :: w :: r) pos))
    | _ => false
  | .ife c a b, sc, so => Ck.ofV fun x => match x with | .IfExp y z w _ => tOk c && (chk fns N c sc so).v y && (chk fns N a sc so).v z && (chk fns N b sc so).v w | _ => false
  | .cmp o a b, sc, so => Ck.ofV fun x => match x with | .Compare l [p] [r] _ => decide (p = pyCmp o) && plainX r && (chk fns N a sc so).v l && (chk fns N b sc so).v r | _ => false
  | .chain .., _, _ => Ck.no
  | .tup es, sc, so => { Ck.ofV (fun x => match x with | .Tuple xs _ _ => (chk fns N es sc so).a xs | _ => false) with
      g := fun x => match x with | .Tuple xs _ _ => xs.all plainX && decide (lenE es = xs.length) && (chk fns N es sc so).gs xs | _ => false }
  | .lst es, sc, so => Ck.ofV fun x => match x with | .List xs _ => (chk fns N es sc so).a xs | _ => false
  | .ix a b, sc, so => { Ck.ofV (fun x => match x with | .Subscript y z _ => plainX z && (chk fns N a sc so).v y && (chk fns N b sc so).v z | _ => false) with
      g := fun x => match x with | .Subscript y z _ => plainX z && (chk fns N a sc so).v y && (chk fns N b sc so).v z | _ => false }
  | .sl a lo hi, sc, so => Ck.ofV fun x => match x with
    | .Subscript y (.Slice l u none _) _ => (chk fns N a sc so).v y && (match l with | none => isNonE lo | some e => !isNonE lo && (chk fns N lo sc so).v e) && (match u with | none => isNonE hi | some e => !isNonE hi && (chk fns N hi sc so).v e)
    | _ => false
  | .rev _, _, _ => Ck.no
  | .step2 _, _, _ => Ck.no
  | .call f es, sc, so => Ck.ofV fun x => match x with
    | .Call (.Name y _) xs [] _ => decide (y = Str.ofString f) && decide ((f, lenE es) ∈ fns) && glB sc y && okDb y && xs.all plainX && (chk fns N es sc so).a xs
    | _ => false
  | .bi b es, sc, so => Ck.ofV fun x => match x with
    | .Call (.Name y _) xs [] _ => decide (y = Str.ofString (biS b)) && glB sc y && xs.all plainX && !xs.isEmpty && (chk fns N es sc so).a xs
    | _ => false
  | .bq b a, sc, so => Ck.ofV fun x => match x with
    | .Call (.Name y _) [z] [] _ => decide (y = Str.ofString (bqS b)) && glB sc y && plainX z && (chk fns N a sc so).v z
    | _ => false
  | .bl1 b a, sc, so => Ck.ofV fun x => match x with
    | .Call (.Name y _) [z] [] _ => decide (y = Str.ofString (blS b)) && glB sc y && plainX z && (chk fns N a sc so).v z
    | _ => false
  | .meth m o es, sc, so => Ck.ofV fun x => match x with
    | .Call (.Attribute y nm apos) xs [] pos => decide (nm = Str.ofString (meS m)) && notCall y && (apos.endLine == pos.line) && xs.all plainX && decide (xs.length < 20) && decide (m = .pop ↔ xs.isEmpty = true) && (chk fns N o sc so).v y && (chk fns N es sc so).a xs
    | _ => false
  | .comp own t it c e, sc, so => Ck.ofV fun x => match x with
    | .ListComp elt [⟨tg, iter, ifs, 0⟩] scope _ => plainX iter && (chk fns N it sc so).i tg iter && blkC N sc scope (ownL N own) && (varsE t).all (fun i => decide (i ∈ own)) && (chk fns N t (relS scope sc) scope).g tg &&
        (match ifs with | [] => isNil c | [k] => !isNil c && tOk c && (chk fns N c (relS scope sc) scope).v k | _ => false) && (chk fns N e (relS scope sc) scope).v elt
    | _ => false
  | .comp2 .., _, _ => Ck.no
  | .rng es, sc, so => Ck.ofI fun _ x => match x with
    | .Call (.Name y _) xs [] _ => decide (y = Str.ofString "range") && glB sc y && xs.all plainX && decide (lenE es = xs.length) && decide (1 ≤ xs.length) && decide (xs.length ≤ 3) && (chk fns N es sc so).a xs
    | _ => false
  | .enum a, sc, so => Ck.ofI fun tg x => match x with
    | .Call (.Name y _) [z] [] _ => isTupX tg && decide (y = Str.ofString "enumerate") && glB sc y && plainX z && (chk fns N a sc so).v z
    | _ => false
  | .zip a b, sc, so => Ck.ofI fun tg x => match x with
    | .Call (.Name y _) [z, w] [] _ => isTupX tg && decide (y = Str.ofString "zip") && glB sc y && plainX z && plainX w && (chk fns N a sc so).v z && (chk fns N b sc so).v w
    | _ => false

/-- the check's promise -/
structure Ok (X : Cx) (b : B) (k : Ck) (e : E) : Prop where
  v : ∀ x, k.v x = true → PE X x (liftE X.K b.v) ∧ PE X x (liftQ X.K b.q) ∧ (tOk e = true → PT X x (liftT X.K b.t))
  i : ∀ tg x, k.i tg x = true → PI X tg x (liftI X.K b.i)
  a : ∀ xs, k.a xs = true → PA X xs (liftA X.K b.a)
  g : ∀ x, k.g x = true → PG X x (liftG X.K (varsE e) b.g)
  gs : ∀ xs, k.gs xs = true → PGs X xs (liftGs X.K (varsE e) b.gs)
abbrev PlainTest (X : Cx) (x : Expr) : Prop := ∀ whole, isTrue x X.env whole = (do let v ← whole; standAt x.pos; holding [v] (truthy v))
section
variable {X : Cx} {Φ : Phi} {fns : List (String × Nat)} {N : List Str} {so : Scope}
theorem no_false {P : Prop} (h : false = true) : P := by cases h
theorem Ok.no {b : B} {e : E} : Ok X b Ck.no e := ⟨fun _ h => no_false h, fun _ _ h => no_false h, fun _ h => no_false h, fun _ h => no_false h, fun _ h => no_false h⟩
theorem Ok.ofV {v : Sl → MH → KE → Prop} {c : Expr → Bool} {e : E} (mv : VMono v) (h : ∀ x, c x = true → PE X x (liftE X.K v) ∧ (tOk e = true → PlainTest X x)) : Ok X (B.ofV v) (Ck.ofV c) e :=
  ⟨fun x hx => ⟨(h x hx).1, snd_qOfV mv (h x hx).1, fun ht => snd_tOfV mv (h x hx).1 ((h x hx).2 ht)⟩, fun tg x hx => Snd.i (b := B.ofV v) (snd_qOfV mv (h x hx).1) (B.Mono.ofV mv), fun _ h => no_false h, fun _ h => no_false h, fun _ h => no_false h⟩
theorem Ok.ofT {v : Sl → MH → KE → Prop} {t : Sl → MH → (Bool → MH → Prop) → Prop} {c : Expr → Bool} {e : E} (mv : VMono v) (h : ∀ x, c x = true → PE X x (liftE X.K v) ∧ PT X x (liftT X.K t)) : Ok X (B.ofT v t) (Ck.ofV c) e :=
  ⟨fun x hx => ⟨(h x hx).1, snd_qOfV mv (h x hx).1, fun _ => (h x hx).2⟩, fun tg x hx => Snd.i (b := B.ofV v) (snd_qOfV mv (h x hx).1) (B.Mono.ofV mv), fun _ h => no_false h, fun _ h => no_false h, fun _ h => no_false h⟩
theorem Ok.ofQ {q : Sl → MH → KQ → Prop} {c : Expr → Bool} {e : E} (mq : QMono q) (mk : Made q) (h : ∀ x, c x = true → PE X x (liftM X.K q) ∧ PlainTest X x) : Ok X (B.ofQ q) (Ck.ofV c) e :=
  have s := fun x hx => Snd.ofM mq mk (h x hx).1 (h x hx).2
  ⟨fun x hx => ⟨(s x hx).v, (s x hx).q, fun _ => (s x hx).t⟩, fun tg x hx => Snd.i (b := B.ofQ q) (s x hx).q (B.Mono.ofQ mq), fun _ h => no_false h, fun _ h => no_false h, fun _ h => no_false h⟩
theorem Ok.ofI {i : Sl → MH → KQ → Prop} {c : Expr → Expr → Bool} {e : E} (h : ∀ tg x, c tg x = true → PI X tg x (liftI X.K i)) : Ok X (B.ofI i) (Ck.ofI c) e :=
  ⟨fun _ h => no_false h, h, fun _ h => no_false h, fun _ h => no_false h, fun _ h => no_false h⟩

/-- a test's reading and the truth of its value's -/
theorem t_tOfV (hΦ : Φ.Mono) : ∀ (e : E) (σ : Sl) (h : MH) (K : Bool → MH → Prop), (sem Φ W0 e).t σ h K → tOfV (sem Φ W0 e).v σ h K := by
  intro e
  induction e with
  | not a ih => exact fun σ h K w => w
  | cmp o a b _ _ => exact fun σ h K w => w
  | chain o p a b c _ _ _ =>
    intro σ h K w
    refine (sem_mono hΦ a W0).v _ _ _ _ (fun x h1 w => ?_) w
    refine (sem_mono hΦ b W0).v _ _ _ _ (fun y h2 w => ?_) w
    refine cmpM_mono (fun k w => ?_) w
    cases k with
    | true => rw [if_pos rfl] at w ⊢; exact w
    | false => rw [if_neg Bool.false_ne_true] at w ⊢; exact w
  | and a b iha ihb =>
    intro σ h K w
    have q := iha _ _ _ w
    refine (sem_mono hΦ a W0).v _ _ _ _ (fun x h1 w => ?_) q
    cases e : truM x h1 with
    | none => rw [e] at w; exact w.elim
    | some k =>
      rw [e] at w
      cases k with
      | true => exact ihb _ _ _ (by simpa using w)
      | false =>
        have w : K false h1 := by simpa using w
        show (match truM x h1 with | some b => K b h1 | none => False)
        rw [e]; exact w
  | or a b iha ihb =>
    intro σ h K w
    have q := iha _ _ _ w
    refine (sem_mono hΦ a W0).v _ _ _ _ (fun x h1 w => ?_) q
    cases e : truM x h1 with
    | none => rw [e] at w; exact w.elim
    | some k =>
      rw [e] at w
      cases k with
      | false => exact ihb _ _ _ (by simpa using w)
      | true =>
        have w : K true h1 := by simpa using w
        show (match truM x h1 with | some b => K b h1 | none => False)
        rw [e]; exact w
  | op o a b _ _ =>
    intro σ h K
    unfold sem
    split <;> exact fun w => w
  | _ => exact fun σ h K w => w
theorem pl_other {x : Expr} (h : match x with | .UnaryOp .Not .. => False | .BoolOp .. => False | .Compare .. => False | .IfExp .. => False | .NamedExpr .. => False | _ => True) : PlainTest X x := by
  intro whole
  cases x with
  | UnaryOp o a p => cases o <;> first | rfl | exact h.elim
  | _ => first | rfl | exact h.elim
theorem chk_nil {e : E} {sc so : Scope} (h : (chk fns N e sc so).a [] = true) : e = .nil := by
  cases e <;> first | rfl | exact no_false h
theorem assign_each : ∀ {xs : List Expr} {env : Env}, xs.all plainX = true → (assignEach xs env).length = xs.length ∧ (assignEach xs env).findIdx? (·.1) = none
  | [], _, _ => ⟨rfl, rfl⟩
  | x :: r, env, h => by
    rw [List.all_cons, Bool.and_eq_true] at h
    have e : assignEach (x :: r) env = (false, assign x env) :: assignEach r env := by
      cases x <;> first | rfl | exact no_false h.1
    obtain ⟨a, b⟩ := assign_each (env := env) h.2
    rw [e]
    refine ⟨by simp [a], ?_⟩
    rw [List.findIdx?_cons]
    simp [b]
theorem assign_cons {x : Expr} {r : List Expr} {env : Env} (h : plainX x = true) : (assignEach (x :: r) env).map (·.2) = assign x env :: (assignEach r env).map (·.2) := by
  cases x <;> first | rfl | exact no_false h
theorem assign_ix {o i : Expr} {pos : Pos} {env : Env} (h : plainX i = true) : ∀ v, assign (.Subscript o i pos) env v = (do
      let ov ← holding [v] (eval o env)
      let iv ← holding [v, ov] (eval i env)
      standAt pos
      holding [v, ov, iv] (setItem ov iv v)
      release [v, ov, iv] []) := by
  intro v
  cases i <;> first | rfl | exact no_false h
end
end Mp

set_option Elab.async false
set_option linter.all false
set_option maxRecDepth 100000
/-! Mini: the check of expressions is sound. -/
namespace Mp
open PySem PySem.Spec PyProof.Rows L2
section
variable {Φ : Phi} {fns : List (String × Nat)} {N : List Str}
theorem and2 {a b : Bool} (h : (a && b) = true) : a = true ∧ b = true := by rwa [Bool.and_eq_true] at h
theorem dec {p : Prop} [Decidable p] (h : decide p = true) : p := of_decide_eq_true h
theorem isNil_not {c : E} (h : (!isNil c) = true) : isNil c = false := by
  cases e : isNil c with
  | false => rfl
  | true => rw [e] at h; cases h
theorem isNonE_not {c : E} (h : (!isNonE c) = true) : isNonE c = false := by
  cases e : isNonE c with
  | false => rfl
  | true => rw [e] at h; cases h
theorem ownL_snd (N : List Str) : ∀ own : List Nat, (ownL N own).map (·.2) = own
  | [] => rfl
  | i :: r => congrArg (i :: ·) (ownL_snd N r)
theorem chk_ok (hΦ : Φ.Mono) : ∀ (e : E) {so : Scope} {X : Cx} (c : XOk Φ fns N so X), Ok X (sem Φ W0 e) (chk fns N e X.env.scope so) e := by
  intro e
  induction e with
  | nil =>
    intro so X c
    refine ⟨fun _ h => no_false h, fun _ _ h => no_false h, fun xs h => ?_, fun _ h => no_false h, fun xs h => ?_⟩
    · cases xs with
      | nil => exact pa_nilM
      | cons _ _ => exact no_false h
    · cases xs with
      | nil => exact pgs_nilM
      | cons _ _ => exact no_false h
  | cons e es ihe ihes =>
    intro so X c
    have oe := ihe c
    have oes := ihes c
    have me := sem_mono hΦ e W0
    have mes := sem_mono hΦ es W0
    refine ⟨fun _ h => no_false h, fun _ _ h => no_false h, fun xs h => ?_, fun _ h => no_false h, fun xs h => ?_⟩
    · cases xs with
      | nil => exact no_false h
      | cons x r =>
        obtain ⟨h, h3⟩ := and2 h
        obtain ⟨h1, h2⟩ := and2 h
        exact pa_consM me.v mes.a h1 (oe.v x h2).1 (oes.a r h3)
    · cases xs with
      | nil => exact no_false h
      | cons x r =>
        obtain ⟨h, h3⟩ := and2 h
        obtain ⟨h1, h2⟩ := and2 h
        exact pgs_consM me mes (oe.g x h2) (oes.gs r h3) (assign_cons h1)
  | var i =>
    intro so X c
    have mv := (sem_mono hΦ (.var i) W0).v
    have o : Ok X (B.ofV (sem Φ W0 (.var i)).v) (Ck.ofV (chk fns N (.var i) X.env.scope so).v) (.var i) := Ok.ofV mv fun x h => by
      cases x with
      | Name y p =>
        obtain ⟨h, h3⟩ := and2 h
        obtain ⟨h1, h2⟩ := and2 h
        obtain ⟨d1, d2⟩ := okNm_of h3
        exact ⟨pe_varM (by rw [c.names]; exact dec h1) (visB_of h2) d1 d2, fun _ => pl_other trivial⟩
      | _ => exact no_false h
    refine ⟨o.v, o.i, o.a, fun x h => ?_, o.gs⟩
    cases x with
    | Name y p =>
      obtain ⟨h1, h2⟩ := and2 h
      obtain ⟨l, f⟩ := c.stor y (locB_of h2)
      exact pg_varM (by rw [c.names]; exact c.nd) (by rw [c.names]; exact dec h1) l f
    | _ => exact no_false h
  | int k =>
    intro so X c
    refine Ok.ofV (sem_mono hΦ (.int k) W0).v fun x h => ?_
    cases x with
    | Constant k' j p =>
      cases k' with
      | int i => cases dec h; exact ⟨pe_constM pe_int fun H => .int _, fun _ => pl_other trivial⟩
      | _ => exact no_false h
    | _ => exact no_false h
  | bl k =>
    intro so X c
    refine Ok.ofV (sem_mono hΦ (.bl k) W0).v fun x h => ?_
    cases x with
    | Constant k' j p =>
      cases k' with
      | bool i => cases dec h; exact ⟨pe_constM L2.pe_bl fun H => .bl _, fun _ => pl_other trivial⟩
      | _ => exact no_false h
    | _ => exact no_false h
  | non =>
    intro so X c
    refine Ok.ofV (sem_mono hΦ .non W0).v fun x h => ?_
    cases x with
    | Constant k' j p =>
      cases k' with
      | none => exact ⟨pe_constM pe_non fun H => .non, fun _ => pl_other trivial⟩
      | _ => exact no_false h
    | _ => exact no_false h
  | str k =>
    intro so X c
    refine Ok.ofV (sem_mono hΦ (.str k) W0).v fun x h => ?_
    cases x with
    | Constant k' j p =>
      cases k' with
      | str i => cases dec h; exact ⟨pe_constM pe_str fun H => .str _, fun _ => pl_other trivial⟩
      | _ => exact no_false h
    | _ => exact no_false h
  | glob y =>
    intro so X c
    refine Ok.ofV (sem_mono hΦ (.glob y) W0).v fun x h => ?_
    cases x with
    | Name z p =>
      obtain ⟨h, h3⟩ := and2 h
      obtain ⟨h1, h2⟩ := and2 h
      exact ⟨pe_globM c (dec h1) (glB_of h2) (okDb_of h3), fun _ => pl_other trivial⟩
    | _ => exact no_false h
  | op o a b iha ihb =>
    intro so X c
    have oa := iha c
    have ob := ihb c
    have ma := sem_mono hΦ a W0
    have mb := sem_mono hΦ b W0
    have me := sem_mono hΦ (.op o a b) W0
    have opn : ∀ x, (chk fns N (.op o a b) X.env.scope so).v x = true → ∃ l r p, x = .BinOp l (pyOp o) r p ∧ (chk fns N a X.env.scope so).v l = true ∧ (chk fns N b X.env.scope so).v r = true := fun x h => by
      cases x with
      | BinOp l q r p =>
        obtain ⟨h, h3⟩ := and2 h
        obtain ⟨h1, h2⟩ := and2 h
        exact ⟨l, r, p, by rw [dec h1], h2, h3⟩
      | _ => exact no_false h
    show Ok X (sem Φ W0 (.op o a b)) (Ck.ofV (chk fns N (.op o a b) X.env.scope so).v) _
    generalize hcv : (chk fns N (.op o a b) X.env.scope so).v = cv at opn ⊢
    clear hcv
    unfold sem at me ⊢
    split at me
    · refine Ok.ofV me.v fun x h => ?_
      obtain ⟨l, r, p, rfl, h1, h2⟩ := opn x h
      exact ⟨pe_addM ma.v mb.v (oa.v l h1).1 (ob.v r h2).1, fun _ => pl_other trivial⟩
    · refine Ok.ofQ me.q (fun σ h K w => ma.q _ _ _ _ (fun k xs g h1 w => mb.q _ _ _ _ (fun k' ys g' h2 w => ⟨w.1, w.2.1, w.2.2.1, w.2.2.2.1, w.2.2.2.2.1, rfl, rfl, w.2.2.2.2.2⟩) w) w) fun x h => ?_
      obtain ⟨l, r, p, rfl, h1, h2⟩ := opn x h
      exact ⟨pe_catM ma mb (oa.v l h1).2.1 (ob.v r h2).2.1, pl_other trivial⟩
    · refine Ok.ofQ me.q (fun σ h K w => ma.q _ _ _ _ (fun k xs g h1 w => mb.v _ _ _ _ (fun m h2 w => ?_) w) w) fun x h => ?_
      · cases m with
        | int i => exact ⟨w.1, w.2.1, w.2.2.1, w.2.2.2.1, rfl, rfl, w.2.2.2.2⟩
        | _ => exact w
      · obtain ⟨l, r, p, rfl, h1, h2⟩ := opn x h
        exact ⟨pe_repM ma mb (oa.v l h1).2.1 (ob.v r h2).1, pl_other trivial⟩
    · refine Ok.ofV me.v fun x h => ?_
      obtain ⟨l, r, p, rfl, h1, h2⟩ := opn x h
      exact ⟨pe_opM _ ma.v mb.v (oa.v l h1).1 (ob.v r h2).1, fun _ => pl_other trivial⟩
  | neg a iha =>
    intro so X c
    refine Ok.ofV (sem_mono hΦ (.neg a) W0).v fun x h => ?_
    cases x with
    | UnaryOp u y p =>
      cases u with
      | USub => exact ⟨pe_negM (sem_mono hΦ a W0).v ((iha c).v y h).1, fun _ => pl_other trivial⟩
      | _ => exact no_false h
    | _ => exact no_false h
  | not a iha =>
    intro so X c
    have ma := sem_mono hΦ a W0
    refine Ok.ofT (sem_mono hΦ (.not a) W0).v fun x h => ?_
    cases x with
    | UnaryOp u y p =>
      cases u with
      | Not =>
        obtain ⟨h1, h2⟩ := and2 h
        obtain ⟨q1, _, q3⟩ := (iha c).v y h2
        refine ⟨PE.imp (pe_notM ma.v q1) fun s H Q w => ?_, pt_notM ma.t (q3 h1)⟩
        obtain ⟨σ, h, rs, sm, w⟩ := w
        exact ⟨σ, h, rs, sm, t_tOfV hΦ a _ _ _ w⟩
      | _ => exact no_false h
    | _ => exact no_false h
  | and a b iha ihb =>
    intro so X c
    have ma := sem_mono hΦ a W0
    have mb := sem_mono hΦ b W0
    refine Ok.ofT (sem_mono hΦ (.and a b) W0).v fun x h => ?_
    cases x with
    | BoolOp u ys p =>
      cases u with
      | And =>
        match ys, h with
        | [], h => exact no_false h
        | [_], h => exact no_false h
        | y :: z :: r, h =>
          obtain ⟨h, h4⟩ := and2 h
          obtain ⟨h, h3⟩ := and2 h
          obtain ⟨h1, h2⟩ := and2 h
          obtain ⟨a1, _, a3⟩ := (iha c).v y h3
          match r, h4 with
          | [], h4 =>
            obtain ⟨b1, _, b3⟩ := (ihb c).v z h4
            exact ⟨pe_andM ma.v a1 mb.v (pe_one b1), pt_andM ma.t (a3 h1) mb.t (pw_and1 (b3 h2)).pt⟩
          | w :: r, h4 =>
            obtain ⟨b1, _, b3⟩ := (ihb c).v _ h4
            exact ⟨pe_andM ma.v a1 mb.v b1, pt_andM ma.t (a3 h1) mb.t (b3 h2)⟩
      | _ => exact no_false h
    | _ => exact no_false h
  | or a b iha ihb =>
    intro so X c
    have ma := sem_mono hΦ a W0
    have mb := sem_mono hΦ b W0
    refine Ok.ofT (sem_mono hΦ (.or a b) W0).v fun x h => ?_
    cases x with
    | BoolOp u ys p =>
      cases u with
      | Or =>
        match ys, h with
        | [], h => exact no_false h
        | [_], h => exact no_false h
        | y :: z :: r, h =>
          obtain ⟨h, h4⟩ := and2 h
          obtain ⟨h, h3⟩ := and2 h
          obtain ⟨h1, h2⟩ := and2 h
          obtain ⟨a1, _, a3⟩ := (iha c).v y h3
          match r, h4 with
          | [], h4 =>
            obtain ⟨b1, _, b3⟩ := (ihb c).v z h4
            exact ⟨pe_orM ma.v a1 mb.v (pe_one b1), pt_orM ma.t (a3 h1) mb.t (pw_or1 (b3 h2)).pt⟩
          | w :: r, h4 =>
            obtain ⟨b1, _, b3⟩ := (ihb c).v _ h4
            exact ⟨pe_orM ma.v a1 mb.v b1, pt_orM ma.t (a3 h1) mb.t (b3 h2)⟩
      | _ => exact no_false h
    | _ => exact no_false h
  | ife k a b ihk iha ihb =>
    intro so X c
    refine Ok.ofV (sem_mono hΦ (.ife k a b) W0).v fun x h => ?_
    cases x with
    | IfExp y z w p =>
      obtain ⟨h, h4⟩ := and2 h
      obtain ⟨h, h3⟩ := and2 h
      obtain ⟨h1, h2⟩ := and2 h
      exact ⟨pe_ifeM (sem_mono hΦ k W0).t (sem_mono hΦ a W0).v (sem_mono hΦ b W0).v (((ihk c).v y h2).2.2 h1) ((iha c).v z h3).1 ((ihb c).v w h4).1, fun z => no_false z⟩
    | _ => exact no_false h
  | cmp o a b iha ihb =>
    intro so X c
    have ma := sem_mono hΦ a W0
    have mb := sem_mono hΦ b W0
    have hu : X.A.units + 65 < cLine := by have := c.units; omega
    refine Ok.ofT (sem_mono hΦ (.cmp o a b) W0).v fun x h => ?_
    cases x with
    | Compare l ps rs p =>
      match ps, rs, h with
      | [q], [r], h =>
        obtain ⟨h, h4⟩ := and2 h
        obtain ⟨h, h3⟩ := and2 h
        obtain ⟨h1, h2⟩ := and2 h
        cases dec h1
        exact ⟨pe_cmpM hu o ma.v mb.v ((iha c).v l h3).1 ((ihb c).v r h4).1 h2, pt_cmpM hu o ma.v mb.v ((iha c).v l h3).1 ((ihb c).v r h4).1 h2⟩
      | [], _, h => exact no_false h
      | [_], [], h => exact no_false h
      | [_], _ :: _ :: _, h => exact no_false h
      | _ :: _ :: _, _, h => exact no_false h
    | _ => exact no_false h
  | chain o p a b c _ _ _ => exact fun c => Ok.no
  | tup es ih =>
    intro so X c
    have mes := sem_mono hΦ es W0
    have o : Ok X (B.ofV (sem Φ W0 (.tup es)).v) (Ck.ofV (chk fns N (.tup es) X.env.scope so).v) (.tup es) := Ok.ofV (sem_mono hΦ (.tup es) W0).v fun x h => by
      cases x with
      | Tuple xs k p => exact ⟨pe_tupM mes.a ((ih c).a xs h), fun _ => pl_other trivial⟩
      | _ => exact no_false h
    refine ⟨o.v, o.i, o.a, fun x h => ?_, o.gs⟩
    cases x with
    | Tuple xs k p =>
      obtain ⟨h, h3⟩ := and2 h
      obtain ⟨h1, h2⟩ := and2 h
      obtain ⟨e1, e2⟩ := assign_each (env := X.env) h1
      exact pg_tupM c.calm mes ((ih c).gs xs h3) (e1.trans (dec h2).symm) e2
    | _ => exact no_false h
  | lst es ih =>
    intro so X c
    have mes := sem_mono hΦ es W0
    refine Ok.ofQ (fun σ h K K' f w => mes.a _ _ _ _ (fun ms h1 w => ⟨w.1, f _ _ _ _ w.2⟩) w) (fun σ h K w => mes.a _ _ _ _ (fun ms h1 w => ⟨w.1, rfl, rfl, w.2⟩) w) fun x h => ?_
    cases x with
    | List xs p => exact ⟨pe_lstM mes.a ((ih c).a xs h), pl_other trivial⟩
    | _ => exact no_false h
  | ix a b iha ihb =>
    intro so X c
    have ma := sem_mono hΦ a W0
    have mb := sem_mono hΦ b W0
    have o : Ok X (B.ofV (sem Φ W0 (.ix a b)).v) (Ck.ofV (chk fns N (.ix a b) X.env.scope so).v) (.ix a b) := Ok.ofV (sem_mono hΦ (.ix a b) W0).v fun x h => by
      cases x with
      | Subscript y z p =>
        obtain ⟨h, h3⟩ := and2 h
        obtain ⟨h1, h2⟩ := and2 h
        exact ⟨pe_ixM ma.v mb.v ((iha c).v y h2).1 ((ihb c).v z h3).1 h1, fun _ => pl_other trivial⟩
      | _ => exact no_false h
    refine ⟨o.v, o.i, o.a, fun x h => ?_, o.gs⟩
    cases x with
    | Subscript y z p =>
      obtain ⟨h, h3⟩ := and2 h
      obtain ⟨h1, h2⟩ := and2 h
      exact pg_ixM ma.v mb.v ((iha c).v y h2).1 ((ihb c).v z h3).1 (assign_ix h1)
    | _ => exact no_false h
  | sl a lo hi iha ihl ihh =>
    intro so X c
    have ma := sem_mono hΦ a W0
    have ml := sem_mono hΦ lo W0
    have mh := sem_mono hΦ hi W0
    refine Ok.ofV (sem_mono hΦ (.sl a lo hi) W0).v fun x h => ?_
    cases x with
    | Subscript y z p =>
      cases z with
      | Slice l u st p2 =>
        cases st with
        | some _ => exact no_false h
        | none =>
          obtain ⟨h, h3⟩ := and2 h
          obtain ⟨h1, h2⟩ := and2 h
          refine ⟨pe_slM ma.v ml.v mh.v ((iha c).v y h1).1 ?_ ?_, fun _ => pl_other trivial⟩
          · cases l with
            | none => rw [show isNonE lo = true from h2]; exact po_noneM
            | some e =>
              obtain ⟨q1, q2⟩ := and2 h2
              rw [isNonE_not q1]; exact po_someM ml.v ((ihl c).v e q2).1
          · cases u with
            | none => rw [show isNonE hi = true from h3]; exact po_noneM
            | some e =>
              obtain ⟨q1, q2⟩ := and2 h3
              rw [isNonE_not q1]; exact po_someM mh.v ((ihh c).v e q2).1
      | _ => exact no_false h
    | _ => exact no_false h
  | rev a _ => exact fun c => Ok.no
  | step2 a _ => exact fun c => Ok.no
  | call f es ih =>
    intro so X c
    have mes := sem_mono hΦ es W0
    refine Ok.ofV (sem_mono hΦ (.call f es) W0).v fun x h => ?_
    cases x with
    | Call fn xs kws p =>
      cases fn with
      | Name y py =>
        cases kws with
        | nil =>
          obtain ⟨h, h6⟩ := and2 h
          obtain ⟨h, h5⟩ := and2 h
          obtain ⟨h, h4⟩ := and2 h
          obtain ⟨h, h3⟩ := and2 h
          obtain ⟨h1, h2⟩ := and2 h
          refine ⟨?_, fun _ => pl_other trivial⟩
          cases xs with
          | nil =>
            have e := chk_nil h6
            subst e
            exact pe_fn0 hΦ c (dec h1) (dec h2) (glB_of h3) (okDb_of h4)
          | cons e r => exact pe_fn hΦ c mes.a (dec h1) (dec h2) (glB_of h3) (okDb_of h4) h5 (fun σ h K w => sem_alen hΦ es W0 σ h K w) ((ih c).a _ h6)
        | cons _ _ => exact no_false h
      | _ => exact no_false h
    | _ => exact no_false h
  | bi b es ih =>
    intro so X c
    have mes := sem_mono hΦ es W0
    refine Ok.ofV (sem_mono hΦ (.bi b es) W0).v fun x h => ?_
    cases x with
    | Call fn xs kws p =>
      cases fn with
      | Name y py =>
        cases kws with
        | nil =>
          obtain ⟨h, h5⟩ := and2 h
          obtain ⟨h, h4⟩ := and2 h
          obtain ⟨h, h3⟩ := and2 h
          obtain ⟨h1, h2⟩ := and2 h
          exact ⟨pe_bi c b mes.a (dec h1) (glB_of h2) h3 (fun z => by rw [z] at h4; exact no_false h4) ((ih c).a _ h5), fun _ => pl_other trivial⟩
        | cons _ _ => exact no_false h
      | _ => exact no_false h
    | _ => exact no_false h
  | bq b a ih =>
    intro so X c
    refine Ok.ofV (sem_mono hΦ (.bq b a) W0).v fun x h => ?_
    cases x with
    | Call fn xs kws p =>
      cases fn with
      | Name y py =>
        match xs, kws, h with
        | [z], [], h =>
          obtain ⟨h, h4⟩ := and2 h
          obtain ⟨h, h3⟩ := and2 h
          obtain ⟨h1, h2⟩ := and2 h
          exact ⟨pe_bq c b (sem_mono hΦ a W0).q (dec h1) (glB_of h2) h3 ((ih c).v z h4).2.1, fun _ => pl_other trivial⟩
        | [], _, h => exact no_false h
        | [_], _ :: _, h => exact no_false h
        | _ :: _ :: _, _, h => exact no_false h
      | _ => exact no_false h
    | _ => exact no_false h
  | bl1 b a ih =>
    intro so X c
    have ma := sem_mono hΦ a W0
    refine Ok.ofQ (fun σ h K K' f w => ma.q _ _ _ _ (fun k ms g h1 w => ⟨w.1, blM_mono (fun _ w => f _ _ _ _ w) w.2⟩) w) (fun σ h K w => ma.q _ _ _ _ (fun k ms g h1 w => ⟨w.1, blM_mono (fun _ w => ⟨rfl, rfl, w⟩) w.2⟩) w) fun x h => ?_
    cases x with
    | Call fn xs kws p =>
      cases fn with
      | Name y py =>
        match xs, kws, h with
        | [z], [], h =>
          obtain ⟨h, h4⟩ := and2 h
          obtain ⟨h, h3⟩ := and2 h
          obtain ⟨h1, h2⟩ := and2 h
          exact ⟨pe_bl c b ma.q (dec h1) (glB_of h2) h3 ((ih c).v z h4).2.1, pl_other trivial⟩
        | [], _, h => exact no_false h
        | [_], _ :: _, h => exact no_false h
        | _ :: _ :: _, _, h => exact no_false h
      | _ => exact no_false h
    | _ => exact no_false h
  | meth m o es iho ih =>
    intro so X c
    have mo := sem_mono hΦ o W0
    have mes := sem_mono hΦ es W0
    refine Ok.ofV (sem_mono hΦ (.meth m o es) W0).v fun x h => ?_
    cases x with
    | Call fn xs kws p =>
      cases fn with
      | Attribute y nm apos =>
        cases kws with
        | nil =>
          obtain ⟨h, h8⟩ := and2 h
          obtain ⟨h, h7⟩ := and2 h
          obtain ⟨h, h6⟩ := and2 h
          obtain ⟨h, h5⟩ := and2 h
          obtain ⟨h, h4⟩ := and2 h
          obtain ⟨h, h3⟩ := and2 h
          obtain ⟨h1, h2⟩ := and2 h
          have h6 := dec h6
          refine ⟨pe_me m mo.v mes.a (dec h1) ?_ h3 h4 (dec h5) (fun z => ?_) (fun z => h6.mpr (by rw [z]; rfl)) (fun z q => ?_) ((iho c).v y h7).1 ((ih c).a xs h8), fun _ => pl_other trivial⟩
          · unfold notCall at h2
            cases y <;> first | rfl | exact no_false h2
          · subst z
            have e := chk_nil h8
            subst e
            exact fun σ h K w => w
          · cases xs with
            | nil => exact z rfl
            | cons _ _ => exact no_false (h6.mp q)
        | cons _ _ => exact no_false h
      | _ => exact no_false h
    | _ => exact no_false h
  | comp own t it k e iht ihit ihk ihe =>
    intro so X c
    have mt := sem_mono hΦ t W0
    have mi := sem_mono hΦ it W0
    have mk := sem_mono hΦ k W0
    have me := sem_mono hΦ e W0
    refine Ok.ofQ (fun σ h K K' f w => mi.i _ _ _ _ (fun k ms g h1 w => ⟨w.1, compI_mono (fun m h R R' f w => compTurn_mono (m := m) (h := h) mt mk me f w) (fun acc h2 w => f _ _ _ _ w) _ _ _ w.2⟩) w) (compMade mi mt mk me) fun x h => ?_
    split at h
    · rename_i elt tg iter ifs scope p
      obtain ⟨h, h7⟩ := and2 h
      obtain ⟨h, h6⟩ := and2 h
      obtain ⟨h, h5⟩ := and2 h
      obtain ⟨h, h4⟩ := and2 h
      obtain ⟨h, h3⟩ := and2 h
      obtain ⟨h1, h2⟩ := and2 h
      have bk : BlkOk X.N X.env.scope scope (ownL N own) := blkOk_by (by rw [c.names]; exact h3)
      have cb := fun s H C cl fp => c.blk bk.kind s H C cl fp (own := ownL N own)
      refine ⟨PE.imp (pe_lc c.calm (by rw [c.names]; exact c.nd) ((ihit c).i tg iter h2) bk (fun s H C cl fp => (iht (cb s H C cl fp)).g tg h5) (tt := tCond X.K (isNil k) (sem Φ W0 k).t) (te := liftE X.K (sem Φ W0 e).v) (g := liftG X.K (varsE t) (sem Φ W0 t).g) (fun s H C cl fp => ?_) (fun s H C cl fp => ((ihe (cb s H C cl fp)).v elt h7).1) (fun x => ?_)) fun s H Q w => ?_, pl_other trivial⟩
      · split at h6
        · rw [h6]; exact pts_nil
        · obtain ⟨h6, h9⟩ := and2 h6
          obtain ⟨h6, h8⟩ := and2 h6
          rw [isNil_not h6]
          exact pts_one (((ihk (cb s H C cl fp)).v _ h9).2.2 h8)
        · exact no_false h6
      · cases iter <;> first | rfl | exact no_false h1
      · rw [ownL_snd]
        exact comp_read mi mt mk me (fun i hi => dec (List.all_eq_true.mp h4 i hi)) w
    · exact no_false h
  | comp2 own own1 t it t1 it1 e _ _ _ _ _ => exact fun c => Ok.no
  | rng es ih =>
    intro so X c
    refine Ok.ofI fun tg x h => ?_
    cases x with
    | Call fn xs kws p =>
      cases fn with
      | Name y py =>
        cases kws with
        | nil =>
          obtain ⟨h, h7⟩ := and2 h
          obtain ⟨h, h6⟩ := and2 h
          obtain ⟨h, h5⟩ := and2 h
          obtain ⟨h, h4⟩ := and2 h
          obtain ⟨h, h3⟩ := and2 h
          obtain ⟨h1, h2⟩ := and2 h
          have h4 : lenE es = xs.length := dec h4
          exact pi_rngM c (sem_mono hΦ es W0).a (fun σ h K w => sem_alen hΦ es W0 σ h K w) (dec h1) (glB_of h2) h3 h4.symm (h4 ▸ dec h5) (h4 ▸ dec h6) ((ih c).a xs h7)
        | cons _ _ => exact no_false h
      | _ => exact no_false h
    | _ => exact no_false h
  | enum a ih =>
    intro so X c
    refine Ok.ofI fun tg x h => ?_
    cases x with
    | Call fn xs kws p =>
      cases fn with
      | Name y py =>
        match xs, kws, h with
        | [z], [], h =>
          obtain ⟨h, h5⟩ := and2 h
          obtain ⟨h, h4⟩ := and2 h
          obtain ⟨h, h3⟩ := and2 h
          obtain ⟨h1, h2⟩ := and2 h
          cases tg with
          | Tuple => exact pi_enumM c (sem_mono hΦ a W0) (dec h2) (glB_of h3) h4 ((ih c).v z h5).2.1
          | _ => exact no_false h1
        | [], _, h => exact no_false h
        | [_], _ :: _, h => exact no_false h
        | _ :: _ :: _, _, h => exact no_false h
      | _ => exact no_false h
    | _ => exact no_false h
  | zip a b iha ihb =>
    intro so X c
    refine Ok.ofI fun tg x h => ?_
    cases x with
    | Call fn xs kws p =>
      cases fn with
      | Name y py =>
        match xs, kws, h with
        | [z, w], [], h =>
          obtain ⟨h, h7⟩ := and2 h
          obtain ⟨h, h6⟩ := and2 h
          obtain ⟨h, h5⟩ := and2 h
          obtain ⟨h, h4⟩ := and2 h
          obtain ⟨h, h3⟩ := and2 h
          obtain ⟨h1, h2⟩ := and2 h
          cases tg with
          | Tuple => exact pi_zipM c (sem_mono hΦ a W0) (sem_mono hΦ b W0) (dec h2) (glB_of h3) h4 h5 ((iha c).v z h6).2.1 ((ihb c).v w h7).2.1
          | _ => exact no_false h1
        | [], _, h => exact no_false h
        | [_], _, h => exact no_false h
        | [_, _], _ :: _, h => exact no_false h
        | _ :: _ :: _ :: _, _, h => exact no_false h
      | _ => exact no_false h
    | _ => exact no_false h
end
end Mp

set_option Elab.async false
set_option linter.all false
set_option maxRecDepth 100000
/-! Mini: the check of statements is sound. -/
namespace Mp
open PySem PySem.Spec PyProof.Rows L2
def isStar : Expr → Bool
  | .Starred .. => true
  | _ => false
def namB (sc : Scope) (line : Nat) : Expr → Option Str
  | .Name id pos => if sc.names.lookup id == some .local && pos.line == line then some id else none
  | _ => none
def swapO (ts vs : List Expr) (sc : Scope) : Option (Option (List Str)) :=
  if (!(ts.length == 2 || ts.length == 3) || vs.length != ts.length) = true then some none
  else if vs.any isStar = true then some none
  else
    let names := ts.filterMap (namB sc ((ts.head?.map (·.pos.line)).getD 0))
    if (names.length != ts.length || names.eraseDups.length != names.length) = true then some none
    else if vs.all (foldedForSure 8) = true then some none
    else if vs.all (constantsAlone 8) = true then none
    else some (some names)
theorem swapO_ok {ts vs : List Expr} {kt k2 : Nat} {pt p2 : Pos} {env : Env} {r : Option (List Str)} (hk : env.scope.kind = .function) (h : swapO ts vs env.scope = some r) :
    swappedStores [.Tuple ts kt pt] (.Tuple vs k2 p2) env = pure r := by
  have hb : env.blockKind = .function := by unfold Env.blockKind; rw [hk]; rfl
  have hs : (fun | .Starred .. => true | _ => false : Expr → Bool) = isStar := by funext x; cases x <;> rfl
  unfold swappedStores
  unfold swapO at h
  simp only [hb]
  show (if (!(ts.length == 2 || ts.length == 3) || vs.length != ts.length || false) = true then (pure none : Sem (Option (List Str))) else
    if vs.any isStar = true then pure none else
    if ((ts.filterMap (namB env.scope ((ts.head?.map (·.pos.line)).getD 0))).length != ts.length || (ts.filterMap (namB env.scope ((ts.head?.map (·.pos.line)).getD 0))).eraseDups.length != (ts.filterMap (namB env.scope ((ts.head?.map (·.pos.line)).getD 0))).length) = true then pure none else
    if vs.all (foldedForSure 8) = true then pure none else
    if vs.all (constantsAlone 8) = true then (do let _ ← (unsupported "assign.tuple-of-constant-expressions:order-of-the-stores" : Sem PUnit); pure (some (ts.filterMap (namB env.scope ((ts.head?.map (·.pos.line)).getD 0))))) else pure (some (ts.filterMap (namB env.scope ((ts.head?.map (·.pos.line)).getD 0))))) = pure r
  rw [Bool.or_false]
  dsimp only at h
  split at h
  · rename_i q; rw [if_pos q]; cases h; rfl
  · rename_i q; rw [if_neg q]
    split at h
    · rename_i q; rw [if_pos q]; cases h; rfl
    · rename_i q; rw [if_neg q]
      split at h
      · rename_i q; rw [if_pos q]; cases h; rfl
      · rename_i q; rw [if_neg q]
        split at h
        · rename_i q; rw [if_pos q]; cases h; rfl
        · rename_i q; rw [if_neg q]
          split at h
          · cases h
          · rename_i q; rw [if_neg q]; cases h; rfl

structure CkS where
  one : Stmt → Bool
  all : List Stmt → Bool
def CkS.of (f : Stmt → Bool) : CkS := ⟨f, fun xs => match xs with | [x] => f x | _ => false⟩
def isCompX : Expr → Bool
  | .ListComp .. => true
  | .SetComp .. => true
  | .DictComp .. => true
  | _ => false
def lcB (sc : Scope) (x : Str) : Bool := match sc.names.lookup x with
  | some .local => true
  | _ => false
theorem lcB_of {sc : Scope} {x : Str} (h : lcB sc x = true) : sc.names.lookup x = some .local := by
  unfold lcB at h
  split at h <;> first | assumption | cases h
def cellB (sc : Scope) (x : Str) : Bool := match sc.names.lookup x with
  | some .cell => true
  | _ => false
theorem cellB_of {sc : Scope} {x : Str} (h : cellB sc x = true) : sc.names.lookup x = some .cell := by
  unfold cellB at h
  split at h <;> first | assumption | cases h
theorem sw_cell {elt : Expr} {gs : List Comprehension} {scope : Scope} {pos py : Pos} {y : Str} {l : Nat} {env : Env} (hk : env.scope.kind = .function) (hy : env.scope.names.lookup y = some .cell) :
    swapsWith (.ListComp elt gs scope pos) (some (.Name y py)) l env = pure false := by
  have ky : env.kindOf y = some .cell := hy
  have hb : env.blockKind = .function := by unfold Env.blockKind; rw [hk]; rfl
  unfold swapsWith
  simp only [hb, ky]
  rfl
def parB (sc : Scope) (names : List Str) (t : E) (ts vs : List Expr) : Bool := match ts, t with
  | [.Name x _, .Name y _], .tup (.cons (.var i) (.cons (.var j) .nil)) => decide (i ≠ j) && decide (names = [x, y]) && lcB sc x && lcB sc y && decide (vs.length = 2)
  | [.Name x _, .Name y _, .Name z _], .tup (.cons (.var i) (.cons (.var j) (.cons (.var k) .nil))) => decide (i ≠ j ∧ i ≠ k ∧ j ≠ k) && decide (names = [x, y, z]) && lcB sc x && lcB sc y && lcB sc z && decide (vs.length = 3)
  | _, _ => false
def tupB (sc : Scope) (t : E) (ts : List Expr) : Expr → Bool
  | .Tuple vs _ _ => match swapO ts vs sc with
    | some none => true
    | some (some names) => parB sc names t ts vs
    | none => false
  | val => !isCompX val
def asgB (fns : List (String × Nat)) (N : List Str) (t e : E) (sc : Scope) : Stmt → Bool
  | .Assign [tg] val pos => (chk fns N t sc sc).g tg && (chk fns N e sc sc).v val && (match tg with
    | .Name y py => (match val with
      | .ListComp _ _ scope lp => cellB sc y || (lcB sc y && (py.line == lp.line) && !(scope.names.any fun (n, k) => n == y && (k == .local || k == .cell)))
      | val => !isCompX val)
    | .Subscript .. => !isCompX val
    | .Tuple ts _ _ => tupB sc t ts val
    | _ => false)
  | _ => false
def chkS (fns : List (String × Nat)) (N : List Str) : S → Scope → CkS
  | .skip, _ => ⟨fun st => match st with | .Pass _ => true | _ => false, fun xs => match xs with | [] => true | [.Pass _] => true | _ => false⟩
  | .seq a b, sc => ⟨fun _ => false, fun xs => match xs with | st :: r => (chkS fns N a sc).one st && (chkS fns N b sc).all r | _ => false⟩
  | .asg t e, sc => CkS.of (asgB fns N t e sc)
  | .aug o i e, sc => CkS.of fun st => match st with
    | .AugAssign (.Name x _) p val _ => augOk o && decide (p = pyOp o) && decide (N[i]? = some x) && locB sc x && (chk fns N e sc sc).v val
    | _ => false
  | .augS .., _ => CkS.of fun _ => false
  | .expr e, sc => CkS.of fun st => match st with | .Expr val _ => !isCompX val && (chk fns N e sc sc).v val | _ => false
  | .ret e, sc => CkS.of fun st => match st with | .Return (some val) _ => (chk fns N e sc sc).v val | .Return none _ => isNonE e | _ => false
  | .iff c a b, sc => CkS.of fun st => match st with | .If x p q _ => tOk c && (chk fns N c sc sc).v x && (chkS fns N a sc).all p && (chkS fns N b sc).all q | _ => false
  | .for_ t it b, sc => CkS.of fun st => match st with | .For tg iter body [] _ => plainX iter && (chk fns N it sc sc).i tg iter && (chk fns N t sc sc).g tg && (chkS fns N b sc).all body | _ => false
  | .while_ c b, sc => CkS.of fun st => match st with | .While x body [] _ => tOk c && (chk fns N c sc sc).v x && (chkS fns N b sc).all body | _ => false
  | .brk, _ => CkS.of fun st => match st with | .Break _ => true | _ => false
  | .cont, _ => CkS.of fun st => match st with | .Continue _ => true | _ => false
  | .never, _ => ⟨fun _ => true, fun _ => true⟩

section
variable {Φ : Phi} {fns : List (String × Nat)} {N : List Str} {X : Cx} {K : PySem.W.Frag}
theorem PSs.imp {X : Cx} {e : List Stmt} {t t' : TS} (p : PSs X e t) (f : ∀ D s H, t' D s H → t D s H) : PSs X e t' := ⟨fun pins s σ H Q I h => p.run pins s σ H Q I (f _ _ _ h)⟩
theorem sw_plain {val : Expr} {tg : Option Expr} {l : Nat} {env : Env} (h : isCompX val = false) : swapsWith val tg l env = pure false := by
  cases val <;> first | rfl | cases h
theorem sw_sub {val o i : Expr} {p : Pos} {l : Nat} {env : Env} : swapsWith val (some (.Subscript o i p)) l env = pure false := by
  cases val <;> rfl
theorem bnot {b : Bool} (h : (!b) = true) : b = false := by cases b <;> first | rfl | cases h
theorem asg_read {ve : Sl → MH → KE → Prop} {tg : M → Sl → MH → (Sl → MH → Prop) → Prop} {vars : List Nat} (mv : VMono ve) (mg : ∀ m σ h (K K' : Sl → MH → Prop), (∀ σ h, K σ h → K' σ h) → tg m σ h K → tg m σ h K') {E : Ends} {s : L2.St} {H : Hp}
    (w : liftSt K (fun D σ h => ve σ h fun m h1 => tg m σ h1 D.nx) E s H) : tAsg (liftE K ve) (liftG K vars tg) E s H := by
  obtain ⟨D, σ, h, rs, sm, w, sv⟩ := w
  refine ⟨σ, h, rs, sm, mv _ _ _ _ (fun m h1 w => ?_) w⟩
  intro v H1 r s1 f1
  refine ⟨m, σ, h1, r, rs.frm sm f1, s1, mg _ _ _ _ _ (fun σ2 h2 w => ?_) w⟩
  intro s2 H2 rs2 sm2 f2 _
  exact sv.nx σ2 h2 s2 H2 w rs2 sm2 (f1.trans f2)
theorem vOfM_read {q : Sl → MH → KQ → Prop} (mq : QMono q) (hk : Made q) {st : L2.St} {H : Hp} {Q : VK} (w : liftE K (vOfQ q) st H Q) : liftM K q st H Q := by
  obtain ⟨σ, h, rs, sm, w⟩ := w
  refine ⟨σ, h, rs, sm, mq _ _ _ _ (fun k ms g h1 w => ?_) (hk _ _ _ w)⟩
  obtain ⟨rfl, rfl, _, w⟩ := w
  refine ⟨rfl, rfl, fun D vs H1 hD e n r s1 f1 => w D n _ H1 (.ref D) (fun a o q => ?_) ⟨fun a o q n' => ?_, f1.dom⟩⟩
  · by_cases z : a = D
    · subst z; rw [put_same] at q; cases q; exact ⟨_, e, r⟩
    · rw [put_ne z] at q; exact s1 a o q
  · obtain ⟨q1, n1⟩ := f1.keep a o q n'
    exact ⟨q1, by rw [put_ne (ne_of_none q hD)]; exact n1⟩
theorem liftE_mono {ve : Sl → MH → KE → Prop} (mv : VMono ve) {s : L2.St} {H : Hp} {Q Q' : VK} (f : ∀ v H, Q v H → Q' v H) (w : liftE K ve s H Q) : liftE K ve s H Q' := by
  obtain ⟨σ, h, rs, sm, w⟩ := w
  exact ⟨σ, h, rs, sm, mv _ _ _ _ (fun m h1 w v H1 r s1 f1 => f _ _ (w v H1 r s1 f1)) w⟩
end
end Mp

set_option Elab.async false
set_option linter.all false
set_option maxRecDepth 100000
/-! Mini: the check of statements is sound (the proof). -/
namespace Mp
open PySem PySem.Spec PyProof.Rows L2
section
variable {Φ : Phi} {fns : List (String × Nat)} {N : List Str} {X : Cx}
theorem comp_parts (hΦ : Φ.Mono) {own : List Nat} {t it k e : E} {so : Scope} (c : XOk Φ fns N so X) {elt : Expr} {gs : List Comprehension} {scope : Scope} {p : Pos} (h : (chk fns N (.comp own t it k e) X.env.scope so).v (.ListComp elt gs scope p) = true) :
    ∃ tg iter ifs, gs = [⟨tg, iter, ifs, 0⟩] ∧ PI X tg iter (liftI X.K (sem Φ W0 it).i) ∧ BlkOk X.N X.env.scope scope (ownL N own) ∧
      (∀ (s : Shared) (H : Hp) (C : Addr) (cl : List (Str × Addr)) (fp : List Addr), PG (X.blk s H scope (compEnvC scope cl C X.env) fp) tg (liftG X.K (varsE t) (sem Φ W0 t).g)) ∧
      (∀ (s : Shared) (H : Hp) (C : Addr) (cl : List (Str × Addr)) (fp : List Addr), PTs (X.blk s H scope (compEnvC scope cl C X.env) fp) ifs (tCond X.K (isNil k) (sem Φ W0 k).t)) ∧
      (∀ (s : Shared) (H : Hp) (C : Addr) (cl : List (Str × Addr)) (fp : List Addr), PE (X.blk s H scope (compEnvC scope cl C X.env) fp) elt (liftE X.K (sem Φ W0 e).v)) ∧
      (∀ x, foldedSetIterable iter X.env x = pure x) ∧ ∀ i ∈ varsE t, i ∈ own := by
  unfold chk Ck.ofV at h
  dsimp only at h
  split at h
  · rename_i elt' tg iter ifs scope' p' q
    cases q
    obtain ⟨h, h7⟩ := and2 h
    obtain ⟨h, h6⟩ := and2 h
    obtain ⟨h, h5⟩ := and2 h
    obtain ⟨h, h4⟩ := and2 h
    obtain ⟨h, h3⟩ := and2 h
    obtain ⟨h1, h2⟩ := and2 h
    have bk : BlkOk X.N X.env.scope scope (ownL N own) := blkOk_by (by rw [c.names]; exact h3)
    have cb := fun s H C cl fp => c.blk bk.kind s H C cl fp (own := ownL N own)
    refine ⟨tg, iter, ifs, rfl, (chk_ok hΦ it c).i tg iter h2, bk, fun s H C cl fp => (chk_ok hΦ t (cb s H C cl fp)).g tg h5, fun s H C cl fp => ?_, fun s H C cl fp => ((chk_ok hΦ e (cb s H C cl fp)).v elt h7).1, fun x => ?_, fun i hi => dec (List.all_eq_true.mp h4 i hi)⟩
    · split at h6
      · rw [h6]; exact pts_nil
      · obtain ⟨h6, h9⟩ := and2 h6
        obtain ⟨h6, h8⟩ := and2 h6
        rw [isNil_not h6]
        exact pts_one (((chk_ok hΦ k (cb s H C cl fp)).v _ h9).2.2 h8)
      · exact no_false h6
    · cases iter <;> first | rfl | exact no_false h1
  · exact no_false h
theorem chk_comp {e : E} {sc so : Scope} {elt : Expr} {gs : List Comprehension} {scope : Scope} {p : Pos} (h : (chk fns N e sc so).v (.ListComp elt gs scope p) = true) : ∃ own t it k e1, e = .comp own t it k e1 := by
  cases e <;> first | exact ⟨_, _, _, _, _, rfl⟩ | exact no_false h
theorem chk_tup {e : E} {sc so : Scope} {vs : List Expr} {k : Nat} {p : Pos} (h : (chk fns N e sc so).v (.Tuple vs k p) = true) : ∃ es, e = .tup es := by
  cases e <;> first | exact ⟨_, rfl⟩ | exact no_false h
theorem chk_nameg {t : E} {sc so : Scope} {y : Str} {p : Pos} (h : (chk fns N t sc so).g (.Name y p) = true) : ∃ i, t = .var i ∧ N[i]? = some y ∧ locB so y = true := by
  cases t <;> first | exact ⟨_, rfl, dec (and2 h).1, (and2 h).2⟩ | exact no_false h
theorem parB_of {sc : Scope} {names : List Str} {t : E} {ts vs : List Expr} (h : parB sc names t ts vs = true) :
    (∃ x px y py i j, ts = [.Name x px, .Name y py] ∧ t = .tup (.cons (.var i) (.cons (.var j) .nil)) ∧ i ≠ j ∧ names = [x, y] ∧ lcB sc x = true ∧ lcB sc y = true ∧ vs.length = 2) ∨
    (∃ x px y py z pz i j k, ts = [.Name x px, .Name y py, .Name z pz] ∧ t = .tup (.cons (.var i) (.cons (.var j) (.cons (.var k) .nil))) ∧ (i ≠ j ∧ i ≠ k ∧ j ≠ k) ∧ names = [x, y, z] ∧ lcB sc x = true ∧ lcB sc y = true ∧ lcB sc z = true ∧ vs.length = 3) := by
  unfold parB at h
  split at h
  · obtain ⟨h, q5⟩ := and2 h
    obtain ⟨h, q4⟩ := and2 h
    obtain ⟨h, q3⟩ := and2 h
    obtain ⟨q1, q2⟩ := and2 h
    exact .inl ⟨_, _, _, _, _, _, rfl, rfl, dec q1, dec q2, q3, q4, dec q5⟩
  · obtain ⟨h, q6⟩ := and2 h
    obtain ⟨h, q5⟩ := and2 h
    obtain ⟨h, q4⟩ := and2 h
    obtain ⟨h, q3⟩ := and2 h
    obtain ⟨q1, q2⟩ := and2 h
    exact .inr ⟨_, _, _, _, _, _, _, _, _, rfl, rfl, dec q1, dec q2, q3, q4, q5, dec q6⟩
  · exact no_false h
theorem asg_ok (hΦ : Φ.Mono) (c : XOk Φ fns N X.env.scope X) (t e : E) {st : Stmt} (h : asgB fns N t e X.env.scope st = true) : PS X st (liftSt X.K (wS Φ W0 (.asg t e))) := by
  have hN : X.N.Nodup := by rw [c.names]; exact c.nd
  have me := sem_mono hΦ e W0
  have mt := sem_mono hΦ t W0
  cases st with
  | Assign tgs val pos =>
    match tgs, h with
    | [], h => exact no_false h
    | _ :: _ :: _, h => exact no_false h
    | [tg], h =>
      obtain ⟨h, h3⟩ := and2 h
      obtain ⟨h1, h2⟩ := and2 h
      have ot := (chk_ok hΦ t c).g tg h1
      -- the plain way
      have plain : (swapsWithSole [tg] val pos.line X.env = pure false) → swappedStores [tg] val X.env = pure none → ((assignEach [tg] X.env).map (·.2) = [assign tg X.env]) → PS X (.Assign [tg] val pos) (liftSt X.K (wS Φ W0 (.asg t e))) := fun hs hw ha =>
        PS.imp (ps_asg ((chk_ok hΦ e c).v val h2).1 ot hs hw ha) fun D s H w => asg_read me.v mt.g w
      cases tg with
      | Name y py =>
        obtain ⟨i, rfl, hi, hl⟩ := chk_nameg h1
        have nc : isCompX val = false → PS X (.Assign [.Name y py] val pos) (liftSt X.K (wS Φ W0 (.asg (.var i) e))) := fun q => plain (sw_plain (tg := some (.Name y py)) (l := pos.line) (env := X.env) q) rfl rfl
        cases val with
        | ListComp elt gs scope lp =>
          cases hcell : cellB X.env.scope y with
          | true => exact plain (sw_cell (l := pos.line) (py := py) c.kind (cellB_of hcell)) rfl rfl
          | false =>
          obtain ⟨own, t1, it, k, e1, rfl⟩ := chk_comp h2
          obtain ⟨tg, iter, ifs, rfl, pi, bk, pg, pt, pe, hs, hv⟩ := comp_parts hΦ c h2
          have h3 : (cellB X.env.scope y || (lcB X.env.scope y && (py.line == lp.line) && !(scope.names.any fun (n, k) => n == y && (k == .local || k == .cell)))) = true := h3
          rw [hcell, Bool.false_or] at h3
          obtain ⟨h3, h6⟩ := and2 h3
          obtain ⟨h4, h5⟩ := and2 h3
          have hyl := lcB_of h4
          have hi' : X.N[i]? = some y := by rw [c.names]; exact hi
          refine PS.imp (ps_setLc c.calm hN hi' hyl (sw_true c.kind hyl h5 (bnot h6)) pi bk pg pt pe hs) fun E s H w => ?_
          rw [ownL_snd]
          have mi := sem_mono hΦ it W0
          have mt1 := sem_mono hΦ t1 W0
          have mk := sem_mono hΦ k W0
          have me1 := sem_mono hΦ e1 W0
          refine comp_read mi mt1 mk me1 hv (vOfM_read (q := fun σ h R => (sem Φ W0 it).i σ h fun _ ms g h1 => ms.length ≤ SZ ∧ compI (compTurn (sem Φ W0 t1) (sem Φ W0 k) (sem Φ W0 e1) (isNil k) (wipeM σ own)) g (fun acc h2 => R .l acc [] h2) ms [] h1) (fun σ h K K' f w => mi.i _ _ _ _ (fun k ms g h1 w => ⟨w.1, compI_mono (fun m h R R' f w => compTurn_mono (m := m) (h := h) mt1 mk me1 f w) (fun acc h2 w => f _ _ _ _ w) _ _ _ w.2⟩) w) (compMade mi mt1 mk me1) ?_)
          refine liftE_mono (ve := (sem Φ W0 (.comp own t1 it k e1)).v) me.v (fun v H1 w => ?_) (asg_read (E := E) (vars := [i]) me.v mt.g w)
          obtain ⟨m, σ, h, rv, rs, sm, w⟩ := w
          exact w _ H1 (rs.set i rv) sm (Frm.refl _ _) (Out.set s i _)
        | SetComp => exact no_false h3
        | DictComp => exact no_false h3
        | _ => exact nc rfl
      | Subscript o i p =>
        exact plain (sw_sub (val := val) (o := o) (i := i) (p := p) (l := pos.line) (env := X.env)) rfl rfl
      | Tuple ts kt pt =>
        have hcomp : isCompX val = false → swappedStores [.Tuple ts kt pt] val X.env = pure none → PS X (.Assign [.Tuple ts kt pt] val pos) (liftSt X.K (wS Φ W0 (.asg t e))) := fun q w => plain (sw_plain (tg := some (.Tuple ts kt pt)) (l := pos.line) (env := X.env) q) w rfl
        cases val with
        | Tuple vs k2 p2 =>
          have h3 : (match swapO ts vs X.env.scope with | some none => true | some (some names) => parB X.env.scope names t ts vs | none => false) = true := h3
          obtain ⟨es, rfl⟩ := chk_tup h2
          have mes := sem_mono hΦ es W0
          have pa : PA X vs (liftA X.K (sem Φ W0 es).a) := (chk_ok hΦ es c).a vs h2
          cases hw : swapO ts vs X.env.scope with
          | none => rw [hw] at h3; exact no_false h3
          | some r =>
            rw [hw] at h3
            have sw := swapO_ok (kt := kt) (k2 := k2) (pt := pt) (p2 := p2) c.kind hw
            cases r with
            | none => exact hcomp rfl sw
            | some names =>
              have h3 : parB X.env.scope names t ts vs = true := h3
              rcases parB_of h3 with ⟨x, px, y, py, i, j, rfl, rfl, q1, q2, q3, q4, q5⟩ | ⟨x, px, y, py, z, pz, i, j, l, rfl, rfl, q1, q2, q3, q4, q5, q6⟩
              ·
                obtain ⟨a, b, rfl⟩ : ∃ a b, vs = [a, b] := by
                  match vs, q5 with
                  | [a, b], _ => exact ⟨a, b, rfl⟩
                rw [q2] at sw
                have hh : N[i]? = some x ∧ N[j]? = some y := by
                  simp [chk, Ck.ofV, Ck.no, plainX, lenE] at h1
                  simp [h1]
                have hi : X.N[i]? = some x := by rw [c.names]; exact hh.1
                have hj : X.N[j]? = some y := by rw [c.names]; exact hh.2
                refine PS.imp (ps_par c.calm hN hi hj q1 (lcB_of q3) (lcB_of q4) pa sw rfl) fun E s H w => ?_
                obtain ⟨D, σ, h, rs, sm, w, sv⟩ := w
                refine ⟨σ, h, rs, sm, mes.a _ _ _ _ (fun ms h1 w => ?_) w⟩
                intro us H1 rus s1 f1
                obtain ⟨_, el, w⟩ := w
                obtain ⟨m1, m2, rfl⟩ : ∃ m1 m2, ms = [m1, m2] := by
                  match ms, el with
                  | [m1, m2], _ => exact ⟨m1, m2, rfl⟩
                obtain ⟨v, u, rfl, r1, r2⟩ := rus.two
                exact ⟨v, u, rfl, sv.nx _ h1 _ H1 w (((rs.frm sm f1).set i r1).set j r2) s1 f1⟩
              ·
                obtain ⟨n1, n2, n3⟩ := q1
                obtain ⟨a, b, d, rfl⟩ : ∃ a b d, vs = [a, b, d] := by
                  match vs, q6 with
                  | [a, b, d], _ => exact ⟨a, b, d, rfl⟩
                rw [q2] at sw
                have hh : N[i]? = some x ∧ N[j]? = some y ∧ N[l]? = some z := by
                  simp [chk, Ck.ofV, Ck.no, plainX, lenE] at h1
                  simp [h1]
                have hi : X.N[i]? = some x := by rw [c.names]; exact hh.1
                have hj : X.N[j]? = some y := by rw [c.names]; exact hh.2.1
                have hl : X.N[l]? = some z := by rw [c.names]; exact hh.2.2
                refine PS.imp (ps_par3 c.calm hN hi hj hl n1 n2 n3 (lcB_of q3) (lcB_of q4) (lcB_of q5) pa sw rfl) fun E s H w => ?_
                obtain ⟨D, σ, h, rs, sm, w, sv⟩ := w
                refine ⟨σ, h, rs, sm, mes.a _ _ _ _ (fun ms h1 w => ?_) w⟩
                intro us H1 rus s1 f1
                obtain ⟨_, el, w⟩ := w
                obtain ⟨m1, m2, m3, rfl⟩ : ∃ m1 m2 m3, ms = [m1, m2, m3] := by
                  match ms, el with
                  | [m1, m2, m3], _ => exact ⟨m1, m2, m3, rfl⟩
                obtain ⟨v, u, t, rfl, r1, r2, r3⟩ := rus.three
                exact ⟨v, u, t, rfl, sv.nx _ h1 _ H1 w ((((rs.frm sm f1).set i r1).set j r2).set l r3) s1 f1⟩
        | ListComp => exact no_false h3
        | SetComp => exact no_false h3
        | DictComp => exact no_false h3
        | _ => exact hcomp rfl rfl
      | _ => exact no_false h3
  | _ => exact no_false h
theorem chkS_ok (hΦ : Φ.Mono) (c : XOk Φ fns N X.env.scope X) (hp : PassesOwn (model X.prog X.w) X.A X.env X.xe) : ∀ s, (∀ st, (chkS fns N s X.env.scope).one st = true → PS X st (liftSt X.K (wS Φ W0 s))) ∧ ∀ sts, (chkS fns N s X.env.scope).all sts = true → PSs X sts (liftSt X.K (wS Φ W0 s)) := by
  have hN : X.N.Nodup := by rw [c.names]; exact c.nd
  have both : ∀ (s : S) (f : Stmt → Bool), (∀ st, f st = true → PS X st (liftSt X.K (wS Φ W0 s))) → (∀ st, (CkS.of f).one st = true → PS X st (liftSt X.K (wS Φ W0 s))) ∧ ∀ sts, (CkS.of f).all sts = true → PSs X sts (liftSt X.K (wS Φ W0 s)) := fun s f p => by
    refine ⟨p, fun sts h => ?_⟩
    match sts, h with
    | [], h => exact no_false h
    | [st], h => exact pss_one (p st h)
    | _ :: _ :: _, h => exact no_false h
  intro s
  induction s with
  | skip =>
    have nx : ∀ E s H, liftSt X.K (wS Φ W0 .skip) E s H → tNext E s H := fun E s H w => by
      obtain ⟨D, σ, h, rs, sm, w, sv⟩ := w
      exact sv.nx σ h s H w rs sm (Frm.refl _ _)
    have pass : ∀ p, PS X (.Pass p) (liftSt X.K (wS Φ W0 .skip)) := fun p => PS.imp ps_pass nx
    refine ⟨fun st h => ?_, fun sts h => ?_⟩
    · cases st with
      | Pass p => exact pass p
      | _ => exact no_false h
    · match sts, h with
      | [], h => exact PSs.imp pss_nil nx
      | [st], h =>
        cases st with
        | Pass p => exact pss_one (pass p)
        | _ => exact no_false h
      | a :: b :: r, h => cases a <;> exact no_false h
  | seq a b iha ihb =>
    refine ⟨fun st h => no_false h, fun sts h => ?_⟩
    match sts, h with
    | [], h => exact no_false h
    | st :: r, h =>
      obtain ⟨h1, h2⟩ := and2 h
      refine PSs.imp (pss_cons (iha.1 st h1) (ihb.2 r h2)) fun E s H w => ?_
      obtain ⟨D, σ, h, rs, sm, w, sv⟩ := w
      refine ⟨_, σ, h, rs, sm, w, ⟨fun σ1 h1 s1 H1 w rs1 sm1 f1 => ?_, sv.rt, sv.bk, sv.ct⟩⟩
      obtain ⟨h0, sb, w⟩ := w
      exact ⟨D, σ1, h0, rs1, sm1.sub sb, w, sv.frm (f1.sub sb)⟩
  | asg t e => exact both _ _ fun st h => asg_ok hΦ c t e h
  | aug o i e =>
    refine both _ _ fun st h => ?_
    cases st with
    | AugAssign tg p val pos =>
      cases tg with
      | Name x px =>
        obtain ⟨h, h5⟩ := and2 h
        obtain ⟨h, h4⟩ := and2 h
        obtain ⟨h, h3⟩ := and2 h
        obtain ⟨h1, h2⟩ := and2 h
        have h2 : p = pyOp o := dec h2
        subst h2
        obtain ⟨l, f⟩ := c.stor x (locB_of h4)
        refine PS.imp (ps_aug hN (by rw [c.names]; exact dec h3) l ((chk_ok hΦ e c).v val h5).1 (ipr h1) f) fun E s H w => ?_
        obtain ⟨D, σ, h, rs, sm, w, sv⟩ := w
        revert w
        show (match σ[i]? with | some (some x) => _ | _ => False) → _
        split
        · rename_i m em
          intro w
          obtain ⟨v, ev, rv⟩ := rs.at' i m em
          refine ⟨v, ev, σ, h, rs, sm, (sem_mono hΦ e W0).v _ _ _ _ (fun y h1 w => ?_) w⟩
          intro u H1 ru s1 f1
          refine ⟨m, y, h1, rv.frm sm f1, ru, s1, augM_mono (fun z h2 w => ?_) w⟩
          intro r H2 rr s2 f2
          exact sv.nx _ h2 _ H2 w (((rs.frm sm f1).frm s1 f2).set i rr) s2 (f1.trans f2)
        · exact fun w => w.elim
      | _ => exact no_false h
    | _ => exact no_false h
  | augS o a i e => exact both _ _ fun st h => no_false h
  | expr e =>
    refine both _ _ fun st h => ?_
    cases st with
    | Expr val p =>
      obtain ⟨h1, h2⟩ := and2 h
      refine PS.imp (ps_expr ((chk_ok hΦ e c).v val h2).1 (sw_plain (bnot h1))) fun E s H w => ?_
      obtain ⟨D, σ, h, rs, sm, w, sv⟩ := w
      exact ⟨σ, h, rs, sm, (sem_mono hΦ e W0).v _ _ _ _ (fun m h1 w v H1 r s1 f1 => sv.nx _ h1 _ H1 w (rs.frm sm f1) s1 f1) w⟩
    | _ => exact no_false h
  | ret e =>
    refine both _ _ fun st h => ?_
    cases st with
    | Return val p =>
      cases val with
      | none =>
        have e1 : e = .non := by cases e <;> first | rfl | exact no_false h
        subst e1
        refine PS.imp ps_retN fun E s H w => ?_
        obtain ⟨D, σ, h, rs, sm, w, sv⟩ := w
        exact sv.rt _ h _ H w .non sm (Frm.refl _ _)
      | some val =>
        refine PS.imp (ps_ret ((chk_ok hΦ e c).v val h).1) fun E s H w => ?_
        obtain ⟨D, σ, h, rs, sm, w, sv⟩ := w
        exact ⟨σ, h, rs, sm, (sem_mono hΦ e W0).v _ _ _ _ (fun m h1 w v H1 r s1 f1 => sv.rt _ h1 _ H1 w r s1 f1) w⟩
    | _ => exact no_false h
  | iff k a b iha ihb =>
    refine both _ _ fun st h => ?_
    cases st with
    | If x p q pos =>
      obtain ⟨h, h4⟩ := and2 h
      obtain ⟨h, h3⟩ := and2 h
      obtain ⟨h1, h2⟩ := and2 h
      refine PS.imp (ps_if (((chk_ok hΦ k c).v x h2).2.2 h1) (iha.2 p h3) (ihb.2 q h4)) fun E s H w => ?_
      obtain ⟨D, σ, h, rs, sm, w, sv⟩ := w
      refine ⟨σ, h, rs, sm, (sem_mono hΦ k W0).t _ _ _ _ (fun b h1 w H1 s1 f1 => ?_) w⟩
      cases b with
      | true => rw [if_pos rfl] at w ⊢; exact ⟨D, σ, h1, rs.frm sm f1, s1, w, sv.frm f1⟩
      | false => rw [if_neg Bool.false_ne_true] at w ⊢; exact ⟨D, σ, h1, rs.frm sm f1, s1, w, sv.frm f1⟩
    | _ => exact no_false h
  | for_ t it b ih =>
    refine both _ _ fun st h => ?_
    cases st with
    | For tg iter body orelse pos =>
      cases orelse with
      | nil =>
        obtain ⟨h, h4⟩ := and2 h
        obtain ⟨h, h3⟩ := and2 h
        obtain ⟨h1, h2⟩ := and2 h
        refine PS.imp (ps_for hp c.calm ((chk_ok hΦ it c).i tg iter h2) ((chk_ok hΦ t c).g tg h3) (ih.2 body h4) (fun x => by cases iter <;> first | rfl | exact no_false h1)) fun E s H w => ?_
        exact for_read (tb := wS Φ W0 b) (sem_mono hΦ it W0) (sem_mono hΦ t W0) (fun D D' σ h l w => wS_mono hΦ b l w) w
      | cons _ _ => exact no_false h
    | _ => exact no_false h
  | while_ k b ih =>
    refine both _ _ fun st h => ?_
    cases st with
    | While x body orelse pos =>
      cases orelse with
      | nil =>
        obtain ⟨h, h3⟩ := and2 h
        obtain ⟨h1, h2⟩ := and2 h
        exact PS.imp (ps_while hp (((chk_ok hΦ k c).v x h2).2.2 h1) (ih.2 body h3)) fun E s H w => while_read (tb := wS Φ W0 b) (sem_mono hΦ k W0) w
      | cons _ _ => exact no_false h
    | _ => exact no_false h
  | brk =>
    refine both _ _ fun st h => ?_
    cases st with
    | Break p =>
      refine PS.imp ps_break fun E s H w => ?_
      obtain ⟨D, σ, h, rs, sm, w, sv⟩ := w
      exact sv.bk σ h s H w rs sm (Frm.refl _ _)
    | _ => exact no_false h
  | cont =>
    refine both _ _ fun st h => ?_
    cases st with
    | Continue p =>
      refine PS.imp ps_continue fun E s H w => ?_
      obtain ⟨D, σ, h, rs, sm, w, sv⟩ := w
      exact sv.ct σ h s H w rs sm (Frm.refl _ _)
    | _ => exact no_false h
  | never => exact ⟨fun st h => PS.imp ps_never fun E s H w => let ⟨_, _, _, _, _, w, _⟩ := w; w, fun sts h => PSs.imp pss_never fun E s H w => let ⟨_, _, _, _, _, w, _⟩ := w; w⟩
end
end Mp

set_option Elab.async false
set_option linter.all false
set_option maxRecDepth 100000
/-! Mini: defs, and the head of a law. -/
namespace Mp
open PySem PySem.Spec PyProof.Rows L2

section
variable {Φ : Phi} {fns : List (String × Nat)} {N : List Str} {K : PySem.W.Frag}
/-- a def of the module, as Mini promises it -/
structure DefM (Φ : Phi) (P : Program) (w : World) (K : PySem.W.Frag) (mg : Str → Option Value) (base : Heap) (k : Nat) (f : String) (n : Nat) : Prop where
  ex : ∃ (fa : Addr) (fd : FuncData) (ps : List Str), FnG P w K mg base CX0 k fa fd ps (liftSp K (Φ.fn f)) ∧ mg (Str.ofString f) = some (.ref fa) ∧ PySem.W.keepIn K (.ref fa) = true ∧ Binds K fd ps []
theorem DefM.mono {P : Program} {w : World} {mg : Str → Option Value} {base : Heap} {j k : Nat} {f : String} {n : Nat} (d : DefM Φ P w K mg base j f n) (h : j ≤ k) : DefM Φ P w K mg base k f n :=
  let ⟨fa, fd, ps, F, r⟩ := d.ex
  ⟨fa, fd, ps, F.mono h, r⟩
theorem DefM.call {P : Program} {w : World} {mg : Str → Option Value} {base : Heap} {k : Nat} {f : String} {n : Nat} {A : Around} (d : DefM Φ P w K mg base k f n) (r : Room k A) : CallOk Φ P w K mg base A f n := by
  obtain ⟨fa, fd, ps, F, m, kp, b⟩ := d.ex
  exact ⟨fa, fd, ps, [], [], k, _, F, r, m, kp, b, .nil, fun vs H Q E _ h => by rw [List.append_nil]; exact h⟩
theorem start_read {H : Hp} {vs : List V} {ms : List M} {n : Nat} (r : RpAll K H vs ms) (hn : n = N.length) : RpS K H (L2.start N vs) (startM n ms) := by
  subst hn
  have hl := r.length
  refine ⟨by unfold L2.start startM; simp [hl], fun i m e => ?_⟩
  unfold startM at e
  unfold L2.start
  by_cases hi : i < ms.length
  · rw [List.getElem?_append_left (by simpa using hi), List.getElem?_map] at e
    cases q : ms[i]? with
    | none => rw [q] at e; cases e
    | some m' =>
      rw [q] at e; cases e
      obtain ⟨v, e1, e2⟩ := r.get q
      refine ⟨v, ?_, e2⟩
      rw [List.getElem?_append_left (by simp; omega), List.getElem?_map, e1]; rfl
  · rw [List.getElem?_append_right (by simp; omega), List.getElem?_replicate] at e
    split at e <;> cases e
/-- names of the module that a body may read -/
structure GlOk (Φ : Phi) (K : PySem.W.Frag) (mg : Str → Option Value) : Prop where
  bi : ∀ y ∈ biNames, mg y = none
  gl : ∀ y m, Φ.gl y = some m → ∃ v u, mg (Str.ofString y) = some u ∧ RelV v u ∧ ∀ H, Rp K H v m
/-- a def whose text the check lets pass and whose meaning keeps its promise -/
theorem def_ok (hΦ : Φ.Mono) {P : Program} {w : World} {mg : Str → Option Value} {base : Heap} {x : Str} {st : Stmt} {fa : Addr} {fd : FuncData} {ps : List Str} {k : Nat} {f : String} {body : S} (F : Fun K x x st fa fd) (S : FnScope N ps (defScope st))
    (hc : (chkS fns N body (defScope st)).all (defBody st) = true) (hk : Keeps Φ N.length body (Φ.fn f)) (hl : ∀ ms h Q W, Φ.fn f ms h Q W → ms.length = ps.length) (calls : ∀ q ∈ fns, DefM Φ P w K mg base k q.1 q.2)
    (g : GlOk Φ K mg) (dig : base.NoDigits) : FnG P w K mg base CX0 (k + 1) fa fd ps (liftSp K (Φ.fn f)) := by
  obtain ⟨oc, od, kV, doc, pm, an, cdv, ct, osl, rfl, lk, hcd⟩ := F.ex
  refine fn_ofG lk hcd S (fun vs H Q E h => ?_) fun A outer s H vs Q E hg hr h => ?_
  · obtain ⟨ms, h, r, _, w⟩ := h
    rw [r.length]; exact hl _ _ _ _ w
  · obtain ⟨ms, h, r, sm, w⟩ := h
    have c : XOk Φ fns N (defScope st) (cxOf CX0 P ‹World› K mg base N x (defScope st) fa cdv A outer s H E).nox := by
      refine { calm := rfl, units := ?_, guards := hg, digits := dig, names := rfl, nd := S.nd, kind := S.kind, fn := fun q hq => (calls q hq).call hr, bi := g.bi, gl := g.gl, stor := fun y hy => ⟨hy, .inl rfl⟩ }
      have := hr.un
      show (A.deeper _).units + 100 < cLine
      omega
    refine ⟨_, ((chkS_ok hΦ c PassesOwn.never body).2 _ hc).nox, ?_⟩
    refine ⟨_, _, h, start_read r rfl, sm, hk ms h _ w, ⟨fun σ h' s H' ⟨h0, sb, q⟩ _ s1 f1 => q .non H' .non (s1.sub sb) (f1.sub sb), fun m h' v H' ⟨h0, sb, q⟩ rv s1 f1 => q v H' rv (s1.sub sb) (f1.sub sb), fun _ _ _ _ z => z.elim, fun _ _ _ _ z => z.elim⟩⟩

/-! ### the head of a law -/
theorem only_read {H : Hp} {a : Addr} {ns : List Int} (o : Only H) (s : SqL K H a (ns.map V.int)) : Rp K H (.ref a) (.rol (ns.map M.int)) := by
  refine .rol ?_ (RpAll.ofInts ns)
  rcases s with (e | ⟨ob, e⟩) | m
  · rcases o a with z | ⟨ob, xs, z⟩
    · rw [z] at e; cases e
    · rw [z] at e; cases e
  · exact .inl ⟨ob, e⟩
  · exact .inr m
/-- the law's def called with the script, at the heap that the top left -/
theorem head_call {P : Program} {w : World} {mg mb : Str → Option Value} {k : Nat} {fa a : Addr} {fd : FuncData} {x : Str} {spL : SpM} {t : Shared} {us : List Value} {ns : List Int}
    (kin : K.In t.heap) (gns : t.heap.Ns mainGlobals mg) (bns : t.heap.Ns builtinsNs mb) (bbs : ∀ y : Str, y ≠ "__name__" → mb y = bootBuiltins y) (nlim : t.heap.NoLimit) (ndig : t.heap.NoDigits) (ngen : t.gens = #[])
    (obj : t.heap.get? a = some { cls := .type "list", data := .seq us.toArray }) (are : IntsAre us ns) (len : ns.length ≤ sizeLine) (room : Room k callerA)
    (F : ∀ base : Heap, K.In base → base.Ns mainGlobals mg → base.NoDigits → FnG P w K mg base CX0 k fa fd [x] (liftSp K spL)) (bind : ∀ (s : Shared) (u : Value), BindsTo s fd ⟨[u], []⟩ [(x, u)])
    (told : spL [.rol (ns.map M.int)] (fun _ => none) (fun m _ => m = .bl true) fun _ _ _ => False) (hm : ∀ ms h Q Q' W, (∀ m h, Q m h → Q' m h) → spL ms h Q W → spL ms h Q' W) :
    codeAny (model P w) callerA (.call (.ref fa) ⟨[.ref a], []⟩) (fun r z => r = .ok (.ret (.bool true)) ∧ OldK t.heap z.heap ∧ z.os = t.os ∧ AllBare z.gens) t := by
  have vals := vals_ints are
  have big := are.length
  have main : ∀ H : Hp, Only H → SqL K H a (ns.map V.int) → HOk P w H t.heap → (∀ c, H c ≠ none → c = a) → (H a ≠ none → K.lookup a = none) →
      codeAny (model P w) callerA (.call (.ref fa) ⟨[.ref a], []⟩) (fun r z => r = .ok (.ret (.bool true)) ∧ OldK t.heap z.heap ∧ z.os = t.os ∧ AllBare z.gens) t := by
    intro H only seq hok one apart
    have dictFree : ∀ {c : Addr} {o : Obj} {es : Array DictEntry} {ep : Nat}, t.heap.get? c = some o → o.data = .dict es ep → H c = none := fun {c o es ep} e d => by
      by_cases z : H c = none
      · exact z
      · have ec := one c z
        subst ec
        rw [obj] at e; cases e
        cases (show Data.seq us.toArray _ = Data.dict es ep from d)
    have nsB : ∀ {c : Addr} {m : Str → Option Value}, t.heap.Ns c m → (hidT t.heap H).Ns c m := fun ⟨o, es, ep, e, d, r⟩ => ⟨o, es, ep, hidT_get e (dictFree e d), d, r⟩
    have kinB : K.In (hidT t.heap H) := fun c o e => hidT_get (kin c o e) (Classical.byContradiction fun z => by
      have ec := one c z
      subst ec
      rw [apart z] at e; cases e)
    have digB : (hidT t.heap H).NoDigits := let ⟨mc, d1, d2⟩ := ndig; ⟨mc, nsB d1, d2⟩
    have modB : Mod K mg (hidT t.heap H) := ⟨kinB, nsB gns, ⟨mb, nsB bns, bbs⟩, let ⟨mc, d1, d2⟩ := nlim; ⟨mc, nsB d1, d2⟩⟩
    have e0 : Env0 P w K mg (hidT t.heap H) callerA [] t H := ⟨rfl, modB, fun c o e => of_hidT e, Nat.le_of_eq (hidT_size _ _), trivial, fun c hc => absurd (show c ∈ ([] : List Addr) from hc) (by simp), hok, .of_eq ngen⟩
    have sp0 : liftSp K spL [.ref a] H (fun v _ => v = .bl true) (fun _ _ _ => False) := by
      refine ⟨[.rol (ns.map M.int)], fun _ => none, .cons (only_read only seq) .nil, ?_, hm _ _ _ _ _ ?_ told⟩
      · intro c o z; cases z
      · intro m h e v H' r _ _; subst e; exact r.toBl
    refine codeAny_mono ((F _ kinB (nsB gns) digB).run callerA [] t H ⟨[.ref a], []⟩ [.ref a] [.ref a] _ _ rfl room e0 (bind t (.ref a)) (.cons rfl .nil) sp0) fun r z q => ?_
    match r, q with
    | .error e, q => exact False.elim q
    | .ok .next, q => exact False.elim q
    | .ok .brk, q => exact False.elim q
    | .ok .cont, q => exact False.elim q
    | .ok (.ret u), q =>
      obtain ⟨v, H', os, bare, un, hok', rel, ev⟩ := q
      cases (show v = V.bl true from ev)
      cases (show u = Value.bool true from rel)
      refine ⟨rfl, OldK.of_keep fun c o e => ?_, os, bare⟩
      rcases only c with n | ⟨ob, xs, n⟩
      · exact un.keep c o e n (fun m => absurd (show c ∈ ([] : List Addr) from m) (by simp)) (by simp)
      · obtain ⟨g1, _⟩ := hok c _ n
        obtain ⟨g2, _⟩ := hok' c _ (un.frzs c ob _ n)
        rw [e] at g1; cases g1
        exact g2
  cases lk : K.lookup a with
  | some o =>
    have e := kin a o lk
    rw [obj] at e
    cases e
    exact main (fun _ => none) (fun _ => .inl rfl) (.inr ⟨_, us.toArray, _, lk, rfl, rfl, rfl, by rw [List.size_toArray, big]; exact len, by simpa using vals⟩) (fun c u z => by cases z) (fun c z => absurd rfl z) fun z => absurd rfl z
  | none =>
    have at' : ∀ c, (if c = a then some (HO.frz { cls := .type "list", data := .seq us.toArray } (.lst (ns.map V.int))) else none) ≠ none → c = a := fun c z => Classical.byContradiction fun n => z (if_neg n)
    refine main (fun c => if c = a then some (.frz { cls := .type "list", data := .seq us.toArray } (.lst (ns.map V.int))) else none) (fun c => ?_) (.inl (.inr ⟨{ cls := .type "list", data := .seq us.toArray }, if_pos rfl⟩)) (fun c u z => ?_) at' fun _ => lk
    · by_cases n : c = a
      · exact .inr ⟨_, _, if_pos n⟩
      · exact .inl (if_neg n)
    · have n := at' c (by rw [show (if c = a then some (HO.frz { cls := .type "list", data := .seq us.toArray } (.lst (ns.map V.int))) else none) = some u from z]; simp)
      subst n
      cases (if_pos rfl).symm.trans z
      exact ⟨obj, by rw [List.length_map]; exact len, us, _, vals, obj⟩
/-- the goal that the row's head leaves -/
theorem walk_M {l : PySem.W.OpenLaw} {n k : Nat} {q : Program} {loose : List Str} {XP : (Str → Option Value) → Heap → Prop} {YP : World → Heap → Prop} {d : DefRec} {KK : Params → PySem.W.Frag} {spL : SpM} {x : Str}
    (most : l.most = some n) (few : n ≤ sizeLine) (nodf : d.params.defaults = []) (room : Room k callerA) (hY : ∀ (w : World) (h : Heap), YP w h → (KK w.params).In h)
    (F : ∀ (w : World) (mg : Str → Option Value) (fa : Addr) (h : Heap), (KK w.params).In h → h.Ns mainGlobals mg → mg d.name = some (.ref fa) →
      ∃ fd : FuncData, (∀ (s : Shared) (u : Value), BindsTo s fd ⟨[u], []⟩ [(x, u)]) ∧ ∀ base : Heap, base.NoDigits → FnG l.prog w (KK w.params) mg base CX0 k fa fd [x] (liftSp (KK w.params) spL))
    (told : ∀ ns : List Int, ns.length ≤ n → spL [.rol (ns.map M.int)] (fun _ => none) (fun m _ => m = .bl true) fun _ _ _ => False) (hm : ∀ ms h Q Q' W, (∀ m h, Q m h → Q' m h) → spL ms h Q W → spL ms h Q' W) :
    PySem.W.WalkO q loose XP YP l.row.toRowW d [] (fun f vs => PySem.call f vs) := by
  refine Att.attach_call most nodf fun w s₀ t mg mb fa o pm cd doc a us ns G Y ho hd hcd hmg hobj hints hlen hg => ?_
  have kin := hY w _ Y
  obtain ⟨fd, hb, hF⟩ := F w mg fa _ kin G.T.g hmg
  exact head_call kin G.T.g G.T.b G.T.builtins G.T.nolimit G.T.nodigits hg hobj hints (Nat.le_trans hlen few) room (fun base _ _ dg => hF base dg) hb (told ns hlen) hm
end
end Mp

set_option Elab.async false
set_option linter.all false
set_option maxRecDepth 100000
/-! Mini: the equations of the meaning (printed by geneq.py). -/
namespace Mp
open PySem
def asT (m : M) (h : MH) (K : Bool → MH → Prop) : Prop := match truM m h with
  | some b => K b h
  | none => False
def asQ (m : M) (h1 : MH) (K : KQ) : Prop := match m with
  | .tup xs => K .t xs [] h1
  | .rol xs => K .r xs [] h1
  | .ref a => match h1 a with
    | some (.lst xs) => K .l xs [(a, xs)] h1
    | _ => False
  | _ => False
def negM (x : M) (h : MH) (K : KE) : Prop := match x with
  | .int i => K (.int (-i)) h
  | _ => False
def andM (x : M) (h : MH) (P Q : Prop) : Prop := match truM x h with
  | some true => P
  | some false => Q
  | none => False
def repM (t : QK) (xs : List M) (g : G) (m : M) (h2 : MH) (K : KQ) : Prop := match m with
  | .int k => t = .l ∧ gOk g h2 ∧ (-9223372036854775808 ≤ k ∧ k < 9223372036854775808) ∧ xs.length * k.toNat ≤ SZ ∧ K .l (List.replicate k.toNat xs).flatten [] h2
  | _ => False
def bdM (m : M) (h1 : MH) (K : Option Int → MH → Prop) : Prop := match m with
  | .int i => K (some i) h1
  | _ => False
section
variable {Φ : Phi} {W : WM} {σ : Sl} {h : MH}
def semOp (Φ : Phi) (W : WM) (o : Op) (a b : E) : B := match o, isL a, isL b with
    | .add, false, false => B.ofV fun σ h K => (sem Φ W a).v σ h fun x h1 => (sem Φ W b).v σ h1 fun y h2 => addM x y h2 K
    | .add, _, _ => B.ofQ (catQ (sem Φ W a) (sem Φ W b))
    | .mul, true, _ => B.ofQ (repQ (sem Φ W a) (sem Φ W b))
    | _, _, _ => B.ofV fun σ h K => (sem Φ W a).v σ h fun x h1 => (sem Φ W b).v σ h1 fun y h2 => opM o x y h2 K
theorem semOp_eq {o : Op} {a b : E} : sem Φ W (.op o a b) = semOp Φ W o a b := by
  conv => lhs; unfold sem
  unfold semOp
  cases o <;> cases isL a <;> cases isL b <;> rfl
theorem e_var_v {i : Nat} {K : KE} : (sem Φ W (.var i)).v σ h K = (match σ[i]? with | some (some m) => K m h | _ => False) := rfl
theorem e_var_t {i : Nat} {K : Bool → MH → Prop} : (sem Φ W (.var i)).t σ h K = (sem Φ W (.var i)).v σ h fun m h1 => asT m h1 K := rfl
theorem e_var_q {i : Nat} {K : KQ} : (sem Φ W (.var i)).q σ h K = (sem Φ W (.var i)).v σ h fun m h1 => asQ m h1 K := rfl
theorem e_var_i {i : Nat} {K : KQ} : (sem Φ W (.var i)).i σ h K = (sem Φ W (.var i)).v σ h fun m h1 => asQ m h1 K := rfl
theorem e_int_v {k : Int} {K : KE} : (sem Φ W (.int k)).v σ h K = (K (.int k) h) := rfl
theorem e_int_t {k : Int} {K : Bool → MH → Prop} : (sem Φ W (.int k)).t σ h K = (sem Φ W (.int k)).v σ h fun m h1 => asT m h1 K := rfl
theorem e_int_q {k : Int} {K : KQ} : (sem Φ W (.int k)).q σ h K = (sem Φ W (.int k)).v σ h fun m h1 => asQ m h1 K := rfl
theorem e_int_i {k : Int} {K : KQ} : (sem Φ W (.int k)).i σ h K = (sem Φ W (.int k)).v σ h fun m h1 => asQ m h1 K := rfl
theorem e_bl_v {k : Bool} {K : KE} : (sem Φ W (.bl k)).v σ h K = (K (.bl k) h) := rfl
theorem e_bl_t {k : Bool} {K : Bool → MH → Prop} : (sem Φ W (.bl k)).t σ h K = (sem Φ W (.bl k)).v σ h fun m h1 => asT m h1 K := rfl
theorem e_bl_q {k : Bool} {K : KQ} : (sem Φ W (.bl k)).q σ h K = (sem Φ W (.bl k)).v σ h fun m h1 => asQ m h1 K := rfl
theorem e_bl_i {k : Bool} {K : KQ} : (sem Φ W (.bl k)).i σ h K = (sem Φ W (.bl k)).v σ h fun m h1 => asQ m h1 K := rfl
theorem e_non_v  {K : KE} : (sem Φ W (.non)).v σ h K = (K .non h) := rfl
theorem e_non_t  {K : Bool → MH → Prop} : (sem Φ W (.non)).t σ h K = (sem Φ W (.non)).v σ h fun m h1 => asT m h1 K := rfl
theorem e_non_q  {K : KQ} : (sem Φ W (.non)).q σ h K = (sem Φ W (.non)).v σ h fun m h1 => asQ m h1 K := rfl
theorem e_non_i  {K : KQ} : (sem Φ W (.non)).i σ h K = (sem Φ W (.non)).v σ h fun m h1 => asQ m h1 K := rfl
theorem e_str_v {s : String} {K : KE} : (sem Φ W (.str s)).v σ h K = (K (.str (Str.ofString s)) h) := rfl
theorem e_str_t {s : String} {K : Bool → MH → Prop} : (sem Φ W (.str s)).t σ h K = (sem Φ W (.str s)).v σ h fun m h1 => asT m h1 K := rfl
theorem e_str_q {s : String} {K : KQ} : (sem Φ W (.str s)).q σ h K = (sem Φ W (.str s)).v σ h fun m h1 => asQ m h1 K := rfl
theorem e_str_i {s : String} {K : KQ} : (sem Φ W (.str s)).i σ h K = (sem Φ W (.str s)).v σ h fun m h1 => asQ m h1 K := rfl
theorem e_glob_v {x : String} {K : KE} : (sem Φ W (.glob x)).v σ h K = (match Φ.gl x with | some m => K m h | none => False) := rfl
theorem e_glob_t {x : String} {K : Bool → MH → Prop} : (sem Φ W (.glob x)).t σ h K = (sem Φ W (.glob x)).v σ h fun m h1 => asT m h1 K := rfl
theorem e_glob_q {x : String} {K : KQ} : (sem Φ W (.glob x)).q σ h K = (sem Φ W (.glob x)).v σ h fun m h1 => asQ m h1 K := rfl
theorem e_glob_i {x : String} {K : KQ} : (sem Φ W (.glob x)).i σ h K = (sem Φ W (.glob x)).v σ h fun m h1 => asQ m h1 K := rfl
theorem e_neg_v {a : E} {K : KE} : (sem Φ W (.neg a)).v σ h K = ((sem Φ W a).v σ h fun x h1 => negM x h1 K) := rfl
theorem e_neg_t {a : E} {K : Bool → MH → Prop} : (sem Φ W (.neg a)).t σ h K = (sem Φ W (.neg a)).v σ h fun m h1 => asT m h1 K := rfl
theorem e_neg_q {a : E} {K : KQ} : (sem Φ W (.neg a)).q σ h K = (sem Φ W (.neg a)).v σ h fun m h1 => asQ m h1 K := rfl
theorem e_neg_i {a : E} {K : KQ} : (sem Φ W (.neg a)).i σ h K = (sem Φ W (.neg a)).v σ h fun m h1 => asQ m h1 K := rfl
theorem e_ife_v {c a b : E} {K : KE} : (sem Φ W (.ife c a b)).v σ h K = ((sem Φ W c).t σ h fun k h1 => if k = true then (sem Φ W a).v σ h1 K else (sem Φ W b).v σ h1 K) := rfl
theorem e_ife_t {c a b : E} {K : Bool → MH → Prop} : (sem Φ W (.ife c a b)).t σ h K = (sem Φ W (.ife c a b)).v σ h fun m h1 => asT m h1 K := rfl
theorem e_ife_q {c a b : E} {K : KQ} : (sem Φ W (.ife c a b)).q σ h K = (sem Φ W (.ife c a b)).v σ h fun m h1 => asQ m h1 K := rfl
theorem e_ife_i {c a b : E} {K : KQ} : (sem Φ W (.ife c a b)).i σ h K = (sem Φ W (.ife c a b)).v σ h fun m h1 => asQ m h1 K := rfl
theorem e_tup_v {es : E} {K : KE} : (sem Φ W (.tup es)).v σ h K = ((sem Φ W es).a σ h fun ms h1 => ms.length ≤ 1000 ∧ K (.tup ms) h1) := rfl
theorem e_tup_t {es : E} {K : Bool → MH → Prop} : (sem Φ W (.tup es)).t σ h K = (sem Φ W (.tup es)).v σ h fun m h1 => asT m h1 K := rfl
theorem e_tup_q {es : E} {K : KQ} : (sem Φ W (.tup es)).q σ h K = (sem Φ W (.tup es)).v σ h fun m h1 => asQ m h1 K := rfl
theorem e_tup_i {es : E} {K : KQ} : (sem Φ W (.tup es)).i σ h K = (sem Φ W (.tup es)).v σ h fun m h1 => asQ m h1 K := rfl
theorem e_ix_v {a b : E} {K : KE} : (sem Φ W (.ix a b)).v σ h K = ((sem Φ W a).v σ h fun x h1 => (sem Φ W b).v σ h1 fun y h2 => ixM x y h2 K) := rfl
theorem e_ix_t {a b : E} {K : Bool → MH → Prop} : (sem Φ W (.ix a b)).t σ h K = (sem Φ W (.ix a b)).v σ h fun m h1 => asT m h1 K := rfl
theorem e_ix_q {a b : E} {K : KQ} : (sem Φ W (.ix a b)).q σ h K = (sem Φ W (.ix a b)).v σ h fun m h1 => asQ m h1 K := rfl
theorem e_ix_i {a b : E} {K : KQ} : (sem Φ W (.ix a b)).i σ h K = (sem Φ W (.ix a b)).v σ h fun m h1 => asQ m h1 K := rfl
theorem e_sl_v {a lo hi : E} {K : KE} : (sem Φ W (.sl a lo hi)).v σ h K = ((sem Φ W a).v σ h fun x h1 => bndV (isNonE lo) (sem Φ W lo).v σ h1 fun l h2 => bndV (isNonE hi) (sem Φ W hi).v σ h2 fun u h3 => slM x l u h3 K) := rfl
theorem e_sl_t {a lo hi : E} {K : Bool → MH → Prop} : (sem Φ W (.sl a lo hi)).t σ h K = (sem Φ W (.sl a lo hi)).v σ h fun m h1 => asT m h1 K := rfl
theorem e_sl_q {a lo hi : E} {K : KQ} : (sem Φ W (.sl a lo hi)).q σ h K = (sem Φ W (.sl a lo hi)).v σ h fun m h1 => asQ m h1 K := rfl
theorem e_sl_i {a lo hi : E} {K : KQ} : (sem Φ W (.sl a lo hi)).i σ h K = (sem Φ W (.sl a lo hi)).v σ h fun m h1 => asQ m h1 K := rfl
theorem e_call_v {f : String} {es : E} {K : KE} : (sem Φ W (.call f es)).v σ h K = ((sem Φ W es).a σ h fun ms h1 => Φ.fn f ms h1 K fun c m h2 => W c m σ h2) := rfl
theorem e_call_t {f : String} {es : E} {K : Bool → MH → Prop} : (sem Φ W (.call f es)).t σ h K = (sem Φ W (.call f es)).v σ h fun m h1 => asT m h1 K := rfl
theorem e_call_q {f : String} {es : E} {K : KQ} : (sem Φ W (.call f es)).q σ h K = (sem Φ W (.call f es)).v σ h fun m h1 => asQ m h1 K := rfl
theorem e_call_i {f : String} {es : E} {K : KQ} : (sem Φ W (.call f es)).i σ h K = (sem Φ W (.call f es)).v σ h fun m h1 => asQ m h1 K := rfl
theorem e_bi_v {b : Bi} {es : E} {K : KE} : (sem Φ W (.bi b es)).v σ h K = ((sem Φ W es).a σ h fun ms h1 => biM b ms h1 K) := rfl
theorem e_bi_t {b : Bi} {es : E} {K : Bool → MH → Prop} : (sem Φ W (.bi b es)).t σ h K = (sem Φ W (.bi b es)).v σ h fun m h1 => asT m h1 K := rfl
theorem e_bi_q {b : Bi} {es : E} {K : KQ} : (sem Φ W (.bi b es)).q σ h K = (sem Φ W (.bi b es)).v σ h fun m h1 => asQ m h1 K := rfl
theorem e_bi_i {b : Bi} {es : E} {K : KQ} : (sem Φ W (.bi b es)).i σ h K = (sem Φ W (.bi b es)).v σ h fun m h1 => asQ m h1 K := rfl
theorem e_bq_v {b : Bq} {a : E} {K : KE} : (sem Φ W (.bq b a)).v σ h K = ((sem Φ W a).q σ h fun k ms g h1 => gOk g h1 ∧ bqM b k ms h1 K) := rfl
theorem e_bq_t {b : Bq} {a : E} {K : Bool → MH → Prop} : (sem Φ W (.bq b a)).t σ h K = (sem Φ W (.bq b a)).v σ h fun m h1 => asT m h1 K := rfl
theorem e_bq_q {b : Bq} {a : E} {K : KQ} : (sem Φ W (.bq b a)).q σ h K = (sem Φ W (.bq b a)).v σ h fun m h1 => asQ m h1 K := rfl
theorem e_bq_i {b : Bq} {a : E} {K : KQ} : (sem Φ W (.bq b a)).i σ h K = (sem Φ W (.bq b a)).v σ h fun m h1 => asQ m h1 K := rfl
theorem e_meth_v {m : Me} {o es : E} {K : KE} : (sem Φ W (.meth m o es)).v σ h K = ((sem Φ W o).v σ h fun x h1 => lstM x h1 ∧ (sem Φ W es).a σ h1 fun ms h2 => methM m x ms h2 K) := rfl
theorem e_meth_t {m : Me} {o es : E} {K : Bool → MH → Prop} : (sem Φ W (.meth m o es)).t σ h K = (sem Φ W (.meth m o es)).v σ h fun m h1 => asT m h1 K := rfl
theorem e_meth_q {m : Me} {o es : E} {K : KQ} : (sem Φ W (.meth m o es)).q σ h K = (sem Φ W (.meth m o es)).v σ h fun m h1 => asQ m h1 K := rfl
theorem e_meth_i {m : Me} {o es : E} {K : KQ} : (sem Φ W (.meth m o es)).i σ h K = (sem Φ W (.meth m o es)).v σ h fun m h1 => asQ m h1 K := rfl
theorem e_lst_v {es : E} {K : KE} : (sem Φ W (.lst es)).v σ h K = (sem Φ W (.lst es)).q σ h fun _ xs g h1 => gOk g h1 ∧ ∀ p, h1 p = none → K (.ref p) (put h1 p (.lst xs)) := rfl
theorem e_lst_q {es : E} {K : KQ} : (sem Φ W (.lst es)).q σ h K = ((sem Φ W es).a σ h fun ms h1 => ms.length ≤ 1000 ∧ K .l ms [] h1) := rfl
theorem e_lst_i {es : E} {K : KQ} : (sem Φ W (.lst es)).i σ h K = (sem Φ W (.lst es)).q σ h K := rfl
theorem e_bl1_v {b : Bl} {a : E} {K : KE} : (sem Φ W (.bl1 b a)).v σ h K = (sem Φ W (.bl1 b a)).q σ h fun _ xs g h1 => gOk g h1 ∧ ∀ p, h1 p = none → K (.ref p) (put h1 p (.lst xs)) := rfl
theorem e_bl1_q {b : Bl} {a : E} {K : KQ} : (sem Φ W (.bl1 b a)).q σ h K = ((sem Φ W a).q σ h fun k ms g h1 => gOk g h1 ∧ blM b k ms fun xs => K .l xs [] h1) := rfl
theorem e_bl1_i {b : Bl} {a : E} {K : KQ} : (sem Φ W (.bl1 b a)).i σ h K = (sem Φ W (.bl1 b a)).q σ h K := rfl
theorem e_comp_v {own : List Nat} {t it c e : E} {K : KE} : (sem Φ W (.comp own t it c e)).v σ h K = (sem Φ W (.comp own t it c e)).q σ h fun _ xs g h1 => gOk g h1 ∧ ∀ p, h1 p = none → K (.ref p) (put h1 p (.lst xs)) := rfl
theorem e_comp_q {own : List Nat} {t it c e : E} {K : KQ} : (sem Φ W (.comp own t it c e)).q σ h K = ((sem Φ W it).i σ h fun _ ms g h1 => ms.length ≤ SZ ∧ compI (compTurn (sem Φ W0 t) (sem Φ W0 c) (sem Φ W0 e) (isNil c) (wipeM σ own)) g (fun acc h2 => K .l acc [] h2) ms [] h1) := rfl
theorem e_comp_i {own : List Nat} {t it c e : E} {K : KQ} : (sem Φ W (.comp own t it c e)).i σ h K = (sem Φ W (.comp own t it c e)).q σ h K := rfl
theorem e_sub_v {a b : E} {K : KE} : (sem Φ W (.op .sub a b)).v σ h K = ((sem Φ W a).v σ h fun x h1 => (sem Φ W b).v σ h1 fun y h2 => opM .sub x y h2 K) := by rw [semOp_eq]; unfold semOp; cases isL a <;> cases isL b <;> rfl
theorem e_fdiv_v {a b : E} {K : KE} : (sem Φ W (.op .fdiv a b)).v σ h K = ((sem Φ W a).v σ h fun x h1 => (sem Φ W b).v σ h1 fun y h2 => opM .fdiv x y h2 K) := by rw [semOp_eq]; unfold semOp; cases isL a <;> cases isL b <;> rfl
theorem e_mod_v {a b : E} {K : KE} : (sem Φ W (.op .mod a b)).v σ h K = ((sem Φ W a).v σ h fun x h1 => (sem Φ W b).v σ h1 fun y h2 => opM .mod x y h2 K) := by rw [semOp_eq]; unfold semOp; cases isL a <;> cases isL b <;> rfl
theorem e_pow_v {a b : E} {K : KE} : (sem Φ W (.op .pow a b)).v σ h K = ((sem Φ W a).v σ h fun x h1 => (sem Φ W b).v σ h1 fun y h2 => opM .pow x y h2 K) := by rw [semOp_eq]; unfold semOp; cases isL a <;> cases isL b <;> rfl
theorem e_add_v {a b : E} {K : KE} : (sem Φ W (.op .add a b)).v σ h K = if (isL a || isL b) = true then ((sem Φ W a).q σ h fun k xs g h1 => (sem Φ W b).q σ h1 fun k' ys g' h2 => k = .l ∧ k' = .l ∧ gOk g h2 ∧ gOk g' h2 ∧ xs.length + ys.length ≤ SZ ∧ (gOk [] h2 ∧ ∀ p, h2 p = none → K (.ref p) (put h2 p (.lst (xs ++ ys))))) else ((sem Φ W a).v σ h fun x h1 => (sem Φ W b).v σ h1 fun y h2 => addM x y h2 K) := by rw [semOp_eq]; unfold semOp; cases isL a <;> cases isL b <;> rfl
theorem e_mul_v {a b : E} {K : KE} : (sem Φ W (.op .mul a b)).v σ h K = if isL a = true then ((sem Φ W a).q σ h fun t xs g h1 => (sem Φ W b).v σ h1 fun m h2 => repM t xs g m h2 (fun _ xs g h1 => gOk g h1 ∧ ∀ p, h1 p = none → K (.ref p) (put h1 p (.lst xs)))) else ((sem Φ W a).v σ h fun x h1 => (sem Φ W b).v σ h1 fun y h2 => opM .mul x y h2 K) := by rw [semOp_eq]; unfold semOp; cases isL a <;> cases isL b <;> rfl
theorem e_add_q {a b : E} {K : KQ} : (sem Φ W (.op .add a b)).q σ h K = if (isL a || isL b) = true then ((sem Φ W a).q σ h fun k xs g h1 => (sem Φ W b).q σ h1 fun k' ys g' h2 => k = .l ∧ k' = .l ∧ gOk g h2 ∧ gOk g' h2 ∧ xs.length + ys.length ≤ SZ ∧ K .l (xs ++ ys) [] h2) else ((sem Φ W a).v σ h fun x h1 => (sem Φ W b).v σ h1 fun y h2 => addM x y h2 fun m h3 => asQ m h3 K) := by rw [semOp_eq]; unfold semOp; cases isL a <;> cases isL b <;> rfl
theorem e_mul_q {a b : E} {K : KQ} : (sem Φ W (.op .mul a b)).q σ h K = if isL a = true then ((sem Φ W a).q σ h fun t xs g h1 => (sem Φ W b).v σ h1 fun m h2 => repM t xs g m h2 K) else ((sem Φ W a).v σ h fun x h1 => (sem Φ W b).v σ h1 fun y h2 => opM .mul x y h2 fun m h3 => asQ m h3 K) := by rw [semOp_eq]; unfold semOp; cases isL a <;> cases isL b <;> rfl
theorem e_add_i {a b : E} {K : KQ} : (sem Φ W (.op .add a b)).i σ h K = if (isL a || isL b) = true then ((sem Φ W a).q σ h fun k xs g h1 => (sem Φ W b).q σ h1 fun k' ys g' h2 => k = .l ∧ k' = .l ∧ gOk g h2 ∧ gOk g' h2 ∧ xs.length + ys.length ≤ SZ ∧ K .l (xs ++ ys) [] h2) else ((sem Φ W a).v σ h fun x h1 => (sem Φ W b).v σ h1 fun y h2 => addM x y h2 fun m h3 => asQ m h3 K) := by rw [semOp_eq]; unfold semOp; cases isL a <;> cases isL b <;> rfl
theorem e_mul_i {a b : E} {K : KQ} : (sem Φ W (.op .mul a b)).i σ h K = if isL a = true then ((sem Φ W a).q σ h fun t xs g h1 => (sem Φ W b).v σ h1 fun m h2 => repM t xs g m h2 K) else ((sem Φ W a).v σ h fun x h1 => (sem Φ W b).v σ h1 fun y h2 => opM .mul x y h2 fun m h3 => asQ m h3 K) := by rw [semOp_eq]; unfold semOp; cases isL a <;> cases isL b <;> rfl
theorem e_not_v {a : E} {K : KE} : (sem Φ W (.not a)).v σ h K = ((sem Φ W a).t σ h fun b h1 => K (.bl (!b)) h1) := rfl
theorem e_not_t {a : E} {K : Bool → MH → Prop} : (sem Φ W (.not a)).t σ h K = ((sem Φ W a).t σ h fun b h1 => K (!b) h1) := rfl
theorem e_and_v {a b : E} {K : KE} : (sem Φ W (.and a b)).v σ h K = ((sem Φ W a).v σ h fun x h1 => andM x h1 ((sem Φ W b).v σ h1 K) (K x h1)) := rfl
theorem e_and_t {a b : E} {K : Bool → MH → Prop} : (sem Φ W (.and a b)).t σ h K = ((sem Φ W a).t σ h fun k h1 => if k = true then (sem Φ W b).t σ h1 K else K false h1) := rfl
theorem e_or_v {a b : E} {K : KE} : (sem Φ W (.or a b)).v σ h K = ((sem Φ W a).v σ h fun x h1 => andM x h1 (K x h1) ((sem Φ W b).v σ h1 K)) := rfl
theorem e_or_t {a b : E} {K : Bool → MH → Prop} : (sem Φ W (.or a b)).t σ h K = ((sem Φ W a).t σ h fun k h1 => if k = true then K true h1 else (sem Φ W b).t σ h1 K) := rfl
theorem e_cmp_v {o : Cmp} {a b : E} {K : KE} : (sem Φ W (.cmp o a b)).v σ h K = ((sem Φ W a).v σ h fun x h1 => (sem Φ W b).v σ h1 fun y h2 => cmpM o x y h2 fun k => K (.bl k) h2) := rfl
theorem e_cmp_t {o : Cmp} {a b : E} {K : Bool → MH → Prop} : (sem Φ W (.cmp o a b)).t σ h K = ((sem Φ W a).v σ h fun x h1 => (sem Φ W b).v σ h1 fun y h2 => cmpM o x y h2 fun k => K k h2) := rfl
theorem e_rng_i {es : E} {K : KQ} : (sem Φ W (.rng es)).i σ h K = ((sem Φ W es).a σ h fun ms h1 => rngM ms fun xs => K .l xs [] h1) := rfl
theorem e_enum_i {a : E} {K : KQ} : (sem Φ W (.enum a)).i σ h K = ((sem Φ W a).q σ h fun k ms g h1 => k.isT = false ∧ K .l (enumL 0 ms) g h1) := rfl
theorem e_zip_i {a b : E} {K : KQ} : (sem Φ W (.zip a b)).i σ h K = ((sem Φ W a).q σ h fun k xs g h1 => (sem Φ W b).q σ h1 fun k' ys g' h2 => k.isT = k'.isT ∧ gOk g h2 ∧ K .l (zipL xs ys) (g ++ g') h2) := rfl
theorem e_nil_a {K : List M → MH → Prop} : (sem Φ W (.nil)).a σ h K = K [] h := rfl
theorem e_cons_a {e es : E} {K : List M → MH → Prop} : (sem Φ W (.cons e es)).a σ h K = ((sem Φ W e).v σ h fun m h1 => (sem Φ W es).a σ h1 fun ms h2 => K (m :: ms) h2) := rfl
theorem e_var_g {i : Nat} {m : M} {K : Sl → MH → Prop} : (sem Φ W (.var i)).g m σ h K = K (σ.set i (some m)) h := rfl
theorem e_ix_g {a b : E} {m : M} {K : Sl → MH → Prop} : (sem Φ W (.ix a b)).g m σ h K = ((sem Φ W a).v σ h fun x h1 => (sem Φ W b).v σ h1 fun y h2 => setM x y m h2 fun h3 => K σ h3) := rfl
theorem e_tup_g {es : E} {ms : List M} {K : Sl → MH → Prop} : (sem Φ W (.tup es)).g (.tup ms) σ h K = (ms.length = lenE es ∧ (sem Φ W es).gs ms σ h K) := rfl
theorem e_nil_gs {K : Sl → MH → Prop} : (sem Φ W (.nil)).gs [] σ h K = K σ h := rfl
theorem e_cons_gs {e es : E} {m : M} {r : List M} {K : Sl → MH → Prop} : (sem Φ W (.cons e es)).gs (m :: r) σ h K = ((sem Φ W e).g m σ h fun σ1 h1 => (sem Φ W es).gs r σ1 h1 K) := rfl
theorem o_add {i j : Int} {K : KE} : opM .add (.int i) (.int j) h K = K (.int (i + j)) h := rfl
theorem o_sub {i j : Int} {K : KE} : opM .sub (.int i) (.int j) h K = K (.int (i - j)) h := rfl
theorem o_add2 {i j : Int} {K : KE} : addM (.int i) (.int j) h K = K (.int (i + j)) h := rfl
theorem o_addt {xs ys : List M} {K : KE} : addM (.tup xs) (.tup ys) h K = (xs.length + ys.length ≤ SZ ∧ K (.tup (xs ++ ys)) h) := rfl
theorem o_mul {i j : Int} {K : KE} : opM .mul (.int i) (.int j) h K = (MulOk i j ∧ K (.int (i * j)) h) := rfl
theorem o_fdiv {i j : Int} {K : KE} : opM .fdiv (.int i) (.int j) h K = (DivOk j ∧ K (.int (i / j)) h) := rfl
theorem o_mod {i j : Int} {K : KE} : opM .mod (.int i) (.int j) h K = (0 < j ∧ K (.int (i % j)) h) := rfl
theorem o_pow {i j : Int} {K : KE} : opM .pow (.int i) (.int j) h K = ((0 ≤ j ∧ j ≤ 1000000 ∧ i.natAbs < 18446744073709551616) ∧ K (.int (i ^ j.toNat)) h) := rfl
theorem o_aug {o : Op} {i j : Int} {K : KE} : augM o (.int i) (.int j) h K = opM o (.int i) (.int j) h K := rfl
theorem o_neg {i : Int} {K : KE} : negM (.int i) h K = K (.int (-i)) h := rfl
theorem m_eq {i j : Int} {K : Bool → Prop} : cmpM .eq (.int i) (.int j) h K = K (decide (i = j)) := rfl
theorem m_ne {i j : Int} {K : Bool → Prop} : cmpM .ne (.int i) (.int j) h K = K (!decide (i = j)) := rfl
theorem m_lt {i j : Int} {K : Bool → Prop} : cmpM .lt (.int i) (.int j) h K = K (decide (i < j)) := rfl
theorem m_le {i j : Int} {K : Bool → Prop} : cmpM .le (.int i) (.int j) h K = K (decide (i ≤ j)) := rfl
theorem m_gt {i j : Int} {K : Bool → Prop} : cmpM .gt (.int i) (.int j) h K = K (decide (j < i)) := rfl
theorem m_ge {i j : Int} {K : Bool → Prop} : cmpM .ge (.int i) (.int j) h K = K (decide (j ≤ i)) := rfl
theorem m_eqs {i j : Str} {K : Bool → Prop} : cmpM .eq (.str i) (.str j) h K = K (decide (i = j)) := rfl
theorem m_is {x : M} {K : Bool → Prop} : cmpM .is x .non h K = K (isNon x) := rfl
theorem m_isnot {x : M} {K : Bool → Prop} : cmpM .isnot x .non h K = K (!isNon x) := rfl
theorem n_non : isNon .non = true := rfl
theorem n_ref {a : Nat} : isNon (.ref a) = false := rfl
theorem n_int {a : Int} : isNon (.int a) = false := rfl
theorem n_tup {a : List M} : isNon (.tup a) = false := rfl
theorem b_abs {i : Int} {K : KE} : biM .abs [.int i] h K = K (.int (if i < 0 then -i else i)) h := rfl
theorem b_int {i : Int} {K : KE} : biM .int [.int i] h K = K (.int i) h := rfl
theorem b_len {x : M} {K : KE} : biM .len [x] h K = (match lenM x h with | some n => K (.int (n : Nat)) h | none => False) := rfl
theorem b_max {i j : Int} {K : KE} : biM .max2 [.int i, .int j] h K = K (.int (if j > i then j else i)) h := rfl
theorem b_min {i j : Int} {K : KE} : biM .min2 [.int i, .int j] h K = K (.int (if j < i then j else i)) h := rfl
theorem l_list {k : QK} {ms : List M} {K : List M → Prop} : blM .list k ms K = K ms := rfl
theorem r_1 {n : Int} {K : List M → Prop} : rngM [.int n] K = ((-4611686018427387904 ≤ n ∧ n < 4611686018427387904) ∧ K (rngL 0 1 n.toNat)) := rfl
theorem r_2 {a b : Int} {K : List M → Prop} : rngM [.int a, .int b] K = ((-4611686018427387904 ≤ a ∧ a < 4611686018427387904 ∧ -4611686018427387904 ≤ b ∧ b < 4611686018427387904) ∧ K (rngL a 1 (b - a).toNat)) := rfl
theorem r_down {a b : Int} {K : List M → Prop} (w : (-4611686018427387904 ≤ a ∧ a < 4611686018427387904 ∧ -4611686018427387904 ≤ b ∧ b < 4611686018427387904) ∧ K (rngL a (-1) (a - b).toNat)) : rngM [.int a, .int b, .int (-1)] K := ⟨w.1, .inl ⟨rfl, w.2⟩⟩
theorem t_bl {b : Bool} {K : Bool → MH → Prop} : asT (.bl b) h K = K b h := rfl
theorem t_int {i : Int} {K : Bool → MH → Prop} : asT (.int i) h K = K (decide (i ≠ 0)) h := rfl
theorem t_non {K : Bool → MH → Prop} : asT .non h K = K false h := rfl
theorem q_tup {xs : List M} {K : KQ} : asQ (.tup xs) h K = K .t xs [] h := rfl
theorem q_rol {xs : List M} {K : KQ} : asQ (.rol xs) h K = K .r xs [] h := rfl
theorem a_bl {b : Bool} {P Q : Prop} : andM (.bl b) h P Q = if b = true then P else Q := by cases b <;> simp [andM, truM]
theorem d_none {v : Sl → MH → KE → Prop} {K : Option Int → MH → Prop} : bndV true v σ h K = K none h := rfl
theorem d_some {v : Sl → MH → KE → Prop} {K : Option Int → MH → Prop} : bndV false v σ h K = (v σ h fun m h1 => bdM m h1 K) := rfl
theorem d_int {i : Int} {K : Option Int → MH → Prop} : bdM (.int i) h K = K (some i) h := rfl
theorem u_all {t c e : B} {τ : Sl} {m : M} {R : Option M → MH → Prop} : compTurn t c e true τ m h R = (t.g m τ h fun σ3 h3 => e.v σ3 h3 fun y h4 => R (some y) h4) := rfl
theorem u_if {t c e : B} {τ : Sl} {m : M} {R : Option M → MH → Prop} : compTurn t c e false τ m h R = (t.g m τ h fun σ3 h3 => c.t σ3 h3 fun k h4 => if k = true then e.v σ3 h4 (fun y h5 => R (some y) h5) else R none h4) := rfl
theorem g_nil : gOk [] h = True := rfl
theorem g_cons {a : Nat} {xs : List M} {g : G} : gOk ((a, xs) :: g) h = (h a = some (.lst xs) ∧ gOk g h) := rfl
theorem isL_nil : isL (.nil ) = false := rfl
theorem isL_var {i : Nat} : isL (.var i) = false := rfl
theorem isL_int {i : Int} : isL (.int i) = false := rfl
theorem isL_bl {b : Bool} : isL (.bl b) = false := rfl
theorem isL_non : isL (.non ) = false := rfl
theorem isL_str {s : String} : isL (.str s) = false := rfl
theorem isL_glob {s : String} : isL (.glob s) = false := rfl
theorem isL_neg {a : E} : isL (.neg a) = false := rfl
theorem isL_not {a : E} : isL (.not a) = false := rfl
theorem isL_and {a b : E} : isL (.and a b) = false := rfl
theorem isL_or {a b : E} : isL (.or a b) = false := rfl
theorem isL_ife {a b c : E} : isL (.ife a b c) = false := rfl
theorem isL_cmp {o : Cmp} {a b : E} : isL (.cmp o a b) = false := rfl
theorem isL_tup {a : E} : isL (.tup a) = false := rfl
theorem isL_ix {a b : E} : isL (.ix a b) = false := rfl
theorem isL_sl {a b c : E} : isL (.sl a b c) = false := rfl
theorem isL_call {s : String} {a : E} : isL (.call s a) = false := rfl
theorem isL_bi {b : Bi} {a : E} : isL (.bi b a) = false := rfl
theorem isL_bq {b : Bq} {a : E} : isL (.bq b a) = false := rfl
theorem isL_meth {m : Me} {a b : E} : isL (.meth m a b) = false := rfl
theorem isL_rev {a : E} : isL (.rev a) = false := rfl
theorem isL_step2 {a : E} : isL (.step2 a) = false := rfl
theorem isL_lst {a : E} : isL (.lst a) = true := rfl
theorem isL_bl1 {b : Bl} {a : E} : isL (.bl1 b a) = true := rfl
theorem isL_comp {o : List Nat} {a b c d : E} : isL (.comp o a b c d) = true := rfl
theorem isL_add {a b : E} : isL (.op .add a b) = (isL a || isL b) := rfl
theorem isL_mul {a b : E} : isL (.op .mul a b) = isL a := rfl
theorem isL_sub {a b : E} : isL (.op .sub a b) = false := rfl
theorem isL_fdiv {a b : E} : isL (.op .fdiv a b) = false := rfl
theorem isL_mod {a b : E} : isL (.op .mod a b) = false := rfl
theorem isL_pow {a b : E} : isL (.op .pow a b) = false := rfl
end
end Mp

set_option Elab.async false
set_option linter.all false
set_option maxRecDepth 100000
/-! Mini: reasoning about a text's meaning. -/
namespace Mp
open PySem
section
variable {Φ : Phi} {D : DM} {σ : Sl} {h : MH}
theorem st_seq (hΦ : Φ.Mono) {a b : S} (w : wS Φ W0 a { D with nx := fun σ1 h1 => wS Φ W0 b D σ1 h1 } σ h) : wS Φ W0 (.seq a b) D σ h :=
  wS_mono hΦ a (D := { D with nx := fun σ1 h1 => wS Φ W0 b D σ1 h1 }) (D' := { D with nx := fun σ1 h1 => ∃ h0, Sub h0 h1 ∧ wS Φ W0 b D σ1 h0 }) ⟨fun σ1 h1 w => ⟨h1, Sub.refl _, w⟩, fun _ _ w => w, fun _ _ w => w, fun _ _ w => w⟩ w
theorem st_seqS {a b : S} (w : wS Φ W0 a { D with nx := fun σ1 h1 => ∃ h0, Sub h0 h1 ∧ wS Φ W0 b D σ1 h0 } σ h) : wS Φ W0 (.seq a b) D σ h := w
theorem st_asg (hΦ : Φ.Mono) {t e : E} {b : S} (w : (sem Φ W0 e).v σ h fun m h1 => (sem Φ W0 t).g m σ h1 fun σ1 h2 => wS Φ W0 b D σ1 h2) : wS Φ W0 (.seq (.asg t e) b) D σ h := st_seq hΦ w
theorem st_expr (hΦ : Φ.Mono) {e : E} {b : S} (w : (sem Φ W0 e).v σ h fun _ h1 => wS Φ W0 b D σ h1) : wS Φ W0 (.seq (.expr e) b) D σ h := st_seq hΦ w
/-- a piece that only goes on -/
theorem wS_only (hΦ : Φ.Mono) {s : S} {N : Sl → MH → Prop} (w : wS Φ W0 s { nx := N, rt := fun _ _ => False, bk := fun _ _ => False, ct := fun _ _ => False } σ h) (f : ∀ σ h, N σ h → D.nx σ h) : wS Φ W0 s D σ h :=
  wS_mono hΦ s (D := { nx := N, rt := fun _ _ => False, bk := fun _ _ => False, ct := fun _ _ => False }) ⟨f, fun _ _ w => w.elim, fun _ _ w => w.elim, fun _ _ w => w.elim⟩ w
theorem st_ret {e : E} (w : (sem Φ W0 e).v σ h D.rt) : wS Φ W0 (.ret e) D σ h := w
theorem st_aug (hΦ : Φ.Mono) {o : Op} {i : Nat} {e : E} {b : S} (w : match σ[i]? with | some (some x) => (sem Φ W0 e).v σ h fun y h1 => augM o x y h1 fun z h2 => wS Φ W0 b D (σ.set i (some z)) h2 | _ => False) : wS Φ W0 (.seq (.aug o i e) b) D σ h := st_seq hΦ w
theorem st_aug1 {o : Op} {i : Nat} {e : E} (w : match σ[i]? with | some (some x) => (sem Φ W0 e).v σ h fun y h1 => augM o x y h1 fun z h2 => D.nx (σ.set i (some z)) h2 | _ => False) : wS Φ W0 (.aug o i e) D σ h := w
theorem st_asg1 {t e : E} (w : (sem Φ W0 e).v σ h fun m h1 => (sem Φ W0 t).g m σ h1 D.nx) : wS Φ W0 (.asg t e) D σ h := w
theorem st_expr1 {e : E} (w : (sem Φ W0 e).v σ h fun _ h1 => D.nx σ h1) : wS Φ W0 (.expr e) D σ h := w
theorem st_skip (w : D.nx σ h) : wS Φ W0 .skip D σ h := w
theorem st_if1 {c : E} {a b : S} (w : (sem Φ W0 c).t σ h fun k h1 => if k = true then wS Φ W0 a D σ h1 else wS Φ W0 b D σ h1) : wS Φ W0 (.iff c a b) D σ h := w
theorem st_iff (hΦ : Φ.Mono) {c : E} {a b r : S} (w : (sem Φ W0 c).t σ h fun k h1 => if k = true then wS Φ W0 a { D with nx := fun σ1 h1 => wS Φ W0 r D σ1 h1 } σ h1 else wS Φ W0 b { D with nx := fun σ1 h1 => wS Φ W0 r D σ1 h1 } σ h1) : wS Φ W0 (.seq (.iff c a b) r) D σ h := st_seq hΦ w
/-- a for: what holds ahead of each turn -/
theorem forI_inv {turn : M → Sl → MH → (Sl → MH → Prop) → Prop} {g : G} {fin : Sl → MH → Prop} (I : Nat → Sl → MH → Prop) {ms : List M} (ok : ∀ i σ h, i ≤ ms.length → I i σ h → gOk g h)
    (step : ∀ (i : Nat) (m : M) σ h, ms[i]? = some m → I i σ h → turn m σ h fun σ1 h1 => ∃ h0, Sub h0 h1 ∧ I (i + 1) σ1 h0) (mono : ∀ m σ h (K K' : Sl → MH → Prop), (∀ σ h, K σ h → K' σ h) → turn m σ h K → turn m σ h K') (done : ∀ σ h, I ms.length σ h → fin σ h) :
    ∀ (k i : Nat) σ h, k = ms.length - i → i ≤ ms.length → I i σ h → forI turn g fin (ms.drop i) σ h
  | 0, i, σ, h, hk, hi, w => by
    have e : i = ms.length := by omega
    subst e
    rw [List.drop_length]
    exact ⟨ok _ _ _ hi w, done _ _ w⟩
  | k + 1, i, σ, h, hk, hi, w => by
    have lt : i < ms.length := by omega
    rw [List.drop_eq_getElem_cons lt]
    refine ⟨ok _ _ _ hi w, mono _ _ _ _ _ (fun σ1 h1 ⟨h0, sb, w⟩ => ⟨h0, sb, forI_inv I ok step mono done k (i + 1) σ1 h0 (by omega) (by omega) w⟩) (step i _ σ h (by simp [lt]) w)⟩
theorem for_inv (hΦ : Φ.Mono) {t : E} {b : S} {g : G} (I : Nat → Sl → MH → Prop) {ms : List M} (w0 : I 0 σ h) (ok : ∀ i σ h, i ≤ ms.length → I i σ h → gOk g h)
    (step : ∀ (i : Nat) (m : M) σ h, ms[i]? = some m → I i σ h → (sem Φ W0 t).g m σ h fun σ3 h3 => wS Φ W0 b { D with nx := fun σ1 h1 => ∃ h0, Sub h0 h1 ∧ I (i + 1) σ1 h0, ct := fun σ1 h1 => ∃ h0, Sub h0 h1 ∧ I (i + 1) σ1 h0, bk := D.nx } σ3 h3) (done : ∀ σ h, I ms.length σ h → D.nx σ h) :
    forI (fun m σ2 h2 nx => (sem Φ W0 t).g m σ2 h2 fun σ3 h3 => wS Φ W0 b { D with nx := nx, ct := nx, bk := D.nx } σ3 h3) g D.nx ms σ h := by
  have := forI_inv (turn := fun m σ2 h2 nx => (sem Φ W0 t).g m σ2 h2 fun σ3 h3 => wS Φ W0 b { D with nx := nx, ct := nx, bk := D.nx } σ3 h3) (g := g) (fin := D.nx) I ok step
    (fun m σ2 h2 K K' f w => (sem_mono hΦ t W0).g m σ2 h2 (fun σ3 h3 => wS Φ W0 b { D with nx := K, ct := K, bk := D.nx } σ3 h3) (fun σ3 h3 => wS Φ W0 b { D with nx := K', ct := K', bk := D.nx } σ3 h3) (fun σ3 h3 w => wS_mono hΦ b (D := { D with nx := K, ct := K, bk := D.nx }) (D' := { D with nx := K', ct := K', bk := D.nx }) ⟨f, fun _ _ w => w, fun _ _ w => w, f⟩ w) w) done _ 0 σ h rfl (Nat.zero_le _) w0
  simpa using this
/-- .. as a statement with what follows -/
theorem st_for (hΦ : Φ.Mono) {t it : E} {b r : S} (w : (sem Φ W0 it).i σ h fun _ ms g h1 => ∃ I : Nat → Sl → MH → Prop, I 0 σ h1 ∧ (∀ i σ h, i ≤ ms.length → I i σ h → gOk g h) ∧
    (∀ (i : Nat) (m : M) σ h, ms[i]? = some m → I i σ h → (sem Φ W0 t).g m σ h fun σ3 h3 => wS Φ W0 b { D with nx := fun σ1 h1 => ∃ h0, Sub h0 h1 ∧ I (i + 1) σ1 h0, ct := fun σ1 h1 => ∃ h0, Sub h0 h1 ∧ I (i + 1) σ1 h0, bk := fun σ1 h1 => wS Φ W0 r D σ1 h1 } σ3 h3) ∧
    ∀ σ h, I ms.length σ h → wS Φ W0 r D σ h) : wS Φ W0 (.seq (.for_ t it b) r) D σ h :=
  st_seq hΦ ((sem_mono hΦ it W0).i _ _ _ _ (fun k ms g h1 ⟨I, w0, ok, step, done⟩ => for_inv (D := { D with nx := fun σ1 h1 => wS Φ W0 r D σ1 h1 }) hΦ I w0 ok step done) w)
/-- .. as the last statement of a block -/
theorem st_for1 (hΦ : Φ.Mono) {t it : E} {b : S} (w : (sem Φ W0 it).i σ h fun _ ms g h1 => ∃ I : Nat → Sl → MH → Prop, I 0 σ h1 ∧ (∀ i σ h, i ≤ ms.length → I i σ h → gOk g h) ∧
    (∀ (i : Nat) (m : M) σ h, ms[i]? = some m → I i σ h → (sem Φ W0 t).g m σ h fun σ3 h3 => wS Φ W0 b { D with nx := fun σ1 h1 => ∃ h0, Sub h0 h1 ∧ I (i + 1) σ1 h0, ct := fun σ1 h1 => ∃ h0, Sub h0 h1 ∧ I (i + 1) σ1 h0, bk := D.nx } σ3 h3) ∧
    ∀ σ h, I ms.length σ h → D.nx σ h) : wS Φ W0 (.for_ t it b) D σ h :=
  (sem_mono hΦ it W0).i σ h (fun _ ms g h1 => ∃ I : Nat → Sl → MH → Prop, I 0 σ h1 ∧ (∀ i σ h, i ≤ ms.length → I i σ h → gOk g h) ∧
    (∀ (i : Nat) (m : M) σ h, ms[i]? = some m → I i σ h → (sem Φ W0 t).g m σ h fun σ3 h3 => wS Φ W0 b { D with nx := fun σ1 h1 => ∃ h0, Sub h0 h1 ∧ I (i + 1) σ1 h0, ct := fun σ1 h1 => ∃ h0, Sub h0 h1 ∧ I (i + 1) σ1 h0, bk := D.nx } σ3 h3) ∧
    ∀ σ h, I ms.length σ h → D.nx σ h) (fun _ ms g h1 => forI (fun m σ2 h2 nx => (sem Φ W0 t).g m σ2 h2 fun σ3 h3 => wS Φ W0 b { D with nx := nx, ct := nx, bk := D.nx } σ3 h3) g D.nx ms σ h1) (fun k ms g h1 ⟨I, w0, ok, step, done⟩ => for_inv hΦ I w0 ok step done) w
/-- a while: an invariant with a measure -/
theorem st_while (hΦ : Φ.Mono) {c : E} {b r : S} (I : Nat → Sl → MH → Prop) (n : Nat) (w0 : I n σ h)
    (step : ∀ n σ h, I n σ h → (sem Φ W0 c).t σ h fun k h1 => if k = true then ∃ m, n = m + 1 ∧ wS Φ W0 b { D with nx := fun σ1 h1 => ∃ h0, Sub h0 h1 ∧ I m σ1 h0, ct := fun σ1 h1 => ∃ h0, Sub h0 h1 ∧ I m σ1 h0, bk := fun σ1 h1 => wS Φ W0 r D σ1 h1 } σ h1 else wS Φ W0 r D σ h1) :
    wS Φ W0 (.seq (.while_ c b) r) D σ h := by
  refine st_seq hΦ ⟨n + 1, ?_⟩
  have go : ∀ n σ h, I n σ h → whileI (sem Φ W0 c).t (fun σ2 h2 nx => wS Φ W0 b { D with nx := nx, ct := nx, bk := fun σ1 h1 => wS Φ W0 r D σ1 h1 } σ2 h2) (fun σ1 h1 => wS Φ W0 r D σ1 h1) (n + 1) σ h := by
    intro n
    induction n with
    | zero =>
      intro σ h w
      refine (sem_mono hΦ c W0).t _ _ _ _ (fun k h1 w => ?_) (step 0 σ h w)
      cases k with
      | true => rw [if_pos rfl] at w; obtain ⟨m, e, _⟩ := w; omega
      | false => rw [if_neg Bool.false_ne_true] at w ⊢; exact w
    | succ n ih =>
      intro σ h w
      refine (sem_mono hΦ c W0).t _ _ _ _ (fun k h1 w => ?_) (step (n + 1) σ h w)
      cases k with
      | true =>
        rw [if_pos rfl] at w ⊢
        obtain ⟨m, e, w2⟩ := w
        obtain rfl : m = n := by omega
        exact wS_mono hΦ b (D := { D with nx := fun σ1 h1 => ∃ h0, Sub h0 h1 ∧ I m σ1 h0, ct := fun σ1 h1 => ∃ h0, Sub h0 h1 ∧ I m σ1 h0, bk := fun σ1 h1 => wS Φ W0 r D σ1 h1 }) ⟨fun σ1 h1 ⟨h0, sb, w⟩ => ⟨h0, sb, ih σ1 h0 w⟩, fun _ _ w => w, fun _ _ w => w, fun σ1 h1 ⟨h0, sb, w⟩ => ⟨h0, sb, ih σ1 h0 w⟩⟩ w2
      | false => rw [if_neg Bool.false_ne_true] at w ⊢; exact w
  exact go n σ h w0
/-- a comprehension: what holds ahead of each turn -/
theorem compI_inv {turn : M → MH → (Option M → MH → Prop) → Prop} {g : G} {fin : List M → MH → Prop} (I : Nat → List M → MH → Prop) {ms : List M} (ok : ∀ i acc h, i ≤ ms.length → I i acc h → gOk g h)
    (step : ∀ (i : Nat) (m : M) acc h, ms[i]? = some m → I i acc h → turn m h fun r h1 => ∃ h0, Sub h0 h1 ∧ I (i + 1) (match r with | some y => acc ++ [y] | none => acc) h0)
    (mono : ∀ m h (K K' : Option M → MH → Prop), (∀ r h, K r h → K' r h) → turn m h K → turn m h K') (done : ∀ acc h, I ms.length acc h → fin acc h) :
    ∀ (k i : Nat) acc h, k = ms.length - i → i ≤ ms.length → I i acc h → compI turn g fin (ms.drop i) acc h
  | 0, i, acc, h, hk, hi, w => by
    have e : i = ms.length := by omega
    subst e
    rw [List.drop_length]
    exact ⟨ok _ _ _ hi w, done _ _ w⟩
  | k + 1, i, acc, h, hk, hi, w => by
    have lt : i < ms.length := by omega
    rw [List.drop_eq_getElem_cons lt]
    refine ⟨ok _ _ _ hi w, mono _ _ _ _ (fun r h1 ⟨h0, sb, w⟩ => ⟨h0, sb, compI_inv I ok step mono done k (i + 1) _ h0 (by omega) (by omega) w⟩) (step i _ acc h (by simp [lt]) w)⟩
/-- each item gives its value and leaves the heap -/
theorem compI_pure (hΦ : Φ.Mono) {t c e : E} {cn : Bool} {g : G} {fin : List M → MH → Prop} {τ : Sl} {ms : List M} (F : Nat → M) (ok : gOk g h) (step : ∀ (i : Nat) (m : M) (R : Option M → MH → Prop), ms[i]? = some m → R (some (F i)) h → compTurn (sem Φ W0 t) (sem Φ W0 c) (sem Φ W0 e) cn τ m h R)
    (done : fin ((List.range ms.length).map F) h) : compI (compTurn (sem Φ W0 t) (sem Φ W0 c) (sem Φ W0 e) cn τ) g fin ms [] h := by
  have := compI_inv (turn := compTurn (sem Φ W0 t) (sem Φ W0 c) (sem Φ W0 e) cn τ) (g := g) (fin := fin) (fun i acc h' => acc = (List.range i).map F ∧ h' = h) (ms := ms) (fun i acc h' _ w => by rw [w.2]; exact ok)
    (fun i m acc h' em w => by
      obtain ⟨rfl, rfl⟩ := w
      refine step i m _ em ⟨h', Sub.refl _, ?_, rfl⟩
      rw [List.range_succ, List.map_append]; rfl)
    (fun m h K K' f w => compTurn_mono (sem_mono hΦ t W0) (sem_mono hΦ c W0) (sem_mono hΦ e W0) f w) (fun acc h' w => by rw [w.1, w.2]; exact done) _ 0 [] h rfl (Nat.zero_le _) ⟨rfl, rfl⟩
  simpa using this
/-- .. what a turn lays down besides is forgotten -/
theorem compI_pureS (hΦ : Φ.Mono) {t c e : E} {cn : Bool} {g : G} {fin : List M → MH → Prop} {τ : Sl} {ms : List M} (F : Nat → M) (ok : gOk g h) (step : ∀ (i : Nat) (m : M) (R : Option M → MH → Prop), ms[i]? = some m → (∀ h', Sub h h' → R (some (F i)) h') → compTurn (sem Φ W0 t) (sem Φ W0 c) (sem Φ W0 e) cn τ m h R)
    (done : fin ((List.range ms.length).map F) h) : compI (compTurn (sem Φ W0 t) (sem Φ W0 c) (sem Φ W0 e) cn τ) g fin ms [] h := by
  have := compI_inv (turn := compTurn (sem Φ W0 t) (sem Φ W0 c) (sem Φ W0 e) cn τ) (g := g) (fin := fin) (fun i acc h' => acc = (List.range i).map F ∧ h' = h) (ms := ms) (fun i acc h' _ w => by rw [w.2]; exact ok)
    (fun i m acc h' em w => by
      obtain ⟨rfl, rfl⟩ := w
      refine step i m _ em fun h'' sb => ⟨h', sb, ?_, rfl⟩
      rw [List.range_succ, List.map_append]; rfl)
    (fun m h K K' f w => compTurn_mono (sem_mono hΦ t W0) (sem_mono hΦ c W0) (sem_mono hΦ e W0) f w) (fun acc h' w => by rw [w.1, w.2]; exact done) _ 0 [] h rfl (Nat.zero_le _) ⟨rfl, rfl⟩
  simpa using this
/-- .. with an invariant of one's own -/
theorem comp_inv (hΦ : Φ.Mono) {t c e : E} {cn : Bool} {g : G} {fin : List M → MH → Prop} {τ : Sl} {ms : List M} (I : Nat → List M → MH → Prop) (w0 : I 0 [] h) (ok : ∀ i acc h, i ≤ ms.length → I i acc h → gOk g h)
    (step : ∀ (i : Nat) (m : M) acc h, ms[i]? = some m → I i acc h → compTurn (sem Φ W0 t) (sem Φ W0 c) (sem Φ W0 e) cn τ m h fun r h1 => ∃ h0, Sub h0 h1 ∧ I (i + 1) (match r with | some y => acc ++ [y] | none => acc) h0)
    (done : ∀ acc h, I ms.length acc h → fin acc h) : compI (compTurn (sem Φ W0 t) (sem Φ W0 c) (sem Φ W0 e) cn τ) g fin ms [] h := by
  have := compI_inv (turn := compTurn (sem Φ W0 t) (sem Φ W0 c) (sem Φ W0 e) cn τ) (g := g) (fin := fin) I ok step
    (fun m h K K' f w => compTurn_mono (sem_mono hΦ t W0) (sem_mono hΦ c W0) (sem_mono hΦ e W0) f w) done _ 0 [] h rfl (Nat.zero_le _) w0
  simpa using this
end
/-- a new cell -/
theorem fresh {G : Nat → MH → Prop} {h : MH} {o : MO} (w : ∀ r h1, h r = none → (∀ a o, h a = some o → h1 a = some o) → h1 r = some o → G r h1) : ∀ r, h r = none → G r (put h r o) := fun r n => w r _ n (Sub.put n) put_same
theorem sub_putN {h h' : MH} {t : Nat} {o : MO} (s : Sub h h') (n : h t = none) : Sub h (put h' t o) := fun a u e => by
  rw [put_ne (fun z => by rw [z, n] at e; cases e)]; exact s a u e
/-! ### reading cells -/
theorem mh_ne {h : MH} {a p : Nat} {o : MO} (e : h a = some o) (n : h p = none) : a ≠ p := fun z => by rw [z, n] at e; cases e
section
variable {h : MH} {Q : KE} {a : Nat} {xs : List M} {ns : List Int} {i : Int} {v : M}
theorem ix_ref (e : h a = some (.lst xs)) (g : L2.atI xs i = some v) (q : Q v h) : ixM (.ref a) (.int i) h Q := by
  unfold ixM; simp only [e, g]; exact q
theorem at_nat {α : Type} {xs : List α} {i : Int} {v : α} (h0 : 0 ≤ i) (g : xs[i.toNat]? = some v) : L2.atI xs i = some v := by
  obtain ⟨n, rfl⟩ := Int.eq_ofNat_of_zero_le h0
  exact L2.atI_nat g
theorem getD_int {ns : List Int} {k : Nat} (h : k < ns.length) : (ns.map M.int)[k]? = some (.int (ns.getD k 0)) := by
  rw [List.getElem?_map, List.getD_eq_getElem?_getD, List.getElem?_eq_getElem h]; rfl
theorem ix_int (e : h a = some (.lst (ns.map M.int))) (h0 : 0 ≤ i) (h1 : i.toNat < ns.length) (q : Q (.int (ns.getD i.toNat 0)) h) : ixM (.ref a) (.int i) h Q :=
  ix_ref e (at_nat h0 (getD_int h1)) q
theorem ix_tup (g : L2.atI xs i = some v) (q : Q v h) : ixM (.tup xs) (.int i) h Q := by
  unfold ixM; simp only [g]; exact q
theorem ix_rol (g : L2.atI xs i = some v) (q : Q v h) : ixM (.rol xs) (.int i) h Q := by
  unfold ixM; simp only [g]; exact q
theorem asQ_ref {K : KQ} (e : h a = some (.lst xs)) (q : K .l xs [(a, xs)] h) : asQ (.ref a) h K := by
  unfold asQ; simp only [e]; exact q
theorem len_ref (e : h a = some (.lst xs)) : lenM (.ref a) h = some xs.length := by unfold lenM; simp only [e]
theorem len_int (e : h a = some (.lst (ns.map M.int))) : lenM (.ref a) h = some ns.length := by rw [len_ref e, List.length_map]
theorem lst_ok (e : h a = some (.lst xs)) : lstM (.ref a) h := by unfold lstM; simp only [e]
theorem append_ref {y : M} (e : h a = some (.lst xs)) (l : xs.length < SZ) (q : Q .non (put h a (.lst (xs ++ [y])))) : lstM (.ref a) h ∧ methM .append (.ref a) [y] h Q := by
  refine ⟨by unfold lstM; simp only [e], ?_⟩
  unfold methM; simp only [e]; exact ⟨l, q⟩
theorem ixN_nat {n j : Nat} {i : Int} (e : i.toNat = j) (h0 : 0 ≤ i) (h : j < n) : L2.ixN n i = some j := by
  unfold L2.ixN
  rw [if_pos h0, if_pos (by omega), e]
theorem set_ref {m : M} {K : MH → Prop} {j : Nat} (e : h a = some (.lst xs)) (hj : L2.ixN xs.length i = some j) (q : K (put h a (.lst (xs.set j m)))) : setM (.ref a) (.int i) m h K := by
  unfold setM; simp only [e, hj]; exact q
end
theorem enum_get {ms : List M} {i : Nat} {m : M} (e : (enumL 0 ms)[i]? = some m) : ∃ v, ms[i]? = some v ∧ m = .tup [.int (i : Nat), v] := by
  have hl : i < ms.length := by
    have := (List.getElem?_eq_some_iff.mp e).1
    rwa [enumL_length] at this
  have g := enumL_get 0 ms i ms[i] (List.getElem?_eq_getElem hl)
  rw [g] at e
  refine ⟨ms[i], List.getElem?_eq_getElem hl, ?_⟩
  have := Option.some.inj e
  rw [← this]; simp
theorem bq_max {k : QK} {h : MH} {K : KE} {f : Nat → Int} {n : Nat} (hk : k.isT = false) (hn : 0 < n) (q : ∀ m, K (.int m) h) : bqM .max k ((List.range n).map fun j => .int (f j)) h K :=
  ⟨hk, (List.range n).map f, by rw [List.map_map]; rfl, by simpa using hn, fun m _ _ => q m⟩
theorem cut_take {ns : List Int} {g : Nat} : cutM (ns.map M.int) none (some (g : Nat)) = (ns.take g).map M.int := by
  unfold cutM
  have e1 : HT.sIx (ns.map M.int).length 0 none = 0 := HT.sIx_none _ _
  have e2 : HT.sIx (ns.map M.int).length (ns.map M.int).length (some ((g : Nat) : Int)) = min g (ns.map M.int).length := HT.sIx_nat _ _ _
  rw [e1, e2, List.drop_zero, Nat.sub_zero, List.map_take, List.length_map]
  by_cases h : g ≤ ns.length
  · rw [Nat.min_eq_left h]
  · rw [Nat.min_eq_right (by omega), List.take_of_length_le (by simp), List.take_of_length_le (by simp; omega)]
theorem sl_ref {h : MH} {Q : KE} {a : Nat} {xs : List M} {l u : Option Int} (e : h a = some (.lst xs)) (q : ∀ p, h p = none → Q (.ref p) (put h p (.lst (cutM xs l u)))) : slM (.ref a) l u h Q := by
  unfold slM; simp only [e]; exact q
theorem bq_sum {k : QK} {h : MH} {K : KE} {f : Nat → Int} {n : Nat} (hk : k.isT = false) (q : K (.int ((List.range n).map f).sum) h) : bqM .sum k ((List.range n).map fun j => .int (f j)) h K :=
  ⟨hk, (List.range n).map f, by rw [List.map_map]; rfl, q⟩
theorem rng_get {lo c : Int} {n i : Nat} {m : M} (e : (rngL lo c n)[i]? = some m) : i < n ∧ m = .int (lo + i * c) := by
  have hl : i < n := by
    have := (List.getElem?_eq_some_iff.mp e).1
    rwa [rngL_length] at this
  rw [rngL_get c n lo i hl] at e
  exact ⟨hl, (Option.some.inj e).symm⟩
theorem intmap_get {ns : List Int} {i : Nat} {m : M} (e : (ns.map M.int)[i]? = some m) : ∃ n, ns[i]? = some n ∧ m = .int n := by
  rw [List.getElem?_map] at e
  cases q : ns[i]? with
  | none => rw [q] at e; cases e
  | some n => rw [q] at e; exact ⟨n, rfl, (Option.some.inj e).symm⟩
end Mp

set_option Elab.async false
set_option linter.all false
set_option maxRecDepth 100000
namespace Mp.K39
open PySem PySem.Spec PyProof.Rows L2 Mp
def topS (i : Nat) : Stmt := PySem.Challenge.pw_poleheaps_k39_count_lists_by_sums.main.body.getD i (.Pass ⟨0, 0, 0, 0⟩)
/-- raised: 0 a, 1 e, 2 found -/
def t_raised : S := (.seq (.asg (.var 2) (.int 1)) (.seq (.while_ (.cmp .gt (.var 1) (.int 0)) (.seq (.iff (.cmp .eq (.op .mod (.var 1) (.int 2)) (.int 1)) (.aug .mul 2 (.var 0)) .skip) (.seq (.aug .fdiv 1 (.int 2)) (.iff (.cmp .gt (.var 1) (.int 0)) (.aug .mul 0 (.var 0)) .skip)))) (.ret (.var 2))))
def n_raised : List Str := ["a", "e", "found"]
def c_raised : List (String × Nat) := []
abbrev s_raised : Stmt := topS 1
/-- list_made: 0 q, 1 counts, 2 found, 3 n, 4 i, 5 total -/
def t_list_made : S := (.seq (.asg (.var 2) (.lst (.cons (.int 1) .nil))) (.seq (.for_ (.var 3) (.rng (.cons (.int 1) (.cons (.op .add (.bi .len (.cons (.var 1) .nil)) (.int 1)) .nil))) (.seq (.asg (.var 5) (.bq .sum (.comp [4] (.var 4) (.rng (.cons (.var 3) .nil)) .nil (.op .mul (.op .sub (.op .sub (.ix (.var 1) (.op .sub (.op .sub (.var 3) (.var 4)) (.int 1))) (.call "raised" (.cons (.var 0) (.cons (.op .sub (.var 3) (.var 4)) .nil)))) (.int 1)) (.ix (.var 2) (.var 4)))))) (.seq (.iff (.cmp .ne (.op .mod (.var 5) (.var 3)) (.int 0)) (.ret .non) .skip) (.expr (.meth .append (.var 2) (.cons (.op .fdiv (.var 5) (.var 3)) .nil)))))) (.seq (.for_ (.var 4) (.rng (.cons (.op .sub (.bi .len (.cons (.var 1) .nil)) (.int 1)) (.cons (.neg (.int 1)) (.cons (.neg (.int 1)) .nil)))) (.expr (.meth .append (.var 2) (.cons (.op .mul (.call "raised" (.cons (.var 0) (.cons (.op .sub (.bi .len (.cons (.var 1) .nil)) (.var 4)) .nil))) (.ix (.var 2) (.var 4))) .nil)))) (.ret (.var 2)))))
def n_list_made : List Str := ["q", "counts", "found", "n", "i", "total"]
def c_list_made : List (String × Nat) := [("raised", 2)]
abbrev s_list_made : Stmt := topS 3
/-- list_of_counts: 0 p, 1 counts -/
def t_list_of_counts : S := (.ret (.call "list_made" (.cons (.var 0) (.cons (.var 1) .nil))))
def n_list_of_counts : List Str := ["p", "counts"]
def c_list_of_counts : List (String × Nat) := [("list_made", 2)]
abbrev s_list_of_counts : Stmt := topS 4
/-- counts_of: 0 p, 1 items, 2 most, 3 sums, 4 n, 5 lead, 6 one, 7 i -/
def t_counts_of : S := (.seq (.asg (.var 3) (.lst .nil)) (.seq (.for_ (.var 4) (.rng (.cons (.int 1) (.cons (.op .add (.var 2) (.int 1)) .nil))) (.seq (.asg (.var 5) (.ife (.cmp .lt (.var 4) (.bi .len (.cons (.var 1) .nil))) (.op .mul (.var 4) (.ix (.var 1) (.var 4))) (.int 0))) (.expr (.meth .append (.var 3) (.cons (.op .sub (.var 5) (.bq .sum (.comp [7] (.var 7) (.rng (.cons (.int 1) (.cons (.bi .min2 (.cons (.var 4) (.cons (.bi .len (.cons (.var 1) .nil)) .nil))) .nil))) .nil (.op .mul (.ix (.var 3) (.op .sub (.op .sub (.var 4) (.var 7)) (.int 1))) (.ix (.var 1) (.var 7)))))) .nil))))) (.ret (.comp [4, 6] (.tup (.cons (.var 4) (.cons (.var 6) .nil))) (.enum (.var 3)) .nil (.op .add (.op .add (.var 6) (.call "raised" (.cons (.var 0) (.cons (.op .add (.var 4) (.int 1)) .nil)))) (.int 1))))))
def n_counts_of : List Str := ["p", "items", "most", "sums", "n", "lead", "one", "i"]
def c_counts_of : List (String × Nat) := [("raised", 2)]
abbrev s_counts_of : Stmt := topS 5
/-- list_over: 0 p, 1 items, 2 n, 3 g, 4 counts, 5 k -/
def t_list_over : S := (.seq (.asg (.var 3) (.op .fdiv (.bi .len (.cons (.var 1) .nil)) (.int 2))) (.seq (.asg (.var 4) (.call "counts_of" (.cons (.var 0) (.cons (.var 1) (.cons (.op .mul (.var 3) (.var 2)) .nil))))) (.ret (.call "list_made" (.cons (.call "raised" (.cons (.var 0) (.cons (.var 2) .nil))) (.cons (.comp [5] (.var 5) (.rng (.cons (.int 1) (.cons (.op .add (.var 3) (.int 1)) .nil))) .nil (.ix (.var 4) (.op .sub (.op .mul (.var 2) (.var 5)) (.int 1)))) .nil))))))
def n_list_over : List Str := ["p", "items", "n", "g", "counts", "k"]
def c_list_over : List (String × Nat) := [("list_made", 2), ("raised", 2), ("counts_of", 3)]
abbrev s_list_over : Stmt := topS 6
/-- _law_deck: 0 script, 1 seed, 2 cell -/
def t_law_deck : S := (.seq (.asg (.var 1) (.int 7)) (.seq (.for_ (.var 2) (.var 0) (.asg (.var 1) (.op .mod (.bi .int (.cons (.op .add (.op .mul (.var 1) (.int 48271)) (.var 2)) .nil)) (.int 2147483647)))) (.ret (.lst (.cons (.int 0) (.cons (.int 0) (.cons (.var 1) (.cons (.bl1 .list (.var 0)) (.cons (.int 0) .nil)))))))))
def n_law_deck : List Str := ["script", "seed", "cell"]
def c_law_deck : List (String × Nat) := []
abbrev s_law_deck : Stmt := topS 8
/-- _law_draw: 0 deck, 1 bound, 2 value, 3 number -/
def t_law_draw : S := (.seq (.iff (.and (.cmp .eq (.ix (.var 0) (.int 0)) (.int 0)) (.cmp .lt (.ix (.var 0) (.int 1)) (.bi .len (.cons (.ix (.var 0) (.int 3)) .nil)))) (.seq (.asg (.ix (.var 0) (.int 0)) (.bi .abs (.cons (.ix (.ix (.var 0) (.int 3)) (.ix (.var 0) (.int 1))) .nil))) (.asg (.ix (.var 0) (.int 1)) (.op .add (.ix (.var 0) (.int 1)) (.int 1)))) (.iff (.cmp .eq (.ix (.var 0) (.int 0)) (.int 0)) (.seq (.asg (.ix (.var 0) (.int 4)) (.op .add (.ix (.var 0) (.int 4)) (.int 1))) (.seq (.asg (.var 3) (.op .mod (.bi .int (.cons (.op .add (.op .add (.op .mul (.ix (.var 0) (.int 2)) (.int 48271)) (.op .mul (.ix (.var 0) (.int 4)) (.int 69621))) (.int 12345)) .nil)) (.int 2147483647))) (.seq (.asg (.var 3) (.op .mod (.bi .int (.cons (.op .add (.op .add (.op .mul (.var 3) (.var 3)) (.op .mul (.int 16807) (.ix (.var 0) (.int 4)))) (.int 7)) .nil)) (.int 998244353))) (.seq (.asg (.var 3) (.op .mod (.bi .int (.cons (.op .add (.op .add (.op .mul (.var 3) (.var 3)) (.op .mul (.int 48271) (.ix (.var 0) (.int 4)))) (.ix (.var 0) (.int 2))) .nil)) (.int 2147483629))) (.asg (.ix (.var 0) (.int 0)) (.op .fdiv (.var 3) (.int 13))))))) .skip)) (.seq (.asg (.var 2) (.op .mod (.bi .int (.cons (.ix (.var 0) (.int 0)) .nil)) (.var 1))) (.seq (.asg (.ix (.var 0) (.int 0)) (.op .fdiv (.ix (.var 0) (.int 0)) (.var 1))) (.ret (.var 2)))))
def n_law_draw : List Str := ["deck", "bound", "value", "number"]
def c_law_draw : List (String × Nat) := []
abbrev s_law_draw : Stmt := topS 9
/-- _law_is: 0 value, 1 due -/
def t_law_is : S := (.ret (.and (.cmp .eq (.var 0) (.var 1)) (.cmp .eq (.bi .repr (.cons (.var 0) .nil)) (.bi .repr (.cons (.var 1) .nil)))))
def n_law_is : List Str := ["value", "due"]
def c_law_is : List (String × Nat) := []
abbrev s_law_is : Stmt := topS 10
/-- _law_primes:  -/
def t_law_primes : S := (.ret (.lst (.cons (.int 3) (.cons (.int 5) (.cons (.int 7) (.cons (.int 11) (.cons (.int 13) (.cons (.int 17) (.cons (.int 19) (.cons (.int 23) (.cons (.int 29) (.cons (.int 31) (.cons (.int 37) (.cons (.int 41) (.cons (.int 43) (.cons (.int 47) (.cons (.int 53) (.cons (.int 59) (.cons (.int 61) .nil)))))))))))))))))))
def n_law_primes : List Str := []
def c_law_primes : List (String × Nat) := []
abbrev s_law_primes : Stmt := topS 11
/-- _law_raised: 0 a, 1 e, 2 found, 3 turn -/
def t_law_raised : S := (.seq (.asg (.var 2) (.int 1)) (.seq (.for_ (.var 3) (.rng (.cons (.var 1) .nil)) (.asg (.var 2) (.op .mul (.var 2) (.var 0)))) (.ret (.var 2))))
def n_law_raised : List Str := ["a", "e", "found", "turn"]
def c_law_raised : List (String × Nat) := []
abbrev s_law_raised : Stmt := topS 12
/-- _law_sums: 0 items, 1 most, 2 found, 3 n, 4 total, 5 i -/
def t_law_sums : S := (.seq (.asg (.var 2) (.lst (.cons (.int 0) .nil))) (.seq (.for_ (.var 3) (.rng (.cons (.int 1) (.cons (.op .add (.var 1) (.int 1)) .nil))) (.seq (.asg (.var 4) (.int 0)) (.seq (.iff (.cmp .lt (.var 3) (.bi .len (.cons (.var 0) .nil))) (.asg (.var 4) (.op .mul (.neg (.var 3)) (.ix (.var 0) (.var 3)))) .skip) (.seq (.for_ (.var 5) (.rng (.cons (.int 1) (.cons (.var 3) .nil))) (.iff (.cmp .lt (.var 5) (.bi .len (.cons (.var 0) .nil))) (.asg (.var 4) (.op .sub (.var 4) (.op .mul (.ix (.var 0) (.var 5)) (.ix (.var 2) (.op .sub (.var 3) (.var 5)))))) .skip)) (.expr (.meth .append (.var 2) (.cons (.var 4) .nil))))))) (.ret (.var 2))))
def n_law_sums : List Str := ["items", "most", "found", "n", "total", "i"]
def c_law_sums : List (String × Nat) := []
abbrev s_law_sums : Stmt := topS 13
/-- _law_of_sums: 0 sums, 1 q, 2 g, 3 items, 4 n, 5 i, 6 total -/
def t_law_of_sums : S := (.seq (.asg (.var 3) (.lst (.cons (.int 1) .nil))) (.seq (.for_ (.var 4) (.rng (.cons (.int 1) (.cons (.op .add (.var 2) (.int 1)) .nil))) (.seq (.asg (.var 6) (.neg (.bq .sum (.comp [5] (.var 5) (.rng (.cons (.int 1) (.cons (.op .add (.var 4) (.int 1)) .nil))) .nil (.op .mul (.ix (.var 0) (.var 5)) (.ix (.var 3) (.op .sub (.var 4) (.var 5)))))))) (.seq (.iff (.cmp .ne (.op .mod (.bi .int (.cons (.var 6) .nil)) (.var 4)) (.int 0)) (.ret .non) .skip) (.expr (.meth .append (.var 3) (.cons (.op .fdiv (.var 6) (.var 4)) .nil)))))) (.seq (.for_ (.var 5) (.rng (.cons (.op .sub (.var 2) (.int 1)) (.cons (.neg (.int 1)) (.cons (.neg (.int 1)) .nil)))) (.expr (.meth .append (.var 3) (.cons (.op .mul (.call "_law_raised" (.cons (.var 1) (.cons (.op .sub (.var 2) (.var 5)) .nil))) (.ix (.var 3) (.var 5))) .nil)))) (.ret (.var 3)))))
def n_law_of_sums : List Str := ["sums", "q", "g", "items", "n", "i", "total"]
def c_law_of_sums : List (String × Nat) := [("_law_raised", 2)]
abbrev s_law_of_sums : Stmt := topS 14
/-- _law_counts: 0 p, 1 items, 2 most, 3 sums, 4 n -/
def t_law_counts : S := (.seq (.asg (.var 3) (.call "_law_sums" (.cons (.var 1) (.cons (.var 2) .nil)))) (.ret (.comp [4] (.var 4) (.rng (.cons (.int 1) (.cons (.op .add (.var 2) (.int 1)) .nil))) .nil (.op .sub (.op .add (.call "_law_raised" (.cons (.var 0) (.cons (.var 4) .nil))) (.int 1)) (.ix (.var 3) (.var 4))))))
def n_law_counts : List Str := ["p", "items", "most", "sums", "n"]
def c_law_counts : List (String × Nat) := [("_law_raised", 2), ("_law_sums", 2)]
abbrev s_law_counts : Stmt := topS 15
/-- _law_product: 0 a, 1 b, 2 made, 3 i, 4 j -/
def t_law_product : S := (.seq (.asg (.var 2) (.op .mul (.lst (.cons (.int 0) .nil)) (.op .sub (.op .add (.bi .len (.cons (.var 0) .nil)) (.bi .len (.cons (.var 1) .nil))) (.int 1)))) (.seq (.for_ (.var 3) (.rng (.cons (.bi .len (.cons (.var 0) .nil)) .nil)) (.for_ (.var 4) (.rng (.cons (.bi .len (.cons (.var 1) .nil)) .nil)) (.asg (.ix (.var 2) (.op .add (.var 3) (.var 4))) (.op .add (.ix (.var 2) (.op .add (.var 3) (.var 4))) (.op .mul (.ix (.var 0) (.var 3)) (.ix (.var 1) (.var 4))))))) (.ret (.var 2))))
def n_law_product : List Str := ["a", "b", "made", "i", "j"]
def c_law_product : List (String × Nat) := []
abbrev s_law_product : Stmt := topS 16
/-- _law_list: 0 deck, 1 p, 2 g, 3 most, 4 items, 5 i, 6 k -/
def t_law_list : S := (.seq (.asg (.var 4) (.op .add (.lst (.cons (.int 1) .nil)) (.comp [6] (.var 6) (.rng (.cons (.var 2) .nil)) .nil (.op .sub (.call "_law_draw" (.cons (.var 0) (.cons (.op .add (.op .mul (.int 2) (.var 3)) (.int 1)) .nil))) (.var 3))))) (.seq (.for_ (.var 5) (.rng (.cons (.op .sub (.var 2) (.int 1)) (.cons (.neg (.int 1)) (.cons (.neg (.int 1)) .nil)))) (.expr (.meth .append (.var 4) (.cons (.op .mul (.call "_law_raised" (.cons (.var 1) (.cons (.op .sub (.var 2) (.var 5)) .nil))) (.ix (.var 4) (.var 5))) .nil)))) (.ret (.var 4))))
def n_law_list : List Str := ["deck", "p", "g", "most", "items", "i", "k"]
def c_law_list : List (String × Nat) := [("_law_raised", 2), ("_law_draw", 2)]
abbrev s_law_list : Stmt := topS 17
/-- _law_twin: 0 items, 1 k -/
def t_law_twin : S := (.ret (.comp [1] (.var 1) (.rng (.cons (.bi .len (.cons (.var 0) .nil)) .nil)) .nil (.op .mul (.ix (.var 0) (.var 1)) (.ix (.lst (.cons (.int 1) (.cons (.neg (.int 1)) .nil))) (.op .mod (.bi .int (.cons (.var 1) .nil)) (.int 2))))))
def n_law_twin : List Str := ["items", "k"]
def c_law_twin : List (String × Nat) := []
abbrev s_law_twin : Stmt := topS 18
/-- _law_is_counted: 0 p, 1 items, 2 g, 3 due, 4 told, 5 handed, 6 again, 7 n -/
def t_law_is_counted : S := (.seq (.asg (.var 3) (.call "_law_counts" (.cons (.var 0) (.cons (.var 1) (.cons (.int 40) .nil))))) (.seq (.asg (.var 4) (.call "counts_of" (.cons (.var 0) (.cons (.bl1 .list (.var 1)) (.cons (.int 40) .nil))))) (.seq (.iff (.not (.call "_law_is" (.cons (.lst (.cons (.var 4) (.cons (.call "counts_of" (.cons (.var 0) (.cons (.bl1 .list (.var 1)) (.cons (.int 0) .nil)))) (.cons (.call "counts_of" (.cons (.var 0) (.cons (.bl1 .list (.var 1)) (.cons (.var 2) .nil)))) (.cons (.call "list_over" (.cons (.var 0) (.cons (.bl1 .list (.var 1)) (.cons (.int 1) .nil)))) .nil))))) (.cons (.lst (.cons (.var 3) (.cons (.lst .nil) (.cons (.sl (.var 3) .non (.var 2)) (.cons (.var 1) .nil))))) .nil)))) (.ret (.bl false)) .skip) (.seq (.expr (.meth .append (.var 4) (.cons (.int 0) .nil))) (.seq (.iff (.not (.call "_law_is" (.cons (.call "counts_of" (.cons (.var 0) (.cons (.bl1 .list (.var 1)) (.cons (.int 40) .nil)))) (.cons (.var 3) .nil)))) (.ret (.bl false)) .skip) (.seq (.iff (.cmp .gt (.bq .max (.comp [7] (.var 7) (.sl (.var 3) .non (.var 2)) .nil (.bi .abs (.cons (.var 7) .nil)))) (.op .pow (.int 10) (.int 9))) (.ret (.bl true)) .skip) (.seq (.asg (.var 5) (.sl (.var 3) .non (.var 2))) (.seq (.asg (.var 6) (.call "list_of_counts" (.cons (.var 0) (.cons (.var 5) .nil)))) (.seq (.iff (.not (.call "_law_is" (.cons (.lst (.cons (.var 6) (.cons (.var 5) .nil))) (.cons (.lst (.cons (.var 1) (.cons (.sl (.var 3) .non (.var 2)) .nil))) .nil)))) (.ret (.bl false)) .skip) (.seq (.expr (.meth .append (.var 6) (.cons (.int 0) .nil))) (.ret (.call "_law_is" (.cons (.call "list_of_counts" (.cons (.var 0) (.cons (.sl (.var 3) .non (.var 2)) .nil))) (.cons (.var 1) .nil))))))))))))))
def n_law_is_counted : List Str := ["p", "items", "g", "due", "told", "handed", "again", "n"]
def c_law_is_counted : List (String × Nat) := [("_law_is", 2), ("list_of_counts", 2), ("counts_of", 3), ("list_over", 3), ("_law_counts", 3)]
abbrev s_law_is_counted : Stmt := topS 19
/-- _law_is_changed: 0 deck, 1 p, 2 items, 3 g, 4 due, 5 at, 6 sums, 7 made, 8 k, 9 n, 10 a -/
def t_law_is_changed : S := (.seq (.asg (.var 4) (.call "_law_counts" (.cons (.var 1) (.cons (.var 2) (.cons (.var 3) .nil))))) (.seq (.asg (.var 5) (.call "_law_draw" (.cons (.var 0) (.cons (.var 3) .nil)))) (.seq (.asg (.ix (.var 4) (.var 5)) (.op .add (.ix (.var 4) (.var 5)) (.ix (.lst (.cons (.int 1) (.cons (.neg (.int 1)) (.cons (.int 2) (.cons (.int 3) (.cons (.int 6) (.cons (.int 12) (.cons (.neg (.int 24)) .nil)))))))) (.call "_law_draw" (.cons (.var 0) (.cons (.int 7) .nil)))))) (.seq (.iff (.cmp .eq (.call "_law_draw" (.cons (.var 0) (.cons (.int 3) .nil))) (.int 0)) (.asg (.var 4) (.comp [8] (.var 8) (.rng (.cons (.op .add (.int 1) (.call "_law_draw" (.cons (.var 0) (.cons (.int 4) .nil)))) .nil)) .nil (.op .mul (.call "_law_draw" (.cons (.var 0) (.cons (.ix (.lst (.cons (.int 9) (.cons (.int 2000) (.cons (.op .pow (.int 10) (.int 9)) .nil)))) (.call "_law_draw" (.cons (.var 0) (.cons (.int 3) .nil)))) .nil))) (.ix (.lst (.cons (.int 1) (.cons (.neg (.int 1)) .nil))) (.call "_law_draw" (.cons (.var 0) (.cons (.int 2) .nil))))))) .skip) (.seq (.iff (.cmp .gt (.bq .max (.comp [9] (.var 9) (.var 4) .nil (.bi .abs (.cons (.var 9) .nil)))) (.op .pow (.int 10) (.int 9))) (.ret (.bl true)) .skip) (.seq (.asg (.var 6) (.op .add (.lst (.cons (.int 0) .nil)) (.comp [9] (.var 9) (.rng (.cons (.bi .len (.cons (.var 4) .nil)) .nil)) .nil (.op .sub (.op .add (.call "_law_raised" (.cons (.var 1) (.cons (.op .add (.var 9) (.int 1)) .nil))) (.int 1)) (.ix (.var 4) (.var 9)))))) (.seq (.asg (.var 7) (.call "_law_of_sums" (.cons (.var 6) (.cons (.var 1) (.cons (.bi .len (.cons (.var 4) .nil)) .nil))))) (.seq (.iff (.not (.call "_law_is" (.cons (.call "list_of_counts" (.cons (.var 1) (.cons (.bl1 .list (.var 4)) .nil))) (.cons (.var 7) .nil)))) (.ret (.bl false)) .skip) (.ret (.or (.cmp .is (.var 7) .non) (.or (.cmp .gt (.bq .max (.comp [10] (.var 10) (.sl (.var 7) .non (.op .add (.bi .len (.cons (.var 4) .nil)) (.int 1))) .nil (.bi .abs (.cons (.var 10) .nil)))) (.op .pow (.int 10) (.int 9))) (.call "_law_is" (.cons (.call "counts_of" (.cons (.var 1) (.cons (.var 7) (.cons (.bi .len (.cons (.var 4) .nil)) .nil)))) (.cons (.var 4) .nil))))))))))))))
def n_law_is_changed : List Str := ["deck", "p", "items", "g", "due", "at", "sums", "made", "k", "n", "a"]
def c_law_is_changed : List (String × Nat) := [("_law_is", 2), ("counts_of", 3), ("list_of_counts", 2), ("_law_of_sums", 3), ("_law_raised", 2), ("_law_draw", 2), ("_law_counts", 3)]
abbrev s_law_is_changed : Stmt := topS 20
/-- _law_is_joined: 0 deck, 1 p, 2 g, 3 both, 4 told, 5 due, 6 size, 7 one, 8 other, 9 items, 10 n -/
def t_law_is_joined : S := (.seq (.asg (.var 2) (.op .add (.int 1) (.call "_law_draw" (.cons (.var 0) (.cons (.int 3) .nil))))) (.seq (.asg (.tup (.cons (.var 7) (.cons (.var 8) .nil))) (.tup (.cons (.call "_law_list" (.cons (.var 0) (.cons (.var 1) (.cons (.var 2) (.cons (.ix (.lst (.cons (.int 5) (.cons (.int 60) .nil))) (.call "_law_draw" (.cons (.var 0) (.cons (.int 2) .nil)))) .nil))))) (.cons (.call "_law_list" (.cons (.var 0) (.cons (.var 1) (.cons (.op .add (.int 1) (.call "_law_draw" (.cons (.var 0) (.cons (.op .sub (.int 4) (.var 2)) .nil)))) (.cons (.ix (.lst (.cons (.int 5) (.cons (.int 60) .nil))) (.call "_law_draw" (.cons (.var 0) (.cons (.int 2) .nil)))) .nil))))) .nil)))) (.seq (.iff (.and (.cmp .lt (.var 2) (.int 3)) (.cmp .eq (.call "_law_draw" (.cons (.var 0) (.cons (.int 3) .nil))) (.int 0))) (.asg (.var 8) (.var 7)) .skip) (.seq (.asg (.var 3) (.call "_law_product" (.cons (.var 7) (.cons (.var 8) .nil)))) (.seq (.asg (.var 4) (.comp [9] (.var 9) (.lst (.cons (.var 7) (.cons (.var 8) (.cons (.var 3) .nil)))) .nil (.call "counts_of" (.cons (.var 1) (.cons (.var 9) (.cons (.int 12) .nil)))))) (.seq (.asg (.var 5) (.comp [10] (.var 10) (.rng (.cons (.int 12) .nil)) .nil (.op .sub (.op .sub (.op .add (.ix (.ix (.var 4) (.int 0)) (.var 10)) (.ix (.ix (.var 4) (.int 1)) (.var 10))) (.call "_law_raised" (.cons (.var 1) (.cons (.op .add (.var 10) (.int 1)) .nil)))) (.int 1)))) (.seq (.iff (.or (.not (.call "_law_is" (.cons (.ix (.var 4) (.int 2)) (.cons (.var 5) .nil)))) (.not (.call "_law_is" (.cons (.ix (.var 4) (.int 2)) (.cons (.call "_law_counts" (.cons (.var 1) (.cons (.var 3) (.cons (.int 12) .nil)))) .nil))))) (.ret (.bl false)) .skip) (.seq (.asg (.var 6) (.op .fdiv (.bi .len (.cons (.var 3) .nil)) (.int 2))) (.ret (.or (.cmp .gt (.bq .max (.comp [10] (.var 10) (.sl (.var 5) .non (.var 6)) .nil (.bi .abs (.cons (.var 10) .nil)))) (.op .pow (.int 10) (.int 9))) (.call "_law_is" (.cons (.call "list_of_counts" (.cons (.var 1) (.cons (.sl (.var 5) .non (.var 6)) .nil))) (.cons (.var 3) .nil)))))))))))))
def n_law_is_joined : List Str := ["deck", "p", "g", "both", "told", "due", "size", "one", "other", "items", "n"]
def c_law_is_joined : List (String × Nat) := [("_law_is", 2), ("list_of_counts", 2), ("_law_counts", 3), ("_law_raised", 2), ("counts_of", 3), ("_law_product", 2), ("_law_draw", 2), ("_law_list", 4)]
abbrev s_law_is_joined : Stmt := topS 21
/-- _law_is_twin: 0 p, 1 items, 2 due, 3 n, 4 told, 5 other -/
def t_law_is_twin : S := (.seq (.asg (.tup (.cons (.var 4) (.cons (.var 5) .nil))) (.tup (.cons (.call "counts_of" (.cons (.var 0) (.cons (.var 1) (.cons (.int 20) .nil)))) (.cons (.call "counts_of" (.cons (.var 0) (.cons (.call "_law_twin" (.cons (.var 1) .nil)) (.cons (.int 20) .nil)))) .nil)))) (.seq (.asg (.var 2) (.lst .nil)) (.seq (.for_ (.var 3) (.rng (.cons (.int 1) (.cons (.int 21) .nil))) (.expr (.meth .append (.var 2) (.cons (.ix (.lst (.cons (.ix (.var 4) (.op .sub (.var 3) (.int 1))) (.cons (.op .sub (.op .add (.op .mul (.int 2) (.call "_law_raised" (.cons (.var 0) (.cons (.var 3) .nil)))) (.int 2)) (.ix (.var 4) (.op .sub (.var 3) (.int 1)))) .nil))) (.op .mod (.bi .int (.cons (.var 3) .nil)) (.int 2))) .nil)))) (.ret (.call "_law_is" (.cons (.var 5) (.cons (.var 2) .nil)))))))
def n_law_is_twin : List Str := ["p", "items", "due", "n", "told", "other"]
def c_law_is_twin : List (String × Nat) := [("_law_is", 2), ("_law_raised", 2), ("counts_of", 3), ("_law_twin", 1)]
abbrev s_law_is_twin : Stmt := topS 22
/-- law: 0 script, 1 deck, 2 kept, 3 turn, 4 q, 5 other, 6 told, 7 items, 8 p, 9 g, 10 i -/
def t_law : S := (.seq (.asg (.var 1) (.call "_law_deck" (.cons (.var 0) .nil))) (.seq (.asg (.var 2) (.lst .nil)) (.seq (.for_ (.var 3) (.rng (.cons (.int 3) .nil)) (.seq (.asg (.tup (.cons (.var 8) (.cons (.var 9) .nil))) (.tup (.cons (.ix (.call "_law_primes" .nil) (.call "_law_draw" (.cons (.var 1) (.cons (.int 17) .nil)))) (.cons (.op .add (.int 1) (.call "_law_draw" (.cons (.var 1) (.cons (.int 4) .nil)))) .nil)))) (.seq (.asg (.var 7) (.call "_law_list" (.cons (.var 1) (.cons (.var 8) (.cons (.var 9) (.cons (.ix (.lst (.cons (.int 3) (.cons (.int 40) (.cons (.int 3000) (.cons (.op .pow (.int 10) (.int 9)) .nil))))) (.call "_law_draw" (.cons (.var 1) (.cons (.int 4) .nil)))) .nil)))))) (.seq (.expr (.meth .append (.var 2) (.cons (.tup (.cons (.var 8) (.cons (.var 7) (.cons (.var 9) .nil)))) .nil))) (.seq (.iff (.or (.not (.call "_law_is_counted" (.cons (.var 8) (.cons (.var 7) (.cons (.var 9) .nil))))) (.or (.not (.call "_law_is_changed" (.cons (.var 1) (.cons (.var 8) (.cons (.var 7) (.cons (.var 9) .nil)))))) (.not (.call "_law_is_twin" (.cons (.var 8) (.cons (.var 7) .nil)))))) (.ret (.bl false)) .skip) (.iff (.not (.call "_law_is_joined" (.cons (.var 1) (.cons (.var 8) .nil)))) (.ret (.bl false)) .skip)))))) (.seq (.asg (.tup (.cons (.var 8) (.cons (.var 7) (.cons (.var 9) .nil)))) (.ix (.var 2) (.int 0))) (.seq (.asg (.var 4) (.ix (.call "_law_primes" .nil) (.call "_law_draw" (.cons (.var 1) (.cons (.int 17) .nil))))) (.seq (.asg (.var 5) (.op .add (.sl (.var 7) .non (.op .add (.var 9) (.int 1))) (.comp [10] (.var 10) (.rng (.cons (.op .sub (.var 9) (.int 1)) (.cons (.neg (.int 1)) (.cons (.neg (.int 1)) .nil)))) .nil (.op .mul (.call "_law_raised" (.cons (.var 4) (.cons (.op .sub (.var 9) (.var 10)) .nil))) (.ix (.var 7) (.var 10)))))) (.seq (.asg (.var 6) (.lst (.cons (.call "counts_of" (.cons (.var 8) (.cons (.var 7) (.cons (.int 3) .nil)))) (.cons (.call "counts_of" (.cons (.var 4) (.cons (.var 5) (.cons (.int 3) .nil)))) (.cons (.call "counts_of" (.cons (.var 8) (.cons (.var 7) (.cons (.int 3) .nil)))) .nil))))) (.ret (.call "_law_is" (.cons (.var 6) (.cons (.lst (.cons (.call "_law_counts" (.cons (.var 8) (.cons (.var 7) (.cons (.int 3) .nil)))) (.cons (.call "_law_counts" (.cons (.var 4) (.cons (.var 5) (.cons (.int 3) .nil)))) (.cons (.call "_law_counts" (.cons (.var 8) (.cons (.var 7) (.cons (.int 3) .nil)))) .nil)))) .nil)))))))))))
def n_law : List Str := ["script", "deck", "kept", "turn", "q", "other", "told", "items", "p", "g", "i"]
def c_law : List (String × Nat) := [("_law_is", 2), ("_law_counts", 3), ("counts_of", 3), ("_law_raised", 2), ("_law_primes", 0), ("_law_draw", 2), ("_law_is_joined", 2), ("_law_is_twin", 2), ("_law_is_changed", 4), ("_law_is_counted", 3), ("_law_list", 4), ("_law_deck", 1)]
abbrev s_law : Stmt := topS 23
theorem k_raised : (chkS c_raised n_raised t_raised (defScope s_raised)).all (defBody s_raised) = true := by decide +kernel
theorem f_raised : FnScope n_raised ["a", "e"] (defScope s_raised) := ⟨rfl, rfl, rfl, by decide +kernel, rfl, by decide +kernel, by decide +kernel⟩
theorem k_list_made : (chkS c_list_made n_list_made t_list_made (defScope s_list_made)).all (defBody s_list_made) = true := by decide +kernel
theorem f_list_made : FnScope n_list_made ["q", "counts"] (defScope s_list_made) := ⟨rfl, rfl, rfl, by decide +kernel, rfl, by decide +kernel, by decide +kernel⟩
theorem k_list_of_counts : (chkS c_list_of_counts n_list_of_counts t_list_of_counts (defScope s_list_of_counts)).all (defBody s_list_of_counts) = true := by decide +kernel
theorem f_list_of_counts : FnScope n_list_of_counts ["p", "counts"] (defScope s_list_of_counts) := ⟨rfl, rfl, rfl, by decide +kernel, rfl, by decide +kernel, by decide +kernel⟩
theorem k_counts_of : (chkS c_counts_of n_counts_of t_counts_of (defScope s_counts_of)).all (defBody s_counts_of) = true := by decide +kernel
theorem f_counts_of : FnScope n_counts_of ["p", "items", "most"] (defScope s_counts_of) := ⟨rfl, rfl, rfl, by decide +kernel, rfl, by decide +kernel, by decide +kernel⟩
theorem k_list_over : (chkS c_list_over n_list_over t_list_over (defScope s_list_over)).all (defBody s_list_over) = true := by decide +kernel
theorem f_list_over : FnScope n_list_over ["p", "items", "n"] (defScope s_list_over) := ⟨rfl, rfl, rfl, by decide +kernel, rfl, by decide +kernel, by decide +kernel⟩
theorem k_law_deck : (chkS c_law_deck n_law_deck t_law_deck (defScope s_law_deck)).all (defBody s_law_deck) = true := by decide +kernel
theorem f_law_deck : FnScope n_law_deck ["script"] (defScope s_law_deck) := ⟨rfl, rfl, rfl, by decide +kernel, rfl, by decide +kernel, by decide +kernel⟩
theorem k_law_draw : (chkS c_law_draw n_law_draw t_law_draw (defScope s_law_draw)).all (defBody s_law_draw) = true := by decide +kernel
theorem f_law_draw : FnScope n_law_draw ["deck", "bound"] (defScope s_law_draw) := ⟨rfl, rfl, rfl, by decide +kernel, rfl, by decide +kernel, by decide +kernel⟩
theorem k_law_is : (chkS c_law_is n_law_is t_law_is (defScope s_law_is)).all (defBody s_law_is) = true := by decide +kernel
theorem f_law_is : FnScope n_law_is ["value", "due"] (defScope s_law_is) := ⟨rfl, rfl, rfl, by decide +kernel, rfl, by decide +kernel, by decide +kernel⟩
theorem k_law_primes : (chkS c_law_primes n_law_primes t_law_primes (defScope s_law_primes)).all (defBody s_law_primes) = true := by decide +kernel
theorem f_law_primes : FnScope n_law_primes [] (defScope s_law_primes) := ⟨rfl, rfl, rfl, by decide +kernel, rfl, by decide +kernel, by decide +kernel⟩
theorem k_law_raised : (chkS c_law_raised n_law_raised t_law_raised (defScope s_law_raised)).all (defBody s_law_raised) = true := by decide +kernel
theorem f_law_raised : FnScope n_law_raised ["a", "e"] (defScope s_law_raised) := ⟨rfl, rfl, rfl, by decide +kernel, rfl, by decide +kernel, by decide +kernel⟩
theorem k_law_sums : (chkS c_law_sums n_law_sums t_law_sums (defScope s_law_sums)).all (defBody s_law_sums) = true := by decide +kernel
theorem f_law_sums : FnScope n_law_sums ["items", "most"] (defScope s_law_sums) := ⟨rfl, rfl, rfl, by decide +kernel, rfl, by decide +kernel, by decide +kernel⟩
theorem k_law_of_sums : (chkS c_law_of_sums n_law_of_sums t_law_of_sums (defScope s_law_of_sums)).all (defBody s_law_of_sums) = true := by decide +kernel
theorem f_law_of_sums : FnScope n_law_of_sums ["sums", "q", "g"] (defScope s_law_of_sums) := ⟨rfl, rfl, rfl, by decide +kernel, rfl, by decide +kernel, by decide +kernel⟩
theorem k_law_counts : (chkS c_law_counts n_law_counts t_law_counts (defScope s_law_counts)).all (defBody s_law_counts) = true := by decide +kernel
theorem f_law_counts : FnScope n_law_counts ["p", "items", "most"] (defScope s_law_counts) := ⟨rfl, rfl, rfl, by decide +kernel, rfl, by decide +kernel, by decide +kernel⟩
theorem k_law_product : (chkS c_law_product n_law_product t_law_product (defScope s_law_product)).all (defBody s_law_product) = true := by decide +kernel
theorem f_law_product : FnScope n_law_product ["a", "b"] (defScope s_law_product) := ⟨rfl, rfl, rfl, by decide +kernel, rfl, by decide +kernel, by decide +kernel⟩
theorem k_law_list : (chkS c_law_list n_law_list t_law_list (defScope s_law_list)).all (defBody s_law_list) = true := by decide +kernel
theorem f_law_list : FnScope n_law_list ["deck", "p", "g", "most"] (defScope s_law_list) := ⟨rfl, rfl, rfl, by decide +kernel, rfl, by decide +kernel, by decide +kernel⟩
theorem k_law_twin : (chkS c_law_twin n_law_twin t_law_twin (defScope s_law_twin)).all (defBody s_law_twin) = true := by decide +kernel
theorem f_law_twin : FnScope n_law_twin ["items"] (defScope s_law_twin) := ⟨rfl, rfl, rfl, by decide +kernel, rfl, by decide +kernel, by decide +kernel⟩
theorem k_law_is_counted : (chkS c_law_is_counted n_law_is_counted t_law_is_counted (defScope s_law_is_counted)).all (defBody s_law_is_counted) = true := by decide +kernel
theorem f_law_is_counted : FnScope n_law_is_counted ["p", "items", "g"] (defScope s_law_is_counted) := ⟨rfl, rfl, rfl, by decide +kernel, rfl, by decide +kernel, by decide +kernel⟩
theorem k_law_is_changed : (chkS c_law_is_changed n_law_is_changed t_law_is_changed (defScope s_law_is_changed)).all (defBody s_law_is_changed) = true := by decide +kernel
theorem f_law_is_changed : FnScope n_law_is_changed ["deck", "p", "items", "g"] (defScope s_law_is_changed) := ⟨rfl, rfl, rfl, by decide +kernel, rfl, by decide +kernel, by decide +kernel⟩
theorem k_law_is_joined : (chkS c_law_is_joined n_law_is_joined t_law_is_joined (defScope s_law_is_joined)).all (defBody s_law_is_joined) = true := by decide +kernel
theorem f_law_is_joined : FnScope n_law_is_joined ["deck", "p"] (defScope s_law_is_joined) := ⟨rfl, rfl, rfl, by decide +kernel, rfl, by decide +kernel, by decide +kernel⟩
theorem k_law_is_twin : (chkS c_law_is_twin n_law_is_twin t_law_is_twin (defScope s_law_is_twin)).all (defBody s_law_is_twin) = true := by decide +kernel
theorem f_law_is_twin : FnScope n_law_is_twin ["p", "items"] (defScope s_law_is_twin) := ⟨rfl, rfl, rfl, by decide +kernel, rfl, by decide +kernel, by decide +kernel⟩
theorem k_law : (chkS c_law n_law t_law (defScope s_law)).all (defBody s_law) = true := by decide +kernel
theorem f_law : FnScope n_law ["script"] (defScope s_law) := ⟨rfl, rfl, rfl, by decide +kernel, rfl, by decide +kernel, by decide +kernel⟩
end Mp.K39

set_option Elab.async false
set_option linter.all false
set_option maxRecDepth 100000
set_option exponentiation.threshold 100
namespace Mp.K39
open PySem Mp
/-- a small number's power -/
def spRaised : SpM := fun ms h Q _ => ∃ a e : Int, ms = [.int a, .int e] ∧ 0 ≤ e ∧ e ≤ 1000 ∧ 1 ≤ a ∧ a.natAbs < 2 ^ 100 ∧ Q (.int (a ^ e.toNat)) h
theorem log2_le {x : Nat} {k : Nat} (h : x < 2 ^ k) (hk : 0 < k) : x.log2 < k := by
  by_cases e : x = 0
  · subst e; simpa using hk
  · exact (Nat.log2_lt e).mpr h
theorem pow_bnd {a e x : Int} (h0 : 0 ≤ e) (h1 : e ≤ 1000) (h2 : 1 ≤ a) (h3 : a.natAbs < 2 ^ 100) (x0 : 0 ≤ x) (x1 : x ≤ a ^ e.toNat) : x.natAbs.log2 < 100001 := by
  apply log2_le _ (by omega)
  have e1 : x.natAbs ≤ a.natAbs ^ e.toNat := by
    have := Int.natAbs_pow a e.toNat
    omega
  have e2 : a.natAbs ^ e.toNat ≤ (2 ^ 100) ^ e.toNat := Nat.pow_le_pow_left (by omega) _
  have e3 : (2 ^ 100) ^ e.toNat ≤ (2 ^ 100) ^ 1000 := Nat.pow_le_pow_right (by omega) (by omega)
  have e4 : (2 ^ 100) ^ 1000 = 2 ^ 100000 := (Nat.pow_mul 2 100 1000).symm
  have e5 : (2 : Nat) ^ 100000 < 2 ^ 100001 := Nat.pow_lt_pow_right (by omega) (by omega)
  calc x.natAbs ≤ _ := e1
    _ ≤ _ := e2
    _ ≤ _ := e3
    _ = _ := e4
    _ < _ := e5
theorem one_le_pow {a : Int} (h : 1 ≤ a) : ∀ n : Nat, 1 ≤ a ^ n
  | 0 => by simp
  | n + 1 => by
    rw [Int.pow_succ]
    have := one_le_pow h n
    calc (1 : Int) = 1 * 1 := rfl
      _ ≤ a ^ n * a := Int.mul_le_mul this h (by omega) (by omega)
theorem le_of_mul {f p t : Int} (hp : 1 ≤ p) (hf : 0 ≤ f) (e : f * p = t) : f ≤ t := by
  rw [← e]
  calc f = f * 1 := (Int.mul_one f).symm
    _ ≤ f * p := Int.mul_le_mul_of_nonneg_left hp hf
theorem le_pow_of {a : Int} (h : 1 ≤ a) {n : Nat} (hn : 1 ≤ n) : a ≤ a ^ n := by
  obtain ⟨m, rfl⟩ : ∃ m, n = m + 1 := ⟨n - 1, by omega⟩
  rw [Int.pow_succ, Int.mul_comm]
  calc a = a * 1 := (Int.mul_one a).symm
    _ ≤ a * a ^ m := Int.mul_le_mul_of_nonneg_left (one_le_pow h m) (by omega)
theorem sq_pow (a : Int) (n : Nat) : (a * a) ^ n = a ^ (2 * n) := by
  rw [Int.pow_mul]; congr 1; rw [Int.pow_succ, Int.pow_succ, Int.pow_zero, Int.one_mul]
theorem raised_half (Φ : Phi) (hΦ : Φ.Mono) {D : DM} {a e f : Int} {h : MH} (ha : a.natAbs.log2 < 100001) (w : D.nx [some (.int (if 0 < e / 2 then a * a else a)), some (.int (e / 2)), some (.int f)] h) :
    wS Φ W0 (.seq (.aug .fdiv 1 (.int 2)) (.iff (.cmp .gt (.var 1) (.int 0)) (.aug .mul 0 (.var 0)) .skip)) D [some (.int a), some (.int e), some (.int f)] h := by
  refine st_aug hΦ ?_
  simp only [e_var_v, e_var_t, e_var_q, e_var_i, e_int_v, e_int_t, e_int_q, e_int_i, e_bl_v, e_bl_t, e_bl_q, e_bl_i, e_non_v, e_non_t, e_non_q, e_non_i, e_str_v, e_str_t, e_str_q, e_str_i, e_glob_v, e_glob_t, e_glob_q, e_glob_i, e_neg_v, e_neg_t, e_neg_q, e_neg_i, e_ife_v, e_ife_t, e_ife_q, e_ife_i, e_tup_v, e_tup_t, e_tup_q, e_tup_i, e_ix_v, e_ix_t, e_ix_q, e_ix_i, e_sl_v, e_sl_t, e_sl_q, e_sl_i, e_call_v, e_call_t, e_call_q, e_call_i, e_bi_v, e_bi_t, e_bi_q, e_bi_i, e_bq_v, e_bq_t, e_bq_q, e_bq_i, e_meth_v, e_meth_t, e_meth_q, e_meth_i, e_lst_v, e_lst_q, e_lst_i, e_bl1_v, e_bl1_q, e_bl1_i, e_comp_v, e_comp_q, e_comp_i, e_sub_v, e_fdiv_v, e_mod_v, e_pow_v, e_add_v, e_mul_v, e_add_q, e_mul_q, e_add_i, e_mul_i, e_not_v, e_not_t, e_and_v, e_and_t, e_or_v, e_or_t, e_cmp_v, e_cmp_t, e_rng_i, e_enum_i, e_zip_i, e_nil_a, e_cons_a, e_var_g, e_ix_g, e_tup_g, e_nil_gs, e_cons_gs, o_add, o_sub, o_add2, o_addt, o_mul, o_fdiv, o_mod, o_pow, o_aug, o_neg, m_eq, m_ne, m_lt, m_le, m_gt, m_ge, m_eqs, m_is, m_isnot, n_non, n_ref, n_int, n_tup, b_abs, b_int, b_len, b_max, b_min, l_list, r_1, r_2, t_bl, t_int, t_non, q_tup, q_rol, a_bl, d_none, d_some, d_int, u_all, u_if, g_nil, g_cons, isL_nil, isL_var, isL_int, isL_bl, isL_non, isL_str, isL_glob, isL_neg, isL_not, isL_and, isL_or, isL_ife, isL_cmp, isL_tup, isL_ix, isL_sl, isL_call, isL_bi, isL_bq, isL_meth, isL_rev, isL_step2, isL_lst, isL_bl1, isL_comp, isL_add, isL_mul, isL_sub, isL_fdiv, isL_mod, isL_pow, reduceIte, Bool.or_self, Bool.false_eq_true, isNonE, isNil, lenE, wipeM, Bool.or_true, Bool.true_or, Bool.or_false, List.getElem?_cons_succ, List.getElem?_cons_zero, List.set_cons_succ, List.set_cons_zero, List.length_cons, List.length_nil, List.length_map, rngL_length]
  refine ⟨⟨by omega, by decide⟩, st_if1 ?_⟩
  simp only [e_var_v, e_var_t, e_var_q, e_var_i, e_int_v, e_int_t, e_int_q, e_int_i, e_bl_v, e_bl_t, e_bl_q, e_bl_i, e_non_v, e_non_t, e_non_q, e_non_i, e_str_v, e_str_t, e_str_q, e_str_i, e_glob_v, e_glob_t, e_glob_q, e_glob_i, e_neg_v, e_neg_t, e_neg_q, e_neg_i, e_ife_v, e_ife_t, e_ife_q, e_ife_i, e_tup_v, e_tup_t, e_tup_q, e_tup_i, e_ix_v, e_ix_t, e_ix_q, e_ix_i, e_sl_v, e_sl_t, e_sl_q, e_sl_i, e_call_v, e_call_t, e_call_q, e_call_i, e_bi_v, e_bi_t, e_bi_q, e_bi_i, e_bq_v, e_bq_t, e_bq_q, e_bq_i, e_meth_v, e_meth_t, e_meth_q, e_meth_i, e_lst_v, e_lst_q, e_lst_i, e_bl1_v, e_bl1_q, e_bl1_i, e_comp_v, e_comp_q, e_comp_i, e_sub_v, e_fdiv_v, e_mod_v, e_pow_v, e_add_v, e_mul_v, e_add_q, e_mul_q, e_add_i, e_mul_i, e_not_v, e_not_t, e_and_v, e_and_t, e_or_v, e_or_t, e_cmp_v, e_cmp_t, e_rng_i, e_enum_i, e_zip_i, e_nil_a, e_cons_a, e_var_g, e_ix_g, e_tup_g, e_nil_gs, e_cons_gs, o_add, o_sub, o_add2, o_addt, o_mul, o_fdiv, o_mod, o_pow, o_aug, o_neg, m_eq, m_ne, m_lt, m_le, m_gt, m_ge, m_eqs, m_is, m_isnot, n_non, n_ref, n_int, n_tup, b_abs, b_int, b_len, b_max, b_min, l_list, r_1, r_2, t_bl, t_int, t_non, q_tup, q_rol, a_bl, d_none, d_some, d_int, u_all, u_if, g_nil, g_cons, isL_nil, isL_var, isL_int, isL_bl, isL_non, isL_str, isL_glob, isL_neg, isL_not, isL_and, isL_or, isL_ife, isL_cmp, isL_tup, isL_ix, isL_sl, isL_call, isL_bi, isL_bq, isL_meth, isL_rev, isL_step2, isL_lst, isL_bl1, isL_comp, isL_add, isL_mul, isL_sub, isL_fdiv, isL_mod, isL_pow, reduceIte, Bool.or_self, Bool.false_eq_true, isNonE, isNil, lenE, wipeM, Bool.or_true, Bool.true_or, Bool.or_false, List.getElem?_cons_succ, List.getElem?_cons_zero, List.set_cons_succ, List.set_cons_zero, List.length_cons, List.length_nil, List.length_map, rngL_length]
  by_cases z : 0 < e / 2
  · rw [if_pos z] at w
    rw [if_pos (decide_eq_true z)]
    refine st_aug1 ?_
    simp only [e_var_v, e_var_t, e_var_q, e_var_i, e_int_v, e_int_t, e_int_q, e_int_i, e_bl_v, e_bl_t, e_bl_q, e_bl_i, e_non_v, e_non_t, e_non_q, e_non_i, e_str_v, e_str_t, e_str_q, e_str_i, e_glob_v, e_glob_t, e_glob_q, e_glob_i, e_neg_v, e_neg_t, e_neg_q, e_neg_i, e_ife_v, e_ife_t, e_ife_q, e_ife_i, e_tup_v, e_tup_t, e_tup_q, e_tup_i, e_ix_v, e_ix_t, e_ix_q, e_ix_i, e_sl_v, e_sl_t, e_sl_q, e_sl_i, e_call_v, e_call_t, e_call_q, e_call_i, e_bi_v, e_bi_t, e_bi_q, e_bi_i, e_bq_v, e_bq_t, e_bq_q, e_bq_i, e_meth_v, e_meth_t, e_meth_q, e_meth_i, e_lst_v, e_lst_q, e_lst_i, e_bl1_v, e_bl1_q, e_bl1_i, e_comp_v, e_comp_q, e_comp_i, e_sub_v, e_fdiv_v, e_mod_v, e_pow_v, e_add_v, e_mul_v, e_add_q, e_mul_q, e_add_i, e_mul_i, e_not_v, e_not_t, e_and_v, e_and_t, e_or_v, e_or_t, e_cmp_v, e_cmp_t, e_rng_i, e_enum_i, e_zip_i, e_nil_a, e_cons_a, e_var_g, e_ix_g, e_tup_g, e_nil_gs, e_cons_gs, o_add, o_sub, o_add2, o_addt, o_mul, o_fdiv, o_mod, o_pow, o_aug, o_neg, m_eq, m_ne, m_lt, m_le, m_gt, m_ge, m_eqs, m_is, m_isnot, n_non, n_ref, n_int, n_tup, b_abs, b_int, b_len, b_max, b_min, l_list, r_1, r_2, t_bl, t_int, t_non, q_tup, q_rol, a_bl, d_none, d_some, d_int, u_all, u_if, g_nil, g_cons, isL_nil, isL_var, isL_int, isL_bl, isL_non, isL_str, isL_glob, isL_neg, isL_not, isL_and, isL_or, isL_ife, isL_cmp, isL_tup, isL_ix, isL_sl, isL_call, isL_bi, isL_bq, isL_meth, isL_rev, isL_step2, isL_lst, isL_bl1, isL_comp, isL_add, isL_mul, isL_sub, isL_fdiv, isL_mod, isL_pow, reduceIte, Bool.or_self, Bool.false_eq_true, isNonE, isNil, lenE, wipeM, Bool.or_true, Bool.true_or, Bool.or_false, List.getElem?_cons_succ, List.getElem?_cons_zero, List.set_cons_succ, List.set_cons_zero, List.length_cons, List.length_nil, List.length_map, rngL_length]
    exact ⟨by unfold MulOk; omega, w⟩
  · rw [if_neg z] at w
    rw [if_neg (by simpa using z)]
    exact st_skip w
theorem keeps_raised (Φ : Phi) (hΦ : Φ.Mono) : Keeps Φ 3 t_raised spRaised := by
  intro ms h Q hsp
  obtain ⟨a, e, rfl, h0, h1, h2, h3, q⟩ := hsp
  change wS Φ W0 _ _ [some (.int a), some (.int e), none] h
  unfold t_raised
  refine st_asg hΦ ?_
  simp only [e_var_v, e_var_t, e_var_q, e_var_i, e_int_v, e_int_t, e_int_q, e_int_i, e_bl_v, e_bl_t, e_bl_q, e_bl_i, e_non_v, e_non_t, e_non_q, e_non_i, e_str_v, e_str_t, e_str_q, e_str_i, e_glob_v, e_glob_t, e_glob_q, e_glob_i, e_neg_v, e_neg_t, e_neg_q, e_neg_i, e_ife_v, e_ife_t, e_ife_q, e_ife_i, e_tup_v, e_tup_t, e_tup_q, e_tup_i, e_ix_v, e_ix_t, e_ix_q, e_ix_i, e_sl_v, e_sl_t, e_sl_q, e_sl_i, e_call_v, e_call_t, e_call_q, e_call_i, e_bi_v, e_bi_t, e_bi_q, e_bi_i, e_bq_v, e_bq_t, e_bq_q, e_bq_i, e_meth_v, e_meth_t, e_meth_q, e_meth_i, e_lst_v, e_lst_q, e_lst_i, e_bl1_v, e_bl1_q, e_bl1_i, e_comp_v, e_comp_q, e_comp_i, e_sub_v, e_fdiv_v, e_mod_v, e_pow_v, e_add_v, e_mul_v, e_add_q, e_mul_q, e_add_i, e_mul_i, e_not_v, e_not_t, e_and_v, e_and_t, e_or_v, e_or_t, e_cmp_v, e_cmp_t, e_rng_i, e_enum_i, e_zip_i, e_nil_a, e_cons_a, e_var_g, e_ix_g, e_tup_g, e_nil_gs, e_cons_gs, o_add, o_sub, o_add2, o_addt, o_mul, o_fdiv, o_mod, o_pow, o_aug, o_neg, m_eq, m_ne, m_lt, m_le, m_gt, m_ge, m_eqs, m_is, m_isnot, n_non, n_ref, n_int, n_tup, b_abs, b_int, b_len, b_max, b_min, l_list, r_1, r_2, t_bl, t_int, t_non, q_tup, q_rol, a_bl, d_none, d_some, d_int, u_all, u_if, g_nil, g_cons, isL_nil, isL_var, isL_int, isL_bl, isL_non, isL_str, isL_glob, isL_neg, isL_not, isL_and, isL_or, isL_ife, isL_cmp, isL_tup, isL_ix, isL_sl, isL_call, isL_bi, isL_bq, isL_meth, isL_rev, isL_step2, isL_lst, isL_bl1, isL_comp, isL_add, isL_mul, isL_sub, isL_fdiv, isL_mod, isL_pow, reduceIte, Bool.or_self, Bool.false_eq_true, isNonE, isNil, lenE, wipeM, Bool.or_true, Bool.true_or, Bool.or_false, List.getElem?_cons_succ, List.getElem?_cons_zero, List.set_cons_succ, List.set_cons_zero, List.length_cons, List.length_nil, List.length_map, rngL_length]
  refine st_while hΦ (fun n σ h' => ∃ a' e' f : Int, σ = [some (.int a'), some (.int e'), some (.int f)] ∧ h' = h ∧ 0 ≤ e' ∧ e'.toNat ≤ n ∧ 1 ≤ a' ∧ 1 ≤ f ∧ f * a' ^ e'.toNat = a ^ e.toNat) e.toNat ?_ ?_
  · exact ⟨a, e, 1, rfl, rfl, h0, Nat.le_refl _, h2, by omega, by simp⟩
  · rintro n σ h' ⟨a', e', f, rfl, rfl, b0, b4, b1, b2, b3⟩
    have hf : f.natAbs.log2 < 100001 := pow_bnd h0 h1 h2 h3 (by omega) (le_of_mul (one_le_pow b1 _) (by omega) b3)
    simp only [e_var_v, e_var_t, e_var_q, e_var_i, e_int_v, e_int_t, e_int_q, e_int_i, e_bl_v, e_bl_t, e_bl_q, e_bl_i, e_non_v, e_non_t, e_non_q, e_non_i, e_str_v, e_str_t, e_str_q, e_str_i, e_glob_v, e_glob_t, e_glob_q, e_glob_i, e_neg_v, e_neg_t, e_neg_q, e_neg_i, e_ife_v, e_ife_t, e_ife_q, e_ife_i, e_tup_v, e_tup_t, e_tup_q, e_tup_i, e_ix_v, e_ix_t, e_ix_q, e_ix_i, e_sl_v, e_sl_t, e_sl_q, e_sl_i, e_call_v, e_call_t, e_call_q, e_call_i, e_bi_v, e_bi_t, e_bi_q, e_bi_i, e_bq_v, e_bq_t, e_bq_q, e_bq_i, e_meth_v, e_meth_t, e_meth_q, e_meth_i, e_lst_v, e_lst_q, e_lst_i, e_bl1_v, e_bl1_q, e_bl1_i, e_comp_v, e_comp_q, e_comp_i, e_sub_v, e_fdiv_v, e_mod_v, e_pow_v, e_add_v, e_mul_v, e_add_q, e_mul_q, e_add_i, e_mul_i, e_not_v, e_not_t, e_and_v, e_and_t, e_or_v, e_or_t, e_cmp_v, e_cmp_t, e_rng_i, e_enum_i, e_zip_i, e_nil_a, e_cons_a, e_var_g, e_ix_g, e_tup_g, e_nil_gs, e_cons_gs, o_add, o_sub, o_add2, o_addt, o_mul, o_fdiv, o_mod, o_pow, o_aug, o_neg, m_eq, m_ne, m_lt, m_le, m_gt, m_ge, m_eqs, m_is, m_isnot, n_non, n_ref, n_int, n_tup, b_abs, b_int, b_len, b_max, b_min, l_list, r_1, r_2, t_bl, t_int, t_non, q_tup, q_rol, a_bl, d_none, d_some, d_int, u_all, u_if, g_nil, g_cons, isL_nil, isL_var, isL_int, isL_bl, isL_non, isL_str, isL_glob, isL_neg, isL_not, isL_and, isL_or, isL_ife, isL_cmp, isL_tup, isL_ix, isL_sl, isL_call, isL_bi, isL_bq, isL_meth, isL_rev, isL_step2, isL_lst, isL_bl1, isL_comp, isL_add, isL_mul, isL_sub, isL_fdiv, isL_mod, isL_pow, reduceIte, Bool.or_self, Bool.false_eq_true, isNonE, isNil, lenE, wipeM, Bool.or_true, Bool.true_or, Bool.or_false, List.getElem?_cons_succ, List.getElem?_cons_zero, List.set_cons_succ, List.set_cons_zero, List.length_cons, List.length_nil, List.length_map, rngL_length]
    by_cases he : 0 < e'
    · rw [if_pos (decide_eq_true he)]
      refine ⟨n - 1, by omega, ?_⟩
      have ha : a'.natAbs.log2 < 100001 := by
        refine pow_bnd h0 h1 h2 h3 (by omega) (Int.le_trans (le_pow_of b1 (n := e'.toNat) (by omega)) ?_)
        rw [Int.mul_comm] at b3
        exact le_of_mul b2 (by have := one_le_pow b1 e'.toNat; omega) b3
      have aa : 1 ≤ a' * a' := by have := one_le_pow b1 2; rw [Int.pow_succ, Int.pow_succ, Int.pow_zero, Int.one_mul] at this; exact this
      -- what the next turn finds
      have next : ∀ f' : Int, 1 ≤ f' → f' * (a' * a') ^ (e' / 2).toNat = a ^ e.toNat → ∃ a'' e'' f'' : Int, [some (M.int (if 0 < e' / 2 then a' * a' else a')), some (.int (e' / 2)), some (.int f')] = [some (M.int a''), some (.int e''), some (.int f'')] ∧ h' = h' ∧ 0 ≤ e'' ∧ e''.toNat ≤ n - 1 ∧ 1 ≤ a'' ∧ 1 ≤ f'' ∧ f'' * a'' ^ e''.toNat = a ^ e.toNat := by
        intro f' c1 c2
        refine ⟨_, _, _, rfl, rfl, by omega, by omega, by split <;> assumption, c1, ?_⟩
        by_cases z : 0 < e' / 2
        · rw [if_pos z]; exact c2
        · rw [if_neg z]
          have z0 : e' / 2 = 0 := by omega
          rw [z0] at c2 ⊢
          simpa using c2
      have e2 : (2 : Nat) * (e' / 2).toNat = e'.toNat - (e' % 2).toNat := by omega
      refine st_iff hΦ ?_
      simp only [e_var_v, e_var_t, e_var_q, e_var_i, e_int_v, e_int_t, e_int_q, e_int_i, e_bl_v, e_bl_t, e_bl_q, e_bl_i, e_non_v, e_non_t, e_non_q, e_non_i, e_str_v, e_str_t, e_str_q, e_str_i, e_glob_v, e_glob_t, e_glob_q, e_glob_i, e_neg_v, e_neg_t, e_neg_q, e_neg_i, e_ife_v, e_ife_t, e_ife_q, e_ife_i, e_tup_v, e_tup_t, e_tup_q, e_tup_i, e_ix_v, e_ix_t, e_ix_q, e_ix_i, e_sl_v, e_sl_t, e_sl_q, e_sl_i, e_call_v, e_call_t, e_call_q, e_call_i, e_bi_v, e_bi_t, e_bi_q, e_bi_i, e_bq_v, e_bq_t, e_bq_q, e_bq_i, e_meth_v, e_meth_t, e_meth_q, e_meth_i, e_lst_v, e_lst_q, e_lst_i, e_bl1_v, e_bl1_q, e_bl1_i, e_comp_v, e_comp_q, e_comp_i, e_sub_v, e_fdiv_v, e_mod_v, e_pow_v, e_add_v, e_mul_v, e_add_q, e_mul_q, e_add_i, e_mul_i, e_not_v, e_not_t, e_and_v, e_and_t, e_or_v, e_or_t, e_cmp_v, e_cmp_t, e_rng_i, e_enum_i, e_zip_i, e_nil_a, e_cons_a, e_var_g, e_ix_g, e_tup_g, e_nil_gs, e_cons_gs, o_add, o_sub, o_add2, o_addt, o_mul, o_fdiv, o_mod, o_pow, o_aug, o_neg, m_eq, m_ne, m_lt, m_le, m_gt, m_ge, m_eqs, m_is, m_isnot, n_non, n_ref, n_int, n_tup, b_abs, b_int, b_len, b_max, b_min, l_list, r_1, r_2, t_bl, t_int, t_non, q_tup, q_rol, a_bl, d_none, d_some, d_int, u_all, u_if, g_nil, g_cons, isL_nil, isL_var, isL_int, isL_bl, isL_non, isL_str, isL_glob, isL_neg, isL_not, isL_and, isL_or, isL_ife, isL_cmp, isL_tup, isL_ix, isL_sl, isL_call, isL_bi, isL_bq, isL_meth, isL_rev, isL_step2, isL_lst, isL_bl1, isL_comp, isL_add, isL_mul, isL_sub, isL_fdiv, isL_mod, isL_pow, reduceIte, Bool.or_self, Bool.false_eq_true, isNonE, isNil, lenE, wipeM, Bool.or_true, Bool.true_or, Bool.or_false, List.getElem?_cons_succ, List.getElem?_cons_zero, List.set_cons_succ, List.set_cons_zero, List.length_cons, List.length_nil, List.length_map, rngL_length]
      refine ⟨by omega, ?_⟩
      by_cases z : e' % 2 = 1
      · rw [if_pos (decide_eq_true z)]
        refine st_aug1 ?_
        simp only [e_var_v, e_var_t, e_var_q, e_var_i, e_int_v, e_int_t, e_int_q, e_int_i, e_bl_v, e_bl_t, e_bl_q, e_bl_i, e_non_v, e_non_t, e_non_q, e_non_i, e_str_v, e_str_t, e_str_q, e_str_i, e_glob_v, e_glob_t, e_glob_q, e_glob_i, e_neg_v, e_neg_t, e_neg_q, e_neg_i, e_ife_v, e_ife_t, e_ife_q, e_ife_i, e_tup_v, e_tup_t, e_tup_q, e_tup_i, e_ix_v, e_ix_t, e_ix_q, e_ix_i, e_sl_v, e_sl_t, e_sl_q, e_sl_i, e_call_v, e_call_t, e_call_q, e_call_i, e_bi_v, e_bi_t, e_bi_q, e_bi_i, e_bq_v, e_bq_t, e_bq_q, e_bq_i, e_meth_v, e_meth_t, e_meth_q, e_meth_i, e_lst_v, e_lst_q, e_lst_i, e_bl1_v, e_bl1_q, e_bl1_i, e_comp_v, e_comp_q, e_comp_i, e_sub_v, e_fdiv_v, e_mod_v, e_pow_v, e_add_v, e_mul_v, e_add_q, e_mul_q, e_add_i, e_mul_i, e_not_v, e_not_t, e_and_v, e_and_t, e_or_v, e_or_t, e_cmp_v, e_cmp_t, e_rng_i, e_enum_i, e_zip_i, e_nil_a, e_cons_a, e_var_g, e_ix_g, e_tup_g, e_nil_gs, e_cons_gs, o_add, o_sub, o_add2, o_addt, o_mul, o_fdiv, o_mod, o_pow, o_aug, o_neg, m_eq, m_ne, m_lt, m_le, m_gt, m_ge, m_eqs, m_is, m_isnot, n_non, n_ref, n_int, n_tup, b_abs, b_int, b_len, b_max, b_min, l_list, r_1, r_2, t_bl, t_int, t_non, q_tup, q_rol, a_bl, d_none, d_some, d_int, u_all, u_if, g_nil, g_cons, isL_nil, isL_var, isL_int, isL_bl, isL_non, isL_str, isL_glob, isL_neg, isL_not, isL_and, isL_or, isL_ife, isL_cmp, isL_tup, isL_ix, isL_sl, isL_call, isL_bi, isL_bq, isL_meth, isL_rev, isL_step2, isL_lst, isL_bl1, isL_comp, isL_add, isL_mul, isL_sub, isL_fdiv, isL_mod, isL_pow, reduceIte, Bool.or_self, Bool.false_eq_true, isNonE, isNil, lenE, wipeM, Bool.or_true, Bool.true_or, Bool.or_false, List.getElem?_cons_succ, List.getElem?_cons_zero, List.set_cons_succ, List.set_cons_zero, List.length_cons, List.length_nil, List.length_map, rngL_length]
        refine ⟨by unfold MulOk; omega, ?_⟩
        refine raised_half Φ hΦ ha ?_
        refine ⟨h', Sub.refl _, next (f * a') (by have := Int.mul_le_mul b2 b1 (by omega) (by omega); omega) ?_⟩
        rw [sq_pow, e2, z, ← b3, Int.mul_assoc]
        congr 1
        have : e'.toNat = (e'.toNat - (1 : Int).toNat) + 1 := by simp; omega
        conv => rhs; rw [this, Int.pow_succ, Int.mul_comm]
      · rw [if_neg (by simpa using z)]
        refine st_skip ?_
        refine raised_half Φ hΦ ha ?_
        refine ⟨h', Sub.refl _, next f b2 ?_⟩
        have z0 : e' % 2 = 0 := by omega
        rw [sq_pow, e2, z0, ← b3]
        rfl
    · rw [if_neg (by simpa using he)]
      have e0 : e' = 0 := by omega
      subst e0
      rw [show (0 : Int).toNat = 0 from rfl, Int.pow_zero, Int.mul_one] at b3
      refine st_ret ?_
      simp only [e_var_v, e_var_t, e_var_q, e_var_i, e_int_v, e_int_t, e_int_q, e_int_i, e_bl_v, e_bl_t, e_bl_q, e_bl_i, e_non_v, e_non_t, e_non_q, e_non_i, e_str_v, e_str_t, e_str_q, e_str_i, e_glob_v, e_glob_t, e_glob_q, e_glob_i, e_neg_v, e_neg_t, e_neg_q, e_neg_i, e_ife_v, e_ife_t, e_ife_q, e_ife_i, e_tup_v, e_tup_t, e_tup_q, e_tup_i, e_ix_v, e_ix_t, e_ix_q, e_ix_i, e_sl_v, e_sl_t, e_sl_q, e_sl_i, e_call_v, e_call_t, e_call_q, e_call_i, e_bi_v, e_bi_t, e_bi_q, e_bi_i, e_bq_v, e_bq_t, e_bq_q, e_bq_i, e_meth_v, e_meth_t, e_meth_q, e_meth_i, e_lst_v, e_lst_q, e_lst_i, e_bl1_v, e_bl1_q, e_bl1_i, e_comp_v, e_comp_q, e_comp_i, e_sub_v, e_fdiv_v, e_mod_v, e_pow_v, e_add_v, e_mul_v, e_add_q, e_mul_q, e_add_i, e_mul_i, e_not_v, e_not_t, e_and_v, e_and_t, e_or_v, e_or_t, e_cmp_v, e_cmp_t, e_rng_i, e_enum_i, e_zip_i, e_nil_a, e_cons_a, e_var_g, e_ix_g, e_tup_g, e_nil_gs, e_cons_gs, o_add, o_sub, o_add2, o_addt, o_mul, o_fdiv, o_mod, o_pow, o_aug, o_neg, m_eq, m_ne, m_lt, m_le, m_gt, m_ge, m_eqs, m_is, m_isnot, n_non, n_ref, n_int, n_tup, b_abs, b_int, b_len, b_max, b_min, l_list, r_1, r_2, t_bl, t_int, t_non, q_tup, q_rol, a_bl, d_none, d_some, d_int, u_all, u_if, g_nil, g_cons, isL_nil, isL_var, isL_int, isL_bl, isL_non, isL_str, isL_glob, isL_neg, isL_not, isL_and, isL_or, isL_ife, isL_cmp, isL_tup, isL_ix, isL_sl, isL_call, isL_bi, isL_bq, isL_meth, isL_rev, isL_step2, isL_lst, isL_bl1, isL_comp, isL_add, isL_mul, isL_sub, isL_fdiv, isL_mod, isL_pow, reduceIte, Bool.or_self, Bool.false_eq_true, isNonE, isNil, lenE, wipeM, Bool.or_true, Bool.true_or, Bool.or_false, List.getElem?_cons_succ, List.getElem?_cons_zero, List.set_cons_succ, List.set_cons_zero, List.length_cons, List.length_nil, List.length_map, rngL_length]
      rw [b3]
      exact ⟨h', Sub.refl _, q⟩
end Mp.K39

set_option linter.all false
/-! k39: the mathematics of power sums, in plain Lean. -/
namespace Mp.K39
def sumN (f : Nat → Int) : Nat → Int
  | 0 => 0
  | n + 1 => sumN f n + f n
theorem sumN_congr {f g : Nat → Int} : ∀ {n : Nat}, (∀ i, i < n → f i = g i) → sumN f n = sumN g n
  | 0, _ => rfl
  | n + 1, h => by
    have := sumN_congr (n := n) fun i hi => h i (by omega)
    simp only [sumN, this, h n (by omega)]
theorem sumN_zero {f : Nat → Int} : ∀ {n : Nat}, (∀ i, i < n → f i = 0) → sumN f n = 0
  | 0, _ => rfl
  | n + 1, h => by
    have := sumN_zero (n := n) fun i hi => h i (by omega)
    simp [sumN, this, h n (by omega)]
theorem sumN_split (f : Nat → Int) : ∀ n, sumN f (n + 1) = f 0 + sumN (fun i => f (i + 1)) n
  | 0 => by simp [sumN]
  | n + 1 => by
    have := sumN_split f n
    simp only [sumN] at this ⊢
    omega
theorem sumN_rev : ∀ (n : Nat) (f : Nat → Int), sumN f n = sumN (fun i => f (n - 1 - i)) n
  | 0, _ => rfl
  | n + 1, f => by
    rw [sumN_split, sumN_rev n]
    simp only [sumN]
    have : sumN (fun i => f (n + 1 - 1 - i)) n = sumN (fun i => f (n - 1 - i + 1)) n := sumN_congr fun i hi => by congr 1; omega
    rw [this]
    have e : n + 1 - 1 - n = 0 := by omega
    rw [e]; omega
theorem sumN_neg (f : Nat → Int) : ∀ n, sumN (fun i => - f i) n = - sumN f n
  | 0 => rfl
  | n + 1 => by simp only [sumN, sumN_neg f n]; omega
theorem sum_map (f : Nat → Int) : ∀ n, ((List.range n).map f).sum = sumN f n
  | 0 => rfl
  | n + 1 => by rw [List.range_succ, List.map_append, List.sum_append, sum_map f n]; simp [sumN]
/-- a longer sum, whose further terms vanish -/
theorem sumN_more {f : Nat → Int} {n m : Nat} (h : n ≤ m) (z : ∀ i, n ≤ i → i < m → f i = 0) : sumN f m = sumN f n := by
  obtain ⟨k, rfl⟩ := Nat.exists_eq_add_of_le h
  clear h
  induction k with
  | zero => rfl
  | succ k ih =>
    show sumN f (n + k) + f (n + k) = _
    rw [ih fun i a b => z i a (by omega), z (n + k) (by omega) (by omega)]; omega
theorem sumN_abs {f : Nat → Int} {b : Nat} : ∀ {n : Nat}, (∀ i, i < n → (f i).natAbs ≤ b) → (sumN f n).natAbs ≤ n * b
  | 0, _ => by simp [sumN]
  | n + 1, h => by
    have h1 := sumN_abs (n := n) fun i hi => h i (by omega)
    have h2 := h n (by omega)
    simp only [sumN]
    rw [Nat.add_mul, Nat.one_mul]
    omega

/-! ### convolution -/
abbrev Sq := Nat → Int
def sh (f : Sq) : Sq := fun i => f (i + 1)
def conv : Sq → Sq → Nat → Int
  | f, g, 0 => f 0 * g 0
  | f, g, n + 1 => f 0 * g (n + 1) + conv (sh f) g n
theorem conv_congr : ∀ {n : Nat} {f f' g g' : Sq}, (∀ i, i ≤ n → f i = f' i) → (∀ i, i ≤ n → g i = g' i) → conv f g n = conv f' g' n
  | 0, _, _, _, _, h, k => by simp only [conv, h 0 (by omega), k 0 (by omega)]
  | n + 1, f, f', g, g', h, k => by
    simp only [conv, h 0 (by omega), k (n + 1) (by omega)]
    rw [conv_congr (f := sh f) (f' := sh f') (fun i hi => h (i + 1) (by omega)) fun i hi => k i (by omega)]
theorem conv_add : ∀ {n : Nat} {f g h : Sq}, conv (fun i => f i + g i) h n = conv f h n + conv g h n
  | 0, f, g, h => by simp only [conv]; grind
  | n + 1, f, g, h => by
    have e : sh (fun i => f i + g i) = fun i => sh f i + sh g i := rfl
    simp only [conv, e, conv_add (n := n)]; grind
theorem conv_smul : ∀ {n : Nat} {c : Int} {f h : Sq}, conv (fun i => c * f i) h n = c * conv f h n
  | 0, c, f, h => by simp only [conv]; grind
  | n + 1, c, f, h => by
    have e : sh (fun i => c * f i) = fun i => c * sh f i := rfl
    simp only [conv, e, conv_smul (n := n)]; grind
theorem conv_last : ∀ {n : Nat} {f g : Sq}, conv f g (n + 1) = conv f (sh g) n + f (n + 1) * g 0
  | 0, f, g => by simp only [conv, sh]
  | n + 1, f, g => by
    have := conv_last (n := n) (f := sh f) (g := g)
    rw [conv, this]
    simp only [conv, sh]; grind
theorem conv_comm : ∀ {n : Nat} {f g : Sq}, conv f g n = conv g f n
  | 0, f, g => by simp only [conv]; grind
  | n + 1, f, g => by
    rw [conv_last, conv_comm (n := n)]
    simp only [conv]; grind
theorem conv_assoc : ∀ {n : Nat} {f g h : Sq}, conv (conv f g) h n = conv f (conv g h) n
  | 0, f, g, h => by simp only [conv]; grind
  | n + 1, f, g, h => by
    have e : conv (sh (conv f g)) h n = f 0 * conv (sh g) h n + conv (conv (sh f) g) h n := by
      have e1 : sh (conv f g) = fun i => (f 0 * sh g i) + conv (sh f) g i := rfl
      rw [e1, conv_add, conv_smul]
    have ih := conv_assoc (n := n) (f := sh f) (g := g) (h := h)
    have l : conv (conv f g) h (n + 1) = conv f g 0 * h (n + 1) + conv (sh (conv f g)) h n := rfl
    have r : conv f (conv g h) (n + 1) = f 0 * conv g h (n + 1) + conv (sh f) (conv g h) n := rfl
    have r2 : conv g h (n + 1) = g 0 * h (n + 1) + conv (sh g) h n := rfl
    have z : conv f g 0 = f 0 * g 0 := rfl
    rw [l, r, r2, e, ih, z]; grind
def xd (f : Sq) : Sq := fun n => (n : Int) * f n
theorem xd_conv : ∀ {n : Nat} {f g : Sq}, xd (conv f g) n = conv (xd f) g n + conv f (xd g) n
  | 0, f, g => by simp only [conv, xd]; grind
  | n + 1, f, g => by
    have e : sh (xd f) = fun i => xd (sh f) i + sh f i := by funext i; simp only [sh, xd]; grind
    have ih := xd_conv (n := n) (f := sh f) (g := g)
    have l : xd (conv f g) (n + 1) = ((n : Int) + 1) * (f 0 * g (n + 1) + conv (sh f) g n) := by simp only [xd, conv]; grind
    have a : conv (xd f) g (n + 1) = conv (xd (sh f)) g n + conv (sh f) g n := by
      have z : conv (xd f) g (n + 1) = xd f 0 * g (n + 1) + conv (sh (xd f)) g n := rfl
      have z0 : xd f 0 = 0 := by simp [xd]
      rw [z, e, conv_add, z0]; grind
    have b : conv f (xd g) (n + 1) = f 0 * (((n : Int) + 1) * g (n + 1)) + conv (sh f) (xd g) n := by simp only [conv, xd]; grind
    have ih' : (n : Int) * conv (sh f) g n = conv (xd (sh f)) g n + conv (sh f) (xd g) n := ih
    rw [l, a, b]; grind
/-- as a plain sum -/
theorem conv_sum : ∀ {n : Nat} {f g : Sq}, conv f g n = sumN (fun i => f i * g (n - i)) (n + 1)
  | 0, f, g => by simp [conv, sumN]
  | n + 1, f, g => by
    rw [sumN_split, conv, conv_sum (n := n)]
    simp only [sh, Nat.sub_zero]
    congr 1
    exact sumN_congr fun i hi => by
      have : n + 1 - (i + 1) = n - i := by omega
      rw [this]

/-! ### power sums of a list of numbers whose first is 1 -/
def sL (a : Sq) : Nat → List Int
  | 0 => []
  | n + 1 => sL a n ++ [((n : Int) + 1) * a (n + 1) - sumN (fun i => (sL a n).getD (n - 1 - i) 0 * a (i + 1)) n]
def ps (a : Sq) : Sq
  | 0 => 0
  | n + 1 => (sL a (n + 1)).getD n 0
theorem sL_len (a : Sq) : ∀ n, (sL a n).length = n
  | 0 => rfl
  | n + 1 => by simp [sL, sL_len a n]
theorem sL_get (a : Sq) : ∀ {n k : Nat}, k < n → (sL a n).getD k 0 = ps a (k + 1)
  | 0, k, h => absurd h (by omega)
  | n + 1, k, h => by
    by_cases e : k = n
    · subst e; rfl
    · have hk : k < n := by omega
      rw [sL, List.getD_eq_getElem?_getD, List.getElem?_append_left (by rw [sL_len]; exact hk), ← List.getD_eq_getElem?_getD]
      exact sL_get a hk
theorem ps_succ (a : Sq) (n : Nat) : ps a (n + 1) = ((n : Int) + 1) * a (n + 1) - sumN (fun i => ps a (n - i) * a (i + 1)) n := by
  have e : ps a (n + 1) = ((n : Int) + 1) * a (n + 1) - sumN (fun i => (sL a n).getD (n - 1 - i) 0 * a (i + 1)) n := by
    show (sL a (n + 1)).getD n 0 = _
    rw [sL, List.getD_eq_getElem?_getD, List.getElem?_append_right (by rw [sL_len]; omega), sL_len]
    simp
  rw [e]
  congr 1
  exact sumN_congr fun i hi => by
    rw [sL_get a (by omega), show n - 1 - i + 1 = n - i by omega]
theorem sL_eq (a : Sq) : ∀ n, sL a n = (List.range n).map fun k => ps a (k + 1)
  | 0 => rfl
  | n + 1 => by
    rw [List.range_succ, List.map_append, ← sL_eq a n]
    show sL a n ++ [_] = sL a n ++ [_]
    congr 2
    show _ = ps a (n + 1)
    have e : ps a (n + 1) = (sL a (n + 1)).getD n 0 := rfl
    rw [e, sL, List.getD_eq_getElem?_getD, List.getElem?_append_right (by rw [sL_len]; omega), sL_len]
    simp
/-- Newton's identity -/
theorem ps_conv (a : Sq) (h : a 0 = 1) : ∀ n, conv (ps a) a n = xd a n
  | 0 => by simp [conv, ps, xd]
  | n + 1 => by
    have e : conv (ps a) a (n + 1) = sumN (fun i => ps a (n - i) * a (i + 1)) n + ps a (n + 1) := by
      rw [conv_comm, conv_sum, sumN_split, sumN]
      have z : ps a 0 = 0 := rfl
      simp only [h, Nat.sub_zero, Int.one_mul, Nat.sub_self, z]
      have : sumN (fun i => a (i + 1) * ps a (n + 1 - (i + 1))) n = sumN (fun i => ps a (n - i) * a (i + 1)) n := sumN_congr fun i hi => by
        rw [show n + 1 - (i + 1) = n - i by omega]; grind
      rw [this]; grind
    rw [e, ps_succ]
    simp only [xd]; grind
theorem conv_uniq {a s t : Sq} (h : a 0 = 1) {m : Nat} (e : ∀ n, n ≤ m → conv s a n = conv t a n) : ∀ n, n ≤ m → s n = t n := by
  intro n
  induction n using Nat.strongRecOn with
  | _ n ih =>
    intro hn
    have q := e n hn
    rw [conv_sum, conv_sum, sumN, sumN] at q
    have : sumN (fun i => s i * a (n - i)) n = sumN (fun i => t i * a (n - i)) n := sumN_congr fun i hi => by rw [ih i hi (by omega)]
    rw [this] at q
    simp only [Nat.sub_self, h] at q
    omega
/-- the sums of a product are added -/
theorem ps_mul {a b : Sq} (ha : a 0 = 1) (hb : b 0 = 1) (n : Nat) : ps (conv a b) n = ps a n + ps b n := by
  have hc : conv a b 0 = 1 := by simp [conv, ha, hb]
  refine conv_uniq (a := conv a b) (s := ps (conv a b)) (t := fun n => ps a n + ps b n) hc (m := n) (fun k _ => ?_) n (Nat.le_refl n)
  rw [ps_conv _ hc, conv_add, xd_conv]
  have e1 : conv (ps a) (conv a b) k = conv (xd a) b k := by
    rw [← conv_assoc]; exact conv_congr (fun i _ => ps_conv a ha i) fun _ _ => rfl
  have e2 : conv (ps b) (conv a b) k = conv a (xd b) k := by
    rw [conv_congr (g' := conv b a) (fun _ _ => rfl) fun i _ => conv_comm, ← conv_assoc, conv_comm]
    exact conv_congr (fun _ _ => rfl) fun i _ => ps_conv b hb i
  rw [e1, e2]
theorem ps_congr {a b : Sq} {m : Nat} (h : ∀ i, i ≤ m → a i = b i) : ∀ n, n ≤ m → ps a n = ps b n := by
  intro n
  induction n using Nat.strongRecOn with
  | _ n ih =>
    intro hn
    cases n with
    | zero => rfl
    | succ n =>
      rw [ps_succ, ps_succ, h (n + 1) hn]
      congr 1
      exact sumN_congr fun i hi => by rw [ih (n - i) (by omega) (by omega), h (i + 1) (by omega)]
/-- the twin: signs changed at the odd places -/
def sg (n : Nat) : Int := if n % 2 = 0 then 1 else -1
theorem sg_add (i j : Nat) : sg (i + j) = sg i * sg j := by
  unfold sg
  rcases Nat.mod_two_eq_zero_or_one i with h | h <;> rcases Nat.mod_two_eq_zero_or_one j with k | k <;> simp [Nat.add_mod, h, k]
theorem ps_twin {a : Sq} (h : a 0 = 1) (n : Nat) : ps (fun k => sg k * a k) n = sg n * ps a n := by
  have h2 : (fun k => sg k * a k) 0 = 1 := by simp [sg, h]
  refine conv_uniq (a := fun k => sg k * a k) (s := ps fun k => sg k * a k) (t := fun n => sg n * ps a n) h2 (m := n) (fun k _ => ?_) n (Nat.le_refl n)
  rw [ps_conv _ h2]
  have e := ps_conv a h k
  rw [conv_sum] at e ⊢
  have : sumN (fun i => sg i * ps a i * (sg (k - i) * a (k - i))) (k + 1) = sumN (fun i => sg k * (ps a i * a (k - i))) (k + 1) := sumN_congr fun i hi => by
    have q := sg_add i (k - i)
    rw [show i + (k - i) = k by omega] at q
    rw [q]; grind
  rw [this]
  have lin : ∀ (c : Int) (f : Nat → Int) (m : Nat), sumN (fun i => c * f i) m = c * sumN f m := fun c f m => by
    induction m with
    | zero => simp [sumN]
    | succ m ih => simp only [sumN, ih]; grind
  rw [lin, e]
  simp only [xd]; grind

/-! ### the list that has these sums -/
def tot (t : Sq) (l : List Int) (n : Nat) : Int := sumN (fun i => t (n - i) * l.getD i 0) n
def mk (t : Sq) : Nat → Option (List Int)
  | 0 => some [1]
  | n + 1 => match mk t n with
    | none => none
    | some l => if tot t l (n + 1) % ((n : Int) + 1) = 0 then some (l ++ [tot t l (n + 1) / ((n : Int) + 1)]) else none
theorem mk_len {t : Sq} : ∀ {n : Nat} {l : List Int}, mk t n = some l → l.length = n + 1
  | 0, l, h => by cases h; rfl
  | n + 1, l, h => by
    rw [mk] at h
    split at h
    · cases h
    · rename_i l' e
      split at h
      · cases h; simp [mk_len e]
      · cases h
theorem mk_none {t : Sq} {n : Nat} (h : mk t n = none) : ∀ k, mk t (n + k) = none
  | 0 => h
  | k + 1 => by rw [← Nat.add_assoc, mk, mk_none h k]
theorem mk_congr {t u : Sq} : ∀ {n : Nat}, (∀ i, 1 ≤ i → i ≤ n → t i = u i) → mk t n = mk u n
  | 0, _ => rfl
  | n + 1, h => by
    have e := mk_congr (n := n) fun i a b => h i a (by omega)
    have e2 : ∀ l, tot t l (n + 1) = tot u l (n + 1) := fun l => sumN_congr fun i hi => by rw [h _ (by omega) (by omega)]
    simp only [mk, e, e2]
/-- a list is found again from its sums -/
theorem mk_ps {a : Sq} (h : a 0 = 1) : ∀ n, mk (ps a) n = some ((List.range (n + 1)).map a)
  | 0 => by simp [mk, h]
  | n + 1 => by
    have ih := mk_ps h n
    have e : tot (ps a) ((List.range (n + 1)).map a) (n + 1) = ((n : Int) + 1) * a (n + 1) := by
      have q := ps_conv a h (n + 1)
      rw [conv_comm, conv_sum, sumN] at q
      have z : ps a 0 = 0 := rfl
      simp only [Nat.sub_self, z, Int.mul_zero, Int.add_zero, xd] at q
      rw [← show ((n + 1 : Nat) : Int) * a (n + 1) = ((n : Int) + 1) * a (n + 1) by simp, ← q]
      exact sumN_congr fun i hi => by
        have : ((List.range (n + 1)).map a).getD i 0 = a i := by
          rw [List.getD_eq_getElem?_getD]; simp [hi]
        rw [this]; grind
    have hp : ((n : Int) + 1) ≠ 0 := by omega
    rw [mk, ih]
    simp only [e]
    rw [if_pos (Int.mul_emod_right _ _), Int.mul_ediv_cancel_left _ hp, List.range_succ (n := n + 1), List.map_append]
    rfl
/-- .. and the found list has the sums that it was made of -/
theorem ps_mk {t : Sq} : ∀ {n : Nat} {l : List Int}, mk t n = some l → l.getD 0 0 = 1 ∧ ∀ k, 1 ≤ k → k ≤ n → ps (fun i => l.getD i 0) k = t k
  | 0, l, h => by cases h; exact ⟨rfl, fun k a b => by omega⟩
  | n + 1, l, h => by
    rw [mk] at h
    split at h
    · cases h
    · rename_i l' e
      split at h
      · rename_i hd
        cases h
        have hl := mk_len e
        obtain ⟨i1, i2⟩ := ps_mk e
        have get : ∀ i, i ≤ n → (l' ++ [tot t l' (n + 1) / ((n : Int) + 1)]).getD i 0 = l'.getD i 0 := fun i hi => by
          rw [List.getD_eq_getElem?_getD, List.getElem?_append_left (by omega), ← List.getD_eq_getElem?_getD]
        refine ⟨(get 0 (by omega)).trans i1, fun k k1 k2 => ?_⟩
        by_cases hk : k ≤ n
        · rw [← i2 k k1 hk]
          exact ps_congr (m := n) (fun i hi => get i hi) k hk
        · obtain rfl : k = n + 1 := by omega
          have last : (l' ++ [tot t l' (n + 1) / ((n : Int) + 1)]).getD (n + 1) 0 = tot t l' (n + 1) / ((n : Int) + 1) := by
            rw [List.getD_eq_getElem?_getD, List.getElem?_append_right (by omega), hl]; simp
          have div : ((n : Int) + 1) * (tot t l' (n + 1) / ((n : Int) + 1)) = tot t l' (n + 1) := Int.mul_ediv_cancel' (Int.dvd_of_emod_eq_zero hd)
          rw [ps_succ, last, div]
          have e1 : tot t l' (n + 1) = t (n + 1) + sumN (fun i => t (n - i) * l'.getD (i + 1) 0) n := by
            unfold tot
            rw [sumN_split]
            simp only [Nat.sub_zero, i1, Int.mul_one]
            congr 1
            exact sumN_congr fun i hi => by rw [show n + 1 - (i + 1) = n - i by omega]
          have e2 : sumN (fun i => ps (fun i => (l' ++ [tot t l' (n + 1) / ((n : Int) + 1)]).getD i 0) (n - i) * (l' ++ [tot t l' (n + 1) / ((n : Int) + 1)]).getD (i + 1) 0) n = sumN (fun i => t (n - i) * l'.getD (i + 1) 0) n := sumN_congr fun i hi => by
            rw [get (i + 1) (by omega), ps_congr (m := n) (fun i hi => get i hi) (n - i) (by omega), i2 (n - i) (by omega) (by omega)]
          rw [e2, e1]; omega
      · cases h
end Mp.K39

set_option Elab.async false
set_option linter.all false
set_option maxRecDepth 100000
set_option exponentiation.threshold 500
namespace Mp.K39
open PySem Mp
abbrev LI (ns : List Int) : MO := .lst (ns.map M.int)
/-- the sums that a list of counts tells -/
def tt (q : Int) (cs : List Int) : Sq := fun k => cs.getD (k - 1) 0 - q ^ k - 1
/-- the second half by the first -/
def full (q : Int) (l : List Int) (g : Nat) : List Int := l ++ (List.range g).map fun j => q ^ (j + 1) * l.getD (g - 1 - j) 0
def spMade : SpM := fun ms h Q _ => ∃ (q : Int) (a : Nat) (cs : List Int), ms = [.int q, .ref a] ∧ h a = some (LI cs) ∧ cs.length ≤ 40 ∧ (∀ c ∈ cs, c.natAbs < 2 ^ 300) ∧ 1 ≤ q ∧ q.natAbs < 2 ^ 100 ∧
  match mk (tt q cs) cs.length with
  | none => Q .non h
  | some l => ∀ p, h p = none → Q (.ref p) (put h p (LI (full q l cs.length)))
theorem mk_bnd {t : Sq} {T : Nat} (hT : 1 ≤ T) : ∀ {n : Nat} {l : List Int}, (∀ k, 1 ≤ k → k ≤ n → (t k).natAbs ≤ T ^ k) → mk t n = some l → ∀ i, i ≤ n → (l.getD i 0).natAbs ≤ T ^ i := by
  intro n
  induction n with
  | zero => intro l ht h i hi; cases h; obtain rfl : i = 0 := by omega
            simp
  | succ n ih =>
    intro l ht h i hi
    rw [mk] at h
    split at h
    · cases h
    · rename_i l' e
      have il := ih (fun k a b => ht k a (by omega)) e
      have hl := mk_len e
      split at h
      · cases h
        by_cases hn : i ≤ n
        · rw [List.getD_eq_getElem?_getD, List.getElem?_append_left (by omega), ← List.getD_eq_getElem?_getD]; exact il i hn
        · obtain rfl : i = n + 1 := by omega
          rw [List.getD_eq_getElem?_getD, List.getElem?_append_right (by omega), hl]
          simp only [Nat.sub_self, List.getElem?_cons_zero, Option.getD_some]
          have b : (tot t l' (n + 1)).natAbs ≤ (n + 1) * T ^ (n + 1) := by
            refine sumN_abs fun i hi => ?_
            rw [Int.natAbs_mul]
            calc _ ≤ T ^ (n + 1 - i) * T ^ i := Nat.mul_le_mul (ht _ (by omega) (by omega)) (il i (by omega))
              _ = T ^ (n + 1) := by rw [← Nat.pow_add]; congr 1; omega
          rw [Int.natAbs_ediv_of_dvd (Int.dvd_of_emod_eq_zero (by assumption))]
          have e1 : ((n : Int) + 1).natAbs = n + 1 := by omega
          rw [e1]
          exact Nat.div_le_of_le_mul b
      · cases h
theorem pow_sum (X Y : Nat) : ∀ m : Nat, X + Y ^ (m + 1) + 1 ≤ (X + Y + 1) ^ (m + 1)
  | 0 => by simp
  | m + 1 => by
    have ih := pow_sum X Y m
    rw [Nat.pow_succ (n := X + Y + 1), Nat.pow_succ (n := Y)]
    generalize (X + Y + 1) ^ (m + 1) = x at *
    generalize Y ^ (m + 1) = y at *
    have : (X + y + 1) * (X + Y + 1) ≤ x * (X + Y + 1) := Nat.mul_le_mul_right _ ih
    have e : (X + y + 1) * (X + Y + 1) = X * X + X * Y + X + y * X + y * Y + y + X + Y + 1 := by grind
    rw [e] at this
    generalize X * X = u1 at *
    generalize X * Y = u2 at *
    generalize y * X = u3 at *
    generalize y * Y = u4 at *
    omega
theorem tt_gen {q : Int} {cs : List Int} {X Y Z : Nat} (hX : 0 < X) (hc : ∀ c ∈ cs, c.natAbs < X) (hq : q.natAbs ≤ Y) (hZ : X + Y + 1 ≤ Z) (k : Nat) (hk : 1 ≤ k) : (tt q cs k).natAbs ≤ Z ^ k := by
  have c0 : (cs.getD (k - 1) 0).natAbs < X := by
    by_cases h : k - 1 < cs.length
    · rw [List.getD_eq_getElem?_getD, List.getElem?_eq_getElem h]; exact hc _ (List.getElem_mem h)
    · rw [List.getD_eq_getElem?_getD, List.getElem?_eq_none (by omega)]; exact hX
  have p0 : (q ^ k).natAbs ≤ Y ^ k := by rw [Int.natAbs_pow]; exact Nat.pow_le_pow_left (by omega) k
  have e : (X + Y + 1) ^ k ≤ Z ^ k := Nat.pow_le_pow_left hZ k
  obtain ⟨m, rfl⟩ : ∃ m, k = m + 1 := ⟨k - 1, by omega⟩
  have s := pow_sum X Y m
  unfold tt
  generalize Y ^ (m + 1) = y at *
  generalize (X + Y + 1) ^ (m + 1) = x at *
  generalize Z ^ (m + 1) = z at *
  generalize q ^ (m + 1) = w at *
  omega
theorem tt_bnd {q : Int} {cs : List Int} (hc : ∀ c ∈ cs, c.natAbs < 2 ^ 300) (hq : q.natAbs < 2 ^ 100) (k : Nat) (hk : 1 ≤ k) : (tt q cs k).natAbs ≤ (2 ^ 301) ^ k :=
  tt_gen (X := 2 ^ 300) (Y := 2 ^ 100) (by decide) hc (Nat.le_of_lt hq) (by decide) k hk
theorem log2_pow {x b k B : Nat} (h : x ≤ (2 ^ b) ^ k) (hk : b * k < B) : x.log2 < B := by
  apply log2_le _ (by omega)
  rw [← Nat.pow_mul] at h
  exact Nat.lt_of_le_of_lt h (Nat.pow_lt_pow_right (by omega) hk)
theorem divOk {j : Int} (h : 0 < j) (h2 : j < 4611686018427387904) : DivOk j := ⟨h, Nat.lt_trans (log2_le (k := 62) (by omega) (by omega)) (by omega)⟩
theorem hSZ : SZ = 16777216 := rfl
theorem keeps_list_made (Φ : Phi) (hΦ : Φ.Mono) (hr : Φ.fn "raised" = spRaised) : Keeps Φ 6 t_list_made spMade := by
  intro ms h Q hsp
  obtain ⟨q, a, cs, rfl, ha, hlen, hc, q1, q2, post⟩ := hsp
  change wS Φ W0 _ _ [some (.int q), some (.ref a), none, none, none, none] h
  unfold t_list_made
  refine st_asg hΦ ?_
  simp only [e_var_v, e_var_t, e_var_q, e_var_i, e_int_v, e_int_t, e_int_q, e_int_i, e_bl_v, e_bl_t, e_bl_q, e_bl_i, e_non_v, e_non_t, e_non_q, e_non_i, e_str_v, e_str_t, e_str_q, e_str_i, e_glob_v, e_glob_t, e_glob_q, e_glob_i, e_neg_v, e_neg_t, e_neg_q, e_neg_i, e_ife_v, e_ife_t, e_ife_q, e_ife_i, e_tup_v, e_tup_t, e_tup_q, e_tup_i, e_ix_v, e_ix_t, e_ix_q, e_ix_i, e_sl_v, e_sl_t, e_sl_q, e_sl_i, e_call_v, e_call_t, e_call_q, e_call_i, e_bi_v, e_bi_t, e_bi_q, e_bi_i, e_bq_v, e_bq_t, e_bq_q, e_bq_i, e_meth_v, e_meth_t, e_meth_q, e_meth_i, e_lst_v, e_lst_q, e_lst_i, e_bl1_v, e_bl1_q, e_bl1_i, e_comp_v, e_comp_q, e_comp_i, e_sub_v, e_fdiv_v, e_mod_v, e_pow_v, e_add_v, e_mul_v, e_add_q, e_mul_q, e_add_i, e_mul_i, e_not_v, e_not_t, e_and_v, e_and_t, e_or_v, e_or_t, e_cmp_v, e_cmp_t, e_rng_i, e_enum_i, e_zip_i, e_nil_a, e_cons_a, e_var_g, e_ix_g, e_tup_g, e_nil_gs, e_cons_gs, o_add, o_sub, o_add2, o_addt, o_mul, o_fdiv, o_mod, o_pow, o_aug, o_neg, m_eq, m_ne, m_lt, m_le, m_gt, m_ge, m_eqs, m_is, m_isnot, n_non, n_ref, n_int, n_tup, b_abs, b_int, b_len, b_max, b_min, l_list, r_1, r_2, t_bl, t_int, t_non, q_tup, q_rol, a_bl, d_none, d_some, d_int, u_all, u_if, g_nil, g_cons, isL_nil, isL_var, isL_int, isL_bl, isL_non, isL_str, isL_glob, isL_neg, isL_not, isL_and, isL_or, isL_ife, isL_cmp, isL_tup, isL_ix, isL_sl, isL_call, isL_bi, isL_bq, isL_meth, isL_rev, isL_step2, isL_lst, isL_bl1, isL_comp, isL_add, isL_mul, isL_sub, isL_fdiv, isL_mod, isL_pow, reduceIte, Bool.or_self, Bool.false_eq_true, isNonE, isNil, lenE, wipeM, Bool.or_true, Bool.true_or, Bool.or_false, List.getElem?_cons_succ, List.getElem?_cons_zero, List.set_cons_succ, List.set_cons_zero, List.length_cons, List.length_nil, List.length_map, rngL_length]
  refine ⟨by omega, trivial, fun p np => ?_⟩
  have hap : ∀ o, put h p o a = some (LI cs) := fun o => (put_ne (mh_ne ha np)).trans ha
  have hln : ∀ o, lenM (.ref a) (put h p o) = some cs.length := fun o => len_int (hap o)
  refine st_for hΦ ?_
  simp only [e_var_v, e_var_t, e_var_q, e_var_i, e_int_v, e_int_t, e_int_q, e_int_i, e_bl_v, e_bl_t, e_bl_q, e_bl_i, e_non_v, e_non_t, e_non_q, e_non_i, e_str_v, e_str_t, e_str_q, e_str_i, e_glob_v, e_glob_t, e_glob_q, e_glob_i, e_neg_v, e_neg_t, e_neg_q, e_neg_i, e_ife_v, e_ife_t, e_ife_q, e_ife_i, e_tup_v, e_tup_t, e_tup_q, e_tup_i, e_ix_v, e_ix_t, e_ix_q, e_ix_i, e_sl_v, e_sl_t, e_sl_q, e_sl_i, e_call_v, e_call_t, e_call_q, e_call_i, e_bi_v, e_bi_t, e_bi_q, e_bi_i, e_bq_v, e_bq_t, e_bq_q, e_bq_i, e_meth_v, e_meth_t, e_meth_q, e_meth_i, e_lst_v, e_lst_q, e_lst_i, e_bl1_v, e_bl1_q, e_bl1_i, e_comp_v, e_comp_q, e_comp_i, e_sub_v, e_fdiv_v, e_mod_v, e_pow_v, e_add_v, e_mul_v, e_add_q, e_mul_q, e_add_i, e_mul_i, e_not_v, e_not_t, e_and_v, e_and_t, e_or_v, e_or_t, e_cmp_v, e_cmp_t, e_rng_i, e_enum_i, e_zip_i, e_nil_a, e_cons_a, e_var_g, e_ix_g, e_tup_g, e_nil_gs, e_cons_gs, o_add, o_sub, o_add2, o_addt, o_mul, o_fdiv, o_mod, o_pow, o_aug, o_neg, m_eq, m_ne, m_lt, m_le, m_gt, m_ge, m_eqs, m_is, m_isnot, n_non, n_ref, n_int, n_tup, b_abs, b_int, b_len, b_max, b_min, l_list, r_1, r_2, t_bl, t_int, t_non, q_tup, q_rol, a_bl, d_none, d_some, d_int, u_all, u_if, g_nil, g_cons, isL_nil, isL_var, isL_int, isL_bl, isL_non, isL_str, isL_glob, isL_neg, isL_not, isL_and, isL_or, isL_ife, isL_cmp, isL_tup, isL_ix, isL_sl, isL_call, isL_bi, isL_bq, isL_meth, isL_rev, isL_step2, isL_lst, isL_bl1, isL_comp, isL_add, isL_mul, isL_sub, isL_fdiv, isL_mod, isL_pow, reduceIte, Bool.or_self, Bool.false_eq_true, isNonE, isNil, lenE, wipeM, Bool.or_true, Bool.true_or, Bool.or_false, List.getElem?_cons_succ, List.getElem?_cons_zero, List.set_cons_succ, List.set_cons_zero, List.length_cons, List.length_nil, List.length_map, rngL_length, hln]
  refine ⟨by omega, ?_⟩
  refine ⟨fun i σ h' => ∃ l x3 x5, mk (tt q cs) i = some l ∧ σ = [some (.int q), some (.ref a), some (.ref p), x3, none, x5] ∧ h' = put h p (LI l), ?_, ?_, ?_, ?_⟩
  · exact ⟨[1], none, none, rfl, rfl, rfl⟩
  · intro i σ h' _ _; trivial
  · rintro i m σ h' em ⟨l, x3, x5, el, rfl, rfl⟩
    obtain ⟨hi, rfl⟩ := rng_get em
    have hll := mk_len el
    simp only [e_var_v, e_var_t, e_var_q, e_var_i, e_int_v, e_int_t, e_int_q, e_int_i, e_bl_v, e_bl_t, e_bl_q, e_bl_i, e_non_v, e_non_t, e_non_q, e_non_i, e_str_v, e_str_t, e_str_q, e_str_i, e_glob_v, e_glob_t, e_glob_q, e_glob_i, e_neg_v, e_neg_t, e_neg_q, e_neg_i, e_ife_v, e_ife_t, e_ife_q, e_ife_i, e_tup_v, e_tup_t, e_tup_q, e_tup_i, e_ix_v, e_ix_t, e_ix_q, e_ix_i, e_sl_v, e_sl_t, e_sl_q, e_sl_i, e_call_v, e_call_t, e_call_q, e_call_i, e_bi_v, e_bi_t, e_bi_q, e_bi_i, e_bq_v, e_bq_t, e_bq_q, e_bq_i, e_meth_v, e_meth_t, e_meth_q, e_meth_i, e_lst_v, e_lst_q, e_lst_i, e_bl1_v, e_bl1_q, e_bl1_i, e_comp_v, e_comp_q, e_comp_i, e_sub_v, e_fdiv_v, e_mod_v, e_pow_v, e_add_v, e_mul_v, e_add_q, e_mul_q, e_add_i, e_mul_i, e_not_v, e_not_t, e_and_v, e_and_t, e_or_v, e_or_t, e_cmp_v, e_cmp_t, e_rng_i, e_enum_i, e_zip_i, e_nil_a, e_cons_a, e_var_g, e_ix_g, e_tup_g, e_nil_gs, e_cons_gs, o_add, o_sub, o_add2, o_addt, o_mul, o_fdiv, o_mod, o_pow, o_aug, o_neg, m_eq, m_ne, m_lt, m_le, m_gt, m_ge, m_eqs, m_is, m_isnot, n_non, n_ref, n_int, n_tup, b_abs, b_int, b_len, b_max, b_min, l_list, r_1, r_2, t_bl, t_int, t_non, q_tup, q_rol, a_bl, d_none, d_some, d_int, u_all, u_if, g_nil, g_cons, isL_nil, isL_var, isL_int, isL_bl, isL_non, isL_str, isL_glob, isL_neg, isL_not, isL_and, isL_or, isL_ife, isL_cmp, isL_tup, isL_ix, isL_sl, isL_call, isL_bi, isL_bq, isL_meth, isL_rev, isL_step2, isL_lst, isL_bl1, isL_comp, isL_add, isL_mul, isL_sub, isL_fdiv, isL_mod, isL_pow, reduceIte, Bool.or_self, Bool.false_eq_true, isNonE, isNil, lenE, wipeM, Bool.or_true, Bool.true_or, Bool.or_false, List.getElem?_cons_succ, List.getElem?_cons_zero, List.set_cons_succ, List.set_cons_zero, List.length_cons, List.length_nil, List.length_map, rngL_length]
    refine st_asg hΦ ?_
    simp only [e_var_v, e_var_t, e_var_q, e_var_i, e_int_v, e_int_t, e_int_q, e_int_i, e_bl_v, e_bl_t, e_bl_q, e_bl_i, e_non_v, e_non_t, e_non_q, e_non_i, e_str_v, e_str_t, e_str_q, e_str_i, e_glob_v, e_glob_t, e_glob_q, e_glob_i, e_neg_v, e_neg_t, e_neg_q, e_neg_i, e_ife_v, e_ife_t, e_ife_q, e_ife_i, e_tup_v, e_tup_t, e_tup_q, e_tup_i, e_ix_v, e_ix_t, e_ix_q, e_ix_i, e_sl_v, e_sl_t, e_sl_q, e_sl_i, e_call_v, e_call_t, e_call_q, e_call_i, e_bi_v, e_bi_t, e_bi_q, e_bi_i, e_bq_v, e_bq_t, e_bq_q, e_bq_i, e_meth_v, e_meth_t, e_meth_q, e_meth_i, e_lst_v, e_lst_q, e_lst_i, e_bl1_v, e_bl1_q, e_bl1_i, e_comp_v, e_comp_q, e_comp_i, e_sub_v, e_fdiv_v, e_mod_v, e_pow_v, e_add_v, e_mul_v, e_add_q, e_mul_q, e_add_i, e_mul_i, e_not_v, e_not_t, e_and_v, e_and_t, e_or_v, e_or_t, e_cmp_v, e_cmp_t, e_rng_i, e_enum_i, e_zip_i, e_nil_a, e_cons_a, e_var_g, e_ix_g, e_tup_g, e_nil_gs, e_cons_gs, o_add, o_sub, o_add2, o_addt, o_mul, o_fdiv, o_mod, o_pow, o_aug, o_neg, m_eq, m_ne, m_lt, m_le, m_gt, m_ge, m_eqs, m_is, m_isnot, n_non, n_ref, n_int, n_tup, b_abs, b_int, b_len, b_max, b_min, l_list, r_1, r_2, t_bl, t_int, t_non, q_tup, q_rol, a_bl, d_none, d_some, d_int, u_all, u_if, g_nil, g_cons, isL_nil, isL_var, isL_int, isL_bl, isL_non, isL_str, isL_glob, isL_neg, isL_not, isL_and, isL_or, isL_ife, isL_cmp, isL_tup, isL_ix, isL_sl, isL_call, isL_bi, isL_bq, isL_meth, isL_rev, isL_step2, isL_lst, isL_bl1, isL_comp, isL_add, isL_mul, isL_sub, isL_fdiv, isL_mod, isL_pow, reduceIte, Bool.or_self, Bool.false_eq_true, isNonE, isNil, lenE, wipeM, Bool.or_true, Bool.true_or, Bool.or_false, List.getElem?_cons_succ, List.getElem?_cons_zero, List.set_cons_succ, List.set_cons_zero, List.length_cons, List.length_nil, List.length_map, rngL_length]
    refine ⟨by omega, by have : SZ = 16777216 := rfl; omega, ?_⟩
    refine compI_pure hΦ (fun j => .int (tt q cs (i + 1 - j) * l.getD j 0)) ?_ ?_ ?_
    · trivial
    · intro j m R ej hR
      obtain ⟨hj, rfl⟩ := rng_get ej
      simp only [e_var_v, e_var_t, e_var_q, e_var_i, e_int_v, e_int_t, e_int_q, e_int_i, e_bl_v, e_bl_t, e_bl_q, e_bl_i, e_non_v, e_non_t, e_non_q, e_non_i, e_str_v, e_str_t, e_str_q, e_str_i, e_glob_v, e_glob_t, e_glob_q, e_glob_i, e_neg_v, e_neg_t, e_neg_q, e_neg_i, e_ife_v, e_ife_t, e_ife_q, e_ife_i, e_tup_v, e_tup_t, e_tup_q, e_tup_i, e_ix_v, e_ix_t, e_ix_q, e_ix_i, e_sl_v, e_sl_t, e_sl_q, e_sl_i, e_call_v, e_call_t, e_call_q, e_call_i, e_bi_v, e_bi_t, e_bi_q, e_bi_i, e_bq_v, e_bq_t, e_bq_q, e_bq_i, e_meth_v, e_meth_t, e_meth_q, e_meth_i, e_lst_v, e_lst_q, e_lst_i, e_bl1_v, e_bl1_q, e_bl1_i, e_comp_v, e_comp_q, e_comp_i, e_sub_v, e_fdiv_v, e_mod_v, e_pow_v, e_add_v, e_mul_v, e_add_q, e_mul_q, e_add_i, e_mul_i, e_not_v, e_not_t, e_and_v, e_and_t, e_or_v, e_or_t, e_cmp_v, e_cmp_t, e_rng_i, e_enum_i, e_zip_i, e_nil_a, e_cons_a, e_var_g, e_ix_g, e_tup_g, e_nil_gs, e_cons_gs, o_add, o_sub, o_add2, o_addt, o_mul, o_fdiv, o_mod, o_pow, o_aug, o_neg, m_eq, m_ne, m_lt, m_le, m_gt, m_ge, m_eqs, m_is, m_isnot, n_non, n_ref, n_int, n_tup, b_abs, b_int, b_len, b_max, b_min, l_list, r_1, r_2, t_bl, t_int, t_non, q_tup, q_rol, a_bl, d_none, d_some, d_int, u_all, u_if, g_nil, g_cons, isL_nil, isL_var, isL_int, isL_bl, isL_non, isL_str, isL_glob, isL_neg, isL_not, isL_and, isL_or, isL_ife, isL_cmp, isL_tup, isL_ix, isL_sl, isL_call, isL_bi, isL_bq, isL_meth, isL_rev, isL_step2, isL_lst, isL_bl1, isL_comp, isL_add, isL_mul, isL_sub, isL_fdiv, isL_mod, isL_pow, reduceIte, Bool.or_self, Bool.false_eq_true, isNonE, isNil, lenE, wipeM, Bool.or_true, Bool.true_or, Bool.or_false, List.getElem?_cons_succ, List.getElem?_cons_zero, List.set_cons_succ, List.set_cons_zero, List.length_cons, List.length_nil, List.length_map, rngL_length]
      refine ix_int (hap _) (by omega) (by omega) ?_
      rw [hr]
      refine ⟨q, _, rfl, by omega, by omega, q1, q2, ?_⟩
      simp only [e_var_v, e_var_t, e_var_q, e_var_i, e_int_v, e_int_t, e_int_q, e_int_i, e_bl_v, e_bl_t, e_bl_q, e_bl_i, e_non_v, e_non_t, e_non_q, e_non_i, e_str_v, e_str_t, e_str_q, e_str_i, e_glob_v, e_glob_t, e_glob_q, e_glob_i, e_neg_v, e_neg_t, e_neg_q, e_neg_i, e_ife_v, e_ife_t, e_ife_q, e_ife_i, e_tup_v, e_tup_t, e_tup_q, e_tup_i, e_ix_v, e_ix_t, e_ix_q, e_ix_i, e_sl_v, e_sl_t, e_sl_q, e_sl_i, e_call_v, e_call_t, e_call_q, e_call_i, e_bi_v, e_bi_t, e_bi_q, e_bi_i, e_bq_v, e_bq_t, e_bq_q, e_bq_i, e_meth_v, e_meth_t, e_meth_q, e_meth_i, e_lst_v, e_lst_q, e_lst_i, e_bl1_v, e_bl1_q, e_bl1_i, e_comp_v, e_comp_q, e_comp_i, e_sub_v, e_fdiv_v, e_mod_v, e_pow_v, e_add_v, e_mul_v, e_add_q, e_mul_q, e_add_i, e_mul_i, e_not_v, e_not_t, e_and_v, e_and_t, e_or_v, e_or_t, e_cmp_v, e_cmp_t, e_rng_i, e_enum_i, e_zip_i, e_nil_a, e_cons_a, e_var_g, e_ix_g, e_tup_g, e_nil_gs, e_cons_gs, o_add, o_sub, o_add2, o_addt, o_mul, o_fdiv, o_mod, o_pow, o_aug, o_neg, m_eq, m_ne, m_lt, m_le, m_gt, m_ge, m_eqs, m_is, m_isnot, n_non, n_ref, n_int, n_tup, b_abs, b_int, b_len, b_max, b_min, l_list, r_1, r_2, t_bl, t_int, t_non, q_tup, q_rol, a_bl, d_none, d_some, d_int, u_all, u_if, g_nil, g_cons, isL_nil, isL_var, isL_int, isL_bl, isL_non, isL_str, isL_glob, isL_neg, isL_not, isL_and, isL_or, isL_ife, isL_cmp, isL_tup, isL_ix, isL_sl, isL_call, isL_bi, isL_bq, isL_meth, isL_rev, isL_step2, isL_lst, isL_bl1, isL_comp, isL_add, isL_mul, isL_sub, isL_fdiv, isL_mod, isL_pow, reduceIte, Bool.or_self, Bool.false_eq_true, isNonE, isNil, lenE, wipeM, Bool.or_true, Bool.true_or, Bool.or_false, List.getElem?_cons_succ, List.getElem?_cons_zero, List.set_cons_succ, List.set_cons_zero, List.length_cons, List.length_nil, List.length_map, rngL_length]
      refine ix_int put_same (by omega) (by omega) ?_
      have e1 : cs.getD (1 + (i : Int) * 1 - (0 + (j : Int) * 1) - 1).toNat 0 - q ^ (1 + (i : Int) * 1 - (0 + (j : Int) * 1)).toNat - 1 = tt q cs (i + 1 - j) := by
        unfold tt
        congr 3 <;> omega
      have e2 : (0 + (j : Int) * 1).toNat = j := by omega
      rw [e1, e2]
      simp only [e_var_v, e_var_t, e_var_q, e_var_i, e_int_v, e_int_t, e_int_q, e_int_i, e_bl_v, e_bl_t, e_bl_q, e_bl_i, e_non_v, e_non_t, e_non_q, e_non_i, e_str_v, e_str_t, e_str_q, e_str_i, e_glob_v, e_glob_t, e_glob_q, e_glob_i, e_neg_v, e_neg_t, e_neg_q, e_neg_i, e_ife_v, e_ife_t, e_ife_q, e_ife_i, e_tup_v, e_tup_t, e_tup_q, e_tup_i, e_ix_v, e_ix_t, e_ix_q, e_ix_i, e_sl_v, e_sl_t, e_sl_q, e_sl_i, e_call_v, e_call_t, e_call_q, e_call_i, e_bi_v, e_bi_t, e_bi_q, e_bi_i, e_bq_v, e_bq_t, e_bq_q, e_bq_i, e_meth_v, e_meth_t, e_meth_q, e_meth_i, e_lst_v, e_lst_q, e_lst_i, e_bl1_v, e_bl1_q, e_bl1_i, e_comp_v, e_comp_q, e_comp_i, e_sub_v, e_fdiv_v, e_mod_v, e_pow_v, e_add_v, e_mul_v, e_add_q, e_mul_q, e_add_i, e_mul_i, e_not_v, e_not_t, e_and_v, e_and_t, e_or_v, e_or_t, e_cmp_v, e_cmp_t, e_rng_i, e_enum_i, e_zip_i, e_nil_a, e_cons_a, e_var_g, e_ix_g, e_tup_g, e_nil_gs, e_cons_gs, o_add, o_sub, o_add2, o_addt, o_mul, o_fdiv, o_mod, o_pow, o_aug, o_neg, m_eq, m_ne, m_lt, m_le, m_gt, m_ge, m_eqs, m_is, m_isnot, n_non, n_ref, n_int, n_tup, b_abs, b_int, b_len, b_max, b_min, l_list, r_1, r_2, t_bl, t_int, t_non, q_tup, q_rol, a_bl, d_none, d_some, d_int, u_all, u_if, g_nil, g_cons, isL_nil, isL_var, isL_int, isL_bl, isL_non, isL_str, isL_glob, isL_neg, isL_not, isL_and, isL_or, isL_ife, isL_cmp, isL_tup, isL_ix, isL_sl, isL_call, isL_bi, isL_bq, isL_meth, isL_rev, isL_step2, isL_lst, isL_bl1, isL_comp, isL_add, isL_mul, isL_sub, isL_fdiv, isL_mod, isL_pow, reduceIte, Bool.or_self, Bool.false_eq_true, isNonE, isNil, lenE, wipeM, Bool.or_true, Bool.true_or, Bool.or_false, List.getElem?_cons_succ, List.getElem?_cons_zero, List.set_cons_succ, List.set_cons_zero, List.length_cons, List.length_nil, List.length_map, rngL_length]
      refine ⟨?_, hR⟩
      have b1 := log2_pow (B := 20000) (tt_bnd hc q2 (i + 1 - j) (by omega)) (by omega)
      have b2 := log2_pow (B := 20000) (mk_bnd (Nat.one_le_pow _ _ (by decide)) (fun k k1 _ => tt_bnd hc q2 k k1) el j (by omega)) (by omega)
      unfold MulOk; omega
    · rw [rngL_length, show (1 + (i : Int) * 1).toNat = i + 1 by omega]
      refine ⟨trivial, bq_sum rfl ?_⟩
      have et : ((List.range (i + 1)).map fun j => tt q cs (i + 1 - j) * l.getD j 0).sum = tot (tt q cs) l (i + 1) := sum_map _ _
      rw [et]
      refine st_iff hΦ ?_
      simp only [e_var_v, e_var_t, e_var_q, e_var_i, e_int_v, e_int_t, e_int_q, e_int_i, e_bl_v, e_bl_t, e_bl_q, e_bl_i, e_non_v, e_non_t, e_non_q, e_non_i, e_str_v, e_str_t, e_str_q, e_str_i, e_glob_v, e_glob_t, e_glob_q, e_glob_i, e_neg_v, e_neg_t, e_neg_q, e_neg_i, e_ife_v, e_ife_t, e_ife_q, e_ife_i, e_tup_v, e_tup_t, e_tup_q, e_tup_i, e_ix_v, e_ix_t, e_ix_q, e_ix_i, e_sl_v, e_sl_t, e_sl_q, e_sl_i, e_call_v, e_call_t, e_call_q, e_call_i, e_bi_v, e_bi_t, e_bi_q, e_bi_i, e_bq_v, e_bq_t, e_bq_q, e_bq_i, e_meth_v, e_meth_t, e_meth_q, e_meth_i, e_lst_v, e_lst_q, e_lst_i, e_bl1_v, e_bl1_q, e_bl1_i, e_comp_v, e_comp_q, e_comp_i, e_sub_v, e_fdiv_v, e_mod_v, e_pow_v, e_add_v, e_mul_v, e_add_q, e_mul_q, e_add_i, e_mul_i, e_not_v, e_not_t, e_and_v, e_and_t, e_or_v, e_or_t, e_cmp_v, e_cmp_t, e_rng_i, e_enum_i, e_zip_i, e_nil_a, e_cons_a, e_var_g, e_ix_g, e_tup_g, e_nil_gs, e_cons_gs, o_add, o_sub, o_add2, o_addt, o_mul, o_fdiv, o_mod, o_pow, o_aug, o_neg, m_eq, m_ne, m_lt, m_le, m_gt, m_ge, m_eqs, m_is, m_isnot, n_non, n_ref, n_int, n_tup, b_abs, b_int, b_len, b_max, b_min, l_list, r_1, r_2, t_bl, t_int, t_non, q_tup, q_rol, a_bl, d_none, d_some, d_int, u_all, u_if, g_nil, g_cons, isL_nil, isL_var, isL_int, isL_bl, isL_non, isL_str, isL_glob, isL_neg, isL_not, isL_and, isL_or, isL_ife, isL_cmp, isL_tup, isL_ix, isL_sl, isL_call, isL_bi, isL_bq, isL_meth, isL_rev, isL_step2, isL_lst, isL_bl1, isL_comp, isL_add, isL_mul, isL_sub, isL_fdiv, isL_mod, isL_pow, reduceIte, Bool.or_self, Bool.false_eq_true, isNonE, isNil, lenE, wipeM, Bool.or_true, Bool.true_or, Bool.or_false, List.getElem?_cons_succ, List.getElem?_cons_zero, List.set_cons_succ, List.set_cons_zero, List.length_cons, List.length_nil, List.length_map, rngL_length]
      refine ⟨by omega, ?_⟩
      have en : (1 + (i : Int) * 1) = (i : Int) + 1 := by omega
      rw [en]
      by_cases z : tot (tt q cs) l (i + 1) % ((i : Int) + 1) = 0
      · rw [if_neg (by simp [z])]
        refine st_skip ?_
        dsimp only
        refine st_expr1 ?_
        simp only [e_var_v, e_var_t, e_var_q, e_var_i, e_int_v, e_int_t, e_int_q, e_int_i, e_bl_v, e_bl_t, e_bl_q, e_bl_i, e_non_v, e_non_t, e_non_q, e_non_i, e_str_v, e_str_t, e_str_q, e_str_i, e_glob_v, e_glob_t, e_glob_q, e_glob_i, e_neg_v, e_neg_t, e_neg_q, e_neg_i, e_ife_v, e_ife_t, e_ife_q, e_ife_i, e_tup_v, e_tup_t, e_tup_q, e_tup_i, e_ix_v, e_ix_t, e_ix_q, e_ix_i, e_sl_v, e_sl_t, e_sl_q, e_sl_i, e_call_v, e_call_t, e_call_q, e_call_i, e_bi_v, e_bi_t, e_bi_q, e_bi_i, e_bq_v, e_bq_t, e_bq_q, e_bq_i, e_meth_v, e_meth_t, e_meth_q, e_meth_i, e_lst_v, e_lst_q, e_lst_i, e_bl1_v, e_bl1_q, e_bl1_i, e_comp_v, e_comp_q, e_comp_i, e_sub_v, e_fdiv_v, e_mod_v, e_pow_v, e_add_v, e_mul_v, e_add_q, e_mul_q, e_add_i, e_mul_i, e_not_v, e_not_t, e_and_v, e_and_t, e_or_v, e_or_t, e_cmp_v, e_cmp_t, e_rng_i, e_enum_i, e_zip_i, e_nil_a, e_cons_a, e_var_g, e_ix_g, e_tup_g, e_nil_gs, e_cons_gs, o_add, o_sub, o_add2, o_addt, o_mul, o_fdiv, o_mod, o_pow, o_aug, o_neg, m_eq, m_ne, m_lt, m_le, m_gt, m_ge, m_eqs, m_is, m_isnot, n_non, n_ref, n_int, n_tup, b_abs, b_int, b_len, b_max, b_min, l_list, r_1, r_2, t_bl, t_int, t_non, q_tup, q_rol, a_bl, d_none, d_some, d_int, u_all, u_if, g_nil, g_cons, isL_nil, isL_var, isL_int, isL_bl, isL_non, isL_str, isL_glob, isL_neg, isL_not, isL_and, isL_or, isL_ife, isL_cmp, isL_tup, isL_ix, isL_sl, isL_call, isL_bi, isL_bq, isL_meth, isL_rev, isL_step2, isL_lst, isL_bl1, isL_comp, isL_add, isL_mul, isL_sub, isL_fdiv, isL_mod, isL_pow, reduceIte, Bool.or_self, Bool.false_eq_true, isNonE, isNil, lenE, wipeM, Bool.or_true, Bool.true_or, Bool.or_false, List.getElem?_cons_succ, List.getElem?_cons_zero, List.set_cons_succ, List.set_cons_zero, List.length_cons, List.length_nil, List.length_map, rngL_length]
        refine ⟨lst_ok put_same, ?_, ?_⟩
        · exact divOk (by omega) (by omega)
        · refine (append_ref put_same (by rw [List.length_map]; have := hSZ; omega) ?_).2
          refine ⟨_, Sub.refl _, l ++ [tot (tt q cs) l (i + 1) / ((i : Int) + 1)], some (.int ((i : Int) + 1)), _, ?_, rfl, ?_⟩
          · rw [mk, el]; simp only []; rw [if_pos z]
          · simp [LI, put_put]
      · rw [if_pos (by simp [z])]
        refine st_ret ?_
        simp only [e_var_v, e_var_t, e_var_q, e_var_i, e_int_v, e_int_t, e_int_q, e_int_i, e_bl_v, e_bl_t, e_bl_q, e_bl_i, e_non_v, e_non_t, e_non_q, e_non_i, e_str_v, e_str_t, e_str_q, e_str_i, e_glob_v, e_glob_t, e_glob_q, e_glob_i, e_neg_v, e_neg_t, e_neg_q, e_neg_i, e_ife_v, e_ife_t, e_ife_q, e_ife_i, e_tup_v, e_tup_t, e_tup_q, e_tup_i, e_ix_v, e_ix_t, e_ix_q, e_ix_i, e_sl_v, e_sl_t, e_sl_q, e_sl_i, e_call_v, e_call_t, e_call_q, e_call_i, e_bi_v, e_bi_t, e_bi_q, e_bi_i, e_bq_v, e_bq_t, e_bq_q, e_bq_i, e_meth_v, e_meth_t, e_meth_q, e_meth_i, e_lst_v, e_lst_q, e_lst_i, e_bl1_v, e_bl1_q, e_bl1_i, e_comp_v, e_comp_q, e_comp_i, e_sub_v, e_fdiv_v, e_mod_v, e_pow_v, e_add_v, e_mul_v, e_add_q, e_mul_q, e_add_i, e_mul_i, e_not_v, e_not_t, e_and_v, e_and_t, e_or_v, e_or_t, e_cmp_v, e_cmp_t, e_rng_i, e_enum_i, e_zip_i, e_nil_a, e_cons_a, e_var_g, e_ix_g, e_tup_g, e_nil_gs, e_cons_gs, o_add, o_sub, o_add2, o_addt, o_mul, o_fdiv, o_mod, o_pow, o_aug, o_neg, m_eq, m_ne, m_lt, m_le, m_gt, m_ge, m_eqs, m_is, m_isnot, n_non, n_ref, n_int, n_tup, b_abs, b_int, b_len, b_max, b_min, l_list, r_1, r_2, t_bl, t_int, t_non, q_tup, q_rol, a_bl, d_none, d_some, d_int, u_all, u_if, g_nil, g_cons, isL_nil, isL_var, isL_int, isL_bl, isL_non, isL_str, isL_glob, isL_neg, isL_not, isL_and, isL_or, isL_ife, isL_cmp, isL_tup, isL_ix, isL_sl, isL_call, isL_bi, isL_bq, isL_meth, isL_rev, isL_step2, isL_lst, isL_bl1, isL_comp, isL_add, isL_mul, isL_sub, isL_fdiv, isL_mod, isL_pow, reduceIte, Bool.or_self, Bool.false_eq_true, isNonE, isNil, lenE, wipeM, Bool.or_true, Bool.true_or, Bool.or_false, List.getElem?_cons_succ, List.getElem?_cons_zero, List.set_cons_succ, List.set_cons_zero, List.length_cons, List.length_nil, List.length_map, rngL_length]
        have en : mk (tt q cs) (i + 1) = none := by rw [mk, el]; simp only []; rw [if_neg z]
        have em : mk (tt q cs) cs.length = none := by
          obtain ⟨k, e⟩ := Nat.exists_eq_add_of_le (show i + 1 ≤ cs.length by omega)
          rw [e]; exact mk_none en k
        rw [em] at post
        exact ⟨h, Sub.put np, post⟩
  · rintro σ h' ⟨l, x3, x5, el, rfl, rfl⟩
    rw [show ((cs.length : Int) + 1 - 1).toNat = cs.length by omega] at el
    rw [el] at post
    have hll := mk_len el
    refine st_for hΦ ?_
    simp only [e_var_v, e_var_t, e_var_q, e_var_i, e_int_v, e_int_t, e_int_q, e_int_i, e_bl_v, e_bl_t, e_bl_q, e_bl_i, e_non_v, e_non_t, e_non_q, e_non_i, e_str_v, e_str_t, e_str_q, e_str_i, e_glob_v, e_glob_t, e_glob_q, e_glob_i, e_neg_v, e_neg_t, e_neg_q, e_neg_i, e_ife_v, e_ife_t, e_ife_q, e_ife_i, e_tup_v, e_tup_t, e_tup_q, e_tup_i, e_ix_v, e_ix_t, e_ix_q, e_ix_i, e_sl_v, e_sl_t, e_sl_q, e_sl_i, e_call_v, e_call_t, e_call_q, e_call_i, e_bi_v, e_bi_t, e_bi_q, e_bi_i, e_bq_v, e_bq_t, e_bq_q, e_bq_i, e_meth_v, e_meth_t, e_meth_q, e_meth_i, e_lst_v, e_lst_q, e_lst_i, e_bl1_v, e_bl1_q, e_bl1_i, e_comp_v, e_comp_q, e_comp_i, e_sub_v, e_fdiv_v, e_mod_v, e_pow_v, e_add_v, e_mul_v, e_add_q, e_mul_q, e_add_i, e_mul_i, e_not_v, e_not_t, e_and_v, e_and_t, e_or_v, e_or_t, e_cmp_v, e_cmp_t, e_rng_i, e_enum_i, e_zip_i, e_nil_a, e_cons_a, e_var_g, e_ix_g, e_tup_g, e_nil_gs, e_cons_gs, o_add, o_sub, o_add2, o_addt, o_mul, o_fdiv, o_mod, o_pow, o_aug, o_neg, m_eq, m_ne, m_lt, m_le, m_gt, m_ge, m_eqs, m_is, m_isnot, n_non, n_ref, n_int, n_tup, b_abs, b_int, b_len, b_max, b_min, l_list, r_1, r_2, t_bl, t_int, t_non, q_tup, q_rol, a_bl, d_none, d_some, d_int, u_all, u_if, g_nil, g_cons, isL_nil, isL_var, isL_int, isL_bl, isL_non, isL_str, isL_glob, isL_neg, isL_not, isL_and, isL_or, isL_ife, isL_cmp, isL_tup, isL_ix, isL_sl, isL_call, isL_bi, isL_bq, isL_meth, isL_rev, isL_step2, isL_lst, isL_bl1, isL_comp, isL_add, isL_mul, isL_sub, isL_fdiv, isL_mod, isL_pow, reduceIte, Bool.or_self, Bool.false_eq_true, isNonE, isNil, lenE, wipeM, Bool.or_true, Bool.true_or, Bool.or_false, List.getElem?_cons_succ, List.getElem?_cons_zero, List.set_cons_succ, List.set_cons_zero, List.length_cons, List.length_nil, List.length_map, rngL_length, hln]
    refine r_down ⟨by omega, ?_⟩
    refine ⟨fun i σ h' => ∃ x4, σ = [some (.int q), some (.ref a), some (.ref p), x3, x4, x5] ∧ h' = put h p (LI (l ++ (List.range i).map fun j => q ^ (j + 1) * l.getD (cs.length - 1 - j) 0)), ?_, ?_, ?_, ?_⟩
    · exact ⟨none, rfl, by simp⟩
    · intro i σ h' _ _; trivial
    · rintro i m σ h' em ⟨x4, rfl, rfl⟩
      obtain ⟨hi, rfl⟩ := rng_get em
      simp only [e_var_v, e_var_t, e_var_q, e_var_i, e_int_v, e_int_t, e_int_q, e_int_i, e_bl_v, e_bl_t, e_bl_q, e_bl_i, e_non_v, e_non_t, e_non_q, e_non_i, e_str_v, e_str_t, e_str_q, e_str_i, e_glob_v, e_glob_t, e_glob_q, e_glob_i, e_neg_v, e_neg_t, e_neg_q, e_neg_i, e_ife_v, e_ife_t, e_ife_q, e_ife_i, e_tup_v, e_tup_t, e_tup_q, e_tup_i, e_ix_v, e_ix_t, e_ix_q, e_ix_i, e_sl_v, e_sl_t, e_sl_q, e_sl_i, e_call_v, e_call_t, e_call_q, e_call_i, e_bi_v, e_bi_t, e_bi_q, e_bi_i, e_bq_v, e_bq_t, e_bq_q, e_bq_i, e_meth_v, e_meth_t, e_meth_q, e_meth_i, e_lst_v, e_lst_q, e_lst_i, e_bl1_v, e_bl1_q, e_bl1_i, e_comp_v, e_comp_q, e_comp_i, e_sub_v, e_fdiv_v, e_mod_v, e_pow_v, e_add_v, e_mul_v, e_add_q, e_mul_q, e_add_i, e_mul_i, e_not_v, e_not_t, e_and_v, e_and_t, e_or_v, e_or_t, e_cmp_v, e_cmp_t, e_rng_i, e_enum_i, e_zip_i, e_nil_a, e_cons_a, e_var_g, e_ix_g, e_tup_g, e_nil_gs, e_cons_gs, o_add, o_sub, o_add2, o_addt, o_mul, o_fdiv, o_mod, o_pow, o_aug, o_neg, m_eq, m_ne, m_lt, m_le, m_gt, m_ge, m_eqs, m_is, m_isnot, n_non, n_ref, n_int, n_tup, b_abs, b_int, b_len, b_max, b_min, l_list, r_1, r_2, t_bl, t_int, t_non, q_tup, q_rol, a_bl, d_none, d_some, d_int, u_all, u_if, g_nil, g_cons, isL_nil, isL_var, isL_int, isL_bl, isL_non, isL_str, isL_glob, isL_neg, isL_not, isL_and, isL_or, isL_ife, isL_cmp, isL_tup, isL_ix, isL_sl, isL_call, isL_bi, isL_bq, isL_meth, isL_rev, isL_step2, isL_lst, isL_bl1, isL_comp, isL_add, isL_mul, isL_sub, isL_fdiv, isL_mod, isL_pow, reduceIte, Bool.or_self, Bool.false_eq_true, isNonE, isNil, lenE, wipeM, Bool.or_true, Bool.true_or, Bool.or_false, List.getElem?_cons_succ, List.getElem?_cons_zero, List.set_cons_succ, List.set_cons_zero, List.length_cons, List.length_nil, List.length_map, rngL_length]
      refine st_expr1 ?_
      simp only [e_var_v, e_var_t, e_var_q, e_var_i, e_int_v, e_int_t, e_int_q, e_int_i, e_bl_v, e_bl_t, e_bl_q, e_bl_i, e_non_v, e_non_t, e_non_q, e_non_i, e_str_v, e_str_t, e_str_q, e_str_i, e_glob_v, e_glob_t, e_glob_q, e_glob_i, e_neg_v, e_neg_t, e_neg_q, e_neg_i, e_ife_v, e_ife_t, e_ife_q, e_ife_i, e_tup_v, e_tup_t, e_tup_q, e_tup_i, e_ix_v, e_ix_t, e_ix_q, e_ix_i, e_sl_v, e_sl_t, e_sl_q, e_sl_i, e_call_v, e_call_t, e_call_q, e_call_i, e_bi_v, e_bi_t, e_bi_q, e_bi_i, e_bq_v, e_bq_t, e_bq_q, e_bq_i, e_meth_v, e_meth_t, e_meth_q, e_meth_i, e_lst_v, e_lst_q, e_lst_i, e_bl1_v, e_bl1_q, e_bl1_i, e_comp_v, e_comp_q, e_comp_i, e_sub_v, e_fdiv_v, e_mod_v, e_pow_v, e_add_v, e_mul_v, e_add_q, e_mul_q, e_add_i, e_mul_i, e_not_v, e_not_t, e_and_v, e_and_t, e_or_v, e_or_t, e_cmp_v, e_cmp_t, e_rng_i, e_enum_i, e_zip_i, e_nil_a, e_cons_a, e_var_g, e_ix_g, e_tup_g, e_nil_gs, e_cons_gs, o_add, o_sub, o_add2, o_addt, o_mul, o_fdiv, o_mod, o_pow, o_aug, o_neg, m_eq, m_ne, m_lt, m_le, m_gt, m_ge, m_eqs, m_is, m_isnot, n_non, n_ref, n_int, n_tup, b_abs, b_int, b_len, b_max, b_min, l_list, r_1, r_2, t_bl, t_int, t_non, q_tup, q_rol, a_bl, d_none, d_some, d_int, u_all, u_if, g_nil, g_cons, isL_nil, isL_var, isL_int, isL_bl, isL_non, isL_str, isL_glob, isL_neg, isL_not, isL_and, isL_or, isL_ife, isL_cmp, isL_tup, isL_ix, isL_sl, isL_call, isL_bi, isL_bq, isL_meth, isL_rev, isL_step2, isL_lst, isL_bl1, isL_comp, isL_add, isL_mul, isL_sub, isL_fdiv, isL_mod, isL_pow, reduceIte, Bool.or_self, Bool.false_eq_true, isNonE, isNil, lenE, wipeM, Bool.or_true, Bool.true_or, Bool.or_false, List.getElem?_cons_succ, List.getElem?_cons_zero, List.set_cons_succ, List.set_cons_zero, List.length_cons, List.length_nil, List.length_map, rngL_length, hln]
      refine ⟨lst_ok put_same, ?_⟩
      rw [hr]
      refine ⟨q, _, rfl, by omega, by omega, q1, q2, ?_⟩
      simp only [e_var_v, e_var_t, e_var_q, e_var_i, e_int_v, e_int_t, e_int_q, e_int_i, e_bl_v, e_bl_t, e_bl_q, e_bl_i, e_non_v, e_non_t, e_non_q, e_non_i, e_str_v, e_str_t, e_str_q, e_str_i, e_glob_v, e_glob_t, e_glob_q, e_glob_i, e_neg_v, e_neg_t, e_neg_q, e_neg_i, e_ife_v, e_ife_t, e_ife_q, e_ife_i, e_tup_v, e_tup_t, e_tup_q, e_tup_i, e_ix_v, e_ix_t, e_ix_q, e_ix_i, e_sl_v, e_sl_t, e_sl_q, e_sl_i, e_call_v, e_call_t, e_call_q, e_call_i, e_bi_v, e_bi_t, e_bi_q, e_bi_i, e_bq_v, e_bq_t, e_bq_q, e_bq_i, e_meth_v, e_meth_t, e_meth_q, e_meth_i, e_lst_v, e_lst_q, e_lst_i, e_bl1_v, e_bl1_q, e_bl1_i, e_comp_v, e_comp_q, e_comp_i, e_sub_v, e_fdiv_v, e_mod_v, e_pow_v, e_add_v, e_mul_v, e_add_q, e_mul_q, e_add_i, e_mul_i, e_not_v, e_not_t, e_and_v, e_and_t, e_or_v, e_or_t, e_cmp_v, e_cmp_t, e_rng_i, e_enum_i, e_zip_i, e_nil_a, e_cons_a, e_var_g, e_ix_g, e_tup_g, e_nil_gs, e_cons_gs, o_add, o_sub, o_add2, o_addt, o_mul, o_fdiv, o_mod, o_pow, o_aug, o_neg, m_eq, m_ne, m_lt, m_le, m_gt, m_ge, m_eqs, m_is, m_isnot, n_non, n_ref, n_int, n_tup, b_abs, b_int, b_len, b_max, b_min, l_list, r_1, r_2, t_bl, t_int, t_non, q_tup, q_rol, a_bl, d_none, d_some, d_int, u_all, u_if, g_nil, g_cons, isL_nil, isL_var, isL_int, isL_bl, isL_non, isL_str, isL_glob, isL_neg, isL_not, isL_and, isL_or, isL_ife, isL_cmp, isL_tup, isL_ix, isL_sl, isL_call, isL_bi, isL_bq, isL_meth, isL_rev, isL_step2, isL_lst, isL_bl1, isL_comp, isL_add, isL_mul, isL_sub, isL_fdiv, isL_mod, isL_pow, reduceIte, Bool.or_self, Bool.false_eq_true, isNonE, isNil, lenE, wipeM, Bool.or_true, Bool.true_or, Bool.or_false, List.getElem?_cons_succ, List.getElem?_cons_zero, List.set_cons_succ, List.set_cons_zero, List.length_cons, List.length_nil, List.length_map, rngL_length]
      have hlt : i < cs.length := by omega
      have e1 : ((cs.length : Int) - ((cs.length : Int) - 1 + (i : Int) * -1)).toNat = i + 1 := by omega
      have e2 : ((cs.length : Int) - 1 + (i : Int) * -1).toNat = cs.length - 1 - i := by omega
      refine ix_int put_same (by omega) (by rw [List.length_append]; omega) ?_
      rw [e1, e2, List.getD_eq_getElem?_getD, List.getElem?_append_left (by omega), ← List.getD_eq_getElem?_getD]
      simp only [e_var_v, e_var_t, e_var_q, e_var_i, e_int_v, e_int_t, e_int_q, e_int_i, e_bl_v, e_bl_t, e_bl_q, e_bl_i, e_non_v, e_non_t, e_non_q, e_non_i, e_str_v, e_str_t, e_str_q, e_str_i, e_glob_v, e_glob_t, e_glob_q, e_glob_i, e_neg_v, e_neg_t, e_neg_q, e_neg_i, e_ife_v, e_ife_t, e_ife_q, e_ife_i, e_tup_v, e_tup_t, e_tup_q, e_tup_i, e_ix_v, e_ix_t, e_ix_q, e_ix_i, e_sl_v, e_sl_t, e_sl_q, e_sl_i, e_call_v, e_call_t, e_call_q, e_call_i, e_bi_v, e_bi_t, e_bi_q, e_bi_i, e_bq_v, e_bq_t, e_bq_q, e_bq_i, e_meth_v, e_meth_t, e_meth_q, e_meth_i, e_lst_v, e_lst_q, e_lst_i, e_bl1_v, e_bl1_q, e_bl1_i, e_comp_v, e_comp_q, e_comp_i, e_sub_v, e_fdiv_v, e_mod_v, e_pow_v, e_add_v, e_mul_v, e_add_q, e_mul_q, e_add_i, e_mul_i, e_not_v, e_not_t, e_and_v, e_and_t, e_or_v, e_or_t, e_cmp_v, e_cmp_t, e_rng_i, e_enum_i, e_zip_i, e_nil_a, e_cons_a, e_var_g, e_ix_g, e_tup_g, e_nil_gs, e_cons_gs, o_add, o_sub, o_add2, o_addt, o_mul, o_fdiv, o_mod, o_pow, o_aug, o_neg, m_eq, m_ne, m_lt, m_le, m_gt, m_ge, m_eqs, m_is, m_isnot, n_non, n_ref, n_int, n_tup, b_abs, b_int, b_len, b_max, b_min, l_list, r_1, r_2, t_bl, t_int, t_non, q_tup, q_rol, a_bl, d_none, d_some, d_int, u_all, u_if, g_nil, g_cons, isL_nil, isL_var, isL_int, isL_bl, isL_non, isL_str, isL_glob, isL_neg, isL_not, isL_and, isL_or, isL_ife, isL_cmp, isL_tup, isL_ix, isL_sl, isL_call, isL_bi, isL_bq, isL_meth, isL_rev, isL_step2, isL_lst, isL_bl1, isL_comp, isL_add, isL_mul, isL_sub, isL_fdiv, isL_mod, isL_pow, reduceIte, Bool.or_self, Bool.false_eq_true, isNonE, isNil, lenE, wipeM, Bool.or_true, Bool.true_or, Bool.or_false, List.getElem?_cons_succ, List.getElem?_cons_zero, List.set_cons_succ, List.set_cons_zero, List.length_cons, List.length_nil, List.length_map, rngL_length]
      refine ⟨?_, (append_ref put_same (by rw [List.length_map, List.length_append, List.length_map, List.length_range]; have := hSZ; omega) ?_).2⟩
      · have b1 := pow_bnd (a := q) (e := ((i + 1 : Nat) : Int)) (x := q ^ (i + 1)) (by omega) (by omega) q1 q2 (by have := one_le_pow q1 (i + 1); omega) (by rw [show (((i + 1 : Nat) : Int)).toNat = i + 1 by omega]; exact Int.le_refl _)
        have b2 := log2_pow (B := 20000) (mk_bnd (Nat.one_le_pow _ _ (by decide)) (fun k k1 _ => tt_bnd hc q2 k k1) el (cs.length - 1 - i) (by omega)) (by omega)
        unfold MulOk; omega
      · refine ⟨_, Sub.refl _, _, rfl, ?_⟩
        simp [LI, put_put, List.range_succ]
    · rintro σ h' ⟨x4, rfl, rfl⟩
      refine st_ret ?_
      simp only [e_var_v, e_var_t, e_var_q, e_var_i, e_int_v, e_int_t, e_int_q, e_int_i, e_bl_v, e_bl_t, e_bl_q, e_bl_i, e_non_v, e_non_t, e_non_q, e_non_i, e_str_v, e_str_t, e_str_q, e_str_i, e_glob_v, e_glob_t, e_glob_q, e_glob_i, e_neg_v, e_neg_t, e_neg_q, e_neg_i, e_ife_v, e_ife_t, e_ife_q, e_ife_i, e_tup_v, e_tup_t, e_tup_q, e_tup_i, e_ix_v, e_ix_t, e_ix_q, e_ix_i, e_sl_v, e_sl_t, e_sl_q, e_sl_i, e_call_v, e_call_t, e_call_q, e_call_i, e_bi_v, e_bi_t, e_bi_q, e_bi_i, e_bq_v, e_bq_t, e_bq_q, e_bq_i, e_meth_v, e_meth_t, e_meth_q, e_meth_i, e_lst_v, e_lst_q, e_lst_i, e_bl1_v, e_bl1_q, e_bl1_i, e_comp_v, e_comp_q, e_comp_i, e_sub_v, e_fdiv_v, e_mod_v, e_pow_v, e_add_v, e_mul_v, e_add_q, e_mul_q, e_add_i, e_mul_i, e_not_v, e_not_t, e_and_v, e_and_t, e_or_v, e_or_t, e_cmp_v, e_cmp_t, e_rng_i, e_enum_i, e_zip_i, e_nil_a, e_cons_a, e_var_g, e_ix_g, e_tup_g, e_nil_gs, e_cons_gs, o_add, o_sub, o_add2, o_addt, o_mul, o_fdiv, o_mod, o_pow, o_aug, o_neg, m_eq, m_ne, m_lt, m_le, m_gt, m_ge, m_eqs, m_is, m_isnot, n_non, n_ref, n_int, n_tup, b_abs, b_int, b_len, b_max, b_min, l_list, r_1, r_2, t_bl, t_int, t_non, q_tup, q_rol, a_bl, d_none, d_some, d_int, u_all, u_if, g_nil, g_cons, isL_nil, isL_var, isL_int, isL_bl, isL_non, isL_str, isL_glob, isL_neg, isL_not, isL_and, isL_or, isL_ife, isL_cmp, isL_tup, isL_ix, isL_sl, isL_call, isL_bi, isL_bq, isL_meth, isL_rev, isL_step2, isL_lst, isL_bl1, isL_comp, isL_add, isL_mul, isL_sub, isL_fdiv, isL_mod, isL_pow, reduceIte, Bool.or_self, Bool.false_eq_true, isNonE, isNil, lenE, wipeM, Bool.or_true, Bool.true_or, Bool.or_false, List.getElem?_cons_succ, List.getElem?_cons_zero, List.set_cons_succ, List.set_cons_zero, List.length_cons, List.length_nil, List.length_map, rngL_length]
      rw [show ((cs.length : Int) - 1 - -1).toNat = cs.length by omega]
      exact ⟨_, Sub.refl _, post p np⟩
end Mp.K39

set_option Elab.async false
set_option linter.all false
set_option maxRecDepth 100000
set_option exponentiation.threshold 500
namespace Mp.K39
open PySem Mp
abbrev cf (xs : List Int) : Sq := fun i => xs.getD i 0
def counts (p : Int) (xs : List Int) (most : Nat) : List Int := (List.range most).map fun k => ps (cf xs) (k + 1) + p ^ (k + 1) + 1
def spCounts : SpM := fun ms h Q _ => ∃ (p : Int) (a : Nat) (xs : List Int) (most : Nat), ms = [.int p, .ref a, .int (most : Nat)] ∧ h a = some (LI xs) ∧ most ≤ 40 ∧ xs.length ≤ 1000 ∧ (∀ c ∈ xs, c.natAbs ≤ 2 ^ 54) ∧ 1 ≤ p ∧ p.natAbs < 2 ^ 100 ∧
  ∀ r, h r = none → Q (.ref r) (put h r (LI (counts p xs most)))
theorem cf_bnd {xs : List Int} {B : Nat} (hx : ∀ c ∈ xs, c.natAbs ≤ B) (i : Nat) : (cf xs i).natAbs ≤ B := by
  show (xs.getD i 0).natAbs ≤ B
  by_cases h : i < xs.length
  · rw [List.getD_eq_getElem?_getD, List.getElem?_eq_getElem h]; exact hx _ (List.getElem_mem h)
  · rw [List.getD_eq_getElem?_getD, List.getElem?_eq_none (by omega)]; exact Nat.zero_le _
theorem ps_bnd {a : Sq} (ha : ∀ i, (a i).natAbs ≤ 2 ^ 54) : ∀ n, n ≤ 40 → (ps a n).natAbs ≤ (2 ^ 61) ^ n := by
  intro n
  induction n using Nat.strongRecOn with
  | _ n ih =>
    intro hn
    cases n with
    | zero => simp [ps]
    | succ n =>
      rw [ps_succ]
      have h1 : (((n : Int) + 1) * a (n + 1)).natAbs ≤ (n + 1) * 2 ^ 54 := by
        rw [Int.natAbs_mul, show ((n : Int) + 1).natAbs = n + 1 by omega]; exact Nat.mul_le_mul_left _ (ha _)
      have h2 : (sumN (fun i => ps a (n - i) * a (i + 1)) n).natAbs ≤ n * ((2 ^ 61) ^ n * 2 ^ 54) := sumN_abs fun i hi => by
        rw [Int.natAbs_mul]
        exact Nat.mul_le_mul (Nat.le_trans (ih (n - i) (by omega) (by omega)) (Nat.pow_le_pow_right (by decide) (by omega))) (ha _)
      have h3 : 1 ≤ (2 ^ 61) ^ n := Nat.one_le_pow _ _ (by decide)
      have h4 : n * ((2 ^ 61) ^ n * 2 ^ 54) ≤ 40 * ((2 ^ 61) ^ n * 2 ^ 54) := Nat.mul_le_mul_right _ (by omega)
      have h5 : (n + 1) * 2 ^ 54 ≤ 40 * 2 ^ 54 := Nat.mul_le_mul_right _ (by omega)
      rw [Nat.pow_succ]
      generalize (2 ^ 61) ^ n = x at *
      omega
theorem ps_log {a : Sq} (ha : ∀ i, (a i).natAbs ≤ 2 ^ 54) {n : Nat} (hn : n ≤ 40) : (ps a n).natAbs.log2 < 3000 := log2_pow (ps_bnd ha n hn) (by omega)
theorem keeps_list_of_counts (Φ : Phi) (hΦ : Φ.Mono) (hr : Φ.fn "list_made" = spMade) : Keeps Φ 2 t_list_of_counts spMade := by
  intro ms h Q hsp
  obtain ⟨q, a, cs, rfl, ha, hlen, hc, q1, q2, post⟩ := hsp
  change wS Φ W0 _ _ [some (.int q), some (.ref a)] h
  unfold t_list_of_counts
  refine st_ret ?_
  simp only [e_var_v, e_var_t, e_var_q, e_var_i, e_int_v, e_int_t, e_int_q, e_int_i, e_bl_v, e_bl_t, e_bl_q, e_bl_i, e_non_v, e_non_t, e_non_q, e_non_i, e_str_v, e_str_t, e_str_q, e_str_i, e_glob_v, e_glob_t, e_glob_q, e_glob_i, e_neg_v, e_neg_t, e_neg_q, e_neg_i, e_ife_v, e_ife_t, e_ife_q, e_ife_i, e_tup_v, e_tup_t, e_tup_q, e_tup_i, e_ix_v, e_ix_t, e_ix_q, e_ix_i, e_sl_v, e_sl_t, e_sl_q, e_sl_i, e_call_v, e_call_t, e_call_q, e_call_i, e_bi_v, e_bi_t, e_bi_q, e_bi_i, e_bq_v, e_bq_t, e_bq_q, e_bq_i, e_meth_v, e_meth_t, e_meth_q, e_meth_i, e_lst_v, e_lst_q, e_lst_i, e_bl1_v, e_bl1_q, e_bl1_i, e_comp_v, e_comp_q, e_comp_i, e_sub_v, e_fdiv_v, e_mod_v, e_pow_v, e_add_v, e_mul_v, e_add_q, e_mul_q, e_add_i, e_mul_i, e_not_v, e_not_t, e_and_v, e_and_t, e_or_v, e_or_t, e_cmp_v, e_cmp_t, e_rng_i, e_enum_i, e_zip_i, e_nil_a, e_cons_a, e_var_g, e_ix_g, e_tup_g, e_nil_gs, e_cons_gs, o_add, o_sub, o_add2, o_addt, o_mul, o_fdiv, o_mod, o_pow, o_aug, o_neg, m_eq, m_ne, m_lt, m_le, m_gt, m_ge, m_eqs, m_is, m_isnot, n_non, n_ref, n_int, n_tup, b_abs, b_int, b_len, b_max, b_min, l_list, r_1, r_2, t_bl, t_int, t_non, q_tup, q_rol, a_bl, d_none, d_some, d_int, u_all, u_if, g_nil, g_cons, isL_nil, isL_var, isL_int, isL_bl, isL_non, isL_str, isL_glob, isL_neg, isL_not, isL_and, isL_or, isL_ife, isL_cmp, isL_tup, isL_ix, isL_sl, isL_call, isL_bi, isL_bq, isL_meth, isL_rev, isL_step2, isL_lst, isL_bl1, isL_comp, isL_add, isL_mul, isL_sub, isL_fdiv, isL_mod, isL_pow, reduceIte, Bool.or_self, Bool.false_eq_true, isNonE, isNil, lenE, wipeM, Bool.or_true, Bool.true_or, Bool.or_false, List.getElem?_cons_succ, List.getElem?_cons_zero, List.set_cons_succ, List.set_cons_zero, List.length_cons, List.length_nil, List.length_map, rngL_length]
  rw [hr]
  refine ⟨q, a, cs, rfl, ha, hlen, hc, q1, q2, ?_⟩
  cases e : mk (tt q cs) cs.length with
  | none => rw [e] at post; exact ⟨h, Sub.refl _, post⟩
  | some l => rw [e] at post; exact fun p np => ⟨_, Sub.refl _, post p np⟩
theorem keeps_counts_of (Φ : Phi) (hΦ : Φ.Mono) (hr : Φ.fn "raised" = spRaised) : Keeps Φ 8 t_counts_of spCounts := by
  intro ms h Q hsp
  obtain ⟨p, a, xs, most, rfl, ha, hm, hlen, hx, p1, p2, post⟩ := hsp
  change wS Φ W0 _ _ [some (.int p), some (.ref a), some (.int (most : Nat)), none, none, none, none, none] h
  unfold t_counts_of
  refine st_asg hΦ ?_
  simp only [e_var_v, e_var_t, e_var_q, e_var_i, e_int_v, e_int_t, e_int_q, e_int_i, e_bl_v, e_bl_t, e_bl_q, e_bl_i, e_non_v, e_non_t, e_non_q, e_non_i, e_str_v, e_str_t, e_str_q, e_str_i, e_glob_v, e_glob_t, e_glob_q, e_glob_i, e_neg_v, e_neg_t, e_neg_q, e_neg_i, e_ife_v, e_ife_t, e_ife_q, e_ife_i, e_tup_v, e_tup_t, e_tup_q, e_tup_i, e_ix_v, e_ix_t, e_ix_q, e_ix_i, e_sl_v, e_sl_t, e_sl_q, e_sl_i, e_call_v, e_call_t, e_call_q, e_call_i, e_bi_v, e_bi_t, e_bi_q, e_bi_i, e_bq_v, e_bq_t, e_bq_q, e_bq_i, e_meth_v, e_meth_t, e_meth_q, e_meth_i, e_lst_v, e_lst_q, e_lst_i, e_bl1_v, e_bl1_q, e_bl1_i, e_comp_v, e_comp_q, e_comp_i, e_sub_v, e_fdiv_v, e_mod_v, e_pow_v, e_add_v, e_mul_v, e_add_q, e_mul_q, e_add_i, e_mul_i, e_not_v, e_not_t, e_and_v, e_and_t, e_or_v, e_or_t, e_cmp_v, e_cmp_t, e_rng_i, e_enum_i, e_zip_i, e_nil_a, e_cons_a, e_var_g, e_ix_g, e_tup_g, e_nil_gs, e_cons_gs, o_add, o_sub, o_add2, o_addt, o_mul, o_fdiv, o_mod, o_pow, o_aug, o_neg, m_eq, m_ne, m_lt, m_le, m_gt, m_ge, m_eqs, m_is, m_isnot, n_non, n_ref, n_int, n_tup, b_abs, b_int, b_len, b_max, b_min, l_list, r_1, r_2, t_bl, t_int, t_non, q_tup, q_rol, a_bl, d_none, d_some, d_int, u_all, u_if, g_nil, g_cons, isL_nil, isL_var, isL_int, isL_bl, isL_non, isL_str, isL_glob, isL_neg, isL_not, isL_and, isL_or, isL_ife, isL_cmp, isL_tup, isL_ix, isL_sl, isL_call, isL_bi, isL_bq, isL_meth, isL_rev, isL_step2, isL_lst, isL_bl1, isL_comp, isL_add, isL_mul, isL_sub, isL_fdiv, isL_mod, isL_pow, reduceIte, Bool.or_self, Bool.false_eq_true, isNonE, isNil, lenE, wipeM, Bool.or_true, Bool.true_or, Bool.or_false, List.getElem?_cons_succ, List.getElem?_cons_zero, List.set_cons_succ, List.set_cons_zero, List.length_cons, List.length_nil, List.length_map, rngL_length]
  refine ⟨by omega, trivial, fun r nr => ?_⟩
  have hap : ∀ o, put h r o a = some (LI xs) := fun o => (put_ne (mh_ne ha nr)).trans ha
  have hln : ∀ o, lenM (.ref a) (put h r o) = some xs.length := fun o => len_int (hap o)
  have bx : ∀ i, (cf xs i).natAbs ≤ 2 ^ 54 := cf_bnd hx
  have blog : ∀ i, (cf xs i).natAbs.log2 < 56 := fun i => log2_le (Nat.lt_of_le_of_lt (bx i) (by decide)) (by decide)
  refine st_for hΦ ?_
  simp only [e_var_v, e_var_t, e_var_q, e_var_i, e_int_v, e_int_t, e_int_q, e_int_i, e_bl_v, e_bl_t, e_bl_q, e_bl_i, e_non_v, e_non_t, e_non_q, e_non_i, e_str_v, e_str_t, e_str_q, e_str_i, e_glob_v, e_glob_t, e_glob_q, e_glob_i, e_neg_v, e_neg_t, e_neg_q, e_neg_i, e_ife_v, e_ife_t, e_ife_q, e_ife_i, e_tup_v, e_tup_t, e_tup_q, e_tup_i, e_ix_v, e_ix_t, e_ix_q, e_ix_i, e_sl_v, e_sl_t, e_sl_q, e_sl_i, e_call_v, e_call_t, e_call_q, e_call_i, e_bi_v, e_bi_t, e_bi_q, e_bi_i, e_bq_v, e_bq_t, e_bq_q, e_bq_i, e_meth_v, e_meth_t, e_meth_q, e_meth_i, e_lst_v, e_lst_q, e_lst_i, e_bl1_v, e_bl1_q, e_bl1_i, e_comp_v, e_comp_q, e_comp_i, e_sub_v, e_fdiv_v, e_mod_v, e_pow_v, e_add_v, e_mul_v, e_add_q, e_mul_q, e_add_i, e_mul_i, e_not_v, e_not_t, e_and_v, e_and_t, e_or_v, e_or_t, e_cmp_v, e_cmp_t, e_rng_i, e_enum_i, e_zip_i, e_nil_a, e_cons_a, e_var_g, e_ix_g, e_tup_g, e_nil_gs, e_cons_gs, o_add, o_sub, o_add2, o_addt, o_mul, o_fdiv, o_mod, o_pow, o_aug, o_neg, m_eq, m_ne, m_lt, m_le, m_gt, m_ge, m_eqs, m_is, m_isnot, n_non, n_ref, n_int, n_tup, b_abs, b_int, b_len, b_max, b_min, l_list, r_1, r_2, t_bl, t_int, t_non, q_tup, q_rol, a_bl, d_none, d_some, d_int, u_all, u_if, g_nil, g_cons, isL_nil, isL_var, isL_int, isL_bl, isL_non, isL_str, isL_glob, isL_neg, isL_not, isL_and, isL_or, isL_ife, isL_cmp, isL_tup, isL_ix, isL_sl, isL_call, isL_bi, isL_bq, isL_meth, isL_rev, isL_step2, isL_lst, isL_bl1, isL_comp, isL_add, isL_mul, isL_sub, isL_fdiv, isL_mod, isL_pow, reduceIte, Bool.or_self, Bool.false_eq_true, isNonE, isNil, lenE, wipeM, Bool.or_true, Bool.true_or, Bool.or_false, List.getElem?_cons_succ, List.getElem?_cons_zero, List.set_cons_succ, List.set_cons_zero, List.length_cons, List.length_nil, List.length_map, rngL_length]
  refine ⟨by omega, ?_⟩
  refine ⟨fun i σ h' => ∃ x4 x5, σ = [some (.int p), some (.ref a), some (.int (most : Nat)), some (.ref r), x4, x5, none, none] ∧ h' = put h r (LI (sL (cf xs) i)), ?_, ?_, ?_, ?_⟩
  · exact ⟨none, none, rfl, rfl⟩
  · intro i σ h' _ _; trivial
  · rintro i m σ h' em ⟨x4, x5, rfl, rfl⟩
    obtain ⟨hi, rfl⟩ := rng_get em
    have hsl := sL_len (cf xs) i
    simp only [e_var_v, e_var_t, e_var_q, e_var_i, e_int_v, e_int_t, e_int_q, e_int_i, e_bl_v, e_bl_t, e_bl_q, e_bl_i, e_non_v, e_non_t, e_non_q, e_non_i, e_str_v, e_str_t, e_str_q, e_str_i, e_glob_v, e_glob_t, e_glob_q, e_glob_i, e_neg_v, e_neg_t, e_neg_q, e_neg_i, e_ife_v, e_ife_t, e_ife_q, e_ife_i, e_tup_v, e_tup_t, e_tup_q, e_tup_i, e_ix_v, e_ix_t, e_ix_q, e_ix_i, e_sl_v, e_sl_t, e_sl_q, e_sl_i, e_call_v, e_call_t, e_call_q, e_call_i, e_bi_v, e_bi_t, e_bi_q, e_bi_i, e_bq_v, e_bq_t, e_bq_q, e_bq_i, e_meth_v, e_meth_t, e_meth_q, e_meth_i, e_lst_v, e_lst_q, e_lst_i, e_bl1_v, e_bl1_q, e_bl1_i, e_comp_v, e_comp_q, e_comp_i, e_sub_v, e_fdiv_v, e_mod_v, e_pow_v, e_add_v, e_mul_v, e_add_q, e_mul_q, e_add_i, e_mul_i, e_not_v, e_not_t, e_and_v, e_and_t, e_or_v, e_or_t, e_cmp_v, e_cmp_t, e_rng_i, e_enum_i, e_zip_i, e_nil_a, e_cons_a, e_var_g, e_ix_g, e_tup_g, e_nil_gs, e_cons_gs, o_add, o_sub, o_add2, o_addt, o_mul, o_fdiv, o_mod, o_pow, o_aug, o_neg, m_eq, m_ne, m_lt, m_le, m_gt, m_ge, m_eqs, m_is, m_isnot, n_non, n_ref, n_int, n_tup, b_abs, b_int, b_len, b_max, b_min, l_list, r_1, r_2, t_bl, t_int, t_non, q_tup, q_rol, a_bl, d_none, d_some, d_int, u_all, u_if, g_nil, g_cons, isL_nil, isL_var, isL_int, isL_bl, isL_non, isL_str, isL_glob, isL_neg, isL_not, isL_and, isL_or, isL_ife, isL_cmp, isL_tup, isL_ix, isL_sl, isL_call, isL_bi, isL_bq, isL_meth, isL_rev, isL_step2, isL_lst, isL_bl1, isL_comp, isL_add, isL_mul, isL_sub, isL_fdiv, isL_mod, isL_pow, reduceIte, Bool.or_self, Bool.false_eq_true, isNonE, isNil, lenE, wipeM, Bool.or_true, Bool.true_or, Bool.or_false, List.getElem?_cons_succ, List.getElem?_cons_zero, List.set_cons_succ, List.set_cons_zero, List.length_cons, List.length_nil, List.length_map, rngL_length]
    have en : (1 + (i : Int) * 1) = (i : Int) + 1 := by omega
    rw [en]
    -- what follows the lead
    have next : wS Φ W0 (.expr (.meth .append (.var 3) (.cons (.op .sub (.var 5) (.bq .sum (.comp [7] (.var 7) (.rng (.cons (.int 1) (.cons (.bi .min2 (.cons (.var 4) (.cons (.bi .len (.cons (.var 1) .nil)) .nil))) .nil))) .nil (.op .mul (.ix (.var 3) (.op .sub (.op .sub (.var 4) (.var 7)) (.int 1))) (.ix (.var 1) (.var 7)))))) .nil)))
        { nx := fun σ1 h1 => ∃ h0, Sub h0 h1 ∧ ∃ x4 x5, σ1 = [some (.int p), some (.ref a), some (.int (most : Nat)), some (.ref r), x4, x5, none, none] ∧ h0 = put h r (LI (sL (cf xs) (i + 1))), rt := fun _ _ => False, bk := fun _ _ => False, ct := fun _ _ => False }
        [some (.int p), some (.ref a), some (.int (most : Nat)), some (.ref r), some (.int ((i : Int) + 1)), some (.int (((i : Int) + 1) * cf xs (i + 1))), none, none] (put h r (LI (sL (cf xs) i))) := by
      refine st_expr1 ?_
      simp only [e_var_v, e_var_t, e_var_q, e_var_i, e_int_v, e_int_t, e_int_q, e_int_i, e_bl_v, e_bl_t, e_bl_q, e_bl_i, e_non_v, e_non_t, e_non_q, e_non_i, e_str_v, e_str_t, e_str_q, e_str_i, e_glob_v, e_glob_t, e_glob_q, e_glob_i, e_neg_v, e_neg_t, e_neg_q, e_neg_i, e_ife_v, e_ife_t, e_ife_q, e_ife_i, e_tup_v, e_tup_t, e_tup_q, e_tup_i, e_ix_v, e_ix_t, e_ix_q, e_ix_i, e_sl_v, e_sl_t, e_sl_q, e_sl_i, e_call_v, e_call_t, e_call_q, e_call_i, e_bi_v, e_bi_t, e_bi_q, e_bi_i, e_bq_v, e_bq_t, e_bq_q, e_bq_i, e_meth_v, e_meth_t, e_meth_q, e_meth_i, e_lst_v, e_lst_q, e_lst_i, e_bl1_v, e_bl1_q, e_bl1_i, e_comp_v, e_comp_q, e_comp_i, e_sub_v, e_fdiv_v, e_mod_v, e_pow_v, e_add_v, e_mul_v, e_add_q, e_mul_q, e_add_i, e_mul_i, e_not_v, e_not_t, e_and_v, e_and_t, e_or_v, e_or_t, e_cmp_v, e_cmp_t, e_rng_i, e_enum_i, e_zip_i, e_nil_a, e_cons_a, e_var_g, e_ix_g, e_tup_g, e_nil_gs, e_cons_gs, o_add, o_sub, o_add2, o_addt, o_mul, o_fdiv, o_mod, o_pow, o_aug, o_neg, m_eq, m_ne, m_lt, m_le, m_gt, m_ge, m_eqs, m_is, m_isnot, n_non, n_ref, n_int, n_tup, b_abs, b_int, b_len, b_max, b_min, l_list, r_1, r_2, t_bl, t_int, t_non, q_tup, q_rol, a_bl, d_none, d_some, d_int, u_all, u_if, g_nil, g_cons, isL_nil, isL_var, isL_int, isL_bl, isL_non, isL_str, isL_glob, isL_neg, isL_not, isL_and, isL_or, isL_ife, isL_cmp, isL_tup, isL_ix, isL_sl, isL_call, isL_bi, isL_bq, isL_meth, isL_rev, isL_step2, isL_lst, isL_bl1, isL_comp, isL_add, isL_mul, isL_sub, isL_fdiv, isL_mod, isL_pow, reduceIte, Bool.or_self, Bool.false_eq_true, isNonE, isNil, lenE, wipeM, Bool.or_true, Bool.true_or, Bool.or_false, List.getElem?_cons_succ, List.getElem?_cons_zero, List.set_cons_succ, List.set_cons_zero, List.length_cons, List.length_nil, List.length_map, rngL_length, hln]
      refine ⟨lst_ok put_same, by omega, by have := hSZ; omega, ?_⟩
      refine compI_pure hΦ (fun j => .int ((sL (cf xs) i).getD (i - 1 - j) 0 * cf xs (j + 1))) ?_ ?_ ?_
      · trivial
      · intro j m R ej hR
        obtain ⟨hj, rfl⟩ := rng_get ej
        simp only [e_var_v, e_var_t, e_var_q, e_var_i, e_int_v, e_int_t, e_int_q, e_int_i, e_bl_v, e_bl_t, e_bl_q, e_bl_i, e_non_v, e_non_t, e_non_q, e_non_i, e_str_v, e_str_t, e_str_q, e_str_i, e_glob_v, e_glob_t, e_glob_q, e_glob_i, e_neg_v, e_neg_t, e_neg_q, e_neg_i, e_ife_v, e_ife_t, e_ife_q, e_ife_i, e_tup_v, e_tup_t, e_tup_q, e_tup_i, e_ix_v, e_ix_t, e_ix_q, e_ix_i, e_sl_v, e_sl_t, e_sl_q, e_sl_i, e_call_v, e_call_t, e_call_q, e_call_i, e_bi_v, e_bi_t, e_bi_q, e_bi_i, e_bq_v, e_bq_t, e_bq_q, e_bq_i, e_meth_v, e_meth_t, e_meth_q, e_meth_i, e_lst_v, e_lst_q, e_lst_i, e_bl1_v, e_bl1_q, e_bl1_i, e_comp_v, e_comp_q, e_comp_i, e_sub_v, e_fdiv_v, e_mod_v, e_pow_v, e_add_v, e_mul_v, e_add_q, e_mul_q, e_add_i, e_mul_i, e_not_v, e_not_t, e_and_v, e_and_t, e_or_v, e_or_t, e_cmp_v, e_cmp_t, e_rng_i, e_enum_i, e_zip_i, e_nil_a, e_cons_a, e_var_g, e_ix_g, e_tup_g, e_nil_gs, e_cons_gs, o_add, o_sub, o_add2, o_addt, o_mul, o_fdiv, o_mod, o_pow, o_aug, o_neg, m_eq, m_ne, m_lt, m_le, m_gt, m_ge, m_eqs, m_is, m_isnot, n_non, n_ref, n_int, n_tup, b_abs, b_int, b_len, b_max, b_min, l_list, r_1, r_2, t_bl, t_int, t_non, q_tup, q_rol, a_bl, d_none, d_some, d_int, u_all, u_if, g_nil, g_cons, isL_nil, isL_var, isL_int, isL_bl, isL_non, isL_str, isL_glob, isL_neg, isL_not, isL_and, isL_or, isL_ife, isL_cmp, isL_tup, isL_ix, isL_sl, isL_call, isL_bi, isL_bq, isL_meth, isL_rev, isL_step2, isL_lst, isL_bl1, isL_comp, isL_add, isL_mul, isL_sub, isL_fdiv, isL_mod, isL_pow, reduceIte, Bool.or_self, Bool.false_eq_true, isNonE, isNil, lenE, wipeM, Bool.or_true, Bool.true_or, Bool.or_false, List.getElem?_cons_succ, List.getElem?_cons_zero, List.set_cons_succ, List.set_cons_zero, List.length_cons, List.length_nil, List.length_map, rngL_length]
        have hj2 : j < i ∧ j + 1 < xs.length := by split at hj <;> omega
        refine ix_int put_same (by omega) (by omega) ?_
        refine ix_int (hap _) (by omega) (by omega) ?_
        have e1 : ((i : Int) + 1 - (1 + (j : Int) * 1) - 1).toNat = i - 1 - j := by omega
        have e2 : (1 + (j : Int) * 1).toNat = j + 1 := by omega
        rw [e1, e2]
        simp only [e_var_v, e_var_t, e_var_q, e_var_i, e_int_v, e_int_t, e_int_q, e_int_i, e_bl_v, e_bl_t, e_bl_q, e_bl_i, e_non_v, e_non_t, e_non_q, e_non_i, e_str_v, e_str_t, e_str_q, e_str_i, e_glob_v, e_glob_t, e_glob_q, e_glob_i, e_neg_v, e_neg_t, e_neg_q, e_neg_i, e_ife_v, e_ife_t, e_ife_q, e_ife_i, e_tup_v, e_tup_t, e_tup_q, e_tup_i, e_ix_v, e_ix_t, e_ix_q, e_ix_i, e_sl_v, e_sl_t, e_sl_q, e_sl_i, e_call_v, e_call_t, e_call_q, e_call_i, e_bi_v, e_bi_t, e_bi_q, e_bi_i, e_bq_v, e_bq_t, e_bq_q, e_bq_i, e_meth_v, e_meth_t, e_meth_q, e_meth_i, e_lst_v, e_lst_q, e_lst_i, e_bl1_v, e_bl1_q, e_bl1_i, e_comp_v, e_comp_q, e_comp_i, e_sub_v, e_fdiv_v, e_mod_v, e_pow_v, e_add_v, e_mul_v, e_add_q, e_mul_q, e_add_i, e_mul_i, e_not_v, e_not_t, e_and_v, e_and_t, e_or_v, e_or_t, e_cmp_v, e_cmp_t, e_rng_i, e_enum_i, e_zip_i, e_nil_a, e_cons_a, e_var_g, e_ix_g, e_tup_g, e_nil_gs, e_cons_gs, o_add, o_sub, o_add2, o_addt, o_mul, o_fdiv, o_mod, o_pow, o_aug, o_neg, m_eq, m_ne, m_lt, m_le, m_gt, m_ge, m_eqs, m_is, m_isnot, n_non, n_ref, n_int, n_tup, b_abs, b_int, b_len, b_max, b_min, l_list, r_1, r_2, t_bl, t_int, t_non, q_tup, q_rol, a_bl, d_none, d_some, d_int, u_all, u_if, g_nil, g_cons, isL_nil, isL_var, isL_int, isL_bl, isL_non, isL_str, isL_glob, isL_neg, isL_not, isL_and, isL_or, isL_ife, isL_cmp, isL_tup, isL_ix, isL_sl, isL_call, isL_bi, isL_bq, isL_meth, isL_rev, isL_step2, isL_lst, isL_bl1, isL_comp, isL_add, isL_mul, isL_sub, isL_fdiv, isL_mod, isL_pow, reduceIte, Bool.or_self, Bool.false_eq_true, isNonE, isNil, lenE, wipeM, Bool.or_true, Bool.true_or, Bool.or_false, List.getElem?_cons_succ, List.getElem?_cons_zero, List.set_cons_succ, List.set_cons_zero, List.length_cons, List.length_nil, List.length_map, rngL_length]
        refine ⟨?_, hR⟩
        rw [sL_get (cf xs) (by omega)]
        have b1 := ps_log bx (n := i - 1 - j + 1) (by omega)
        have b2 := blog (j + 1)
        show ((ps (cf xs) (i - 1 - j + 1)).natAbs.log2 + (cf xs (j + 1)).natAbs.log2 < 1000000)
        omega
      · rw [rngL_length]
        refine ⟨trivial, bq_sum rfl ?_⟩
        rw [sum_map]
        simp only [e_var_v, e_var_t, e_var_q, e_var_i, e_int_v, e_int_t, e_int_q, e_int_i, e_bl_v, e_bl_t, e_bl_q, e_bl_i, e_non_v, e_non_t, e_non_q, e_non_i, e_str_v, e_str_t, e_str_q, e_str_i, e_glob_v, e_glob_t, e_glob_q, e_glob_i, e_neg_v, e_neg_t, e_neg_q, e_neg_i, e_ife_v, e_ife_t, e_ife_q, e_ife_i, e_tup_v, e_tup_t, e_tup_q, e_tup_i, e_ix_v, e_ix_t, e_ix_q, e_ix_i, e_sl_v, e_sl_t, e_sl_q, e_sl_i, e_call_v, e_call_t, e_call_q, e_call_i, e_bi_v, e_bi_t, e_bi_q, e_bi_i, e_bq_v, e_bq_t, e_bq_q, e_bq_i, e_meth_v, e_meth_t, e_meth_q, e_meth_i, e_lst_v, e_lst_q, e_lst_i, e_bl1_v, e_bl1_q, e_bl1_i, e_comp_v, e_comp_q, e_comp_i, e_sub_v, e_fdiv_v, e_mod_v, e_pow_v, e_add_v, e_mul_v, e_add_q, e_mul_q, e_add_i, e_mul_i, e_not_v, e_not_t, e_and_v, e_and_t, e_or_v, e_or_t, e_cmp_v, e_cmp_t, e_rng_i, e_enum_i, e_zip_i, e_nil_a, e_cons_a, e_var_g, e_ix_g, e_tup_g, e_nil_gs, e_cons_gs, o_add, o_sub, o_add2, o_addt, o_mul, o_fdiv, o_mod, o_pow, o_aug, o_neg, m_eq, m_ne, m_lt, m_le, m_gt, m_ge, m_eqs, m_is, m_isnot, n_non, n_ref, n_int, n_tup, b_abs, b_int, b_len, b_max, b_min, l_list, r_1, r_2, t_bl, t_int, t_non, q_tup, q_rol, a_bl, d_none, d_some, d_int, u_all, u_if, g_nil, g_cons, isL_nil, isL_var, isL_int, isL_bl, isL_non, isL_str, isL_glob, isL_neg, isL_not, isL_and, isL_or, isL_ife, isL_cmp, isL_tup, isL_ix, isL_sl, isL_call, isL_bi, isL_bq, isL_meth, isL_rev, isL_step2, isL_lst, isL_bl1, isL_comp, isL_add, isL_mul, isL_sub, isL_fdiv, isL_mod, isL_pow, reduceIte, Bool.or_self, Bool.false_eq_true, isNonE, isNil, lenE, wipeM, Bool.or_true, Bool.true_or, Bool.or_false, List.getElem?_cons_succ, List.getElem?_cons_zero, List.set_cons_succ, List.set_cons_zero, List.length_cons, List.length_nil, List.length_map, rngL_length]
        refine (append_ref put_same (by rw [List.length_map]; have := hSZ; omega) ?_).2
        refine ⟨_, Sub.refl _, _, _, rfl, ?_⟩
        have es : sumN (fun j => (sL (cf xs) i).getD (i - 1 - j) 0 * cf xs (j + 1)) ((if ((xs.length : Nat) : Int) < (i : Int) + 1 then ((xs.length : Nat) : Int) else (i : Int) + 1) - 1).toNat = sumN (fun j => (sL (cf xs) i).getD (i - 1 - j) 0 * cf xs (j + 1)) i := by
          symm
          refine sumN_more (by split <;> omega) fun j j1 j2 => ?_
          have : cf xs (j + 1) = 0 := by
            show xs.getD (j + 1) 0 = 0
            rw [List.getD_eq_getElem?_getD, List.getElem?_eq_none (by split at j1 <;> omega)]; rfl
          rw [this, Int.mul_zero]
        rw [es]
        simp [LI, put_put, sL]
    refine st_asg hΦ ?_
    simp only [e_var_v, e_var_t, e_var_q, e_var_i, e_int_v, e_int_t, e_int_q, e_int_i, e_bl_v, e_bl_t, e_bl_q, e_bl_i, e_non_v, e_non_t, e_non_q, e_non_i, e_str_v, e_str_t, e_str_q, e_str_i, e_glob_v, e_glob_t, e_glob_q, e_glob_i, e_neg_v, e_neg_t, e_neg_q, e_neg_i, e_ife_v, e_ife_t, e_ife_q, e_ife_i, e_tup_v, e_tup_t, e_tup_q, e_tup_i, e_ix_v, e_ix_t, e_ix_q, e_ix_i, e_sl_v, e_sl_t, e_sl_q, e_sl_i, e_call_v, e_call_t, e_call_q, e_call_i, e_bi_v, e_bi_t, e_bi_q, e_bi_i, e_bq_v, e_bq_t, e_bq_q, e_bq_i, e_meth_v, e_meth_t, e_meth_q, e_meth_i, e_lst_v, e_lst_q, e_lst_i, e_bl1_v, e_bl1_q, e_bl1_i, e_comp_v, e_comp_q, e_comp_i, e_sub_v, e_fdiv_v, e_mod_v, e_pow_v, e_add_v, e_mul_v, e_add_q, e_mul_q, e_add_i, e_mul_i, e_not_v, e_not_t, e_and_v, e_and_t, e_or_v, e_or_t, e_cmp_v, e_cmp_t, e_rng_i, e_enum_i, e_zip_i, e_nil_a, e_cons_a, e_var_g, e_ix_g, e_tup_g, e_nil_gs, e_cons_gs, o_add, o_sub, o_add2, o_addt, o_mul, o_fdiv, o_mod, o_pow, o_aug, o_neg, m_eq, m_ne, m_lt, m_le, m_gt, m_ge, m_eqs, m_is, m_isnot, n_non, n_ref, n_int, n_tup, b_abs, b_int, b_len, b_max, b_min, l_list, r_1, r_2, t_bl, t_int, t_non, q_tup, q_rol, a_bl, d_none, d_some, d_int, u_all, u_if, g_nil, g_cons, isL_nil, isL_var, isL_int, isL_bl, isL_non, isL_str, isL_glob, isL_neg, isL_not, isL_and, isL_or, isL_ife, isL_cmp, isL_tup, isL_ix, isL_sl, isL_call, isL_bi, isL_bq, isL_meth, isL_rev, isL_step2, isL_lst, isL_bl1, isL_comp, isL_add, isL_mul, isL_sub, isL_fdiv, isL_mod, isL_pow, reduceIte, Bool.or_self, Bool.false_eq_true, isNonE, isNil, lenE, wipeM, Bool.or_true, Bool.true_or, Bool.or_false, List.getElem?_cons_succ, List.getElem?_cons_zero, List.set_cons_succ, List.set_cons_zero, List.length_cons, List.length_nil, List.length_map, rngL_length, hln]
    by_cases z : (i : Int) + 1 < ((xs.length : Nat) : Int)
    · rw [if_pos (decide_eq_true z)]
      refine ix_int (hap _) (by omega) (by omega) ?_
      have e2 : ((i : Int) + 1).toNat = i + 1 := by omega
      rw [e2]
      simp only [e_var_v, e_var_t, e_var_q, e_var_i, e_int_v, e_int_t, e_int_q, e_int_i, e_bl_v, e_bl_t, e_bl_q, e_bl_i, e_non_v, e_non_t, e_non_q, e_non_i, e_str_v, e_str_t, e_str_q, e_str_i, e_glob_v, e_glob_t, e_glob_q, e_glob_i, e_neg_v, e_neg_t, e_neg_q, e_neg_i, e_ife_v, e_ife_t, e_ife_q, e_ife_i, e_tup_v, e_tup_t, e_tup_q, e_tup_i, e_ix_v, e_ix_t, e_ix_q, e_ix_i, e_sl_v, e_sl_t, e_sl_q, e_sl_i, e_call_v, e_call_t, e_call_q, e_call_i, e_bi_v, e_bi_t, e_bi_q, e_bi_i, e_bq_v, e_bq_t, e_bq_q, e_bq_i, e_meth_v, e_meth_t, e_meth_q, e_meth_i, e_lst_v, e_lst_q, e_lst_i, e_bl1_v, e_bl1_q, e_bl1_i, e_comp_v, e_comp_q, e_comp_i, e_sub_v, e_fdiv_v, e_mod_v, e_pow_v, e_add_v, e_mul_v, e_add_q, e_mul_q, e_add_i, e_mul_i, e_not_v, e_not_t, e_and_v, e_and_t, e_or_v, e_or_t, e_cmp_v, e_cmp_t, e_rng_i, e_enum_i, e_zip_i, e_nil_a, e_cons_a, e_var_g, e_ix_g, e_tup_g, e_nil_gs, e_cons_gs, o_add, o_sub, o_add2, o_addt, o_mul, o_fdiv, o_mod, o_pow, o_aug, o_neg, m_eq, m_ne, m_lt, m_le, m_gt, m_ge, m_eqs, m_is, m_isnot, n_non, n_ref, n_int, n_tup, b_abs, b_int, b_len, b_max, b_min, l_list, r_1, r_2, t_bl, t_int, t_non, q_tup, q_rol, a_bl, d_none, d_some, d_int, u_all, u_if, g_nil, g_cons, isL_nil, isL_var, isL_int, isL_bl, isL_non, isL_str, isL_glob, isL_neg, isL_not, isL_and, isL_or, isL_ife, isL_cmp, isL_tup, isL_ix, isL_sl, isL_call, isL_bi, isL_bq, isL_meth, isL_rev, isL_step2, isL_lst, isL_bl1, isL_comp, isL_add, isL_mul, isL_sub, isL_fdiv, isL_mod, isL_pow, reduceIte, Bool.or_self, Bool.false_eq_true, isNonE, isNil, lenE, wipeM, Bool.or_true, Bool.true_or, Bool.or_false, List.getElem?_cons_succ, List.getElem?_cons_zero, List.set_cons_succ, List.set_cons_zero, List.length_cons, List.length_nil, List.length_map, rngL_length]
      refine ⟨?_, ?_⟩
      · have b2 := blog (i + 1)
        have b3 : ((i : Int) + 1).natAbs.log2 < 62 := log2_le (by omega) (by omega)
        show (((i : Int) + 1).natAbs.log2 + (cf xs (i + 1)).natAbs.log2 < 1000000)
        omega
      · exact wS_only hΦ next fun _ _ w => w
    · rw [if_neg (by simpa using z)]
      have e0 : cf xs (i + 1) = 0 := by
        show xs.getD (i + 1) 0 = 0
        rw [List.getD_eq_getElem?_getD, List.getElem?_eq_none (by omega)]; rfl
      rw [e0, Int.mul_zero] at next
      exact wS_only hΦ next fun _ _ w => w
  · rintro σ h' ⟨x4, x5, rfl, rfl⟩
    rw [show (((most : Nat) : Int) + 1 - 1).toNat = most by omega]
    have hsl := sL_len (cf xs) most
    refine st_ret ?_
    simp only [e_var_v, e_var_t, e_var_q, e_var_i, e_int_v, e_int_t, e_int_q, e_int_i, e_bl_v, e_bl_t, e_bl_q, e_bl_i, e_non_v, e_non_t, e_non_q, e_non_i, e_str_v, e_str_t, e_str_q, e_str_i, e_glob_v, e_glob_t, e_glob_q, e_glob_i, e_neg_v, e_neg_t, e_neg_q, e_neg_i, e_ife_v, e_ife_t, e_ife_q, e_ife_i, e_tup_v, e_tup_t, e_tup_q, e_tup_i, e_ix_v, e_ix_t, e_ix_q, e_ix_i, e_sl_v, e_sl_t, e_sl_q, e_sl_i, e_call_v, e_call_t, e_call_q, e_call_i, e_bi_v, e_bi_t, e_bi_q, e_bi_i, e_bq_v, e_bq_t, e_bq_q, e_bq_i, e_meth_v, e_meth_t, e_meth_q, e_meth_i, e_lst_v, e_lst_q, e_lst_i, e_bl1_v, e_bl1_q, e_bl1_i, e_comp_v, e_comp_q, e_comp_i, e_sub_v, e_fdiv_v, e_mod_v, e_pow_v, e_add_v, e_mul_v, e_add_q, e_mul_q, e_add_i, e_mul_i, e_not_v, e_not_t, e_and_v, e_and_t, e_or_v, e_or_t, e_cmp_v, e_cmp_t, e_rng_i, e_enum_i, e_zip_i, e_nil_a, e_cons_a, e_var_g, e_ix_g, e_tup_g, e_nil_gs, e_cons_gs, o_add, o_sub, o_add2, o_addt, o_mul, o_fdiv, o_mod, o_pow, o_aug, o_neg, m_eq, m_ne, m_lt, m_le, m_gt, m_ge, m_eqs, m_is, m_isnot, n_non, n_ref, n_int, n_tup, b_abs, b_int, b_len, b_max, b_min, l_list, r_1, r_2, t_bl, t_int, t_non, q_tup, q_rol, a_bl, d_none, d_some, d_int, u_all, u_if, g_nil, g_cons, isL_nil, isL_var, isL_int, isL_bl, isL_non, isL_str, isL_glob, isL_neg, isL_not, isL_and, isL_or, isL_ife, isL_cmp, isL_tup, isL_ix, isL_sl, isL_call, isL_bi, isL_bq, isL_meth, isL_rev, isL_step2, isL_lst, isL_bl1, isL_comp, isL_add, isL_mul, isL_sub, isL_fdiv, isL_mod, isL_pow, reduceIte, Bool.or_self, Bool.false_eq_true, isNonE, isNil, lenE, wipeM, Bool.or_true, Bool.true_or, Bool.or_false, List.getElem?_cons_succ, List.getElem?_cons_zero, List.set_cons_succ, List.set_cons_zero, List.length_cons, List.length_nil, List.length_map, rngL_length]
    refine asQ_ref put_same ?_
    refine ⟨rfl, by rw [enumL_length, List.length_map]; have := hSZ; omega, ?_⟩
    refine compI_pure hΦ (fun k => .int (ps (cf xs) (k + 1) + p ^ (k + 1) + 1)) ?_ ?_ ?_
    · exact ⟨put_same, trivial⟩
    · intro j m R ej hR
      obtain ⟨v, ev, rfl⟩ := enum_get ej
      obtain ⟨n, en, rfl⟩ := intmap_get ev
      have hj : j < most := by
        have := (List.getElem?_eq_some_iff.mp en).1
        omega
      have e1 : n = ps (cf xs) (j + 1) := by
        rw [← sL_get (cf xs) hj, List.getD_eq_getElem?_getD, en]; rfl
      subst e1
      simp only [e_var_v, e_var_t, e_var_q, e_var_i, e_int_v, e_int_t, e_int_q, e_int_i, e_bl_v, e_bl_t, e_bl_q, e_bl_i, e_non_v, e_non_t, e_non_q, e_non_i, e_str_v, e_str_t, e_str_q, e_str_i, e_glob_v, e_glob_t, e_glob_q, e_glob_i, e_neg_v, e_neg_t, e_neg_q, e_neg_i, e_ife_v, e_ife_t, e_ife_q, e_ife_i, e_tup_v, e_tup_t, e_tup_q, e_tup_i, e_ix_v, e_ix_t, e_ix_q, e_ix_i, e_sl_v, e_sl_t, e_sl_q, e_sl_i, e_call_v, e_call_t, e_call_q, e_call_i, e_bi_v, e_bi_t, e_bi_q, e_bi_i, e_bq_v, e_bq_t, e_bq_q, e_bq_i, e_meth_v, e_meth_t, e_meth_q, e_meth_i, e_lst_v, e_lst_q, e_lst_i, e_bl1_v, e_bl1_q, e_bl1_i, e_comp_v, e_comp_q, e_comp_i, e_sub_v, e_fdiv_v, e_mod_v, e_pow_v, e_add_v, e_mul_v, e_add_q, e_mul_q, e_add_i, e_mul_i, e_not_v, e_not_t, e_and_v, e_and_t, e_or_v, e_or_t, e_cmp_v, e_cmp_t, e_rng_i, e_enum_i, e_zip_i, e_nil_a, e_cons_a, e_var_g, e_ix_g, e_tup_g, e_nil_gs, e_cons_gs, o_add, o_sub, o_add2, o_addt, o_mul, o_fdiv, o_mod, o_pow, o_aug, o_neg, m_eq, m_ne, m_lt, m_le, m_gt, m_ge, m_eqs, m_is, m_isnot, n_non, n_ref, n_int, n_tup, b_abs, b_int, b_len, b_max, b_min, l_list, r_1, r_2, t_bl, t_int, t_non, q_tup, q_rol, a_bl, d_none, d_some, d_int, u_all, u_if, g_nil, g_cons, isL_nil, isL_var, isL_int, isL_bl, isL_non, isL_str, isL_glob, isL_neg, isL_not, isL_and, isL_or, isL_ife, isL_cmp, isL_tup, isL_ix, isL_sl, isL_call, isL_bi, isL_bq, isL_meth, isL_rev, isL_step2, isL_lst, isL_bl1, isL_comp, isL_add, isL_mul, isL_sub, isL_fdiv, isL_mod, isL_pow, reduceIte, Bool.or_self, Bool.false_eq_true, isNonE, isNil, lenE, wipeM, Bool.or_true, Bool.true_or, Bool.or_false, List.getElem?_cons_succ, List.getElem?_cons_zero, List.set_cons_succ, List.set_cons_zero, List.length_cons, List.length_nil, List.length_map, rngL_length]
      refine ⟨trivial, ?_⟩
      rw [hr]
      refine ⟨p, _, rfl, by omega, by omega, p1, p2, ?_⟩
      simp only [e_var_v, e_var_t, e_var_q, e_var_i, e_int_v, e_int_t, e_int_q, e_int_i, e_bl_v, e_bl_t, e_bl_q, e_bl_i, e_non_v, e_non_t, e_non_q, e_non_i, e_str_v, e_str_t, e_str_q, e_str_i, e_glob_v, e_glob_t, e_glob_q, e_glob_i, e_neg_v, e_neg_t, e_neg_q, e_neg_i, e_ife_v, e_ife_t, e_ife_q, e_ife_i, e_tup_v, e_tup_t, e_tup_q, e_tup_i, e_ix_v, e_ix_t, e_ix_q, e_ix_i, e_sl_v, e_sl_t, e_sl_q, e_sl_i, e_call_v, e_call_t, e_call_q, e_call_i, e_bi_v, e_bi_t, e_bi_q, e_bi_i, e_bq_v, e_bq_t, e_bq_q, e_bq_i, e_meth_v, e_meth_t, e_meth_q, e_meth_i, e_lst_v, e_lst_q, e_lst_i, e_bl1_v, e_bl1_q, e_bl1_i, e_comp_v, e_comp_q, e_comp_i, e_sub_v, e_fdiv_v, e_mod_v, e_pow_v, e_add_v, e_mul_v, e_add_q, e_mul_q, e_add_i, e_mul_i, e_not_v, e_not_t, e_and_v, e_and_t, e_or_v, e_or_t, e_cmp_v, e_cmp_t, e_rng_i, e_enum_i, e_zip_i, e_nil_a, e_cons_a, e_var_g, e_ix_g, e_tup_g, e_nil_gs, e_cons_gs, o_add, o_sub, o_add2, o_addt, o_mul, o_fdiv, o_mod, o_pow, o_aug, o_neg, m_eq, m_ne, m_lt, m_le, m_gt, m_ge, m_eqs, m_is, m_isnot, n_non, n_ref, n_int, n_tup, b_abs, b_int, b_len, b_max, b_min, l_list, r_1, r_2, t_bl, t_int, t_non, q_tup, q_rol, a_bl, d_none, d_some, d_int, u_all, u_if, g_nil, g_cons, isL_nil, isL_var, isL_int, isL_bl, isL_non, isL_str, isL_glob, isL_neg, isL_not, isL_and, isL_or, isL_ife, isL_cmp, isL_tup, isL_ix, isL_sl, isL_call, isL_bi, isL_bq, isL_meth, isL_rev, isL_step2, isL_lst, isL_bl1, isL_comp, isL_add, isL_mul, isL_sub, isL_fdiv, isL_mod, isL_pow, reduceIte, Bool.or_self, Bool.false_eq_true, isNonE, isNil, lenE, wipeM, Bool.or_true, Bool.true_or, Bool.or_false, List.getElem?_cons_succ, List.getElem?_cons_zero, List.set_cons_succ, List.set_cons_zero, List.length_cons, List.length_nil, List.length_map, rngL_length]
      rw [show ((j : Int) + 1).toNat = j + 1 by omega]
      exact hR
    · rw [enumL_length, List.length_map, hsl]
      refine ⟨trivial, fun p' np' => ⟨put h p' (LI (counts p xs most)), ?_, post p' ((Sub.put nr).none np')⟩⟩
      have : (List.range most).map (fun k => M.int (ps (cf xs) (k + 1) + p ^ (k + 1) + 1)) = (counts p xs most).map M.int := by
        unfold counts; rw [List.map_map]; rfl
      rw [this]
      exact (Sub.put nr).put2
end Mp.K39

set_option Elab.async false
set_option linter.all false
set_option maxRecDepth 100000
set_option exponentiation.threshold 500
namespace Mp.K39
open PySem Mp
def spOver : SpM := fun ms h Q _ => ∃ (p : Int) (a : Nat) (xs : List Int), ms = [.int p, .ref a, .int 1] ∧ h a = some (LI xs) ∧ xs.length / 2 ≤ 4 ∧ (∀ c ∈ xs, c.natAbs ≤ 2 ^ 54) ∧ 1 ≤ p ∧ p < 1000 ∧
  match mk (tt p (counts p xs (xs.length / 2))) (xs.length / 2) with
  | none => Q .non h
  | some l => ∀ r, h r = none → Q (.ref r) (put h r (LI (full p l (xs.length / 2))))
theorem counts_len (p : Int) (xs : List Int) (n : Nat) : (counts p xs n).length = n := by simp [counts]
theorem counts_get {p : Int} {xs : List Int} {n k : Nat} (h : k < n) : (counts p xs n).getD k 0 = ps (cf xs) (k + 1) + p ^ (k + 1) + 1 := by
  rw [List.getD_eq_getElem?_getD]; simp [counts, h]
theorem pow_small {p : Int} (p1 : 1 ≤ p) (p2 : p < 1000) (k : Nat) : (p ^ k).natAbs ≤ (2 ^ 10) ^ k := by
  rw [Int.natAbs_pow]; exact Nat.pow_le_pow_left (by omega) k
/-- few counts are not great -/
theorem counts_bnd {p : Int} {xs : List Int} (hx : ∀ c ∈ xs, c.natAbs ≤ 2 ^ 54) (p1 : 1 ≤ p) (p2 : p < 1000) {n : Nat} (hn : n ≤ 40) : ∀ c ∈ counts p xs n, c.natAbs ≤ (2 ^ 61) ^ n + (2 ^ 10) ^ n + 1 := by
  intro c hc
  obtain ⟨k, hk, rfl⟩ := List.mem_map.mp hc
  have hk := List.mem_range.mp hk
  have b1 := ps_bnd (cf_bnd hx) (k + 1) (by omega)
  have b2 := pow_small p1 p2 (k + 1)
  have b3 : (2 ^ 61) ^ (k + 1) ≤ (2 ^ 61) ^ n := Nat.pow_le_pow_right (by decide) (by omega)
  have b4 : (2 ^ 10) ^ (k + 1) ≤ (2 ^ 10) ^ n := Nat.pow_le_pow_right (by decide) (by omega)
  generalize (2 ^ 61) ^ (k + 1) = u1 at *
  generalize (2 ^ 10) ^ (k + 1) = u2 at *
  generalize (2 ^ 61) ^ n = u3 at *
  generalize (2 ^ 10) ^ n = u4 at *
  generalize p ^ (k + 1) = u5 at *
  omega
theorem counts_300 {p : Int} {xs : List Int} (hx : ∀ c ∈ xs, c.natAbs ≤ 2 ^ 54) (p1 : 1 ≤ p) (p2 : p < 1000) {n : Nat} (hn : n ≤ 4) : ∀ c ∈ counts p xs n, c.natAbs < 2 ^ 300 := by
  intro c hc
  have b := counts_bnd hx p1 p2 (n := n) (by omega) c hc
  have b3 : (2 ^ 61) ^ n ≤ (2 ^ 61) ^ 4 := Nat.pow_le_pow_right (by decide) (by omega)
  have b4 : (2 ^ 10) ^ n ≤ (2 ^ 10) ^ 4 := Nat.pow_le_pow_right (by decide) (by omega)
  have e : (2 ^ 61) ^ 4 + (2 ^ 10) ^ 4 + 1 < 2 ^ 300 := by decide
  omega
theorem keeps_list_over (Φ : Phi) (hΦ : Φ.Mono) (hr : Φ.fn "raised" = spRaised) (hm : Φ.fn "list_made" = spMade) (hc : Φ.fn "counts_of" = spCounts) : Keeps Φ 6 t_list_over spOver := by
  intro ms h Q hsp
  obtain ⟨p, a, xs, rfl, ha, hg, hx, p1, p2, post⟩ := hsp
  change wS Φ W0 _ _ [some (.int p), some (.ref a), some (.int 1), none, none, none] h
  unfold t_list_over
  refine st_asg hΦ ?_
  simp only [e_var_v, e_var_t, e_var_q, e_var_i, e_int_v, e_int_t, e_int_q, e_int_i, e_bl_v, e_bl_t, e_bl_q, e_bl_i, e_non_v, e_non_t, e_non_q, e_non_i, e_str_v, e_str_t, e_str_q, e_str_i, e_glob_v, e_glob_t, e_glob_q, e_glob_i, e_neg_v, e_neg_t, e_neg_q, e_neg_i, e_ife_v, e_ife_t, e_ife_q, e_ife_i, e_tup_v, e_tup_t, e_tup_q, e_tup_i, e_ix_v, e_ix_t, e_ix_q, e_ix_i, e_sl_v, e_sl_t, e_sl_q, e_sl_i, e_call_v, e_call_t, e_call_q, e_call_i, e_bi_v, e_bi_t, e_bi_q, e_bi_i, e_bq_v, e_bq_t, e_bq_q, e_bq_i, e_meth_v, e_meth_t, e_meth_q, e_meth_i, e_lst_v, e_lst_q, e_lst_i, e_bl1_v, e_bl1_q, e_bl1_i, e_comp_v, e_comp_q, e_comp_i, e_sub_v, e_fdiv_v, e_mod_v, e_pow_v, e_add_v, e_mul_v, e_add_q, e_mul_q, e_add_i, e_mul_i, e_not_v, e_not_t, e_and_v, e_and_t, e_or_v, e_or_t, e_cmp_v, e_cmp_t, e_rng_i, e_enum_i, e_zip_i, e_nil_a, e_cons_a, e_var_g, e_ix_g, e_tup_g, e_nil_gs, e_cons_gs, o_add, o_sub, o_add2, o_addt, o_mul, o_fdiv, o_mod, o_pow, o_aug, o_neg, m_eq, m_ne, m_lt, m_le, m_gt, m_ge, m_eqs, m_is, m_isnot, n_non, n_ref, n_int, n_tup, b_abs, b_int, b_len, b_max, b_min, l_list, r_1, r_2, t_bl, t_int, t_non, q_tup, q_rol, a_bl, d_none, d_some, d_int, u_all, u_if, g_nil, g_cons, isL_nil, isL_var, isL_int, isL_bl, isL_non, isL_str, isL_glob, isL_neg, isL_not, isL_and, isL_or, isL_ife, isL_cmp, isL_tup, isL_ix, isL_sl, isL_call, isL_bi, isL_bq, isL_meth, isL_rev, isL_step2, isL_lst, isL_bl1, isL_comp, isL_add, isL_mul, isL_sub, isL_fdiv, isL_mod, isL_pow, reduceIte, Bool.or_self, Bool.false_eq_true, isNonE, isNil, lenE, wipeM, Bool.or_true, Bool.true_or, Bool.or_false, List.getElem?_cons_succ, List.getElem?_cons_zero, List.set_cons_succ, List.set_cons_zero, List.length_cons, List.length_nil, List.length_map, rngL_length, len_int ha]
  refine ⟨divOk (by omega) (by omega), ?_⟩
  rw [show ((xs.length : Nat) : Int) / 2 = ((xs.length / 2 : Nat) : Int) by omega]
  generalize hgd : xs.length / 2 = g at *
  refine st_asg hΦ ?_
  simp only [e_var_v, e_var_t, e_var_q, e_var_i, e_int_v, e_int_t, e_int_q, e_int_i, e_bl_v, e_bl_t, e_bl_q, e_bl_i, e_non_v, e_non_t, e_non_q, e_non_i, e_str_v, e_str_t, e_str_q, e_str_i, e_glob_v, e_glob_t, e_glob_q, e_glob_i, e_neg_v, e_neg_t, e_neg_q, e_neg_i, e_ife_v, e_ife_t, e_ife_q, e_ife_i, e_tup_v, e_tup_t, e_tup_q, e_tup_i, e_ix_v, e_ix_t, e_ix_q, e_ix_i, e_sl_v, e_sl_t, e_sl_q, e_sl_i, e_call_v, e_call_t, e_call_q, e_call_i, e_bi_v, e_bi_t, e_bi_q, e_bi_i, e_bq_v, e_bq_t, e_bq_q, e_bq_i, e_meth_v, e_meth_t, e_meth_q, e_meth_i, e_lst_v, e_lst_q, e_lst_i, e_bl1_v, e_bl1_q, e_bl1_i, e_comp_v, e_comp_q, e_comp_i, e_sub_v, e_fdiv_v, e_mod_v, e_pow_v, e_add_v, e_mul_v, e_add_q, e_mul_q, e_add_i, e_mul_i, e_not_v, e_not_t, e_and_v, e_and_t, e_or_v, e_or_t, e_cmp_v, e_cmp_t, e_rng_i, e_enum_i, e_zip_i, e_nil_a, e_cons_a, e_var_g, e_ix_g, e_tup_g, e_nil_gs, e_cons_gs, o_add, o_sub, o_add2, o_addt, o_mul, o_fdiv, o_mod, o_pow, o_aug, o_neg, m_eq, m_ne, m_lt, m_le, m_gt, m_ge, m_eqs, m_is, m_isnot, n_non, n_ref, n_int, n_tup, b_abs, b_int, b_len, b_max, b_min, l_list, r_1, r_2, t_bl, t_int, t_non, q_tup, q_rol, a_bl, d_none, d_some, d_int, u_all, u_if, g_nil, g_cons, isL_nil, isL_var, isL_int, isL_bl, isL_non, isL_str, isL_glob, isL_neg, isL_not, isL_and, isL_or, isL_ife, isL_cmp, isL_tup, isL_ix, isL_sl, isL_call, isL_bi, isL_bq, isL_meth, isL_rev, isL_step2, isL_lst, isL_bl1, isL_comp, isL_add, isL_mul, isL_sub, isL_fdiv, isL_mod, isL_pow, reduceIte, Bool.or_self, Bool.false_eq_true, isNonE, isNil, lenE, wipeM, Bool.or_true, Bool.true_or, Bool.or_false, List.getElem?_cons_succ, List.getElem?_cons_zero, List.set_cons_succ, List.set_cons_zero, List.length_cons, List.length_nil, List.length_map, rngL_length]
  refine ⟨by unfold MulOk; have := log2_le (x := ((g : Nat) : Int).natAbs) (k := 10) (by omega) (by omega); have : (1 : Int).natAbs.log2 = 0 := by decide
             omega, ?_⟩
  rw [hc]
  have hp : p.natAbs < 2 ^ 100 := Nat.lt_of_lt_of_le (m := 1000) (by omega) (by decide)
  refine ⟨p, a, xs, g, by rw [Int.mul_one], ha, by omega, by omega, hx, p1, hp, fun r nr => ?_⟩
  simp only [e_var_v, e_var_t, e_var_q, e_var_i, e_int_v, e_int_t, e_int_q, e_int_i, e_bl_v, e_bl_t, e_bl_q, e_bl_i, e_non_v, e_non_t, e_non_q, e_non_i, e_str_v, e_str_t, e_str_q, e_str_i, e_glob_v, e_glob_t, e_glob_q, e_glob_i, e_neg_v, e_neg_t, e_neg_q, e_neg_i, e_ife_v, e_ife_t, e_ife_q, e_ife_i, e_tup_v, e_tup_t, e_tup_q, e_tup_i, e_ix_v, e_ix_t, e_ix_q, e_ix_i, e_sl_v, e_sl_t, e_sl_q, e_sl_i, e_call_v, e_call_t, e_call_q, e_call_i, e_bi_v, e_bi_t, e_bi_q, e_bi_i, e_bq_v, e_bq_t, e_bq_q, e_bq_i, e_meth_v, e_meth_t, e_meth_q, e_meth_i, e_lst_v, e_lst_q, e_lst_i, e_bl1_v, e_bl1_q, e_bl1_i, e_comp_v, e_comp_q, e_comp_i, e_sub_v, e_fdiv_v, e_mod_v, e_pow_v, e_add_v, e_mul_v, e_add_q, e_mul_q, e_add_i, e_mul_i, e_not_v, e_not_t, e_and_v, e_and_t, e_or_v, e_or_t, e_cmp_v, e_cmp_t, e_rng_i, e_enum_i, e_zip_i, e_nil_a, e_cons_a, e_var_g, e_ix_g, e_tup_g, e_nil_gs, e_cons_gs, o_add, o_sub, o_add2, o_addt, o_mul, o_fdiv, o_mod, o_pow, o_aug, o_neg, m_eq, m_ne, m_lt, m_le, m_gt, m_ge, m_eqs, m_is, m_isnot, n_non, n_ref, n_int, n_tup, b_abs, b_int, b_len, b_max, b_min, l_list, r_1, r_2, t_bl, t_int, t_non, q_tup, q_rol, a_bl, d_none, d_some, d_int, u_all, u_if, g_nil, g_cons, isL_nil, isL_var, isL_int, isL_bl, isL_non, isL_str, isL_glob, isL_neg, isL_not, isL_and, isL_or, isL_ife, isL_cmp, isL_tup, isL_ix, isL_sl, isL_call, isL_bi, isL_bq, isL_meth, isL_rev, isL_step2, isL_lst, isL_bl1, isL_comp, isL_add, isL_mul, isL_sub, isL_fdiv, isL_mod, isL_pow, reduceIte, Bool.or_self, Bool.false_eq_true, isNonE, isNil, lenE, wipeM, Bool.or_true, Bool.true_or, Bool.or_false, List.getElem?_cons_succ, List.getElem?_cons_zero, List.set_cons_succ, List.set_cons_zero, List.length_cons, List.length_nil, List.length_map, rngL_length]
  refine st_ret ?_
  simp only [e_var_v, e_var_t, e_var_q, e_var_i, e_int_v, e_int_t, e_int_q, e_int_i, e_bl_v, e_bl_t, e_bl_q, e_bl_i, e_non_v, e_non_t, e_non_q, e_non_i, e_str_v, e_str_t, e_str_q, e_str_i, e_glob_v, e_glob_t, e_glob_q, e_glob_i, e_neg_v, e_neg_t, e_neg_q, e_neg_i, e_ife_v, e_ife_t, e_ife_q, e_ife_i, e_tup_v, e_tup_t, e_tup_q, e_tup_i, e_ix_v, e_ix_t, e_ix_q, e_ix_i, e_sl_v, e_sl_t, e_sl_q, e_sl_i, e_call_v, e_call_t, e_call_q, e_call_i, e_bi_v, e_bi_t, e_bi_q, e_bi_i, e_bq_v, e_bq_t, e_bq_q, e_bq_i, e_meth_v, e_meth_t, e_meth_q, e_meth_i, e_lst_v, e_lst_q, e_lst_i, e_bl1_v, e_bl1_q, e_bl1_i, e_comp_v, e_comp_q, e_comp_i, e_sub_v, e_fdiv_v, e_mod_v, e_pow_v, e_add_v, e_mul_v, e_add_q, e_mul_q, e_add_i, e_mul_i, e_not_v, e_not_t, e_and_v, e_and_t, e_or_v, e_or_t, e_cmp_v, e_cmp_t, e_rng_i, e_enum_i, e_zip_i, e_nil_a, e_cons_a, e_var_g, e_ix_g, e_tup_g, e_nil_gs, e_cons_gs, o_add, o_sub, o_add2, o_addt, o_mul, o_fdiv, o_mod, o_pow, o_aug, o_neg, m_eq, m_ne, m_lt, m_le, m_gt, m_ge, m_eqs, m_is, m_isnot, n_non, n_ref, n_int, n_tup, b_abs, b_int, b_len, b_max, b_min, l_list, r_1, r_2, t_bl, t_int, t_non, q_tup, q_rol, a_bl, d_none, d_some, d_int, u_all, u_if, g_nil, g_cons, isL_nil, isL_var, isL_int, isL_bl, isL_non, isL_str, isL_glob, isL_neg, isL_not, isL_and, isL_or, isL_ife, isL_cmp, isL_tup, isL_ix, isL_sl, isL_call, isL_bi, isL_bq, isL_meth, isL_rev, isL_step2, isL_lst, isL_bl1, isL_comp, isL_add, isL_mul, isL_sub, isL_fdiv, isL_mod, isL_pow, reduceIte, Bool.or_self, Bool.false_eq_true, isNonE, isNil, lenE, wipeM, Bool.or_true, Bool.true_or, Bool.or_false, List.getElem?_cons_succ, List.getElem?_cons_zero, List.set_cons_succ, List.set_cons_zero, List.length_cons, List.length_nil, List.length_map, rngL_length]
  rw [hr]
  refine ⟨p, 1, rfl, by omega, by omega, p1, hp, ?_⟩
  simp only [e_var_v, e_var_t, e_var_q, e_var_i, e_int_v, e_int_t, e_int_q, e_int_i, e_bl_v, e_bl_t, e_bl_q, e_bl_i, e_non_v, e_non_t, e_non_q, e_non_i, e_str_v, e_str_t, e_str_q, e_str_i, e_glob_v, e_glob_t, e_glob_q, e_glob_i, e_neg_v, e_neg_t, e_neg_q, e_neg_i, e_ife_v, e_ife_t, e_ife_q, e_ife_i, e_tup_v, e_tup_t, e_tup_q, e_tup_i, e_ix_v, e_ix_t, e_ix_q, e_ix_i, e_sl_v, e_sl_t, e_sl_q, e_sl_i, e_call_v, e_call_t, e_call_q, e_call_i, e_bi_v, e_bi_t, e_bi_q, e_bi_i, e_bq_v, e_bq_t, e_bq_q, e_bq_i, e_meth_v, e_meth_t, e_meth_q, e_meth_i, e_lst_v, e_lst_q, e_lst_i, e_bl1_v, e_bl1_q, e_bl1_i, e_comp_v, e_comp_q, e_comp_i, e_sub_v, e_fdiv_v, e_mod_v, e_pow_v, e_add_v, e_mul_v, e_add_q, e_mul_q, e_add_i, e_mul_i, e_not_v, e_not_t, e_and_v, e_and_t, e_or_v, e_or_t, e_cmp_v, e_cmp_t, e_rng_i, e_enum_i, e_zip_i, e_nil_a, e_cons_a, e_var_g, e_ix_g, e_tup_g, e_nil_gs, e_cons_gs, o_add, o_sub, o_add2, o_addt, o_mul, o_fdiv, o_mod, o_pow, o_aug, o_neg, m_eq, m_ne, m_lt, m_le, m_gt, m_ge, m_eqs, m_is, m_isnot, n_non, n_ref, n_int, n_tup, b_abs, b_int, b_len, b_max, b_min, l_list, r_1, r_2, t_bl, t_int, t_non, q_tup, q_rol, a_bl, d_none, d_some, d_int, u_all, u_if, g_nil, g_cons, isL_nil, isL_var, isL_int, isL_bl, isL_non, isL_str, isL_glob, isL_neg, isL_not, isL_and, isL_or, isL_ife, isL_cmp, isL_tup, isL_ix, isL_sl, isL_call, isL_bi, isL_bq, isL_meth, isL_rev, isL_step2, isL_lst, isL_bl1, isL_comp, isL_add, isL_mul, isL_sub, isL_fdiv, isL_mod, isL_pow, reduceIte, Bool.or_self, Bool.false_eq_true, isNonE, isNil, lenE, wipeM, Bool.or_true, Bool.true_or, Bool.or_false, List.getElem?_cons_succ, List.getElem?_cons_zero, List.set_cons_succ, List.set_cons_zero, List.length_cons, List.length_nil, List.length_map, rngL_length]
  refine ⟨by omega, by have := hSZ; omega, ?_⟩
  rw [show ((g : Int) + 1 - 1).toNat = g by omega]
  refine compI_pure hΦ (fun k => .int ((counts p xs g).getD k 0)) trivial ?_ ?_
  · intro j m R ej hR
    obtain ⟨hj, rfl⟩ := rng_get ej
    simp only [e_var_v, e_var_t, e_var_q, e_var_i, e_int_v, e_int_t, e_int_q, e_int_i, e_bl_v, e_bl_t, e_bl_q, e_bl_i, e_non_v, e_non_t, e_non_q, e_non_i, e_str_v, e_str_t, e_str_q, e_str_i, e_glob_v, e_glob_t, e_glob_q, e_glob_i, e_neg_v, e_neg_t, e_neg_q, e_neg_i, e_ife_v, e_ife_t, e_ife_q, e_ife_i, e_tup_v, e_tup_t, e_tup_q, e_tup_i, e_ix_v, e_ix_t, e_ix_q, e_ix_i, e_sl_v, e_sl_t, e_sl_q, e_sl_i, e_call_v, e_call_t, e_call_q, e_call_i, e_bi_v, e_bi_t, e_bi_q, e_bi_i, e_bq_v, e_bq_t, e_bq_q, e_bq_i, e_meth_v, e_meth_t, e_meth_q, e_meth_i, e_lst_v, e_lst_q, e_lst_i, e_bl1_v, e_bl1_q, e_bl1_i, e_comp_v, e_comp_q, e_comp_i, e_sub_v, e_fdiv_v, e_mod_v, e_pow_v, e_add_v, e_mul_v, e_add_q, e_mul_q, e_add_i, e_mul_i, e_not_v, e_not_t, e_and_v, e_and_t, e_or_v, e_or_t, e_cmp_v, e_cmp_t, e_rng_i, e_enum_i, e_zip_i, e_nil_a, e_cons_a, e_var_g, e_ix_g, e_tup_g, e_nil_gs, e_cons_gs, o_add, o_sub, o_add2, o_addt, o_mul, o_fdiv, o_mod, o_pow, o_aug, o_neg, m_eq, m_ne, m_lt, m_le, m_gt, m_ge, m_eqs, m_is, m_isnot, n_non, n_ref, n_int, n_tup, b_abs, b_int, b_len, b_max, b_min, l_list, r_1, r_2, t_bl, t_int, t_non, q_tup, q_rol, a_bl, d_none, d_some, d_int, u_all, u_if, g_nil, g_cons, isL_nil, isL_var, isL_int, isL_bl, isL_non, isL_str, isL_glob, isL_neg, isL_not, isL_and, isL_or, isL_ife, isL_cmp, isL_tup, isL_ix, isL_sl, isL_call, isL_bi, isL_bq, isL_meth, isL_rev, isL_step2, isL_lst, isL_bl1, isL_comp, isL_add, isL_mul, isL_sub, isL_fdiv, isL_mod, isL_pow, reduceIte, Bool.or_self, Bool.false_eq_true, isNonE, isNil, lenE, wipeM, Bool.or_true, Bool.true_or, Bool.or_false, List.getElem?_cons_succ, List.getElem?_cons_zero, List.set_cons_succ, List.set_cons_zero, List.length_cons, List.length_nil, List.length_map, rngL_length]
    refine ⟨by unfold MulOk; have := log2_le (x := (1 + (j : Int) * 1).natAbs) (k := 62) (by omega) (by omega); have : (1 : Int).natAbs.log2 = 0 := by decide
               omega, ?_⟩
    refine ix_int put_same (by omega) (by rw [counts_len]; omega) ?_
    rw [show (1 * (1 + (j : Int) * 1) - 1).toNat = j by omega]
    exact hR
  · rw [rngL_length]
    refine ⟨trivial, fun r2 nr2 => ?_⟩
    have el : (List.range g).map (fun k => M.int ((counts p xs g).getD k 0)) = (counts p xs g).map M.int := by
      have : (List.range g).map (fun k => M.int ((counts p xs g).getD k 0)) = ((List.range g).map (fun k => (counts p xs g).getD k 0)).map M.int := by rw [List.map_map]; rfl
      rw [this]
      congr 1
      refine List.ext_getElem? fun i => ?_
      by_cases hi : i < g
      · rw [List.getElem?_map, List.getElem?_range hi, Option.map_some, List.getD_eq_getElem?_getD, List.getElem?_eq_getElem (by rw [counts_len]; exact hi)]; rfl
      · rw [List.getElem?_eq_none (by simp; omega), List.getElem?_eq_none (by rw [counts_len]; omega)]
    rw [el, show p ^ (1 : Int).toNat = p by rw [show (1 : Int).toNat = 1 from rfl, Int.pow_succ, Int.pow_zero, Int.one_mul], hm]
    refine ⟨p, r2, counts p xs g, rfl, put_same, by rw [counts_len]; omega, counts_300 hx p1 p2 hg, p1, hp, ?_⟩
    rw [counts_len]
    have nh : h r2 = none := (Sub.put nr).none nr2
    cases e : mk (tt p (counts p xs g)) g with
    | none =>
      rw [e] at post
      exact ⟨h, (Sub.put nr).trans (Sub.put nr2), post⟩
    | some l =>
      rw [e] at post
      intro r3 nr3
      have s : Sub h (put (put h r (LI (counts p xs g))) r2 (LI (counts p xs g))) := (Sub.put nr).trans (Sub.put nr2)
      exact ⟨put h r3 (LI (full p l g)), s.put2, post r3 (s.none nr3)⟩
end Mp.K39

set_option Elab.async false
set_option linter.all false
set_option maxRecDepth 100000
set_option exponentiation.threshold 500
namespace Mp.K39
open PySem Mp
theorem mulOk {i j : Int} (hi : i.natAbs < 2 ^ 100) (hj : j.natAbs < 2 ^ 100) : MulOk i j := by
  have a := log2_le hi (by decide)
  have b := log2_le hj (by decide)
  unfold MulOk; omega
def deckL (d0 d1 s : Int) (b : Nat) (d4 : Int) : List M := [.int d0, .int d1, .int s, .ref b, .int d4]
theorem deck_ne {h : MH} {a b : Nat} {ns : List Int} {d0 d1 s d4 : Int} (h1 : h a = some (.lst (deckL d0 d1 s b d4))) (h2 : h b = some (LI ns)) : b ≠ a := fun e => by
  rw [e, h1] at h2
  have q : deckL d0 d1 s b d4 = ns.map M.int := MO.lst.inj (Option.some.inj h2)
  have r : (ns.map M.int)[3]? = some (.ref b) := by rw [← q]; rfl
  obtain ⟨n, _, e⟩ := intmap_get r
  cases e
structure Deck (h : MH) (a b : Nat) (ns : List Int) (n : Nat) : Prop where
  ex : ∃ d0 d1 s d4 : Int, h a = some (.lst (deckL d0 d1 s b d4)) ∧ h b = some (LI ns) ∧ 0 ≤ d0 ∧ 0 ≤ d1 ∧ 0 ≤ s ∧ s < 2147483647 ∧ 0 ≤ d4 ∧ d4 ≤ n
theorem Deck.mono {h : MH} {a b : Nat} {ns : List Int} {n m : Nat} (d : Deck h a b ns n) (e : n ≤ m) : Deck h a b ns m := by
  obtain ⟨d0, d1, s, d4, h1, h2, h3, h4, h5, h6, h7, h8⟩ := d.ex
  exact ⟨d0, d1, s, d4, h1, h2, h3, h4, h5, h6, h7, by omega⟩
theorem Deck.sub {h h' : MH} {a b : Nat} {ns : List Int} {n : Nat} (d : Deck h a b ns n) (e : Sub h h') : Deck h' a b ns n := by
  obtain ⟨d0, d1, s, d4, h1, h2, r⟩ := d.ex
  exact ⟨d0, d1, s, d4, e _ _ h1, e _ _ h2, r⟩
theorem Deck.put {h : MH} {a b p : Nat} {ns : List Int} {n : Nat} {o : MO} (d : Deck h a b ns n) (e : h p = none) : Deck (put h p o) a b ns n := d.sub (Sub.put e)
theorem Deck.at {h : MH} {a b : Nat} {ns : List Int} {n : Nat} (d : Deck h a b ns n) : ∃ o, h a = some o := by
  obtain ⟨d0, d1, s, d4, h1, _⟩ := d.ex
  exact ⟨_, h1⟩
def spDeck : SpM := fun ms h Q _ => ∃ ns : List Int, ms = [.rol (ns.map M.int)] ∧ ns.length ≤ 63 ∧ ∀ a b h', Sub h h' → h a = none → h b = none → Deck h' a b ns 0 → Q (.ref a) h'
theorem keeps_deck (Φ : Phi) (hΦ : Φ.Mono) : Keeps Φ 3 t_law_deck spDeck := by
  intro ms h Q hsp
  obtain ⟨ns, rfl, hlen, post⟩ := hsp
  change wS Φ W0 _ _ [some (.rol (ns.map M.int)), none, none] h
  unfold t_law_deck
  refine st_asg hΦ ?_
  simp only [e_var_v, e_var_t, e_var_q, e_var_i, e_int_v, e_int_t, e_int_q, e_int_i, e_bl_v, e_bl_t, e_bl_q, e_bl_i, e_non_v, e_non_t, e_non_q, e_non_i, e_str_v, e_str_t, e_str_q, e_str_i, e_glob_v, e_glob_t, e_glob_q, e_glob_i, e_neg_v, e_neg_t, e_neg_q, e_neg_i, e_ife_v, e_ife_t, e_ife_q, e_ife_i, e_tup_v, e_tup_t, e_tup_q, e_tup_i, e_ix_v, e_ix_t, e_ix_q, e_ix_i, e_sl_v, e_sl_t, e_sl_q, e_sl_i, e_call_v, e_call_t, e_call_q, e_call_i, e_bi_v, e_bi_t, e_bi_q, e_bi_i, e_bq_v, e_bq_t, e_bq_q, e_bq_i, e_meth_v, e_meth_t, e_meth_q, e_meth_i, e_lst_v, e_lst_q, e_lst_i, e_bl1_v, e_bl1_q, e_bl1_i, e_comp_v, e_comp_q, e_comp_i, e_sub_v, e_fdiv_v, e_mod_v, e_pow_v, e_add_v, e_mul_v, e_add_q, e_mul_q, e_add_i, e_mul_i, e_not_v, e_not_t, e_and_v, e_and_t, e_or_v, e_or_t, e_cmp_v, e_cmp_t, e_rng_i, e_enum_i, e_zip_i, e_nil_a, e_cons_a, e_var_g, e_ix_g, e_tup_g, e_nil_gs, e_cons_gs, o_add, o_sub, o_add2, o_addt, o_mul, o_fdiv, o_mod, o_pow, o_aug, o_neg, m_eq, m_ne, m_lt, m_le, m_gt, m_ge, m_eqs, m_is, m_isnot, n_non, n_ref, n_int, n_tup, b_abs, b_int, b_len, b_max, b_min, l_list, r_1, r_2, t_bl, t_int, t_non, q_tup, q_rol, a_bl, d_none, d_some, d_int, u_all, u_if, g_nil, g_cons, isL_nil, isL_var, isL_int, isL_bl, isL_non, isL_str, isL_glob, isL_neg, isL_not, isL_and, isL_or, isL_ife, isL_cmp, isL_tup, isL_ix, isL_sl, isL_call, isL_bi, isL_bq, isL_meth, isL_rev, isL_step2, isL_lst, isL_bl1, isL_comp, isL_add, isL_mul, isL_sub, isL_fdiv, isL_mod, isL_pow, reduceIte, Bool.or_self, Bool.false_eq_true, isNonE, isNil, lenE, wipeM, Bool.or_true, Bool.true_or, Bool.or_false, List.getElem?_cons_succ, List.getElem?_cons_zero, List.set_cons_succ, List.set_cons_zero, List.length_cons, List.length_nil, List.length_map, rngL_length]
  refine st_for hΦ ?_
  simp only [e_var_v, e_var_t, e_var_q, e_var_i, e_int_v, e_int_t, e_int_q, e_int_i, e_bl_v, e_bl_t, e_bl_q, e_bl_i, e_non_v, e_non_t, e_non_q, e_non_i, e_str_v, e_str_t, e_str_q, e_str_i, e_glob_v, e_glob_t, e_glob_q, e_glob_i, e_neg_v, e_neg_t, e_neg_q, e_neg_i, e_ife_v, e_ife_t, e_ife_q, e_ife_i, e_tup_v, e_tup_t, e_tup_q, e_tup_i, e_ix_v, e_ix_t, e_ix_q, e_ix_i, e_sl_v, e_sl_t, e_sl_q, e_sl_i, e_call_v, e_call_t, e_call_q, e_call_i, e_bi_v, e_bi_t, e_bi_q, e_bi_i, e_bq_v, e_bq_t, e_bq_q, e_bq_i, e_meth_v, e_meth_t, e_meth_q, e_meth_i, e_lst_v, e_lst_q, e_lst_i, e_bl1_v, e_bl1_q, e_bl1_i, e_comp_v, e_comp_q, e_comp_i, e_sub_v, e_fdiv_v, e_mod_v, e_pow_v, e_add_v, e_mul_v, e_add_q, e_mul_q, e_add_i, e_mul_i, e_not_v, e_not_t, e_and_v, e_and_t, e_or_v, e_or_t, e_cmp_v, e_cmp_t, e_rng_i, e_enum_i, e_zip_i, e_nil_a, e_cons_a, e_var_g, e_ix_g, e_tup_g, e_nil_gs, e_cons_gs, o_add, o_sub, o_add2, o_addt, o_mul, o_fdiv, o_mod, o_pow, o_aug, o_neg, m_eq, m_ne, m_lt, m_le, m_gt, m_ge, m_eqs, m_is, m_isnot, n_non, n_ref, n_int, n_tup, b_abs, b_int, b_len, b_max, b_min, l_list, r_1, r_2, t_bl, t_int, t_non, q_tup, q_rol, a_bl, d_none, d_some, d_int, u_all, u_if, g_nil, g_cons, isL_nil, isL_var, isL_int, isL_bl, isL_non, isL_str, isL_glob, isL_neg, isL_not, isL_and, isL_or, isL_ife, isL_cmp, isL_tup, isL_ix, isL_sl, isL_call, isL_bi, isL_bq, isL_meth, isL_rev, isL_step2, isL_lst, isL_bl1, isL_comp, isL_add, isL_mul, isL_sub, isL_fdiv, isL_mod, isL_pow, reduceIte, Bool.or_self, Bool.false_eq_true, isNonE, isNil, lenE, wipeM, Bool.or_true, Bool.true_or, Bool.or_false, List.getElem?_cons_succ, List.getElem?_cons_zero, List.set_cons_succ, List.set_cons_zero, List.length_cons, List.length_nil, List.length_map, rngL_length]
  refine ⟨fun i σ h' => ∃ s x, σ = [some (.rol (ns.map M.int)), some (.int s), x] ∧ h' = h ∧ 0 ≤ s ∧ s < 2147483647, ?_, ?_, ?_, ?_⟩
  · exact ⟨7, none, rfl, rfl, by omega, by omega⟩
  · intro i σ h' _ _; trivial
  · rintro i m σ h' em ⟨s, x, rfl, rfl, s0, s1⟩
    obtain ⟨n, en, rfl⟩ := intmap_get em
    simp only [e_var_v, e_var_t, e_var_q, e_var_i, e_int_v, e_int_t, e_int_q, e_int_i, e_bl_v, e_bl_t, e_bl_q, e_bl_i, e_non_v, e_non_t, e_non_q, e_non_i, e_str_v, e_str_t, e_str_q, e_str_i, e_glob_v, e_glob_t, e_glob_q, e_glob_i, e_neg_v, e_neg_t, e_neg_q, e_neg_i, e_ife_v, e_ife_t, e_ife_q, e_ife_i, e_tup_v, e_tup_t, e_tup_q, e_tup_i, e_ix_v, e_ix_t, e_ix_q, e_ix_i, e_sl_v, e_sl_t, e_sl_q, e_sl_i, e_call_v, e_call_t, e_call_q, e_call_i, e_bi_v, e_bi_t, e_bi_q, e_bi_i, e_bq_v, e_bq_t, e_bq_q, e_bq_i, e_meth_v, e_meth_t, e_meth_q, e_meth_i, e_lst_v, e_lst_q, e_lst_i, e_bl1_v, e_bl1_q, e_bl1_i, e_comp_v, e_comp_q, e_comp_i, e_sub_v, e_fdiv_v, e_mod_v, e_pow_v, e_add_v, e_mul_v, e_add_q, e_mul_q, e_add_i, e_mul_i, e_not_v, e_not_t, e_and_v, e_and_t, e_or_v, e_or_t, e_cmp_v, e_cmp_t, e_rng_i, e_enum_i, e_zip_i, e_nil_a, e_cons_a, e_var_g, e_ix_g, e_tup_g, e_nil_gs, e_cons_gs, o_add, o_sub, o_add2, o_addt, o_mul, o_fdiv, o_mod, o_pow, o_aug, o_neg, m_eq, m_ne, m_lt, m_le, m_gt, m_ge, m_eqs, m_is, m_isnot, n_non, n_ref, n_int, n_tup, b_abs, b_int, b_len, b_max, b_min, l_list, r_1, r_2, t_bl, t_int, t_non, q_tup, q_rol, a_bl, d_none, d_some, d_int, u_all, u_if, g_nil, g_cons, isL_nil, isL_var, isL_int, isL_bl, isL_non, isL_str, isL_glob, isL_neg, isL_not, isL_and, isL_or, isL_ife, isL_cmp, isL_tup, isL_ix, isL_sl, isL_call, isL_bi, isL_bq, isL_meth, isL_rev, isL_step2, isL_lst, isL_bl1, isL_comp, isL_add, isL_mul, isL_sub, isL_fdiv, isL_mod, isL_pow, reduceIte, Bool.or_self, Bool.false_eq_true, isNonE, isNil, lenE, wipeM, Bool.or_true, Bool.true_or, Bool.or_false, List.getElem?_cons_succ, List.getElem?_cons_zero, List.set_cons_succ, List.set_cons_zero, List.length_cons, List.length_nil, List.length_map, rngL_length]
    refine st_asg1 ?_
    simp only [e_var_v, e_var_t, e_var_q, e_var_i, e_int_v, e_int_t, e_int_q, e_int_i, e_bl_v, e_bl_t, e_bl_q, e_bl_i, e_non_v, e_non_t, e_non_q, e_non_i, e_str_v, e_str_t, e_str_q, e_str_i, e_glob_v, e_glob_t, e_glob_q, e_glob_i, e_neg_v, e_neg_t, e_neg_q, e_neg_i, e_ife_v, e_ife_t, e_ife_q, e_ife_i, e_tup_v, e_tup_t, e_tup_q, e_tup_i, e_ix_v, e_ix_t, e_ix_q, e_ix_i, e_sl_v, e_sl_t, e_sl_q, e_sl_i, e_call_v, e_call_t, e_call_q, e_call_i, e_bi_v, e_bi_t, e_bi_q, e_bi_i, e_bq_v, e_bq_t, e_bq_q, e_bq_i, e_meth_v, e_meth_t, e_meth_q, e_meth_i, e_lst_v, e_lst_q, e_lst_i, e_bl1_v, e_bl1_q, e_bl1_i, e_comp_v, e_comp_q, e_comp_i, e_sub_v, e_fdiv_v, e_mod_v, e_pow_v, e_add_v, e_mul_v, e_add_q, e_mul_q, e_add_i, e_mul_i, e_not_v, e_not_t, e_and_v, e_and_t, e_or_v, e_or_t, e_cmp_v, e_cmp_t, e_rng_i, e_enum_i, e_zip_i, e_nil_a, e_cons_a, e_var_g, e_ix_g, e_tup_g, e_nil_gs, e_cons_gs, o_add, o_sub, o_add2, o_addt, o_mul, o_fdiv, o_mod, o_pow, o_aug, o_neg, m_eq, m_ne, m_lt, m_le, m_gt, m_ge, m_eqs, m_is, m_isnot, n_non, n_ref, n_int, n_tup, b_abs, b_int, b_len, b_max, b_min, l_list, r_1, r_2, t_bl, t_int, t_non, q_tup, q_rol, a_bl, d_none, d_some, d_int, u_all, u_if, g_nil, g_cons, isL_nil, isL_var, isL_int, isL_bl, isL_non, isL_str, isL_glob, isL_neg, isL_not, isL_and, isL_or, isL_ife, isL_cmp, isL_tup, isL_ix, isL_sl, isL_call, isL_bi, isL_bq, isL_meth, isL_rev, isL_step2, isL_lst, isL_bl1, isL_comp, isL_add, isL_mul, isL_sub, isL_fdiv, isL_mod, isL_pow, reduceIte, Bool.or_self, Bool.false_eq_true, isNonE, isNil, lenE, wipeM, Bool.or_true, Bool.true_or, Bool.or_false, List.getElem?_cons_succ, List.getElem?_cons_zero, List.set_cons_succ, List.set_cons_zero, List.length_cons, List.length_nil, List.length_map, rngL_length]
    refine ⟨mulOk (by omega) (by decide), by omega, _, Sub.refl _, _, _, rfl, rfl, Int.emod_nonneg _ (by omega), Int.emod_lt_of_pos _ (by omega)⟩
  · rintro σ h' ⟨s, x, rfl, rfl, s0, s1⟩
    refine st_ret ?_
    simp only [e_var_v, e_var_t, e_var_q, e_var_i, e_int_v, e_int_t, e_int_q, e_int_i, e_bl_v, e_bl_t, e_bl_q, e_bl_i, e_non_v, e_non_t, e_non_q, e_non_i, e_str_v, e_str_t, e_str_q, e_str_i, e_glob_v, e_glob_t, e_glob_q, e_glob_i, e_neg_v, e_neg_t, e_neg_q, e_neg_i, e_ife_v, e_ife_t, e_ife_q, e_ife_i, e_tup_v, e_tup_t, e_tup_q, e_tup_i, e_ix_v, e_ix_t, e_ix_q, e_ix_i, e_sl_v, e_sl_t, e_sl_q, e_sl_i, e_call_v, e_call_t, e_call_q, e_call_i, e_bi_v, e_bi_t, e_bi_q, e_bi_i, e_bq_v, e_bq_t, e_bq_q, e_bq_i, e_meth_v, e_meth_t, e_meth_q, e_meth_i, e_lst_v, e_lst_q, e_lst_i, e_bl1_v, e_bl1_q, e_bl1_i, e_comp_v, e_comp_q, e_comp_i, e_sub_v, e_fdiv_v, e_mod_v, e_pow_v, e_add_v, e_mul_v, e_add_q, e_mul_q, e_add_i, e_mul_i, e_not_v, e_not_t, e_and_v, e_and_t, e_or_v, e_or_t, e_cmp_v, e_cmp_t, e_rng_i, e_enum_i, e_zip_i, e_nil_a, e_cons_a, e_var_g, e_ix_g, e_tup_g, e_nil_gs, e_cons_gs, o_add, o_sub, o_add2, o_addt, o_mul, o_fdiv, o_mod, o_pow, o_aug, o_neg, m_eq, m_ne, m_lt, m_le, m_gt, m_ge, m_eqs, m_is, m_isnot, n_non, n_ref, n_int, n_tup, b_abs, b_int, b_len, b_max, b_min, l_list, r_1, r_2, t_bl, t_int, t_non, q_tup, q_rol, a_bl, d_none, d_some, d_int, u_all, u_if, g_nil, g_cons, isL_nil, isL_var, isL_int, isL_bl, isL_non, isL_str, isL_glob, isL_neg, isL_not, isL_and, isL_or, isL_ife, isL_cmp, isL_tup, isL_ix, isL_sl, isL_call, isL_bi, isL_bq, isL_meth, isL_rev, isL_step2, isL_lst, isL_bl1, isL_comp, isL_add, isL_mul, isL_sub, isL_fdiv, isL_mod, isL_pow, reduceIte, Bool.or_self, Bool.false_eq_true, isNonE, isNil, lenE, wipeM, Bool.or_true, Bool.true_or, Bool.or_false, List.getElem?_cons_succ, List.getElem?_cons_zero, List.set_cons_succ, List.set_cons_zero, List.length_cons, List.length_nil, List.length_map, rngL_length]
    refine ⟨trivial, trivial, fun b nb => ⟨by omega, trivial, fun a na => ?_⟩⟩
    have nab : a ≠ b := fun e => by rw [e, put_same] at na; cases na
    have na' : h' a = none := (Sub.put nb).none na
    refine ⟨_, Sub.refl _, post a b _ ((Sub.put nb).trans (Sub.put na)) na' nb ⟨0, 0, s, 0, put_same, ?_, by omega, by omega, s0, s1, by omega, by omega⟩⟩
    rw [put_ne nab.symm, put_same]
def spDraw : SpM := fun ms h Q _ => ∃ (a b : Nat) (ns : List Int) (n : Nat) (k : Int), ms = [.ref a, .int k] ∧ 1 ≤ k ∧ k < 4611686018427387904 ∧ n < 4611686018427387904 ∧ ns.length ≤ 63 ∧ Deck h a b ns n ∧
  ∀ v h', 0 ≤ v → v < k → Deck h' a b ns (n + 1) → (∀ c, c ≠ a → h' c = h c) → Q (.int v) h'
/-- the end of a drawing -/
theorem draw_end (Φ : Phi) (hΦ : Φ.Mono) {D : DM} {a b : Nat} {ns : List Int} {n : Nat} {k : Int} {x3 : Option M} {h : MH} (k1 : 1 ≤ k) (k2 : k < 4611686018427387904) {d0 d1 s d4 : Int} (h1 : h a = some (.lst (deckL d0 d1 s b d4))) (h2 : h b = some (LI ns))
    (z0 : 0 ≤ d0) (z1 : 0 ≤ d1) (z2 : 0 ≤ s) (z3 : s < 2147483647) (z4 : 0 ≤ d4) (z5 : d4 ≤ n) (post : ∀ v h', 0 ≤ v → v < k → Deck h' a b ns n → (∀ c, c ≠ a → h' c = h c) → D.rt (.int v) h') :
    wS Φ W0 (.seq (.asg (.var 2) (.op .mod (.bi .int (.cons (.ix (.var 0) (.int 0)) .nil)) (.var 1))) (.seq (.asg (.ix (.var 0) (.int 0)) (.op .fdiv (.ix (.var 0) (.int 0)) (.var 1))) (.ret (.var 2)))) D [some (.ref a), some (.int k), none, x3] h := by
  have nba : b ≠ a := deck_ne h1 h2
  refine st_asg hΦ ?_
  simp only [e_var_v, e_var_t, e_var_q, e_var_i, e_int_v, e_int_t, e_int_q, e_int_i, e_bl_v, e_bl_t, e_bl_q, e_bl_i, e_non_v, e_non_t, e_non_q, e_non_i, e_str_v, e_str_t, e_str_q, e_str_i, e_glob_v, e_glob_t, e_glob_q, e_glob_i, e_neg_v, e_neg_t, e_neg_q, e_neg_i, e_ife_v, e_ife_t, e_ife_q, e_ife_i, e_tup_v, e_tup_t, e_tup_q, e_tup_i, e_ix_v, e_ix_t, e_ix_q, e_ix_i, e_sl_v, e_sl_t, e_sl_q, e_sl_i, e_call_v, e_call_t, e_call_q, e_call_i, e_bi_v, e_bi_t, e_bi_q, e_bi_i, e_bq_v, e_bq_t, e_bq_q, e_bq_i, e_meth_v, e_meth_t, e_meth_q, e_meth_i, e_lst_v, e_lst_q, e_lst_i, e_bl1_v, e_bl1_q, e_bl1_i, e_comp_v, e_comp_q, e_comp_i, e_sub_v, e_fdiv_v, e_mod_v, e_pow_v, e_add_v, e_mul_v, e_add_q, e_mul_q, e_add_i, e_mul_i, e_not_v, e_not_t, e_and_v, e_and_t, e_or_v, e_or_t, e_cmp_v, e_cmp_t, e_rng_i, e_enum_i, e_zip_i, e_nil_a, e_cons_a, e_var_g, e_ix_g, e_tup_g, e_nil_gs, e_cons_gs, o_add, o_sub, o_add2, o_addt, o_mul, o_fdiv, o_mod, o_pow, o_aug, o_neg, m_eq, m_ne, m_lt, m_le, m_gt, m_ge, m_eqs, m_is, m_isnot, n_non, n_ref, n_int, n_tup, b_abs, b_int, b_len, b_max, b_min, l_list, r_1, r_2, t_bl, t_int, t_non, q_tup, q_rol, a_bl, d_none, d_some, d_int, u_all, u_if, g_nil, g_cons, isL_nil, isL_var, isL_int, isL_bl, isL_non, isL_str, isL_glob, isL_neg, isL_not, isL_and, isL_or, isL_ife, isL_cmp, isL_tup, isL_ix, isL_sl, isL_call, isL_bi, isL_bq, isL_meth, isL_rev, isL_step2, isL_lst, isL_bl1, isL_comp, isL_add, isL_mul, isL_sub, isL_fdiv, isL_mod, isL_pow, reduceIte, Bool.or_self, Bool.false_eq_true, isNonE, isNil, lenE, wipeM, Bool.or_true, Bool.true_or, Bool.or_false, List.getElem?_cons_succ, List.getElem?_cons_zero, List.set_cons_succ, List.set_cons_zero, List.length_cons, List.length_nil, List.length_map, rngL_length]
  refine ix_ref h1 (v := .int d0) rfl ?_
  simp only [e_var_v, e_var_t, e_var_q, e_var_i, e_int_v, e_int_t, e_int_q, e_int_i, e_bl_v, e_bl_t, e_bl_q, e_bl_i, e_non_v, e_non_t, e_non_q, e_non_i, e_str_v, e_str_t, e_str_q, e_str_i, e_glob_v, e_glob_t, e_glob_q, e_glob_i, e_neg_v, e_neg_t, e_neg_q, e_neg_i, e_ife_v, e_ife_t, e_ife_q, e_ife_i, e_tup_v, e_tup_t, e_tup_q, e_tup_i, e_ix_v, e_ix_t, e_ix_q, e_ix_i, e_sl_v, e_sl_t, e_sl_q, e_sl_i, e_call_v, e_call_t, e_call_q, e_call_i, e_bi_v, e_bi_t, e_bi_q, e_bi_i, e_bq_v, e_bq_t, e_bq_q, e_bq_i, e_meth_v, e_meth_t, e_meth_q, e_meth_i, e_lst_v, e_lst_q, e_lst_i, e_bl1_v, e_bl1_q, e_bl1_i, e_comp_v, e_comp_q, e_comp_i, e_sub_v, e_fdiv_v, e_mod_v, e_pow_v, e_add_v, e_mul_v, e_add_q, e_mul_q, e_add_i, e_mul_i, e_not_v, e_not_t, e_and_v, e_and_t, e_or_v, e_or_t, e_cmp_v, e_cmp_t, e_rng_i, e_enum_i, e_zip_i, e_nil_a, e_cons_a, e_var_g, e_ix_g, e_tup_g, e_nil_gs, e_cons_gs, o_add, o_sub, o_add2, o_addt, o_mul, o_fdiv, o_mod, o_pow, o_aug, o_neg, m_eq, m_ne, m_lt, m_le, m_gt, m_ge, m_eqs, m_is, m_isnot, n_non, n_ref, n_int, n_tup, b_abs, b_int, b_len, b_max, b_min, l_list, r_1, r_2, t_bl, t_int, t_non, q_tup, q_rol, a_bl, d_none, d_some, d_int, u_all, u_if, g_nil, g_cons, isL_nil, isL_var, isL_int, isL_bl, isL_non, isL_str, isL_glob, isL_neg, isL_not, isL_and, isL_or, isL_ife, isL_cmp, isL_tup, isL_ix, isL_sl, isL_call, isL_bi, isL_bq, isL_meth, isL_rev, isL_step2, isL_lst, isL_bl1, isL_comp, isL_add, isL_mul, isL_sub, isL_fdiv, isL_mod, isL_pow, reduceIte, Bool.or_self, Bool.false_eq_true, isNonE, isNil, lenE, wipeM, Bool.or_true, Bool.true_or, Bool.or_false, List.getElem?_cons_succ, List.getElem?_cons_zero, List.set_cons_succ, List.set_cons_zero, List.length_cons, List.length_nil, List.length_map, rngL_length]
  refine ⟨by omega, ?_⟩
  refine st_asg hΦ ?_
  simp only [e_var_v, e_var_t, e_var_q, e_var_i, e_int_v, e_int_t, e_int_q, e_int_i, e_bl_v, e_bl_t, e_bl_q, e_bl_i, e_non_v, e_non_t, e_non_q, e_non_i, e_str_v, e_str_t, e_str_q, e_str_i, e_glob_v, e_glob_t, e_glob_q, e_glob_i, e_neg_v, e_neg_t, e_neg_q, e_neg_i, e_ife_v, e_ife_t, e_ife_q, e_ife_i, e_tup_v, e_tup_t, e_tup_q, e_tup_i, e_ix_v, e_ix_t, e_ix_q, e_ix_i, e_sl_v, e_sl_t, e_sl_q, e_sl_i, e_call_v, e_call_t, e_call_q, e_call_i, e_bi_v, e_bi_t, e_bi_q, e_bi_i, e_bq_v, e_bq_t, e_bq_q, e_bq_i, e_meth_v, e_meth_t, e_meth_q, e_meth_i, e_lst_v, e_lst_q, e_lst_i, e_bl1_v, e_bl1_q, e_bl1_i, e_comp_v, e_comp_q, e_comp_i, e_sub_v, e_fdiv_v, e_mod_v, e_pow_v, e_add_v, e_mul_v, e_add_q, e_mul_q, e_add_i, e_mul_i, e_not_v, e_not_t, e_and_v, e_and_t, e_or_v, e_or_t, e_cmp_v, e_cmp_t, e_rng_i, e_enum_i, e_zip_i, e_nil_a, e_cons_a, e_var_g, e_ix_g, e_tup_g, e_nil_gs, e_cons_gs, o_add, o_sub, o_add2, o_addt, o_mul, o_fdiv, o_mod, o_pow, o_aug, o_neg, m_eq, m_ne, m_lt, m_le, m_gt, m_ge, m_eqs, m_is, m_isnot, n_non, n_ref, n_int, n_tup, b_abs, b_int, b_len, b_max, b_min, l_list, r_1, r_2, t_bl, t_int, t_non, q_tup, q_rol, a_bl, d_none, d_some, d_int, u_all, u_if, g_nil, g_cons, isL_nil, isL_var, isL_int, isL_bl, isL_non, isL_str, isL_glob, isL_neg, isL_not, isL_and, isL_or, isL_ife, isL_cmp, isL_tup, isL_ix, isL_sl, isL_call, isL_bi, isL_bq, isL_meth, isL_rev, isL_step2, isL_lst, isL_bl1, isL_comp, isL_add, isL_mul, isL_sub, isL_fdiv, isL_mod, isL_pow, reduceIte, Bool.or_self, Bool.false_eq_true, isNonE, isNil, lenE, wipeM, Bool.or_true, Bool.true_or, Bool.or_false, List.getElem?_cons_succ, List.getElem?_cons_zero, List.set_cons_succ, List.set_cons_zero, List.length_cons, List.length_nil, List.length_map, rngL_length]
  refine ix_ref h1 (v := .int d0) rfl ?_
  simp only [e_var_v, e_var_t, e_var_q, e_var_i, e_int_v, e_int_t, e_int_q, e_int_i, e_bl_v, e_bl_t, e_bl_q, e_bl_i, e_non_v, e_non_t, e_non_q, e_non_i, e_str_v, e_str_t, e_str_q, e_str_i, e_glob_v, e_glob_t, e_glob_q, e_glob_i, e_neg_v, e_neg_t, e_neg_q, e_neg_i, e_ife_v, e_ife_t, e_ife_q, e_ife_i, e_tup_v, e_tup_t, e_tup_q, e_tup_i, e_ix_v, e_ix_t, e_ix_q, e_ix_i, e_sl_v, e_sl_t, e_sl_q, e_sl_i, e_call_v, e_call_t, e_call_q, e_call_i, e_bi_v, e_bi_t, e_bi_q, e_bi_i, e_bq_v, e_bq_t, e_bq_q, e_bq_i, e_meth_v, e_meth_t, e_meth_q, e_meth_i, e_lst_v, e_lst_q, e_lst_i, e_bl1_v, e_bl1_q, e_bl1_i, e_comp_v, e_comp_q, e_comp_i, e_sub_v, e_fdiv_v, e_mod_v, e_pow_v, e_add_v, e_mul_v, e_add_q, e_mul_q, e_add_i, e_mul_i, e_not_v, e_not_t, e_and_v, e_and_t, e_or_v, e_or_t, e_cmp_v, e_cmp_t, e_rng_i, e_enum_i, e_zip_i, e_nil_a, e_cons_a, e_var_g, e_ix_g, e_tup_g, e_nil_gs, e_cons_gs, o_add, o_sub, o_add2, o_addt, o_mul, o_fdiv, o_mod, o_pow, o_aug, o_neg, m_eq, m_ne, m_lt, m_le, m_gt, m_ge, m_eqs, m_is, m_isnot, n_non, n_ref, n_int, n_tup, b_abs, b_int, b_len, b_max, b_min, l_list, r_1, r_2, t_bl, t_int, t_non, q_tup, q_rol, a_bl, d_none, d_some, d_int, u_all, u_if, g_nil, g_cons, isL_nil, isL_var, isL_int, isL_bl, isL_non, isL_str, isL_glob, isL_neg, isL_not, isL_and, isL_or, isL_ife, isL_cmp, isL_tup, isL_ix, isL_sl, isL_call, isL_bi, isL_bq, isL_meth, isL_rev, isL_step2, isL_lst, isL_bl1, isL_comp, isL_add, isL_mul, isL_sub, isL_fdiv, isL_mod, isL_pow, reduceIte, Bool.or_self, Bool.false_eq_true, isNonE, isNil, lenE, wipeM, Bool.or_true, Bool.true_or, Bool.or_false, List.getElem?_cons_succ, List.getElem?_cons_zero, List.set_cons_succ, List.set_cons_zero, List.length_cons, List.length_nil, List.length_map, rngL_length]
  refine ⟨divOk (by omega) (by omega), ?_⟩
  refine set_ref (j := 0) h1 rfl ?_
  refine st_ret ?_
  simp only [e_var_v, e_var_t, e_var_q, e_var_i, e_int_v, e_int_t, e_int_q, e_int_i, e_bl_v, e_bl_t, e_bl_q, e_bl_i, e_non_v, e_non_t, e_non_q, e_non_i, e_str_v, e_str_t, e_str_q, e_str_i, e_glob_v, e_glob_t, e_glob_q, e_glob_i, e_neg_v, e_neg_t, e_neg_q, e_neg_i, e_ife_v, e_ife_t, e_ife_q, e_ife_i, e_tup_v, e_tup_t, e_tup_q, e_tup_i, e_ix_v, e_ix_t, e_ix_q, e_ix_i, e_sl_v, e_sl_t, e_sl_q, e_sl_i, e_call_v, e_call_t, e_call_q, e_call_i, e_bi_v, e_bi_t, e_bi_q, e_bi_i, e_bq_v, e_bq_t, e_bq_q, e_bq_i, e_meth_v, e_meth_t, e_meth_q, e_meth_i, e_lst_v, e_lst_q, e_lst_i, e_bl1_v, e_bl1_q, e_bl1_i, e_comp_v, e_comp_q, e_comp_i, e_sub_v, e_fdiv_v, e_mod_v, e_pow_v, e_add_v, e_mul_v, e_add_q, e_mul_q, e_add_i, e_mul_i, e_not_v, e_not_t, e_and_v, e_and_t, e_or_v, e_or_t, e_cmp_v, e_cmp_t, e_rng_i, e_enum_i, e_zip_i, e_nil_a, e_cons_a, e_var_g, e_ix_g, e_tup_g, e_nil_gs, e_cons_gs, o_add, o_sub, o_add2, o_addt, o_mul, o_fdiv, o_mod, o_pow, o_aug, o_neg, m_eq, m_ne, m_lt, m_le, m_gt, m_ge, m_eqs, m_is, m_isnot, n_non, n_ref, n_int, n_tup, b_abs, b_int, b_len, b_max, b_min, l_list, r_1, r_2, t_bl, t_int, t_non, q_tup, q_rol, a_bl, d_none, d_some, d_int, u_all, u_if, g_nil, g_cons, isL_nil, isL_var, isL_int, isL_bl, isL_non, isL_str, isL_glob, isL_neg, isL_not, isL_and, isL_or, isL_ife, isL_cmp, isL_tup, isL_ix, isL_sl, isL_call, isL_bi, isL_bq, isL_meth, isL_rev, isL_step2, isL_lst, isL_bl1, isL_comp, isL_add, isL_mul, isL_sub, isL_fdiv, isL_mod, isL_pow, reduceIte, Bool.or_self, Bool.false_eq_true, isNonE, isNil, lenE, wipeM, Bool.or_true, Bool.true_or, Bool.or_false, List.getElem?_cons_succ, List.getElem?_cons_zero, List.set_cons_succ, List.set_cons_zero, List.length_cons, List.length_nil, List.length_map, rngL_length]
  refine post _ _ (Int.emod_nonneg _ (by omega)) (Int.emod_lt_of_pos _ (by omega)) ⟨d0 / k, d1, s, d4, put_same, (put_ne nba).trans h2, Int.ediv_nonneg z0 (by omega), z1, z2, z3, z4, z5⟩ fun c hc => put_ne hc
theorem keeps_draw (Φ : Phi) (hΦ : Φ.Mono) : Keeps Φ 4 t_law_draw spDraw := by
  intro ms h Q hsp
  obtain ⟨a, b, ns, n, k, rfl, k1, k2, n1, hlen, dk, post⟩ := hsp
  obtain ⟨d0, d1, s, d4, h1, h2, z0, z1, z2, z3, z4, z5⟩ := dk.ex
  have nba : b ≠ a := deck_ne h1 h2
  change wS Φ W0 _ _ [some (.ref a), some (.int k), none, none] h
  unfold t_law_draw
  have fin : ∀ {d0 d1 d4 : Int} {h' : MH} {x3 : Option M}, h' a = some (.lst (deckL d0 d1 s b d4)) → h' b = some (LI ns) → 0 ≤ d0 → 0 ≤ d1 → 0 ≤ d4 → d4 ≤ n + 1 → (∀ c, c ≠ a → h' c = h c) →
      wS Φ W0 (.seq (.asg (.var 2) (.op .mod (.bi .int (.cons (.ix (.var 0) (.int 0)) .nil)) (.var 1))) (.seq (.asg (.ix (.var 0) (.int 0)) (.op .fdiv (.ix (.var 0) (.int 0)) (.var 1))) (.ret (.var 2)))) { nx := fun x h1 => ∃ h0, Sub h0 h1 ∧ Q .non h0, rt := fun m h1 => ∃ h0, Sub h0 h1 ∧ Q m h0 } [some (.ref a), some (.int k), none, x3] h' :=
    fun e1 e2 y0 y1 y4 y5 fr => draw_end Φ hΦ (n := n + 1) k1 k2 e1 e2 y0 y1 z2 z3 y4 (by omega) fun v h'' v0 v1 dk' fr' => ⟨h'', Sub.refl _, post v h'' v0 v1 dk' fun c hc => (fr' c hc).trans (fr c hc)⟩
  refine st_iff hΦ ?_
  simp only [e_var_v, e_var_t, e_var_q, e_var_i, e_int_v, e_int_t, e_int_q, e_int_i, e_bl_v, e_bl_t, e_bl_q, e_bl_i, e_non_v, e_non_t, e_non_q, e_non_i, e_str_v, e_str_t, e_str_q, e_str_i, e_glob_v, e_glob_t, e_glob_q, e_glob_i, e_neg_v, e_neg_t, e_neg_q, e_neg_i, e_ife_v, e_ife_t, e_ife_q, e_ife_i, e_tup_v, e_tup_t, e_tup_q, e_tup_i, e_ix_v, e_ix_t, e_ix_q, e_ix_i, e_sl_v, e_sl_t, e_sl_q, e_sl_i, e_call_v, e_call_t, e_call_q, e_call_i, e_bi_v, e_bi_t, e_bi_q, e_bi_i, e_bq_v, e_bq_t, e_bq_q, e_bq_i, e_meth_v, e_meth_t, e_meth_q, e_meth_i, e_lst_v, e_lst_q, e_lst_i, e_bl1_v, e_bl1_q, e_bl1_i, e_comp_v, e_comp_q, e_comp_i, e_sub_v, e_fdiv_v, e_mod_v, e_pow_v, e_add_v, e_mul_v, e_add_q, e_mul_q, e_add_i, e_mul_i, e_not_v, e_not_t, e_and_v, e_and_t, e_or_v, e_or_t, e_cmp_v, e_cmp_t, e_rng_i, e_enum_i, e_zip_i, e_nil_a, e_cons_a, e_var_g, e_ix_g, e_tup_g, e_nil_gs, e_cons_gs, o_add, o_sub, o_add2, o_addt, o_mul, o_fdiv, o_mod, o_pow, o_aug, o_neg, m_eq, m_ne, m_lt, m_le, m_gt, m_ge, m_eqs, m_is, m_isnot, n_non, n_ref, n_int, n_tup, b_abs, b_int, b_len, b_max, b_min, l_list, r_1, r_2, t_bl, t_int, t_non, q_tup, q_rol, a_bl, d_none, d_some, d_int, u_all, u_if, g_nil, g_cons, isL_nil, isL_var, isL_int, isL_bl, isL_non, isL_str, isL_glob, isL_neg, isL_not, isL_and, isL_or, isL_ife, isL_cmp, isL_tup, isL_ix, isL_sl, isL_call, isL_bi, isL_bq, isL_meth, isL_rev, isL_step2, isL_lst, isL_bl1, isL_comp, isL_add, isL_mul, isL_sub, isL_fdiv, isL_mod, isL_pow, reduceIte, Bool.or_self, Bool.false_eq_true, isNonE, isNil, lenE, wipeM, Bool.or_true, Bool.true_or, Bool.or_false, List.getElem?_cons_succ, List.getElem?_cons_zero, List.set_cons_succ, List.set_cons_zero, List.length_cons, List.length_nil, List.length_map, rngL_length]
  refine ix_ref h1 (v := .int d0) rfl ?_
  simp only [e_var_v, e_var_t, e_var_q, e_var_i, e_int_v, e_int_t, e_int_q, e_int_i, e_bl_v, e_bl_t, e_bl_q, e_bl_i, e_non_v, e_non_t, e_non_q, e_non_i, e_str_v, e_str_t, e_str_q, e_str_i, e_glob_v, e_glob_t, e_glob_q, e_glob_i, e_neg_v, e_neg_t, e_neg_q, e_neg_i, e_ife_v, e_ife_t, e_ife_q, e_ife_i, e_tup_v, e_tup_t, e_tup_q, e_tup_i, e_ix_v, e_ix_t, e_ix_q, e_ix_i, e_sl_v, e_sl_t, e_sl_q, e_sl_i, e_call_v, e_call_t, e_call_q, e_call_i, e_bi_v, e_bi_t, e_bi_q, e_bi_i, e_bq_v, e_bq_t, e_bq_q, e_bq_i, e_meth_v, e_meth_t, e_meth_q, e_meth_i, e_lst_v, e_lst_q, e_lst_i, e_bl1_v, e_bl1_q, e_bl1_i, e_comp_v, e_comp_q, e_comp_i, e_sub_v, e_fdiv_v, e_mod_v, e_pow_v, e_add_v, e_mul_v, e_add_q, e_mul_q, e_add_i, e_mul_i, e_not_v, e_not_t, e_and_v, e_and_t, e_or_v, e_or_t, e_cmp_v, e_cmp_t, e_rng_i, e_enum_i, e_zip_i, e_nil_a, e_cons_a, e_var_g, e_ix_g, e_tup_g, e_nil_gs, e_cons_gs, o_add, o_sub, o_add2, o_addt, o_mul, o_fdiv, o_mod, o_pow, o_aug, o_neg, m_eq, m_ne, m_lt, m_le, m_gt, m_ge, m_eqs, m_is, m_isnot, n_non, n_ref, n_int, n_tup, b_abs, b_int, b_len, b_max, b_min, l_list, r_1, r_2, t_bl, t_int, t_non, q_tup, q_rol, a_bl, d_none, d_some, d_int, u_all, u_if, g_nil, g_cons, isL_nil, isL_var, isL_int, isL_bl, isL_non, isL_str, isL_glob, isL_neg, isL_not, isL_and, isL_or, isL_ife, isL_cmp, isL_tup, isL_ix, isL_sl, isL_call, isL_bi, isL_bq, isL_meth, isL_rev, isL_step2, isL_lst, isL_bl1, isL_comp, isL_add, isL_mul, isL_sub, isL_fdiv, isL_mod, isL_pow, reduceIte, Bool.or_self, Bool.false_eq_true, isNonE, isNil, lenE, wipeM, Bool.or_true, Bool.true_or, Bool.or_false, List.getElem?_cons_succ, List.getElem?_cons_zero, List.set_cons_succ, List.set_cons_zero, List.length_cons, List.length_nil, List.length_map, rngL_length]
  -- when a new number is made
  have made : d0 = 0 → wS Φ W0 (.iff (.cmp .eq (.ix (.var 0) (.int 0)) (.int 0)) (.seq (.asg (.ix (.var 0) (.int 4)) (.op .add (.ix (.var 0) (.int 4)) (.int 1))) (.seq (.asg (.var 3) (.op .mod (.bi .int (.cons (.op .add (.op .add (.op .mul (.ix (.var 0) (.int 2)) (.int 48271)) (.op .mul (.ix (.var 0) (.int 4)) (.int 69621))) (.int 12345)) .nil)) (.int 2147483647))) (.seq (.asg (.var 3) (.op .mod (.bi .int (.cons (.op .add (.op .add (.op .mul (.var 3) (.var 3)) (.op .mul (.int 16807) (.ix (.var 0) (.int 4)))) (.int 7)) .nil)) (.int 998244353))) (.seq (.asg (.var 3) (.op .mod (.bi .int (.cons (.op .add (.op .add (.op .mul (.var 3) (.var 3)) (.op .mul (.int 48271) (.ix (.var 0) (.int 4)))) (.ix (.var 0) (.int 2))) .nil)) (.int 2147483629))) (.asg (.ix (.var 0) (.int 0)) (.op .fdiv (.var 3) (.int 13))))))) .skip)
      { nx := fun σ1 h1 => ∃ x3, σ1 = [some (.ref a), some (.int k), none, x3] ∧ ∃ d0 d1 d4, h1 a = some (.lst (deckL d0 d1 s b d4)) ∧ h1 b = some (LI ns) ∧ 0 ≤ d0 ∧ 0 ≤ d1 ∧ 0 ≤ d4 ∧ d4 ≤ n + 1 ∧ ∀ c, c ≠ a → h1 c = h c, rt := fun _ _ => False, bk := fun _ _ => False, ct := fun _ _ => False } [some (.ref a), some (.int k), none, none] h := by
    rintro rfl
    refine st_if1 ?_
    simp only [e_var_v, e_var_t, e_var_q, e_var_i, e_int_v, e_int_t, e_int_q, e_int_i, e_bl_v, e_bl_t, e_bl_q, e_bl_i, e_non_v, e_non_t, e_non_q, e_non_i, e_str_v, e_str_t, e_str_q, e_str_i, e_glob_v, e_glob_t, e_glob_q, e_glob_i, e_neg_v, e_neg_t, e_neg_q, e_neg_i, e_ife_v, e_ife_t, e_ife_q, e_ife_i, e_tup_v, e_tup_t, e_tup_q, e_tup_i, e_ix_v, e_ix_t, e_ix_q, e_ix_i, e_sl_v, e_sl_t, e_sl_q, e_sl_i, e_call_v, e_call_t, e_call_q, e_call_i, e_bi_v, e_bi_t, e_bi_q, e_bi_i, e_bq_v, e_bq_t, e_bq_q, e_bq_i, e_meth_v, e_meth_t, e_meth_q, e_meth_i, e_lst_v, e_lst_q, e_lst_i, e_bl1_v, e_bl1_q, e_bl1_i, e_comp_v, e_comp_q, e_comp_i, e_sub_v, e_fdiv_v, e_mod_v, e_pow_v, e_add_v, e_mul_v, e_add_q, e_mul_q, e_add_i, e_mul_i, e_not_v, e_not_t, e_and_v, e_and_t, e_or_v, e_or_t, e_cmp_v, e_cmp_t, e_rng_i, e_enum_i, e_zip_i, e_nil_a, e_cons_a, e_var_g, e_ix_g, e_tup_g, e_nil_gs, e_cons_gs, o_add, o_sub, o_add2, o_addt, o_mul, o_fdiv, o_mod, o_pow, o_aug, o_neg, m_eq, m_ne, m_lt, m_le, m_gt, m_ge, m_eqs, m_is, m_isnot, n_non, n_ref, n_int, n_tup, b_abs, b_int, b_len, b_max, b_min, l_list, r_1, r_2, t_bl, t_int, t_non, q_tup, q_rol, a_bl, d_none, d_some, d_int, u_all, u_if, g_nil, g_cons, isL_nil, isL_var, isL_int, isL_bl, isL_non, isL_str, isL_glob, isL_neg, isL_not, isL_and, isL_or, isL_ife, isL_cmp, isL_tup, isL_ix, isL_sl, isL_call, isL_bi, isL_bq, isL_meth, isL_rev, isL_step2, isL_lst, isL_bl1, isL_comp, isL_add, isL_mul, isL_sub, isL_fdiv, isL_mod, isL_pow, reduceIte, Bool.or_self, Bool.false_eq_true, isNonE, isNil, lenE, wipeM, Bool.or_true, Bool.true_or, Bool.or_false, List.getElem?_cons_succ, List.getElem?_cons_zero, List.set_cons_succ, List.set_cons_zero, List.length_cons, List.length_nil, List.length_map, rngL_length]
    refine ix_ref h1 (v := .int 0) rfl ?_
    simp only [e_var_v, e_var_t, e_var_q, e_var_i, e_int_v, e_int_t, e_int_q, e_int_i, e_bl_v, e_bl_t, e_bl_q, e_bl_i, e_non_v, e_non_t, e_non_q, e_non_i, e_str_v, e_str_t, e_str_q, e_str_i, e_glob_v, e_glob_t, e_glob_q, e_glob_i, e_neg_v, e_neg_t, e_neg_q, e_neg_i, e_ife_v, e_ife_t, e_ife_q, e_ife_i, e_tup_v, e_tup_t, e_tup_q, e_tup_i, e_ix_v, e_ix_t, e_ix_q, e_ix_i, e_sl_v, e_sl_t, e_sl_q, e_sl_i, e_call_v, e_call_t, e_call_q, e_call_i, e_bi_v, e_bi_t, e_bi_q, e_bi_i, e_bq_v, e_bq_t, e_bq_q, e_bq_i, e_meth_v, e_meth_t, e_meth_q, e_meth_i, e_lst_v, e_lst_q, e_lst_i, e_bl1_v, e_bl1_q, e_bl1_i, e_comp_v, e_comp_q, e_comp_i, e_sub_v, e_fdiv_v, e_mod_v, e_pow_v, e_add_v, e_mul_v, e_add_q, e_mul_q, e_add_i, e_mul_i, e_not_v, e_not_t, e_and_v, e_and_t, e_or_v, e_or_t, e_cmp_v, e_cmp_t, e_rng_i, e_enum_i, e_zip_i, e_nil_a, e_cons_a, e_var_g, e_ix_g, e_tup_g, e_nil_gs, e_cons_gs, o_add, o_sub, o_add2, o_addt, o_mul, o_fdiv, o_mod, o_pow, o_aug, o_neg, m_eq, m_ne, m_lt, m_le, m_gt, m_ge, m_eqs, m_is, m_isnot, n_non, n_ref, n_int, n_tup, b_abs, b_int, b_len, b_max, b_min, l_list, r_1, r_2, t_bl, t_int, t_non, q_tup, q_rol, a_bl, d_none, d_some, d_int, u_all, u_if, g_nil, g_cons, isL_nil, isL_var, isL_int, isL_bl, isL_non, isL_str, isL_glob, isL_neg, isL_not, isL_and, isL_or, isL_ife, isL_cmp, isL_tup, isL_ix, isL_sl, isL_call, isL_bi, isL_bq, isL_meth, isL_rev, isL_step2, isL_lst, isL_bl1, isL_comp, isL_add, isL_mul, isL_sub, isL_fdiv, isL_mod, isL_pow, reduceIte, Bool.or_self, Bool.false_eq_true, isNonE, isNil, lenE, wipeM, Bool.or_true, Bool.true_or, Bool.or_false, List.getElem?_cons_succ, List.getElem?_cons_zero, List.set_cons_succ, List.set_cons_zero, List.length_cons, List.length_nil, List.length_map, rngL_length]
    rw [if_pos (by decide)]
    refine st_asg hΦ ?_
    simp only [e_var_v, e_var_t, e_var_q, e_var_i, e_int_v, e_int_t, e_int_q, e_int_i, e_bl_v, e_bl_t, e_bl_q, e_bl_i, e_non_v, e_non_t, e_non_q, e_non_i, e_str_v, e_str_t, e_str_q, e_str_i, e_glob_v, e_glob_t, e_glob_q, e_glob_i, e_neg_v, e_neg_t, e_neg_q, e_neg_i, e_ife_v, e_ife_t, e_ife_q, e_ife_i, e_tup_v, e_tup_t, e_tup_q, e_tup_i, e_ix_v, e_ix_t, e_ix_q, e_ix_i, e_sl_v, e_sl_t, e_sl_q, e_sl_i, e_call_v, e_call_t, e_call_q, e_call_i, e_bi_v, e_bi_t, e_bi_q, e_bi_i, e_bq_v, e_bq_t, e_bq_q, e_bq_i, e_meth_v, e_meth_t, e_meth_q, e_meth_i, e_lst_v, e_lst_q, e_lst_i, e_bl1_v, e_bl1_q, e_bl1_i, e_comp_v, e_comp_q, e_comp_i, e_sub_v, e_fdiv_v, e_mod_v, e_pow_v, e_add_v, e_mul_v, e_add_q, e_mul_q, e_add_i, e_mul_i, e_not_v, e_not_t, e_and_v, e_and_t, e_or_v, e_or_t, e_cmp_v, e_cmp_t, e_rng_i, e_enum_i, e_zip_i, e_nil_a, e_cons_a, e_var_g, e_ix_g, e_tup_g, e_nil_gs, e_cons_gs, o_add, o_sub, o_add2, o_addt, o_mul, o_fdiv, o_mod, o_pow, o_aug, o_neg, m_eq, m_ne, m_lt, m_le, m_gt, m_ge, m_eqs, m_is, m_isnot, n_non, n_ref, n_int, n_tup, b_abs, b_int, b_len, b_max, b_min, l_list, r_1, r_2, t_bl, t_int, t_non, q_tup, q_rol, a_bl, d_none, d_some, d_int, u_all, u_if, g_nil, g_cons, isL_nil, isL_var, isL_int, isL_bl, isL_non, isL_str, isL_glob, isL_neg, isL_not, isL_and, isL_or, isL_ife, isL_cmp, isL_tup, isL_ix, isL_sl, isL_call, isL_bi, isL_bq, isL_meth, isL_rev, isL_step2, isL_lst, isL_bl1, isL_comp, isL_add, isL_mul, isL_sub, isL_fdiv, isL_mod, isL_pow, reduceIte, Bool.or_self, Bool.false_eq_true, isNonE, isNil, lenE, wipeM, Bool.or_true, Bool.true_or, Bool.or_false, List.getElem?_cons_succ, List.getElem?_cons_zero, List.set_cons_succ, List.set_cons_zero, List.length_cons, List.length_nil, List.length_map, rngL_length]
    refine ix_ref h1 (v := .int d4) rfl ?_
    simp only [e_var_v, e_var_t, e_var_q, e_var_i, e_int_v, e_int_t, e_int_q, e_int_i, e_bl_v, e_bl_t, e_bl_q, e_bl_i, e_non_v, e_non_t, e_non_q, e_non_i, e_str_v, e_str_t, e_str_q, e_str_i, e_glob_v, e_glob_t, e_glob_q, e_glob_i, e_neg_v, e_neg_t, e_neg_q, e_neg_i, e_ife_v, e_ife_t, e_ife_q, e_ife_i, e_tup_v, e_tup_t, e_tup_q, e_tup_i, e_ix_v, e_ix_t, e_ix_q, e_ix_i, e_sl_v, e_sl_t, e_sl_q, e_sl_i, e_call_v, e_call_t, e_call_q, e_call_i, e_bi_v, e_bi_t, e_bi_q, e_bi_i, e_bq_v, e_bq_t, e_bq_q, e_bq_i, e_meth_v, e_meth_t, e_meth_q, e_meth_i, e_lst_v, e_lst_q, e_lst_i, e_bl1_v, e_bl1_q, e_bl1_i, e_comp_v, e_comp_q, e_comp_i, e_sub_v, e_fdiv_v, e_mod_v, e_pow_v, e_add_v, e_mul_v, e_add_q, e_mul_q, e_add_i, e_mul_i, e_not_v, e_not_t, e_and_v, e_and_t, e_or_v, e_or_t, e_cmp_v, e_cmp_t, e_rng_i, e_enum_i, e_zip_i, e_nil_a, e_cons_a, e_var_g, e_ix_g, e_tup_g, e_nil_gs, e_cons_gs, o_add, o_sub, o_add2, o_addt, o_mul, o_fdiv, o_mod, o_pow, o_aug, o_neg, m_eq, m_ne, m_lt, m_le, m_gt, m_ge, m_eqs, m_is, m_isnot, n_non, n_ref, n_int, n_tup, b_abs, b_int, b_len, b_max, b_min, l_list, r_1, r_2, t_bl, t_int, t_non, q_tup, q_rol, a_bl, d_none, d_some, d_int, u_all, u_if, g_nil, g_cons, isL_nil, isL_var, isL_int, isL_bl, isL_non, isL_str, isL_glob, isL_neg, isL_not, isL_and, isL_or, isL_ife, isL_cmp, isL_tup, isL_ix, isL_sl, isL_call, isL_bi, isL_bq, isL_meth, isL_rev, isL_step2, isL_lst, isL_bl1, isL_comp, isL_add, isL_mul, isL_sub, isL_fdiv, isL_mod, isL_pow, reduceIte, Bool.or_self, Bool.false_eq_true, isNonE, isNil, lenE, wipeM, Bool.or_true, Bool.true_or, Bool.or_false, List.getElem?_cons_succ, List.getElem?_cons_zero, List.set_cons_succ, List.set_cons_zero, List.length_cons, List.length_nil, List.length_map, rngL_length]
    refine set_ref (j := 4) h1 rfl ?_
    have h1' : put h a (.lst (deckL 0 d1 s b (d4 + 1))) a = some (.lst (deckL 0 d1 s b (d4 + 1))) := put_same
    change wS Φ W0 _ _ _ (put h a (.lst (deckL 0 d1 s b (d4 + 1))))
    refine st_asg hΦ ?_
    simp only [e_var_v, e_var_t, e_var_q, e_var_i, e_int_v, e_int_t, e_int_q, e_int_i, e_bl_v, e_bl_t, e_bl_q, e_bl_i, e_non_v, e_non_t, e_non_q, e_non_i, e_str_v, e_str_t, e_str_q, e_str_i, e_glob_v, e_glob_t, e_glob_q, e_glob_i, e_neg_v, e_neg_t, e_neg_q, e_neg_i, e_ife_v, e_ife_t, e_ife_q, e_ife_i, e_tup_v, e_tup_t, e_tup_q, e_tup_i, e_ix_v, e_ix_t, e_ix_q, e_ix_i, e_sl_v, e_sl_t, e_sl_q, e_sl_i, e_call_v, e_call_t, e_call_q, e_call_i, e_bi_v, e_bi_t, e_bi_q, e_bi_i, e_bq_v, e_bq_t, e_bq_q, e_bq_i, e_meth_v, e_meth_t, e_meth_q, e_meth_i, e_lst_v, e_lst_q, e_lst_i, e_bl1_v, e_bl1_q, e_bl1_i, e_comp_v, e_comp_q, e_comp_i, e_sub_v, e_fdiv_v, e_mod_v, e_pow_v, e_add_v, e_mul_v, e_add_q, e_mul_q, e_add_i, e_mul_i, e_not_v, e_not_t, e_and_v, e_and_t, e_or_v, e_or_t, e_cmp_v, e_cmp_t, e_rng_i, e_enum_i, e_zip_i, e_nil_a, e_cons_a, e_var_g, e_ix_g, e_tup_g, e_nil_gs, e_cons_gs, o_add, o_sub, o_add2, o_addt, o_mul, o_fdiv, o_mod, o_pow, o_aug, o_neg, m_eq, m_ne, m_lt, m_le, m_gt, m_ge, m_eqs, m_is, m_isnot, n_non, n_ref, n_int, n_tup, b_abs, b_int, b_len, b_max, b_min, l_list, r_1, r_2, t_bl, t_int, t_non, q_tup, q_rol, a_bl, d_none, d_some, d_int, u_all, u_if, g_nil, g_cons, isL_nil, isL_var, isL_int, isL_bl, isL_non, isL_str, isL_glob, isL_neg, isL_not, isL_and, isL_or, isL_ife, isL_cmp, isL_tup, isL_ix, isL_sl, isL_call, isL_bi, isL_bq, isL_meth, isL_rev, isL_step2, isL_lst, isL_bl1, isL_comp, isL_add, isL_mul, isL_sub, isL_fdiv, isL_mod, isL_pow, reduceIte, Bool.or_self, Bool.false_eq_true, isNonE, isNil, lenE, wipeM, Bool.or_true, Bool.true_or, Bool.or_false, List.getElem?_cons_succ, List.getElem?_cons_zero, List.set_cons_succ, List.set_cons_zero, List.length_cons, List.length_nil, List.length_map, rngL_length]
    refine ix_ref h1' (v := .int s) rfl ?_
    simp only [e_var_v, e_var_t, e_var_q, e_var_i, e_int_v, e_int_t, e_int_q, e_int_i, e_bl_v, e_bl_t, e_bl_q, e_bl_i, e_non_v, e_non_t, e_non_q, e_non_i, e_str_v, e_str_t, e_str_q, e_str_i, e_glob_v, e_glob_t, e_glob_q, e_glob_i, e_neg_v, e_neg_t, e_neg_q, e_neg_i, e_ife_v, e_ife_t, e_ife_q, e_ife_i, e_tup_v, e_tup_t, e_tup_q, e_tup_i, e_ix_v, e_ix_t, e_ix_q, e_ix_i, e_sl_v, e_sl_t, e_sl_q, e_sl_i, e_call_v, e_call_t, e_call_q, e_call_i, e_bi_v, e_bi_t, e_bi_q, e_bi_i, e_bq_v, e_bq_t, e_bq_q, e_bq_i, e_meth_v, e_meth_t, e_meth_q, e_meth_i, e_lst_v, e_lst_q, e_lst_i, e_bl1_v, e_bl1_q, e_bl1_i, e_comp_v, e_comp_q, e_comp_i, e_sub_v, e_fdiv_v, e_mod_v, e_pow_v, e_add_v, e_mul_v, e_add_q, e_mul_q, e_add_i, e_mul_i, e_not_v, e_not_t, e_and_v, e_and_t, e_or_v, e_or_t, e_cmp_v, e_cmp_t, e_rng_i, e_enum_i, e_zip_i, e_nil_a, e_cons_a, e_var_g, e_ix_g, e_tup_g, e_nil_gs, e_cons_gs, o_add, o_sub, o_add2, o_addt, o_mul, o_fdiv, o_mod, o_pow, o_aug, o_neg, m_eq, m_ne, m_lt, m_le, m_gt, m_ge, m_eqs, m_is, m_isnot, n_non, n_ref, n_int, n_tup, b_abs, b_int, b_len, b_max, b_min, l_list, r_1, r_2, t_bl, t_int, t_non, q_tup, q_rol, a_bl, d_none, d_some, d_int, u_all, u_if, g_nil, g_cons, isL_nil, isL_var, isL_int, isL_bl, isL_non, isL_str, isL_glob, isL_neg, isL_not, isL_and, isL_or, isL_ife, isL_cmp, isL_tup, isL_ix, isL_sl, isL_call, isL_bi, isL_bq, isL_meth, isL_rev, isL_step2, isL_lst, isL_bl1, isL_comp, isL_add, isL_mul, isL_sub, isL_fdiv, isL_mod, isL_pow, reduceIte, Bool.or_self, Bool.false_eq_true, isNonE, isNil, lenE, wipeM, Bool.or_true, Bool.true_or, Bool.or_false, List.getElem?_cons_succ, List.getElem?_cons_zero, List.set_cons_succ, List.set_cons_zero, List.length_cons, List.length_nil, List.length_map, rngL_length]
    refine ⟨mulOk (by omega) (by decide), ix_ref h1' (v := .int (d4 + 1)) rfl ?_⟩
    simp only [e_var_v, e_var_t, e_var_q, e_var_i, e_int_v, e_int_t, e_int_q, e_int_i, e_bl_v, e_bl_t, e_bl_q, e_bl_i, e_non_v, e_non_t, e_non_q, e_non_i, e_str_v, e_str_t, e_str_q, e_str_i, e_glob_v, e_glob_t, e_glob_q, e_glob_i, e_neg_v, e_neg_t, e_neg_q, e_neg_i, e_ife_v, e_ife_t, e_ife_q, e_ife_i, e_tup_v, e_tup_t, e_tup_q, e_tup_i, e_ix_v, e_ix_t, e_ix_q, e_ix_i, e_sl_v, e_sl_t, e_sl_q, e_sl_i, e_call_v, e_call_t, e_call_q, e_call_i, e_bi_v, e_bi_t, e_bi_q, e_bi_i, e_bq_v, e_bq_t, e_bq_q, e_bq_i, e_meth_v, e_meth_t, e_meth_q, e_meth_i, e_lst_v, e_lst_q, e_lst_i, e_bl1_v, e_bl1_q, e_bl1_i, e_comp_v, e_comp_q, e_comp_i, e_sub_v, e_fdiv_v, e_mod_v, e_pow_v, e_add_v, e_mul_v, e_add_q, e_mul_q, e_add_i, e_mul_i, e_not_v, e_not_t, e_and_v, e_and_t, e_or_v, e_or_t, e_cmp_v, e_cmp_t, e_rng_i, e_enum_i, e_zip_i, e_nil_a, e_cons_a, e_var_g, e_ix_g, e_tup_g, e_nil_gs, e_cons_gs, o_add, o_sub, o_add2, o_addt, o_mul, o_fdiv, o_mod, o_pow, o_aug, o_neg, m_eq, m_ne, m_lt, m_le, m_gt, m_ge, m_eqs, m_is, m_isnot, n_non, n_ref, n_int, n_tup, b_abs, b_int, b_len, b_max, b_min, l_list, r_1, r_2, t_bl, t_int, t_non, q_tup, q_rol, a_bl, d_none, d_some, d_int, u_all, u_if, g_nil, g_cons, isL_nil, isL_var, isL_int, isL_bl, isL_non, isL_str, isL_glob, isL_neg, isL_not, isL_and, isL_or, isL_ife, isL_cmp, isL_tup, isL_ix, isL_sl, isL_call, isL_bi, isL_bq, isL_meth, isL_rev, isL_step2, isL_lst, isL_bl1, isL_comp, isL_add, isL_mul, isL_sub, isL_fdiv, isL_mod, isL_pow, reduceIte, Bool.or_self, Bool.false_eq_true, isNonE, isNil, lenE, wipeM, Bool.or_true, Bool.true_or, Bool.or_false, List.getElem?_cons_succ, List.getElem?_cons_zero, List.set_cons_succ, List.set_cons_zero, List.length_cons, List.length_nil, List.length_map, rngL_length]
    refine ⟨mulOk (by omega) (by decide), by omega, ?_⟩
    generalize hn1 : (s * 48271 + (d4 + 1) * 69621 + 12345) % 2147483647 = u1
    have u10 : 0 ≤ u1 ∧ u1 < 2147483647 := by rw [← hn1]; exact ⟨Int.emod_nonneg _ (by omega), Int.emod_lt_of_pos _ (by omega)⟩
    refine st_asg hΦ ?_
    simp only [e_var_v, e_var_t, e_var_q, e_var_i, e_int_v, e_int_t, e_int_q, e_int_i, e_bl_v, e_bl_t, e_bl_q, e_bl_i, e_non_v, e_non_t, e_non_q, e_non_i, e_str_v, e_str_t, e_str_q, e_str_i, e_glob_v, e_glob_t, e_glob_q, e_glob_i, e_neg_v, e_neg_t, e_neg_q, e_neg_i, e_ife_v, e_ife_t, e_ife_q, e_ife_i, e_tup_v, e_tup_t, e_tup_q, e_tup_i, e_ix_v, e_ix_t, e_ix_q, e_ix_i, e_sl_v, e_sl_t, e_sl_q, e_sl_i, e_call_v, e_call_t, e_call_q, e_call_i, e_bi_v, e_bi_t, e_bi_q, e_bi_i, e_bq_v, e_bq_t, e_bq_q, e_bq_i, e_meth_v, e_meth_t, e_meth_q, e_meth_i, e_lst_v, e_lst_q, e_lst_i, e_bl1_v, e_bl1_q, e_bl1_i, e_comp_v, e_comp_q, e_comp_i, e_sub_v, e_fdiv_v, e_mod_v, e_pow_v, e_add_v, e_mul_v, e_add_q, e_mul_q, e_add_i, e_mul_i, e_not_v, e_not_t, e_and_v, e_and_t, e_or_v, e_or_t, e_cmp_v, e_cmp_t, e_rng_i, e_enum_i, e_zip_i, e_nil_a, e_cons_a, e_var_g, e_ix_g, e_tup_g, e_nil_gs, e_cons_gs, o_add, o_sub, o_add2, o_addt, o_mul, o_fdiv, o_mod, o_pow, o_aug, o_neg, m_eq, m_ne, m_lt, m_le, m_gt, m_ge, m_eqs, m_is, m_isnot, n_non, n_ref, n_int, n_tup, b_abs, b_int, b_len, b_max, b_min, l_list, r_1, r_2, t_bl, t_int, t_non, q_tup, q_rol, a_bl, d_none, d_some, d_int, u_all, u_if, g_nil, g_cons, isL_nil, isL_var, isL_int, isL_bl, isL_non, isL_str, isL_glob, isL_neg, isL_not, isL_and, isL_or, isL_ife, isL_cmp, isL_tup, isL_ix, isL_sl, isL_call, isL_bi, isL_bq, isL_meth, isL_rev, isL_step2, isL_lst, isL_bl1, isL_comp, isL_add, isL_mul, isL_sub, isL_fdiv, isL_mod, isL_pow, reduceIte, Bool.or_self, Bool.false_eq_true, isNonE, isNil, lenE, wipeM, Bool.or_true, Bool.true_or, Bool.or_false, List.getElem?_cons_succ, List.getElem?_cons_zero, List.set_cons_succ, List.set_cons_zero, List.length_cons, List.length_nil, List.length_map, rngL_length]
    refine ⟨mulOk (by omega) (by omega), ix_ref h1' (v := .int (d4 + 1)) rfl ?_⟩
    simp only [e_var_v, e_var_t, e_var_q, e_var_i, e_int_v, e_int_t, e_int_q, e_int_i, e_bl_v, e_bl_t, e_bl_q, e_bl_i, e_non_v, e_non_t, e_non_q, e_non_i, e_str_v, e_str_t, e_str_q, e_str_i, e_glob_v, e_glob_t, e_glob_q, e_glob_i, e_neg_v, e_neg_t, e_neg_q, e_neg_i, e_ife_v, e_ife_t, e_ife_q, e_ife_i, e_tup_v, e_tup_t, e_tup_q, e_tup_i, e_ix_v, e_ix_t, e_ix_q, e_ix_i, e_sl_v, e_sl_t, e_sl_q, e_sl_i, e_call_v, e_call_t, e_call_q, e_call_i, e_bi_v, e_bi_t, e_bi_q, e_bi_i, e_bq_v, e_bq_t, e_bq_q, e_bq_i, e_meth_v, e_meth_t, e_meth_q, e_meth_i, e_lst_v, e_lst_q, e_lst_i, e_bl1_v, e_bl1_q, e_bl1_i, e_comp_v, e_comp_q, e_comp_i, e_sub_v, e_fdiv_v, e_mod_v, e_pow_v, e_add_v, e_mul_v, e_add_q, e_mul_q, e_add_i, e_mul_i, e_not_v, e_not_t, e_and_v, e_and_t, e_or_v, e_or_t, e_cmp_v, e_cmp_t, e_rng_i, e_enum_i, e_zip_i, e_nil_a, e_cons_a, e_var_g, e_ix_g, e_tup_g, e_nil_gs, e_cons_gs, o_add, o_sub, o_add2, o_addt, o_mul, o_fdiv, o_mod, o_pow, o_aug, o_neg, m_eq, m_ne, m_lt, m_le, m_gt, m_ge, m_eqs, m_is, m_isnot, n_non, n_ref, n_int, n_tup, b_abs, b_int, b_len, b_max, b_min, l_list, r_1, r_2, t_bl, t_int, t_non, q_tup, q_rol, a_bl, d_none, d_some, d_int, u_all, u_if, g_nil, g_cons, isL_nil, isL_var, isL_int, isL_bl, isL_non, isL_str, isL_glob, isL_neg, isL_not, isL_and, isL_or, isL_ife, isL_cmp, isL_tup, isL_ix, isL_sl, isL_call, isL_bi, isL_bq, isL_meth, isL_rev, isL_step2, isL_lst, isL_bl1, isL_comp, isL_add, isL_mul, isL_sub, isL_fdiv, isL_mod, isL_pow, reduceIte, Bool.or_self, Bool.false_eq_true, isNonE, isNil, lenE, wipeM, Bool.or_true, Bool.true_or, Bool.or_false, List.getElem?_cons_succ, List.getElem?_cons_zero, List.set_cons_succ, List.set_cons_zero, List.length_cons, List.length_nil, List.length_map, rngL_length]
    refine ⟨mulOk (by decide) (by omega), by omega, ?_⟩
    generalize hn2 : (u1 * u1 + 16807 * (d4 + 1) + 7) % 998244353 = u2
    have u20 : 0 ≤ u2 ∧ u2 < 998244353 := by rw [← hn2]; exact ⟨Int.emod_nonneg _ (by omega), Int.emod_lt_of_pos _ (by omega)⟩
    refine st_asg hΦ ?_
    simp only [e_var_v, e_var_t, e_var_q, e_var_i, e_int_v, e_int_t, e_int_q, e_int_i, e_bl_v, e_bl_t, e_bl_q, e_bl_i, e_non_v, e_non_t, e_non_q, e_non_i, e_str_v, e_str_t, e_str_q, e_str_i, e_glob_v, e_glob_t, e_glob_q, e_glob_i, e_neg_v, e_neg_t, e_neg_q, e_neg_i, e_ife_v, e_ife_t, e_ife_q, e_ife_i, e_tup_v, e_tup_t, e_tup_q, e_tup_i, e_ix_v, e_ix_t, e_ix_q, e_ix_i, e_sl_v, e_sl_t, e_sl_q, e_sl_i, e_call_v, e_call_t, e_call_q, e_call_i, e_bi_v, e_bi_t, e_bi_q, e_bi_i, e_bq_v, e_bq_t, e_bq_q, e_bq_i, e_meth_v, e_meth_t, e_meth_q, e_meth_i, e_lst_v, e_lst_q, e_lst_i, e_bl1_v, e_bl1_q, e_bl1_i, e_comp_v, e_comp_q, e_comp_i, e_sub_v, e_fdiv_v, e_mod_v, e_pow_v, e_add_v, e_mul_v, e_add_q, e_mul_q, e_add_i, e_mul_i, e_not_v, e_not_t, e_and_v, e_and_t, e_or_v, e_or_t, e_cmp_v, e_cmp_t, e_rng_i, e_enum_i, e_zip_i, e_nil_a, e_cons_a, e_var_g, e_ix_g, e_tup_g, e_nil_gs, e_cons_gs, o_add, o_sub, o_add2, o_addt, o_mul, o_fdiv, o_mod, o_pow, o_aug, o_neg, m_eq, m_ne, m_lt, m_le, m_gt, m_ge, m_eqs, m_is, m_isnot, n_non, n_ref, n_int, n_tup, b_abs, b_int, b_len, b_max, b_min, l_list, r_1, r_2, t_bl, t_int, t_non, q_tup, q_rol, a_bl, d_none, d_some, d_int, u_all, u_if, g_nil, g_cons, isL_nil, isL_var, isL_int, isL_bl, isL_non, isL_str, isL_glob, isL_neg, isL_not, isL_and, isL_or, isL_ife, isL_cmp, isL_tup, isL_ix, isL_sl, isL_call, isL_bi, isL_bq, isL_meth, isL_rev, isL_step2, isL_lst, isL_bl1, isL_comp, isL_add, isL_mul, isL_sub, isL_fdiv, isL_mod, isL_pow, reduceIte, Bool.or_self, Bool.false_eq_true, isNonE, isNil, lenE, wipeM, Bool.or_true, Bool.true_or, Bool.or_false, List.getElem?_cons_succ, List.getElem?_cons_zero, List.set_cons_succ, List.set_cons_zero, List.length_cons, List.length_nil, List.length_map, rngL_length]
    refine ⟨mulOk (by omega) (by omega), ix_ref h1' (v := .int (d4 + 1)) rfl ?_⟩
    simp only [e_var_v, e_var_t, e_var_q, e_var_i, e_int_v, e_int_t, e_int_q, e_int_i, e_bl_v, e_bl_t, e_bl_q, e_bl_i, e_non_v, e_non_t, e_non_q, e_non_i, e_str_v, e_str_t, e_str_q, e_str_i, e_glob_v, e_glob_t, e_glob_q, e_glob_i, e_neg_v, e_neg_t, e_neg_q, e_neg_i, e_ife_v, e_ife_t, e_ife_q, e_ife_i, e_tup_v, e_tup_t, e_tup_q, e_tup_i, e_ix_v, e_ix_t, e_ix_q, e_ix_i, e_sl_v, e_sl_t, e_sl_q, e_sl_i, e_call_v, e_call_t, e_call_q, e_call_i, e_bi_v, e_bi_t, e_bi_q, e_bi_i, e_bq_v, e_bq_t, e_bq_q, e_bq_i, e_meth_v, e_meth_t, e_meth_q, e_meth_i, e_lst_v, e_lst_q, e_lst_i, e_bl1_v, e_bl1_q, e_bl1_i, e_comp_v, e_comp_q, e_comp_i, e_sub_v, e_fdiv_v, e_mod_v, e_pow_v, e_add_v, e_mul_v, e_add_q, e_mul_q, e_add_i, e_mul_i, e_not_v, e_not_t, e_and_v, e_and_t, e_or_v, e_or_t, e_cmp_v, e_cmp_t, e_rng_i, e_enum_i, e_zip_i, e_nil_a, e_cons_a, e_var_g, e_ix_g, e_tup_g, e_nil_gs, e_cons_gs, o_add, o_sub, o_add2, o_addt, o_mul, o_fdiv, o_mod, o_pow, o_aug, o_neg, m_eq, m_ne, m_lt, m_le, m_gt, m_ge, m_eqs, m_is, m_isnot, n_non, n_ref, n_int, n_tup, b_abs, b_int, b_len, b_max, b_min, l_list, r_1, r_2, t_bl, t_int, t_non, q_tup, q_rol, a_bl, d_none, d_some, d_int, u_all, u_if, g_nil, g_cons, isL_nil, isL_var, isL_int, isL_bl, isL_non, isL_str, isL_glob, isL_neg, isL_not, isL_and, isL_or, isL_ife, isL_cmp, isL_tup, isL_ix, isL_sl, isL_call, isL_bi, isL_bq, isL_meth, isL_rev, isL_step2, isL_lst, isL_bl1, isL_comp, isL_add, isL_mul, isL_sub, isL_fdiv, isL_mod, isL_pow, reduceIte, Bool.or_self, Bool.false_eq_true, isNonE, isNil, lenE, wipeM, Bool.or_true, Bool.true_or, Bool.or_false, List.getElem?_cons_succ, List.getElem?_cons_zero, List.set_cons_succ, List.set_cons_zero, List.length_cons, List.length_nil, List.length_map, rngL_length]
    refine ⟨mulOk (by decide) (by omega), ix_ref h1' (v := .int s) rfl ?_⟩
    simp only [e_var_v, e_var_t, e_var_q, e_var_i, e_int_v, e_int_t, e_int_q, e_int_i, e_bl_v, e_bl_t, e_bl_q, e_bl_i, e_non_v, e_non_t, e_non_q, e_non_i, e_str_v, e_str_t, e_str_q, e_str_i, e_glob_v, e_glob_t, e_glob_q, e_glob_i, e_neg_v, e_neg_t, e_neg_q, e_neg_i, e_ife_v, e_ife_t, e_ife_q, e_ife_i, e_tup_v, e_tup_t, e_tup_q, e_tup_i, e_ix_v, e_ix_t, e_ix_q, e_ix_i, e_sl_v, e_sl_t, e_sl_q, e_sl_i, e_call_v, e_call_t, e_call_q, e_call_i, e_bi_v, e_bi_t, e_bi_q, e_bi_i, e_bq_v, e_bq_t, e_bq_q, e_bq_i, e_meth_v, e_meth_t, e_meth_q, e_meth_i, e_lst_v, e_lst_q, e_lst_i, e_bl1_v, e_bl1_q, e_bl1_i, e_comp_v, e_comp_q, e_comp_i, e_sub_v, e_fdiv_v, e_mod_v, e_pow_v, e_add_v, e_mul_v, e_add_q, e_mul_q, e_add_i, e_mul_i, e_not_v, e_not_t, e_and_v, e_and_t, e_or_v, e_or_t, e_cmp_v, e_cmp_t, e_rng_i, e_enum_i, e_zip_i, e_nil_a, e_cons_a, e_var_g, e_ix_g, e_tup_g, e_nil_gs, e_cons_gs, o_add, o_sub, o_add2, o_addt, o_mul, o_fdiv, o_mod, o_pow, o_aug, o_neg, m_eq, m_ne, m_lt, m_le, m_gt, m_ge, m_eqs, m_is, m_isnot, n_non, n_ref, n_int, n_tup, b_abs, b_int, b_len, b_max, b_min, l_list, r_1, r_2, t_bl, t_int, t_non, q_tup, q_rol, a_bl, d_none, d_some, d_int, u_all, u_if, g_nil, g_cons, isL_nil, isL_var, isL_int, isL_bl, isL_non, isL_str, isL_glob, isL_neg, isL_not, isL_and, isL_or, isL_ife, isL_cmp, isL_tup, isL_ix, isL_sl, isL_call, isL_bi, isL_bq, isL_meth, isL_rev, isL_step2, isL_lst, isL_bl1, isL_comp, isL_add, isL_mul, isL_sub, isL_fdiv, isL_mod, isL_pow, reduceIte, Bool.or_self, Bool.false_eq_true, isNonE, isNil, lenE, wipeM, Bool.or_true, Bool.true_or, Bool.or_false, List.getElem?_cons_succ, List.getElem?_cons_zero, List.set_cons_succ, List.set_cons_zero, List.length_cons, List.length_nil, List.length_map, rngL_length]
    refine ⟨by omega, ?_⟩
    generalize hn3 : (u2 * u2 + 48271 * (d4 + 1) + s) % 2147483629 = u3
    have u30 : 0 ≤ u3 := by rw [← hn3]; exact Int.emod_nonneg _ (by omega)
    refine st_asg1 ?_
    simp only [e_var_v, e_var_t, e_var_q, e_var_i, e_int_v, e_int_t, e_int_q, e_int_i, e_bl_v, e_bl_t, e_bl_q, e_bl_i, e_non_v, e_non_t, e_non_q, e_non_i, e_str_v, e_str_t, e_str_q, e_str_i, e_glob_v, e_glob_t, e_glob_q, e_glob_i, e_neg_v, e_neg_t, e_neg_q, e_neg_i, e_ife_v, e_ife_t, e_ife_q, e_ife_i, e_tup_v, e_tup_t, e_tup_q, e_tup_i, e_ix_v, e_ix_t, e_ix_q, e_ix_i, e_sl_v, e_sl_t, e_sl_q, e_sl_i, e_call_v, e_call_t, e_call_q, e_call_i, e_bi_v, e_bi_t, e_bi_q, e_bi_i, e_bq_v, e_bq_t, e_bq_q, e_bq_i, e_meth_v, e_meth_t, e_meth_q, e_meth_i, e_lst_v, e_lst_q, e_lst_i, e_bl1_v, e_bl1_q, e_bl1_i, e_comp_v, e_comp_q, e_comp_i, e_sub_v, e_fdiv_v, e_mod_v, e_pow_v, e_add_v, e_mul_v, e_add_q, e_mul_q, e_add_i, e_mul_i, e_not_v, e_not_t, e_and_v, e_and_t, e_or_v, e_or_t, e_cmp_v, e_cmp_t, e_rng_i, e_enum_i, e_zip_i, e_nil_a, e_cons_a, e_var_g, e_ix_g, e_tup_g, e_nil_gs, e_cons_gs, o_add, o_sub, o_add2, o_addt, o_mul, o_fdiv, o_mod, o_pow, o_aug, o_neg, m_eq, m_ne, m_lt, m_le, m_gt, m_ge, m_eqs, m_is, m_isnot, n_non, n_ref, n_int, n_tup, b_abs, b_int, b_len, b_max, b_min, l_list, r_1, r_2, t_bl, t_int, t_non, q_tup, q_rol, a_bl, d_none, d_some, d_int, u_all, u_if, g_nil, g_cons, isL_nil, isL_var, isL_int, isL_bl, isL_non, isL_str, isL_glob, isL_neg, isL_not, isL_and, isL_or, isL_ife, isL_cmp, isL_tup, isL_ix, isL_sl, isL_call, isL_bi, isL_bq, isL_meth, isL_rev, isL_step2, isL_lst, isL_bl1, isL_comp, isL_add, isL_mul, isL_sub, isL_fdiv, isL_mod, isL_pow, reduceIte, Bool.or_self, Bool.false_eq_true, isNonE, isNil, lenE, wipeM, Bool.or_true, Bool.true_or, Bool.or_false, List.getElem?_cons_succ, List.getElem?_cons_zero, List.set_cons_succ, List.set_cons_zero, List.length_cons, List.length_nil, List.length_map, rngL_length]
    refine ⟨divOk (by omega) (by omega), set_ref (j := 0) h1' rfl ?_⟩
    refine ⟨_, rfl, u3 / 13, d1, d4 + 1, ?_, ?_, Int.ediv_nonneg u30 (by omega), z1, by omega, by omega, ?_⟩
    · rw [put_put, put_same]; rfl
    · rw [put_put, put_ne nba]; exact h2
    · intro c hc; rw [put_put, put_ne hc]
  by_cases e0 : d0 = 0
  · rw [if_pos (by simp [e0])]
    refine ix_ref h1 (v := .int d1) rfl ?_
    refine ix_ref h1 (v := .ref b) rfl ?_
    simp only [e_var_v, e_var_t, e_var_q, e_var_i, e_int_v, e_int_t, e_int_q, e_int_i, e_bl_v, e_bl_t, e_bl_q, e_bl_i, e_non_v, e_non_t, e_non_q, e_non_i, e_str_v, e_str_t, e_str_q, e_str_i, e_glob_v, e_glob_t, e_glob_q, e_glob_i, e_neg_v, e_neg_t, e_neg_q, e_neg_i, e_ife_v, e_ife_t, e_ife_q, e_ife_i, e_tup_v, e_tup_t, e_tup_q, e_tup_i, e_ix_v, e_ix_t, e_ix_q, e_ix_i, e_sl_v, e_sl_t, e_sl_q, e_sl_i, e_call_v, e_call_t, e_call_q, e_call_i, e_bi_v, e_bi_t, e_bi_q, e_bi_i, e_bq_v, e_bq_t, e_bq_q, e_bq_i, e_meth_v, e_meth_t, e_meth_q, e_meth_i, e_lst_v, e_lst_q, e_lst_i, e_bl1_v, e_bl1_q, e_bl1_i, e_comp_v, e_comp_q, e_comp_i, e_sub_v, e_fdiv_v, e_mod_v, e_pow_v, e_add_v, e_mul_v, e_add_q, e_mul_q, e_add_i, e_mul_i, e_not_v, e_not_t, e_and_v, e_and_t, e_or_v, e_or_t, e_cmp_v, e_cmp_t, e_rng_i, e_enum_i, e_zip_i, e_nil_a, e_cons_a, e_var_g, e_ix_g, e_tup_g, e_nil_gs, e_cons_gs, o_add, o_sub, o_add2, o_addt, o_mul, o_fdiv, o_mod, o_pow, o_aug, o_neg, m_eq, m_ne, m_lt, m_le, m_gt, m_ge, m_eqs, m_is, m_isnot, n_non, n_ref, n_int, n_tup, b_abs, b_int, b_len, b_max, b_min, l_list, r_1, r_2, t_bl, t_int, t_non, q_tup, q_rol, a_bl, d_none, d_some, d_int, u_all, u_if, g_nil, g_cons, isL_nil, isL_var, isL_int, isL_bl, isL_non, isL_str, isL_glob, isL_neg, isL_not, isL_and, isL_or, isL_ife, isL_cmp, isL_tup, isL_ix, isL_sl, isL_call, isL_bi, isL_bq, isL_meth, isL_rev, isL_step2, isL_lst, isL_bl1, isL_comp, isL_add, isL_mul, isL_sub, isL_fdiv, isL_mod, isL_pow, reduceIte, Bool.or_self, Bool.false_eq_true, isNonE, isNil, lenE, wipeM, Bool.or_true, Bool.true_or, Bool.or_false, List.getElem?_cons_succ, List.getElem?_cons_zero, List.set_cons_succ, List.set_cons_zero, List.length_cons, List.length_nil, List.length_map, rngL_length, len_int h2]
    by_cases e1 : d1 < ((ns.length : Nat) : Int)
    · rw [if_pos (by simpa using e1)]
      have g1 : ns[d1.toNat]? = some (ns.getD d1.toNat 0) := by rw [List.getD_eq_getElem?_getD, List.getElem?_eq_getElem (by omega)]; rfl
      refine st_asg hΦ ?_
      simp only [e_var_v, e_var_t, e_var_q, e_var_i, e_int_v, e_int_t, e_int_q, e_int_i, e_bl_v, e_bl_t, e_bl_q, e_bl_i, e_non_v, e_non_t, e_non_q, e_non_i, e_str_v, e_str_t, e_str_q, e_str_i, e_glob_v, e_glob_t, e_glob_q, e_glob_i, e_neg_v, e_neg_t, e_neg_q, e_neg_i, e_ife_v, e_ife_t, e_ife_q, e_ife_i, e_tup_v, e_tup_t, e_tup_q, e_tup_i, e_ix_v, e_ix_t, e_ix_q, e_ix_i, e_sl_v, e_sl_t, e_sl_q, e_sl_i, e_call_v, e_call_t, e_call_q, e_call_i, e_bi_v, e_bi_t, e_bi_q, e_bi_i, e_bq_v, e_bq_t, e_bq_q, e_bq_i, e_meth_v, e_meth_t, e_meth_q, e_meth_i, e_lst_v, e_lst_q, e_lst_i, e_bl1_v, e_bl1_q, e_bl1_i, e_comp_v, e_comp_q, e_comp_i, e_sub_v, e_fdiv_v, e_mod_v, e_pow_v, e_add_v, e_mul_v, e_add_q, e_mul_q, e_add_i, e_mul_i, e_not_v, e_not_t, e_and_v, e_and_t, e_or_v, e_or_t, e_cmp_v, e_cmp_t, e_rng_i, e_enum_i, e_zip_i, e_nil_a, e_cons_a, e_var_g, e_ix_g, e_tup_g, e_nil_gs, e_cons_gs, o_add, o_sub, o_add2, o_addt, o_mul, o_fdiv, o_mod, o_pow, o_aug, o_neg, m_eq, m_ne, m_lt, m_le, m_gt, m_ge, m_eqs, m_is, m_isnot, n_non, n_ref, n_int, n_tup, b_abs, b_int, b_len, b_max, b_min, l_list, r_1, r_2, t_bl, t_int, t_non, q_tup, q_rol, a_bl, d_none, d_some, d_int, u_all, u_if, g_nil, g_cons, isL_nil, isL_var, isL_int, isL_bl, isL_non, isL_str, isL_glob, isL_neg, isL_not, isL_and, isL_or, isL_ife, isL_cmp, isL_tup, isL_ix, isL_sl, isL_call, isL_bi, isL_bq, isL_meth, isL_rev, isL_step2, isL_lst, isL_bl1, isL_comp, isL_add, isL_mul, isL_sub, isL_fdiv, isL_mod, isL_pow, reduceIte, Bool.or_self, Bool.false_eq_true, isNonE, isNil, lenE, wipeM, Bool.or_true, Bool.true_or, Bool.or_false, List.getElem?_cons_succ, List.getElem?_cons_zero, List.set_cons_succ, List.set_cons_zero, List.length_cons, List.length_nil, List.length_map, rngL_length]
      refine ix_ref h1 (v := .ref b) rfl ?_
      refine ix_ref h1 (v := .int d1) rfl ?_
      refine ix_int h2 z1 (by omega) ?_
      simp only [e_var_v, e_var_t, e_var_q, e_var_i, e_int_v, e_int_t, e_int_q, e_int_i, e_bl_v, e_bl_t, e_bl_q, e_bl_i, e_non_v, e_non_t, e_non_q, e_non_i, e_str_v, e_str_t, e_str_q, e_str_i, e_glob_v, e_glob_t, e_glob_q, e_glob_i, e_neg_v, e_neg_t, e_neg_q, e_neg_i, e_ife_v, e_ife_t, e_ife_q, e_ife_i, e_tup_v, e_tup_t, e_tup_q, e_tup_i, e_ix_v, e_ix_t, e_ix_q, e_ix_i, e_sl_v, e_sl_t, e_sl_q, e_sl_i, e_call_v, e_call_t, e_call_q, e_call_i, e_bi_v, e_bi_t, e_bi_q, e_bi_i, e_bq_v, e_bq_t, e_bq_q, e_bq_i, e_meth_v, e_meth_t, e_meth_q, e_meth_i, e_lst_v, e_lst_q, e_lst_i, e_bl1_v, e_bl1_q, e_bl1_i, e_comp_v, e_comp_q, e_comp_i, e_sub_v, e_fdiv_v, e_mod_v, e_pow_v, e_add_v, e_mul_v, e_add_q, e_mul_q, e_add_i, e_mul_i, e_not_v, e_not_t, e_and_v, e_and_t, e_or_v, e_or_t, e_cmp_v, e_cmp_t, e_rng_i, e_enum_i, e_zip_i, e_nil_a, e_cons_a, e_var_g, e_ix_g, e_tup_g, e_nil_gs, e_cons_gs, o_add, o_sub, o_add2, o_addt, o_mul, o_fdiv, o_mod, o_pow, o_aug, o_neg, m_eq, m_ne, m_lt, m_le, m_gt, m_ge, m_eqs, m_is, m_isnot, n_non, n_ref, n_int, n_tup, b_abs, b_int, b_len, b_max, b_min, l_list, r_1, r_2, t_bl, t_int, t_non, q_tup, q_rol, a_bl, d_none, d_some, d_int, u_all, u_if, g_nil, g_cons, isL_nil, isL_var, isL_int, isL_bl, isL_non, isL_str, isL_glob, isL_neg, isL_not, isL_and, isL_or, isL_ife, isL_cmp, isL_tup, isL_ix, isL_sl, isL_call, isL_bi, isL_bq, isL_meth, isL_rev, isL_step2, isL_lst, isL_bl1, isL_comp, isL_add, isL_mul, isL_sub, isL_fdiv, isL_mod, isL_pow, reduceIte, Bool.or_self, Bool.false_eq_true, isNonE, isNil, lenE, wipeM, Bool.or_true, Bool.true_or, Bool.or_false, List.getElem?_cons_succ, List.getElem?_cons_zero, List.set_cons_succ, List.set_cons_zero, List.length_cons, List.length_nil, List.length_map, rngL_length]
      refine set_ref (j := 0) h1 rfl ?_
      generalize hv : (if ns.getD d1.toNat 0 < 0 then -ns.getD d1.toNat 0 else ns.getD d1.toNat 0) = v
      have v0 : 0 ≤ v := by rw [← hv]; split <;> omega
      have h1' : put h a (.lst (deckL v d1 s b d4)) a = some (.lst (deckL v d1 s b d4)) := put_same
      change wS Φ W0 _ _ _ (put h a (.lst (deckL v d1 s b d4)))
      refine st_asg1 ?_
      simp only [e_var_v, e_var_t, e_var_q, e_var_i, e_int_v, e_int_t, e_int_q, e_int_i, e_bl_v, e_bl_t, e_bl_q, e_bl_i, e_non_v, e_non_t, e_non_q, e_non_i, e_str_v, e_str_t, e_str_q, e_str_i, e_glob_v, e_glob_t, e_glob_q, e_glob_i, e_neg_v, e_neg_t, e_neg_q, e_neg_i, e_ife_v, e_ife_t, e_ife_q, e_ife_i, e_tup_v, e_tup_t, e_tup_q, e_tup_i, e_ix_v, e_ix_t, e_ix_q, e_ix_i, e_sl_v, e_sl_t, e_sl_q, e_sl_i, e_call_v, e_call_t, e_call_q, e_call_i, e_bi_v, e_bi_t, e_bi_q, e_bi_i, e_bq_v, e_bq_t, e_bq_q, e_bq_i, e_meth_v, e_meth_t, e_meth_q, e_meth_i, e_lst_v, e_lst_q, e_lst_i, e_bl1_v, e_bl1_q, e_bl1_i, e_comp_v, e_comp_q, e_comp_i, e_sub_v, e_fdiv_v, e_mod_v, e_pow_v, e_add_v, e_mul_v, e_add_q, e_mul_q, e_add_i, e_mul_i, e_not_v, e_not_t, e_and_v, e_and_t, e_or_v, e_or_t, e_cmp_v, e_cmp_t, e_rng_i, e_enum_i, e_zip_i, e_nil_a, e_cons_a, e_var_g, e_ix_g, e_tup_g, e_nil_gs, e_cons_gs, o_add, o_sub, o_add2, o_addt, o_mul, o_fdiv, o_mod, o_pow, o_aug, o_neg, m_eq, m_ne, m_lt, m_le, m_gt, m_ge, m_eqs, m_is, m_isnot, n_non, n_ref, n_int, n_tup, b_abs, b_int, b_len, b_max, b_min, l_list, r_1, r_2, t_bl, t_int, t_non, q_tup, q_rol, a_bl, d_none, d_some, d_int, u_all, u_if, g_nil, g_cons, isL_nil, isL_var, isL_int, isL_bl, isL_non, isL_str, isL_glob, isL_neg, isL_not, isL_and, isL_or, isL_ife, isL_cmp, isL_tup, isL_ix, isL_sl, isL_call, isL_bi, isL_bq, isL_meth, isL_rev, isL_step2, isL_lst, isL_bl1, isL_comp, isL_add, isL_mul, isL_sub, isL_fdiv, isL_mod, isL_pow, reduceIte, Bool.or_self, Bool.false_eq_true, isNonE, isNil, lenE, wipeM, Bool.or_true, Bool.true_or, Bool.or_false, List.getElem?_cons_succ, List.getElem?_cons_zero, List.set_cons_succ, List.set_cons_zero, List.length_cons, List.length_nil, List.length_map, rngL_length]
      refine ix_ref h1' (v := .int d1) rfl ?_
      simp only [e_var_v, e_var_t, e_var_q, e_var_i, e_int_v, e_int_t, e_int_q, e_int_i, e_bl_v, e_bl_t, e_bl_q, e_bl_i, e_non_v, e_non_t, e_non_q, e_non_i, e_str_v, e_str_t, e_str_q, e_str_i, e_glob_v, e_glob_t, e_glob_q, e_glob_i, e_neg_v, e_neg_t, e_neg_q, e_neg_i, e_ife_v, e_ife_t, e_ife_q, e_ife_i, e_tup_v, e_tup_t, e_tup_q, e_tup_i, e_ix_v, e_ix_t, e_ix_q, e_ix_i, e_sl_v, e_sl_t, e_sl_q, e_sl_i, e_call_v, e_call_t, e_call_q, e_call_i, e_bi_v, e_bi_t, e_bi_q, e_bi_i, e_bq_v, e_bq_t, e_bq_q, e_bq_i, e_meth_v, e_meth_t, e_meth_q, e_meth_i, e_lst_v, e_lst_q, e_lst_i, e_bl1_v, e_bl1_q, e_bl1_i, e_comp_v, e_comp_q, e_comp_i, e_sub_v, e_fdiv_v, e_mod_v, e_pow_v, e_add_v, e_mul_v, e_add_q, e_mul_q, e_add_i, e_mul_i, e_not_v, e_not_t, e_and_v, e_and_t, e_or_v, e_or_t, e_cmp_v, e_cmp_t, e_rng_i, e_enum_i, e_zip_i, e_nil_a, e_cons_a, e_var_g, e_ix_g, e_tup_g, e_nil_gs, e_cons_gs, o_add, o_sub, o_add2, o_addt, o_mul, o_fdiv, o_mod, o_pow, o_aug, o_neg, m_eq, m_ne, m_lt, m_le, m_gt, m_ge, m_eqs, m_is, m_isnot, n_non, n_ref, n_int, n_tup, b_abs, b_int, b_len, b_max, b_min, l_list, r_1, r_2, t_bl, t_int, t_non, q_tup, q_rol, a_bl, d_none, d_some, d_int, u_all, u_if, g_nil, g_cons, isL_nil, isL_var, isL_int, isL_bl, isL_non, isL_str, isL_glob, isL_neg, isL_not, isL_and, isL_or, isL_ife, isL_cmp, isL_tup, isL_ix, isL_sl, isL_call, isL_bi, isL_bq, isL_meth, isL_rev, isL_step2, isL_lst, isL_bl1, isL_comp, isL_add, isL_mul, isL_sub, isL_fdiv, isL_mod, isL_pow, reduceIte, Bool.or_self, Bool.false_eq_true, isNonE, isNil, lenE, wipeM, Bool.or_true, Bool.true_or, Bool.or_false, List.getElem?_cons_succ, List.getElem?_cons_zero, List.set_cons_succ, List.set_cons_zero, List.length_cons, List.length_nil, List.length_map, rngL_length]
      refine set_ref (j := 1) h1' rfl ?_
      refine fin (d0 := v) (d1 := d1 + 1) (d4 := d4) ?_ ?_ v0 (by omega) z4 (by omega) ?_
      · rw [put_put, put_same]; rfl
      · rw [put_put, put_ne nba]; exact h2
      · intro c hc; rw [put_put, put_ne hc]
    · rw [if_neg (by simpa using e1)]
      refine wS_only hΦ (made e0) ?_
      rintro σ1 h1 ⟨x3, rfl, d0', d1', d4', e1, e2, y0, y1, y4, y5, fr⟩
      exact fin e1 e2 y0 y1 y4 y5 fr
  · rw [if_neg (by simp [e0])]
    refine st_if1 ?_
    simp only [e_var_v, e_var_t, e_var_q, e_var_i, e_int_v, e_int_t, e_int_q, e_int_i, e_bl_v, e_bl_t, e_bl_q, e_bl_i, e_non_v, e_non_t, e_non_q, e_non_i, e_str_v, e_str_t, e_str_q, e_str_i, e_glob_v, e_glob_t, e_glob_q, e_glob_i, e_neg_v, e_neg_t, e_neg_q, e_neg_i, e_ife_v, e_ife_t, e_ife_q, e_ife_i, e_tup_v, e_tup_t, e_tup_q, e_tup_i, e_ix_v, e_ix_t, e_ix_q, e_ix_i, e_sl_v, e_sl_t, e_sl_q, e_sl_i, e_call_v, e_call_t, e_call_q, e_call_i, e_bi_v, e_bi_t, e_bi_q, e_bi_i, e_bq_v, e_bq_t, e_bq_q, e_bq_i, e_meth_v, e_meth_t, e_meth_q, e_meth_i, e_lst_v, e_lst_q, e_lst_i, e_bl1_v, e_bl1_q, e_bl1_i, e_comp_v, e_comp_q, e_comp_i, e_sub_v, e_fdiv_v, e_mod_v, e_pow_v, e_add_v, e_mul_v, e_add_q, e_mul_q, e_add_i, e_mul_i, e_not_v, e_not_t, e_and_v, e_and_t, e_or_v, e_or_t, e_cmp_v, e_cmp_t, e_rng_i, e_enum_i, e_zip_i, e_nil_a, e_cons_a, e_var_g, e_ix_g, e_tup_g, e_nil_gs, e_cons_gs, o_add, o_sub, o_add2, o_addt, o_mul, o_fdiv, o_mod, o_pow, o_aug, o_neg, m_eq, m_ne, m_lt, m_le, m_gt, m_ge, m_eqs, m_is, m_isnot, n_non, n_ref, n_int, n_tup, b_abs, b_int, b_len, b_max, b_min, l_list, r_1, r_2, t_bl, t_int, t_non, q_tup, q_rol, a_bl, d_none, d_some, d_int, u_all, u_if, g_nil, g_cons, isL_nil, isL_var, isL_int, isL_bl, isL_non, isL_str, isL_glob, isL_neg, isL_not, isL_and, isL_or, isL_ife, isL_cmp, isL_tup, isL_ix, isL_sl, isL_call, isL_bi, isL_bq, isL_meth, isL_rev, isL_step2, isL_lst, isL_bl1, isL_comp, isL_add, isL_mul, isL_sub, isL_fdiv, isL_mod, isL_pow, reduceIte, Bool.or_self, Bool.false_eq_true, isNonE, isNil, lenE, wipeM, Bool.or_true, Bool.true_or, Bool.or_false, List.getElem?_cons_succ, List.getElem?_cons_zero, List.set_cons_succ, List.set_cons_zero, List.length_cons, List.length_nil, List.length_map, rngL_length]
    refine ix_ref h1 (v := .int d0) rfl ?_
    simp only [e_var_v, e_var_t, e_var_q, e_var_i, e_int_v, e_int_t, e_int_q, e_int_i, e_bl_v, e_bl_t, e_bl_q, e_bl_i, e_non_v, e_non_t, e_non_q, e_non_i, e_str_v, e_str_t, e_str_q, e_str_i, e_glob_v, e_glob_t, e_glob_q, e_glob_i, e_neg_v, e_neg_t, e_neg_q, e_neg_i, e_ife_v, e_ife_t, e_ife_q, e_ife_i, e_tup_v, e_tup_t, e_tup_q, e_tup_i, e_ix_v, e_ix_t, e_ix_q, e_ix_i, e_sl_v, e_sl_t, e_sl_q, e_sl_i, e_call_v, e_call_t, e_call_q, e_call_i, e_bi_v, e_bi_t, e_bi_q, e_bi_i, e_bq_v, e_bq_t, e_bq_q, e_bq_i, e_meth_v, e_meth_t, e_meth_q, e_meth_i, e_lst_v, e_lst_q, e_lst_i, e_bl1_v, e_bl1_q, e_bl1_i, e_comp_v, e_comp_q, e_comp_i, e_sub_v, e_fdiv_v, e_mod_v, e_pow_v, e_add_v, e_mul_v, e_add_q, e_mul_q, e_add_i, e_mul_i, e_not_v, e_not_t, e_and_v, e_and_t, e_or_v, e_or_t, e_cmp_v, e_cmp_t, e_rng_i, e_enum_i, e_zip_i, e_nil_a, e_cons_a, e_var_g, e_ix_g, e_tup_g, e_nil_gs, e_cons_gs, o_add, o_sub, o_add2, o_addt, o_mul, o_fdiv, o_mod, o_pow, o_aug, o_neg, m_eq, m_ne, m_lt, m_le, m_gt, m_ge, m_eqs, m_is, m_isnot, n_non, n_ref, n_int, n_tup, b_abs, b_int, b_len, b_max, b_min, l_list, r_1, r_2, t_bl, t_int, t_non, q_tup, q_rol, a_bl, d_none, d_some, d_int, u_all, u_if, g_nil, g_cons, isL_nil, isL_var, isL_int, isL_bl, isL_non, isL_str, isL_glob, isL_neg, isL_not, isL_and, isL_or, isL_ife, isL_cmp, isL_tup, isL_ix, isL_sl, isL_call, isL_bi, isL_bq, isL_meth, isL_rev, isL_step2, isL_lst, isL_bl1, isL_comp, isL_add, isL_mul, isL_sub, isL_fdiv, isL_mod, isL_pow, reduceIte, Bool.or_self, Bool.false_eq_true, isNonE, isNil, lenE, wipeM, Bool.or_true, Bool.true_or, Bool.or_false, List.getElem?_cons_succ, List.getElem?_cons_zero, List.set_cons_succ, List.set_cons_zero, List.length_cons, List.length_nil, List.length_map, rngL_length]
    rw [if_neg (by simp [e0])]
    refine st_skip ?_
    exact fin h1 h2 z0 z1 z4 (by omega) fun _ _ => rfl
end Mp.K39

set_option Elab.async false
set_option linter.all false
set_option maxRecDepth 100000
set_option exponentiation.threshold 500
namespace Mp.K39
open PySem Mp
/-! ### data that is compared and shown -/
abbrev dI (ns : List Int) : PyData := .list (ns.map PyData.int)
abbrev dLL (xss : List (List Int)) : PyData := .list (xss.map dI)
structure Good (d : PyData) : Prop where
  show_ : d.showB = true
  depth : d.depth ≤ 60
  len : d.shown.length ≤ SZ
  shap : SeqAt.shaped d = true
  eq : d.eqv d = true
def Few (ns : List Int) : Prop := ns.length ≤ 100 ∧ ∀ n ∈ ns, n.natAbs.log2 < 12900
theorem textFrom_le (B : Nat) : ∀ (ts : List Str) (k : Nat) (acc : Str), (∀ t ∈ ts, t.length ≤ B) → (textFrom k acc ts).length ≤ acc.length + ts.length * (B + 2)
  | [], k, acc, _ => by show acc.length ≤ _; simp
  | t :: r, k, acc, h => by
    have ih := textFrom_le B r (k + 1) (acc ++ (if k > 0 then ", " else "" : String) ++ t) fun u hu => h u (List.mem_cons_of_mem _ hu)
    have e : (acc ++ (if k > 0 then ", " else "" : String) ++ t).length = acc.length + (if k > 0 then 2 else 0) + t.length := by
      rw [strLen_append, strLen_append]
      split <;> rfl
    have ht := h t List.mem_cons_self
    show (textFrom (k + 1) _ r).length ≤ _
    rw [e] at ih
    have hs : (if k > 0 then 2 else 0) ≤ 2 := by split <;> omega
    rw [List.length_cons, Nat.add_mul, Nat.one_mul]
    omega
theorem listText_le (B : Nat) (ts : List Str) (h : ∀ t ∈ ts, t.length ≤ B) : (listText ts).length ≤ 2 + ts.length * (B + 2) := by
  have := textFrom_le B ts 0 "[" h
  unfold listText
  rw [strLen_append]
  have e1 : Str.length ("[" : Str) = 1 := rfl
  have e2 : Str.length ("]" : Str) = 1 := rfl
  omega
theorem shownAll_len : ∀ ds : List PyData, (PyData.shownAll ds).length = ds.length
  | [] => rfl
  | _ :: r => by simp [PyData.shownAll, shownAll_len r]
theorem shownAll_mem {B : Nat} : ∀ (ds : List PyData), (∀ d ∈ ds, d.shown.length ≤ B) → ∀ t ∈ PyData.shownAll ds, t.length ≤ B
  | [], _, t, h => by simp [PyData.shownAll] at h
  | d :: r, hd, t, h => by
    simp only [PyData.shownAll, List.mem_cons] at h
    rcases h with rfl | h
    · exact hd _ List.mem_cons_self
    · exact shownAll_mem r (fun d h => hd d (List.mem_cons_of_mem _ h)) t h
theorem all_of {f : PyData → Bool} {g : List PyData → Bool} (h0 : g [] = true) (h1 : ∀ x xs, g (x :: xs) = (f x && g xs)) : ∀ ds : List PyData, (∀ d ∈ ds, f d = true) → g ds = true
  | [], _ => h0
  | d :: r, h => by rw [h1, h d List.mem_cons_self, all_of h0 h1 r fun x hx => h x (List.mem_cons_of_mem _ hx)]; rfl
theorem eqAll_of : ∀ ds : List PyData, (∀ d ∈ ds, d.eqv d = true) → PyData.eqvAll ds ds = true
  | [], _ => by simp [PyData.eqvAll]
  | d :: r, h => by simp only [PyData.eqvAll, h d List.mem_cons_self, eqAll_of r fun x hx => h x (List.mem_cons_of_mem _ hx)]; rfl
theorem depthAll_of {B : Nat} : ∀ ds : List PyData, (∀ d ∈ ds, d.depth ≤ B) → PyData.depthAll ds ≤ B
  | [], _ => by simp [PyData.depthAll]
  | d :: r, h => by
    simp only [PyData.depthAll]
    have := depthAll_of r fun x hx => h x (List.mem_cons_of_mem _ hx)
    have := h d List.mem_cons_self
    omega
theorem list_good {ds : List PyData} {B D : Nat} (hd : ∀ d ∈ ds, d.showB = true ∧ d.depth ≤ D ∧ d.shown.length ≤ B ∧ d.canLay0 = true ∧ d.eqv d = true) (hD : D ≤ 10) (hB : 2 + ds.length * (B + 2) ≤ SZ) :
    (PyData.list ds).showB = true ∧ (PyData.list ds).depth ≤ D + 1 ∧ (PyData.list ds).shown.length ≤ 2 + ds.length * (B + 2) ∧ (PyData.list ds).canLay0 = true ∧ (PyData.list ds).eqv (.list ds) = true := by
  refine ⟨?_, ?_, ?_, ?_, ?_⟩
  · show PyData.showBAll ds = true
    exact all_of (by simp [PyData.showBAll]) (fun x xs => by simp [PyData.showBAll]) ds fun d h => (hd d h).1
  · show PyData.depthAll ds + 1 ≤ _
    have := depthAll_of ds fun d h => (hd d h).2.1
    omega
  · show (listText (PyData.shownAll ds)).length ≤ _
    have := listText_le B (PyData.shownAll ds) (shownAll_mem ds fun d h => (hd d h).2.2.1)
    rw [shownAll_len] at this
    exact this
  · show PyData.canLayAll0 ds = true
    exact all_of (by simp [PyData.canLayAll0]) (fun x xs => by simp [PyData.canLayAll0]) ds fun d h => (hd d h).2.2.2.1
  · show PyData.eqvAll ds ds = true
    exact eqAll_of ds fun d h => (hd d h).2.2.2.2
theorem int_facts {n : Int} (h : n.natAbs.log2 < 12900) : (PyData.int n).showB = true ∧ (PyData.int n).depth ≤ 0 ∧ (PyData.int n).shown.length ≤ 12901 ∧ (PyData.int n).canLay0 = true ∧ (PyData.int n).eqv (.int n) = true := by
  refine ⟨by simp [PyData.showB, h], Nat.le_refl _, ?_, by simp [PyData.canLay0], by simp [PyData.eqv]⟩
  show (Str.ofString (toString n)).length ≤ _
  rw [ofString_length]
  exact int_text_length_le (k := 12900) (by decide) h
theorem dI_facts {ns : List Int} (h : Few ns) : (dI ns).showB = true ∧ (dI ns).depth ≤ 1 ∧ (dI ns).shown.length ≤ 1290302 ∧ (dI ns).canLay0 = true ∧ (dI ns).eqv (dI ns) = true := by
  have hl : (ns.map PyData.int).length ≤ 100 := by rw [List.length_map]; exact h.1
  have m : (ns.map PyData.int).length * (12901 + 2) ≤ 100 * (12901 + 2) := Nat.mul_le_mul_right _ hl
  obtain ⟨a, b, c, d, e⟩ := list_good (ds := ns.map PyData.int) (B := 12901) (D := 0) (fun d hd => by
    obtain ⟨n, hn, rfl⟩ := List.mem_map.mp hd
    exact int_facts (h.2 n hn)) (by omega) (by have := hSZ; omega)
  exact ⟨a, b, by show (PyData.list _).shown.length ≤ _; omega, d, e⟩
theorem shaped_of {d : PyData} (h : d.canLay0 = true) (h2 : d.depth ≤ 60) : SeqAt.shaped d = true := by
  unfold SeqAt.shaped
  rw [h, decide_eq_true (show d.depth ≤ 64 by omega)]; rfl
theorem good_dI {ns : List Int} (h : Few ns) : Good (dI ns) := by
  obtain ⟨a, b, c, d, e⟩ := dI_facts h
  exact ⟨a, by omega, by have := hSZ; omega, shaped_of d (by omega), e⟩
theorem good_dLL {xss : List (List Int)} (hl : xss.length ≤ 8) (h : ∀ ns ∈ xss, Few ns) : Good (dLL xss) := by
  have hl : (xss.map dI).length ≤ 8 := by rw [List.length_map]; exact hl
  have m : (xss.map dI).length * (1290302 + 2) ≤ 8 * (1290302 + 2) := Nat.mul_le_mul_right _ hl
  obtain ⟨a, b, c, d, e⟩ := list_good (ds := xss.map dI) (B := 1290302) (D := 1) (fun d hd => by
    obtain ⟨n, hn, rfl⟩ := List.mem_map.mp hd
    exact dI_facts (h n hn)) (by omega) (by have := hSZ; omega)
  exact ⟨a, Nat.le_trans b (by omega), Nat.le_trans c (by have := hSZ; omega), shaped_of d (Nat.le_trans b (by omega)), e⟩
theorem good_non : Good .none := ⟨rfl, by decide, by decide, by decide, by simp [PyData.eqv]⟩
/-! reading it off the heap -/
theorem dat_ints {h : MH} : ∀ ns : List Int, Dat h (.tup (ns.map M.int)) (.tuple (ns.map PyData.int))
  | [] => .tnil
  | n :: r => .tcons (.int n) (dat_ints r)
theorem dat_dI {h : MH} {a : Nat} {ns : List Int} (e : h a = some (LI ns)) : Dat h (.ref a) (dI ns) := .lst e (dat_ints ns)
theorem dat_refs {h : MH} : ∀ (ps : List (Nat × List Int)), (∀ p ∈ ps, h p.1 = some (LI p.2)) → Dat h (.tup (ps.map fun p => M.ref p.1)) (.tuple ((ps.map (·.2)).map dI))
  | [], _ => .tnil
  | p :: r, h => .tcons (dat_dI (h p List.mem_cons_self)) (dat_refs r fun q hq => h q (List.mem_cons_of_mem _ hq))
theorem dat_dLL {h : MH} {a : Nat} (ps : List (Nat × List Int)) (e : h a = some (.lst (ps.map fun p => M.ref p.1))) (k : ∀ p ∈ ps, h p.1 = some (LI p.2)) : Dat h (.ref a) (dLL (ps.map (·.2))) := .lst e (dat_refs ps k)
/-! ### the comparison -/
def spIs : SpM := fun ms h Q _ => ∃ (x y : M) (d : PyData), ms = [x, y] ∧ Dat h x d ∧ Dat h y d ∧ Good d ∧ ((∃ a, x = .ref a) ∨ x = .non) ∧ Q (.bl true) h
theorem keeps_is (Φ : Phi) (hΦ : Φ.Mono) : Keeps Φ 2 t_law_is spIs := by
  intro ms h Q hsp
  obtain ⟨x, y, d, rfl, hx, hy, g, hr, q⟩ := hsp
  change wS Φ W0 _ _ [some x, some y] h
  unfold t_law_is
  refine st_ret ?_
  simp only [e_var_v, e_var_t, e_var_q, e_var_i, e_int_v, e_int_t, e_int_q, e_int_i, e_bl_v, e_bl_t, e_bl_q, e_bl_i, e_non_v, e_non_t, e_non_q, e_non_i, e_str_v, e_str_t, e_str_q, e_str_i, e_glob_v, e_glob_t, e_glob_q, e_glob_i, e_neg_v, e_neg_t, e_neg_q, e_neg_i, e_ife_v, e_ife_t, e_ife_q, e_ife_i, e_tup_v, e_tup_t, e_tup_q, e_tup_i, e_ix_v, e_ix_t, e_ix_q, e_ix_i, e_sl_v, e_sl_t, e_sl_q, e_sl_i, e_call_v, e_call_t, e_call_q, e_call_i, e_bi_v, e_bi_t, e_bi_q, e_bi_i, e_bq_v, e_bq_t, e_bq_q, e_bq_i, e_meth_v, e_meth_t, e_meth_q, e_meth_i, e_lst_v, e_lst_q, e_lst_i, e_bl1_v, e_bl1_q, e_bl1_i, e_comp_v, e_comp_q, e_comp_i, e_sub_v, e_fdiv_v, e_mod_v, e_pow_v, e_add_v, e_mul_v, e_add_q, e_mul_q, e_add_i, e_mul_i, e_not_v, e_not_t, e_and_v, e_and_t, e_or_v, e_or_t, e_cmp_v, e_cmp_t, e_rng_i, e_enum_i, e_zip_i, e_nil_a, e_cons_a, e_var_g, e_ix_g, e_tup_g, e_nil_gs, e_cons_gs, o_add, o_sub, o_add2, o_addt, o_mul, o_fdiv, o_mod, o_pow, o_aug, o_neg, m_eq, m_ne, m_lt, m_le, m_gt, m_ge, m_eqs, m_is, m_isnot, n_non, n_ref, n_int, n_tup, b_abs, b_int, b_len, b_max, b_min, l_list, r_1, r_2, t_bl, t_int, t_non, q_tup, q_rol, a_bl, d_none, d_some, d_int, u_all, u_if, g_nil, g_cons, isL_nil, isL_var, isL_int, isL_bl, isL_non, isL_str, isL_glob, isL_neg, isL_not, isL_and, isL_or, isL_ife, isL_cmp, isL_tup, isL_ix, isL_sl, isL_call, isL_bi, isL_bq, isL_meth, isL_rev, isL_step2, isL_lst, isL_bl1, isL_comp, isL_add, isL_mul, isL_sub, isL_fdiv, isL_mod, isL_pow, reduceIte, Bool.or_self, Bool.false_eq_true, isNonE, isNil, lenE, wipeM, Bool.or_true, Bool.true_or, Bool.or_false, List.getElem?_cons_succ, List.getElem?_cons_zero, List.set_cons_succ, List.set_cons_zero, List.length_cons, List.length_nil, List.length_map, rngL_length]
  have eqs : ∀ K : Bool → Prop, K true → cmpM .eq x y h K := fun K k => by
    have w : ∃ d e, Dat h x d ∧ Dat h y e ∧ SeqAt.shaped d = true ∧ SeqAt.shaped e = true ∧ K (d.eqv e) := ⟨d, d, hx, hy, g.shap, g.shap, by rw [g.eq]; exact k⟩
    rcases hr with ⟨a, rfl⟩ | rfl <;> exact w
  refine eqs _ ?_
  simp only [e_var_v, e_var_t, e_var_q, e_var_i, e_int_v, e_int_t, e_int_q, e_int_i, e_bl_v, e_bl_t, e_bl_q, e_bl_i, e_non_v, e_non_t, e_non_q, e_non_i, e_str_v, e_str_t, e_str_q, e_str_i, e_glob_v, e_glob_t, e_glob_q, e_glob_i, e_neg_v, e_neg_t, e_neg_q, e_neg_i, e_ife_v, e_ife_t, e_ife_q, e_ife_i, e_tup_v, e_tup_t, e_tup_q, e_tup_i, e_ix_v, e_ix_t, e_ix_q, e_ix_i, e_sl_v, e_sl_t, e_sl_q, e_sl_i, e_call_v, e_call_t, e_call_q, e_call_i, e_bi_v, e_bi_t, e_bi_q, e_bi_i, e_bq_v, e_bq_t, e_bq_q, e_bq_i, e_meth_v, e_meth_t, e_meth_q, e_meth_i, e_lst_v, e_lst_q, e_lst_i, e_bl1_v, e_bl1_q, e_bl1_i, e_comp_v, e_comp_q, e_comp_i, e_sub_v, e_fdiv_v, e_mod_v, e_pow_v, e_add_v, e_mul_v, e_add_q, e_mul_q, e_add_i, e_mul_i, e_not_v, e_not_t, e_and_v, e_and_t, e_or_v, e_or_t, e_cmp_v, e_cmp_t, e_rng_i, e_enum_i, e_zip_i, e_nil_a, e_cons_a, e_var_g, e_ix_g, e_tup_g, e_nil_gs, e_cons_gs, o_add, o_sub, o_add2, o_addt, o_mul, o_fdiv, o_mod, o_pow, o_aug, o_neg, m_eq, m_ne, m_lt, m_le, m_gt, m_ge, m_eqs, m_is, m_isnot, n_non, n_ref, n_int, n_tup, b_abs, b_int, b_len, b_max, b_min, l_list, r_1, r_2, t_bl, t_int, t_non, q_tup, q_rol, a_bl, d_none, d_some, d_int, u_all, u_if, g_nil, g_cons, isL_nil, isL_var, isL_int, isL_bl, isL_non, isL_str, isL_glob, isL_neg, isL_not, isL_and, isL_or, isL_ife, isL_cmp, isL_tup, isL_ix, isL_sl, isL_call, isL_bi, isL_bq, isL_meth, isL_rev, isL_step2, isL_lst, isL_bl1, isL_comp, isL_add, isL_mul, isL_sub, isL_fdiv, isL_mod, isL_pow, reduceIte, Bool.or_self, Bool.false_eq_true, isNonE, isNil, lenE, wipeM, Bool.or_true, Bool.true_or, Bool.or_false, List.getElem?_cons_succ, List.getElem?_cons_zero, List.set_cons_succ, List.set_cons_zero, List.length_cons, List.length_nil, List.length_map, rngL_length]
  refine ⟨d, hx, ⟨g.show_, g.depth, g.len⟩, ⟨d, hy, ⟨g.show_, g.depth, g.len⟩, ?_⟩⟩
  simp only [e_var_v, e_var_t, e_var_q, e_var_i, e_int_v, e_int_t, e_int_q, e_int_i, e_bl_v, e_bl_t, e_bl_q, e_bl_i, e_non_v, e_non_t, e_non_q, e_non_i, e_str_v, e_str_t, e_str_q, e_str_i, e_glob_v, e_glob_t, e_glob_q, e_glob_i, e_neg_v, e_neg_t, e_neg_q, e_neg_i, e_ife_v, e_ife_t, e_ife_q, e_ife_i, e_tup_v, e_tup_t, e_tup_q, e_tup_i, e_ix_v, e_ix_t, e_ix_q, e_ix_i, e_sl_v, e_sl_t, e_sl_q, e_sl_i, e_call_v, e_call_t, e_call_q, e_call_i, e_bi_v, e_bi_t, e_bi_q, e_bi_i, e_bq_v, e_bq_t, e_bq_q, e_bq_i, e_meth_v, e_meth_t, e_meth_q, e_meth_i, e_lst_v, e_lst_q, e_lst_i, e_bl1_v, e_bl1_q, e_bl1_i, e_comp_v, e_comp_q, e_comp_i, e_sub_v, e_fdiv_v, e_mod_v, e_pow_v, e_add_v, e_mul_v, e_add_q, e_mul_q, e_add_i, e_mul_i, e_not_v, e_not_t, e_and_v, e_and_t, e_or_v, e_or_t, e_cmp_v, e_cmp_t, e_rng_i, e_enum_i, e_zip_i, e_nil_a, e_cons_a, e_var_g, e_ix_g, e_tup_g, e_nil_gs, e_cons_gs, o_add, o_sub, o_add2, o_addt, o_mul, o_fdiv, o_mod, o_pow, o_aug, o_neg, m_eq, m_ne, m_lt, m_le, m_gt, m_ge, m_eqs, m_is, m_isnot, n_non, n_ref, n_int, n_tup, b_abs, b_int, b_len, b_max, b_min, l_list, r_1, r_2, t_bl, t_int, t_non, q_tup, q_rol, a_bl, d_none, d_some, d_int, u_all, u_if, g_nil, g_cons, isL_nil, isL_var, isL_int, isL_bl, isL_non, isL_str, isL_glob, isL_neg, isL_not, isL_and, isL_or, isL_ife, isL_cmp, isL_tup, isL_ix, isL_sl, isL_call, isL_bi, isL_bq, isL_meth, isL_rev, isL_step2, isL_lst, isL_bl1, isL_comp, isL_add, isL_mul, isL_sub, isL_fdiv, isL_mod, isL_pow, reduceIte, Bool.or_self, Bool.false_eq_true, isNonE, isNil, lenE, wipeM, Bool.or_true, Bool.true_or, Bool.or_false, List.getElem?_cons_succ, List.getElem?_cons_zero, List.set_cons_succ, List.set_cons_zero, List.length_cons, List.length_nil, List.length_map, rngL_length]
  exact ⟨h, Sub.refl _, by simpa using q⟩
end Mp.K39

set_option Elab.async false
set_option linter.all false
set_option maxRecDepth 100000
set_option exponentiation.threshold 500
namespace Mp.K39
open PySem Mp
theorem keeps_law_raised (Φ : Phi) (hΦ : Φ.Mono) : Keeps Φ 4 t_law_raised spRaised := by
  intro ms h Q hsp
  obtain ⟨a, e, rfl, h0, h1, h2, h3, q⟩ := hsp
  change wS Φ W0 _ _ [some (.int a), some (.int e), none, none] h
  unfold t_law_raised
  refine st_asg hΦ ?_
  simp only [e_var_v, e_var_t, e_var_q, e_var_i, e_int_v, e_int_t, e_int_q, e_int_i, e_bl_v, e_bl_t, e_bl_q, e_bl_i, e_non_v, e_non_t, e_non_q, e_non_i, e_str_v, e_str_t, e_str_q, e_str_i, e_glob_v, e_glob_t, e_glob_q, e_glob_i, e_neg_v, e_neg_t, e_neg_q, e_neg_i, e_ife_v, e_ife_t, e_ife_q, e_ife_i, e_tup_v, e_tup_t, e_tup_q, e_tup_i, e_ix_v, e_ix_t, e_ix_q, e_ix_i, e_sl_v, e_sl_t, e_sl_q, e_sl_i, e_call_v, e_call_t, e_call_q, e_call_i, e_bi_v, e_bi_t, e_bi_q, e_bi_i, e_bq_v, e_bq_t, e_bq_q, e_bq_i, e_meth_v, e_meth_t, e_meth_q, e_meth_i, e_lst_v, e_lst_q, e_lst_i, e_bl1_v, e_bl1_q, e_bl1_i, e_comp_v, e_comp_q, e_comp_i, e_sub_v, e_fdiv_v, e_mod_v, e_pow_v, e_add_v, e_mul_v, e_add_q, e_mul_q, e_add_i, e_mul_i, e_not_v, e_not_t, e_and_v, e_and_t, e_or_v, e_or_t, e_cmp_v, e_cmp_t, e_rng_i, e_enum_i, e_zip_i, e_nil_a, e_cons_a, e_var_g, e_ix_g, e_tup_g, e_nil_gs, e_cons_gs, o_add, o_sub, o_add2, o_addt, o_mul, o_fdiv, o_mod, o_pow, o_aug, o_neg, m_eq, m_ne, m_lt, m_le, m_gt, m_ge, m_eqs, m_is, m_isnot, n_non, n_ref, n_int, n_tup, b_abs, b_int, b_len, b_max, b_min, l_list, r_1, r_2, t_bl, t_int, t_non, q_tup, q_rol, a_bl, d_none, d_some, d_int, u_all, u_if, g_nil, g_cons, isL_nil, isL_var, isL_int, isL_bl, isL_non, isL_str, isL_glob, isL_neg, isL_not, isL_and, isL_or, isL_ife, isL_cmp, isL_tup, isL_ix, isL_sl, isL_call, isL_bi, isL_bq, isL_meth, isL_rev, isL_step2, isL_lst, isL_bl1, isL_comp, isL_add, isL_mul, isL_sub, isL_fdiv, isL_mod, isL_pow, reduceIte, Bool.or_self, Bool.false_eq_true, isNonE, isNil, lenE, wipeM, Bool.or_true, Bool.true_or, Bool.or_false, List.getElem?_cons_succ, List.getElem?_cons_zero, List.set_cons_succ, List.set_cons_zero, List.length_cons, List.length_nil, List.length_map, rngL_length]
  refine st_for hΦ ?_
  simp only [e_var_v, e_var_t, e_var_q, e_var_i, e_int_v, e_int_t, e_int_q, e_int_i, e_bl_v, e_bl_t, e_bl_q, e_bl_i, e_non_v, e_non_t, e_non_q, e_non_i, e_str_v, e_str_t, e_str_q, e_str_i, e_glob_v, e_glob_t, e_glob_q, e_glob_i, e_neg_v, e_neg_t, e_neg_q, e_neg_i, e_ife_v, e_ife_t, e_ife_q, e_ife_i, e_tup_v, e_tup_t, e_tup_q, e_tup_i, e_ix_v, e_ix_t, e_ix_q, e_ix_i, e_sl_v, e_sl_t, e_sl_q, e_sl_i, e_call_v, e_call_t, e_call_q, e_call_i, e_bi_v, e_bi_t, e_bi_q, e_bi_i, e_bq_v, e_bq_t, e_bq_q, e_bq_i, e_meth_v, e_meth_t, e_meth_q, e_meth_i, e_lst_v, e_lst_q, e_lst_i, e_bl1_v, e_bl1_q, e_bl1_i, e_comp_v, e_comp_q, e_comp_i, e_sub_v, e_fdiv_v, e_mod_v, e_pow_v, e_add_v, e_mul_v, e_add_q, e_mul_q, e_add_i, e_mul_i, e_not_v, e_not_t, e_and_v, e_and_t, e_or_v, e_or_t, e_cmp_v, e_cmp_t, e_rng_i, e_enum_i, e_zip_i, e_nil_a, e_cons_a, e_var_g, e_ix_g, e_tup_g, e_nil_gs, e_cons_gs, o_add, o_sub, o_add2, o_addt, o_mul, o_fdiv, o_mod, o_pow, o_aug, o_neg, m_eq, m_ne, m_lt, m_le, m_gt, m_ge, m_eqs, m_is, m_isnot, n_non, n_ref, n_int, n_tup, b_abs, b_int, b_len, b_max, b_min, l_list, r_1, r_2, t_bl, t_int, t_non, q_tup, q_rol, a_bl, d_none, d_some, d_int, u_all, u_if, g_nil, g_cons, isL_nil, isL_var, isL_int, isL_bl, isL_non, isL_str, isL_glob, isL_neg, isL_not, isL_and, isL_or, isL_ife, isL_cmp, isL_tup, isL_ix, isL_sl, isL_call, isL_bi, isL_bq, isL_meth, isL_rev, isL_step2, isL_lst, isL_bl1, isL_comp, isL_add, isL_mul, isL_sub, isL_fdiv, isL_mod, isL_pow, reduceIte, Bool.or_self, Bool.false_eq_true, isNonE, isNil, lenE, wipeM, Bool.or_true, Bool.true_or, Bool.or_false, List.getElem?_cons_succ, List.getElem?_cons_zero, List.set_cons_succ, List.set_cons_zero, List.length_cons, List.length_nil, List.length_map, rngL_length]
  refine ⟨by omega, ?_⟩
  refine ⟨fun i σ h' => ∃ x, σ = [some (.int a), some (.int e), some (.int (a ^ i)), x] ∧ h' = h, ?_, ?_, ?_, ?_⟩
  · exact ⟨none, by rw [Int.pow_zero], rfl⟩
  · intro i σ h' _ _; trivial
  · rintro i m σ h' em ⟨x, rfl, rfl⟩
    obtain ⟨hi, rfl⟩ := rng_get em
    simp only [e_var_v, e_var_t, e_var_q, e_var_i, e_int_v, e_int_t, e_int_q, e_int_i, e_bl_v, e_bl_t, e_bl_q, e_bl_i, e_non_v, e_non_t, e_non_q, e_non_i, e_str_v, e_str_t, e_str_q, e_str_i, e_glob_v, e_glob_t, e_glob_q, e_glob_i, e_neg_v, e_neg_t, e_neg_q, e_neg_i, e_ife_v, e_ife_t, e_ife_q, e_ife_i, e_tup_v, e_tup_t, e_tup_q, e_tup_i, e_ix_v, e_ix_t, e_ix_q, e_ix_i, e_sl_v, e_sl_t, e_sl_q, e_sl_i, e_call_v, e_call_t, e_call_q, e_call_i, e_bi_v, e_bi_t, e_bi_q, e_bi_i, e_bq_v, e_bq_t, e_bq_q, e_bq_i, e_meth_v, e_meth_t, e_meth_q, e_meth_i, e_lst_v, e_lst_q, e_lst_i, e_bl1_v, e_bl1_q, e_bl1_i, e_comp_v, e_comp_q, e_comp_i, e_sub_v, e_fdiv_v, e_mod_v, e_pow_v, e_add_v, e_mul_v, e_add_q, e_mul_q, e_add_i, e_mul_i, e_not_v, e_not_t, e_and_v, e_and_t, e_or_v, e_or_t, e_cmp_v, e_cmp_t, e_rng_i, e_enum_i, e_zip_i, e_nil_a, e_cons_a, e_var_g, e_ix_g, e_tup_g, e_nil_gs, e_cons_gs, o_add, o_sub, o_add2, o_addt, o_mul, o_fdiv, o_mod, o_pow, o_aug, o_neg, m_eq, m_ne, m_lt, m_le, m_gt, m_ge, m_eqs, m_is, m_isnot, n_non, n_ref, n_int, n_tup, b_abs, b_int, b_len, b_max, b_min, l_list, r_1, r_2, t_bl, t_int, t_non, q_tup, q_rol, a_bl, d_none, d_some, d_int, u_all, u_if, g_nil, g_cons, isL_nil, isL_var, isL_int, isL_bl, isL_non, isL_str, isL_glob, isL_neg, isL_not, isL_and, isL_or, isL_ife, isL_cmp, isL_tup, isL_ix, isL_sl, isL_call, isL_bi, isL_bq, isL_meth, isL_rev, isL_step2, isL_lst, isL_bl1, isL_comp, isL_add, isL_mul, isL_sub, isL_fdiv, isL_mod, isL_pow, reduceIte, Bool.or_self, Bool.false_eq_true, isNonE, isNil, lenE, wipeM, Bool.or_true, Bool.true_or, Bool.or_false, List.getElem?_cons_succ, List.getElem?_cons_zero, List.set_cons_succ, List.set_cons_zero, List.length_cons, List.length_nil, List.length_map, rngL_length]
    refine st_asg1 ?_
    simp only [e_var_v, e_var_t, e_var_q, e_var_i, e_int_v, e_int_t, e_int_q, e_int_i, e_bl_v, e_bl_t, e_bl_q, e_bl_i, e_non_v, e_non_t, e_non_q, e_non_i, e_str_v, e_str_t, e_str_q, e_str_i, e_glob_v, e_glob_t, e_glob_q, e_glob_i, e_neg_v, e_neg_t, e_neg_q, e_neg_i, e_ife_v, e_ife_t, e_ife_q, e_ife_i, e_tup_v, e_tup_t, e_tup_q, e_tup_i, e_ix_v, e_ix_t, e_ix_q, e_ix_i, e_sl_v, e_sl_t, e_sl_q, e_sl_i, e_call_v, e_call_t, e_call_q, e_call_i, e_bi_v, e_bi_t, e_bi_q, e_bi_i, e_bq_v, e_bq_t, e_bq_q, e_bq_i, e_meth_v, e_meth_t, e_meth_q, e_meth_i, e_lst_v, e_lst_q, e_lst_i, e_bl1_v, e_bl1_q, e_bl1_i, e_comp_v, e_comp_q, e_comp_i, e_sub_v, e_fdiv_v, e_mod_v, e_pow_v, e_add_v, e_mul_v, e_add_q, e_mul_q, e_add_i, e_mul_i, e_not_v, e_not_t, e_and_v, e_and_t, e_or_v, e_or_t, e_cmp_v, e_cmp_t, e_rng_i, e_enum_i, e_zip_i, e_nil_a, e_cons_a, e_var_g, e_ix_g, e_tup_g, e_nil_gs, e_cons_gs, o_add, o_sub, o_add2, o_addt, o_mul, o_fdiv, o_mod, o_pow, o_aug, o_neg, m_eq, m_ne, m_lt, m_le, m_gt, m_ge, m_eqs, m_is, m_isnot, n_non, n_ref, n_int, n_tup, b_abs, b_int, b_len, b_max, b_min, l_list, r_1, r_2, t_bl, t_int, t_non, q_tup, q_rol, a_bl, d_none, d_some, d_int, u_all, u_if, g_nil, g_cons, isL_nil, isL_var, isL_int, isL_bl, isL_non, isL_str, isL_glob, isL_neg, isL_not, isL_and, isL_or, isL_ife, isL_cmp, isL_tup, isL_ix, isL_sl, isL_call, isL_bi, isL_bq, isL_meth, isL_rev, isL_step2, isL_lst, isL_bl1, isL_comp, isL_add, isL_mul, isL_sub, isL_fdiv, isL_mod, isL_pow, reduceIte, Bool.or_self, Bool.false_eq_true, isNonE, isNil, lenE, wipeM, Bool.or_true, Bool.true_or, Bool.or_false, List.getElem?_cons_succ, List.getElem?_cons_zero, List.set_cons_succ, List.set_cons_zero, List.length_cons, List.length_nil, List.length_map, rngL_length]
    refine ⟨?_, _, Sub.refl _, _, by rw [Int.pow_succ], rfl⟩
    have b1 := pow_bnd (a := a) (e := (i : Int)) (x := a ^ i) (by omega) (by omega) h2 h3 (by have := one_le_pow h2 i; omega) (by rw [show ((i : Nat) : Int).toNat = i by omega]; exact Int.le_refl _)
    have b2 := log2_le h3 (by decide)
    unfold MulOk; omega
  · rintro σ h' ⟨x, rfl, rfl⟩
    refine st_ret ?_
    simp only [e_var_v, e_var_t, e_var_q, e_var_i, e_int_v, e_int_t, e_int_q, e_int_i, e_bl_v, e_bl_t, e_bl_q, e_bl_i, e_non_v, e_non_t, e_non_q, e_non_i, e_str_v, e_str_t, e_str_q, e_str_i, e_glob_v, e_glob_t, e_glob_q, e_glob_i, e_neg_v, e_neg_t, e_neg_q, e_neg_i, e_ife_v, e_ife_t, e_ife_q, e_ife_i, e_tup_v, e_tup_t, e_tup_q, e_tup_i, e_ix_v, e_ix_t, e_ix_q, e_ix_i, e_sl_v, e_sl_t, e_sl_q, e_sl_i, e_call_v, e_call_t, e_call_q, e_call_i, e_bi_v, e_bi_t, e_bi_q, e_bi_i, e_bq_v, e_bq_t, e_bq_q, e_bq_i, e_meth_v, e_meth_t, e_meth_q, e_meth_i, e_lst_v, e_lst_q, e_lst_i, e_bl1_v, e_bl1_q, e_bl1_i, e_comp_v, e_comp_q, e_comp_i, e_sub_v, e_fdiv_v, e_mod_v, e_pow_v, e_add_v, e_mul_v, e_add_q, e_mul_q, e_add_i, e_mul_i, e_not_v, e_not_t, e_and_v, e_and_t, e_or_v, e_or_t, e_cmp_v, e_cmp_t, e_rng_i, e_enum_i, e_zip_i, e_nil_a, e_cons_a, e_var_g, e_ix_g, e_tup_g, e_nil_gs, e_cons_gs, o_add, o_sub, o_add2, o_addt, o_mul, o_fdiv, o_mod, o_pow, o_aug, o_neg, m_eq, m_ne, m_lt, m_le, m_gt, m_ge, m_eqs, m_is, m_isnot, n_non, n_ref, n_int, n_tup, b_abs, b_int, b_len, b_max, b_min, l_list, r_1, r_2, t_bl, t_int, t_non, q_tup, q_rol, a_bl, d_none, d_some, d_int, u_all, u_if, g_nil, g_cons, isL_nil, isL_var, isL_int, isL_bl, isL_non, isL_str, isL_glob, isL_neg, isL_not, isL_and, isL_or, isL_ife, isL_cmp, isL_tup, isL_ix, isL_sl, isL_call, isL_bi, isL_bq, isL_meth, isL_rev, isL_step2, isL_lst, isL_bl1, isL_comp, isL_add, isL_mul, isL_sub, isL_fdiv, isL_mod, isL_pow, reduceIte, Bool.or_self, Bool.false_eq_true, isNonE, isNil, lenE, wipeM, Bool.or_true, Bool.true_or, Bool.or_false, List.getElem?_cons_succ, List.getElem?_cons_zero, List.set_cons_succ, List.set_cons_zero, List.length_cons, List.length_nil, List.length_map, rngL_length]
    exact ⟨_, Sub.refl _, q⟩
def primes : List Int := [3, 5, 7, 11, 13, 17, 19, 23, 29, 31, 37, 41, 43, 47, 53, 59, 61]
def spPrimes : SpM := fun ms h Q _ => ms = [] ∧ ∀ r, h r = none → Q (.ref r) (put h r (LI primes))
theorem keeps_primes (Φ : Phi) (hΦ : Φ.Mono) : Keeps Φ 0 t_law_primes spPrimes := by
  intro ms h Q hsp
  obtain ⟨rfl, post⟩ := hsp
  change wS Φ W0 _ _ [] h
  unfold t_law_primes
  refine st_ret ?_
  simp only [e_var_v, e_var_t, e_var_q, e_var_i, e_int_v, e_int_t, e_int_q, e_int_i, e_bl_v, e_bl_t, e_bl_q, e_bl_i, e_non_v, e_non_t, e_non_q, e_non_i, e_str_v, e_str_t, e_str_q, e_str_i, e_glob_v, e_glob_t, e_glob_q, e_glob_i, e_neg_v, e_neg_t, e_neg_q, e_neg_i, e_ife_v, e_ife_t, e_ife_q, e_ife_i, e_tup_v, e_tup_t, e_tup_q, e_tup_i, e_ix_v, e_ix_t, e_ix_q, e_ix_i, e_sl_v, e_sl_t, e_sl_q, e_sl_i, e_call_v, e_call_t, e_call_q, e_call_i, e_bi_v, e_bi_t, e_bi_q, e_bi_i, e_bq_v, e_bq_t, e_bq_q, e_bq_i, e_meth_v, e_meth_t, e_meth_q, e_meth_i, e_lst_v, e_lst_q, e_lst_i, e_bl1_v, e_bl1_q, e_bl1_i, e_comp_v, e_comp_q, e_comp_i, e_sub_v, e_fdiv_v, e_mod_v, e_pow_v, e_add_v, e_mul_v, e_add_q, e_mul_q, e_add_i, e_mul_i, e_not_v, e_not_t, e_and_v, e_and_t, e_or_v, e_or_t, e_cmp_v, e_cmp_t, e_rng_i, e_enum_i, e_zip_i, e_nil_a, e_cons_a, e_var_g, e_ix_g, e_tup_g, e_nil_gs, e_cons_gs, o_add, o_sub, o_add2, o_addt, o_mul, o_fdiv, o_mod, o_pow, o_aug, o_neg, m_eq, m_ne, m_lt, m_le, m_gt, m_ge, m_eqs, m_is, m_isnot, n_non, n_ref, n_int, n_tup, b_abs, b_int, b_len, b_max, b_min, l_list, r_1, r_2, t_bl, t_int, t_non, q_tup, q_rol, a_bl, d_none, d_some, d_int, u_all, u_if, g_nil, g_cons, isL_nil, isL_var, isL_int, isL_bl, isL_non, isL_str, isL_glob, isL_neg, isL_not, isL_and, isL_or, isL_ife, isL_cmp, isL_tup, isL_ix, isL_sl, isL_call, isL_bi, isL_bq, isL_meth, isL_rev, isL_step2, isL_lst, isL_bl1, isL_comp, isL_add, isL_mul, isL_sub, isL_fdiv, isL_mod, isL_pow, reduceIte, Bool.or_self, Bool.false_eq_true, isNonE, isNil, lenE, wipeM, Bool.or_true, Bool.true_or, Bool.or_false, List.getElem?_cons_succ, List.getElem?_cons_zero, List.set_cons_succ, List.set_cons_zero, List.length_cons, List.length_nil, List.length_map, rngL_length]
  exact ⟨by omega, trivial, fun r nr => ⟨_, Sub.refl _, post r nr⟩⟩
/-! ### the sums, as the law has them: with the other sign, a nought ahead -/
def fsums (xs : List Int) (most : Nat) : List Int := (List.range (most + 1)).map fun k => - ps (cf xs) k
theorem fsums_len (xs : List Int) (n : Nat) : (fsums xs n).length = n + 1 := by simp [fsums]
theorem fsums_get {xs : List Int} {n k : Nat} (h : k ≤ n) : (fsums xs n).getD k 0 = - ps (cf xs) k := by
  rw [List.getD_eq_getElem?_getD]; simp [fsums, Nat.lt_succ_of_le h]
def spSums : SpM := fun ms h Q _ => ∃ (a : Nat) (xs : List Int) (most : Nat), ms = [.ref a, .int (most : Nat)] ∧ h a = some (LI xs) ∧ most ≤ 40 ∧ xs.length ≤ 1000 ∧ (∀ c ∈ xs, c.natAbs ≤ 2 ^ 54) ∧
  ∀ r, h r = none → Q (.ref r) (put h r (LI (fsums xs most)))
theorem keeps_sums (Φ : Phi) (hΦ : Φ.Mono) : Keeps Φ 6 t_law_sums spSums := by
  intro ms h Q hsp
  obtain ⟨a, xs, most, rfl, ha, hm, hlen, hx, post⟩ := hsp
  change wS Φ W0 _ _ [some (.ref a), some (.int (most : Nat)), none, none, none, none] h
  unfold t_law_sums
  refine st_asg hΦ ?_
  simp only [e_var_v, e_var_t, e_var_q, e_var_i, e_int_v, e_int_t, e_int_q, e_int_i, e_bl_v, e_bl_t, e_bl_q, e_bl_i, e_non_v, e_non_t, e_non_q, e_non_i, e_str_v, e_str_t, e_str_q, e_str_i, e_glob_v, e_glob_t, e_glob_q, e_glob_i, e_neg_v, e_neg_t, e_neg_q, e_neg_i, e_ife_v, e_ife_t, e_ife_q, e_ife_i, e_tup_v, e_tup_t, e_tup_q, e_tup_i, e_ix_v, e_ix_t, e_ix_q, e_ix_i, e_sl_v, e_sl_t, e_sl_q, e_sl_i, e_call_v, e_call_t, e_call_q, e_call_i, e_bi_v, e_bi_t, e_bi_q, e_bi_i, e_bq_v, e_bq_t, e_bq_q, e_bq_i, e_meth_v, e_meth_t, e_meth_q, e_meth_i, e_lst_v, e_lst_q, e_lst_i, e_bl1_v, e_bl1_q, e_bl1_i, e_comp_v, e_comp_q, e_comp_i, e_sub_v, e_fdiv_v, e_mod_v, e_pow_v, e_add_v, e_mul_v, e_add_q, e_mul_q, e_add_i, e_mul_i, e_not_v, e_not_t, e_and_v, e_and_t, e_or_v, e_or_t, e_cmp_v, e_cmp_t, e_rng_i, e_enum_i, e_zip_i, e_nil_a, e_cons_a, e_var_g, e_ix_g, e_tup_g, e_nil_gs, e_cons_gs, o_add, o_sub, o_add2, o_addt, o_mul, o_fdiv, o_mod, o_pow, o_aug, o_neg, m_eq, m_ne, m_lt, m_le, m_gt, m_ge, m_eqs, m_is, m_isnot, n_non, n_ref, n_int, n_tup, b_abs, b_int, b_len, b_max, b_min, l_list, r_1, r_2, t_bl, t_int, t_non, q_tup, q_rol, a_bl, d_none, d_some, d_int, u_all, u_if, g_nil, g_cons, isL_nil, isL_var, isL_int, isL_bl, isL_non, isL_str, isL_glob, isL_neg, isL_not, isL_and, isL_or, isL_ife, isL_cmp, isL_tup, isL_ix, isL_sl, isL_call, isL_bi, isL_bq, isL_meth, isL_rev, isL_step2, isL_lst, isL_bl1, isL_comp, isL_add, isL_mul, isL_sub, isL_fdiv, isL_mod, isL_pow, reduceIte, Bool.or_self, Bool.false_eq_true, isNonE, isNil, lenE, wipeM, Bool.or_true, Bool.true_or, Bool.or_false, List.getElem?_cons_succ, List.getElem?_cons_zero, List.set_cons_succ, List.set_cons_zero, List.length_cons, List.length_nil, List.length_map, rngL_length]
  refine ⟨by omega, trivial, fun r nr => ?_⟩
  have hap : ∀ o, put h r o a = some (LI xs) := fun o => (put_ne (mh_ne ha nr)).trans ha
  have hln : ∀ o, lenM (.ref a) (put h r o) = some xs.length := fun o => len_int (hap o)
  have bx : ∀ i, (cf xs i).natAbs ≤ 2 ^ 54 := cf_bnd hx
  have blog : ∀ i, (cf xs i).natAbs.log2 < 56 := fun i => log2_le (Nat.lt_of_le_of_lt (bx i) (by decide)) (by decide)
  have zero : ∀ i, xs.length ≤ i → cf xs i = 0 := fun i hi => by
    show xs.getD i 0 = 0
    rw [List.getD_eq_getElem?_getD, List.getElem?_eq_none (by omega)]; rfl
  refine st_for hΦ ?_
  simp only [e_var_v, e_var_t, e_var_q, e_var_i, e_int_v, e_int_t, e_int_q, e_int_i, e_bl_v, e_bl_t, e_bl_q, e_bl_i, e_non_v, e_non_t, e_non_q, e_non_i, e_str_v, e_str_t, e_str_q, e_str_i, e_glob_v, e_glob_t, e_glob_q, e_glob_i, e_neg_v, e_neg_t, e_neg_q, e_neg_i, e_ife_v, e_ife_t, e_ife_q, e_ife_i, e_tup_v, e_tup_t, e_tup_q, e_tup_i, e_ix_v, e_ix_t, e_ix_q, e_ix_i, e_sl_v, e_sl_t, e_sl_q, e_sl_i, e_call_v, e_call_t, e_call_q, e_call_i, e_bi_v, e_bi_t, e_bi_q, e_bi_i, e_bq_v, e_bq_t, e_bq_q, e_bq_i, e_meth_v, e_meth_t, e_meth_q, e_meth_i, e_lst_v, e_lst_q, e_lst_i, e_bl1_v, e_bl1_q, e_bl1_i, e_comp_v, e_comp_q, e_comp_i, e_sub_v, e_fdiv_v, e_mod_v, e_pow_v, e_add_v, e_mul_v, e_add_q, e_mul_q, e_add_i, e_mul_i, e_not_v, e_not_t, e_and_v, e_and_t, e_or_v, e_or_t, e_cmp_v, e_cmp_t, e_rng_i, e_enum_i, e_zip_i, e_nil_a, e_cons_a, e_var_g, e_ix_g, e_tup_g, e_nil_gs, e_cons_gs, o_add, o_sub, o_add2, o_addt, o_mul, o_fdiv, o_mod, o_pow, o_aug, o_neg, m_eq, m_ne, m_lt, m_le, m_gt, m_ge, m_eqs, m_is, m_isnot, n_non, n_ref, n_int, n_tup, b_abs, b_int, b_len, b_max, b_min, l_list, r_1, r_2, t_bl, t_int, t_non, q_tup, q_rol, a_bl, d_none, d_some, d_int, u_all, u_if, g_nil, g_cons, isL_nil, isL_var, isL_int, isL_bl, isL_non, isL_str, isL_glob, isL_neg, isL_not, isL_and, isL_or, isL_ife, isL_cmp, isL_tup, isL_ix, isL_sl, isL_call, isL_bi, isL_bq, isL_meth, isL_rev, isL_step2, isL_lst, isL_bl1, isL_comp, isL_add, isL_mul, isL_sub, isL_fdiv, isL_mod, isL_pow, reduceIte, Bool.or_self, Bool.false_eq_true, isNonE, isNil, lenE, wipeM, Bool.or_true, Bool.true_or, Bool.or_false, List.getElem?_cons_succ, List.getElem?_cons_zero, List.set_cons_succ, List.set_cons_zero, List.length_cons, List.length_nil, List.length_map, rngL_length]
  refine ⟨by omega, ?_⟩
  refine ⟨fun i σ h' => ∃ x3 x4 x5, σ = [some (.ref a), some (.int (most : Nat)), some (.ref r), x3, x4, x5] ∧ h' = put h r (LI (fsums xs i)), ?_, ?_, ?_, ?_⟩
  · exact ⟨none, none, none, rfl, rfl⟩
  · intro i σ h' _ _; trivial
  · rintro i m σ h' em ⟨x3, x4, x5, rfl, rfl⟩
    obtain ⟨hi, rfl⟩ := rng_get em
    have hsl := fsums_len xs i
    simp only [e_var_v, e_var_t, e_var_q, e_var_i, e_int_v, e_int_t, e_int_q, e_int_i, e_bl_v, e_bl_t, e_bl_q, e_bl_i, e_non_v, e_non_t, e_non_q, e_non_i, e_str_v, e_str_t, e_str_q, e_str_i, e_glob_v, e_glob_t, e_glob_q, e_glob_i, e_neg_v, e_neg_t, e_neg_q, e_neg_i, e_ife_v, e_ife_t, e_ife_q, e_ife_i, e_tup_v, e_tup_t, e_tup_q, e_tup_i, e_ix_v, e_ix_t, e_ix_q, e_ix_i, e_sl_v, e_sl_t, e_sl_q, e_sl_i, e_call_v, e_call_t, e_call_q, e_call_i, e_bi_v, e_bi_t, e_bi_q, e_bi_i, e_bq_v, e_bq_t, e_bq_q, e_bq_i, e_meth_v, e_meth_t, e_meth_q, e_meth_i, e_lst_v, e_lst_q, e_lst_i, e_bl1_v, e_bl1_q, e_bl1_i, e_comp_v, e_comp_q, e_comp_i, e_sub_v, e_fdiv_v, e_mod_v, e_pow_v, e_add_v, e_mul_v, e_add_q, e_mul_q, e_add_i, e_mul_i, e_not_v, e_not_t, e_and_v, e_and_t, e_or_v, e_or_t, e_cmp_v, e_cmp_t, e_rng_i, e_enum_i, e_zip_i, e_nil_a, e_cons_a, e_var_g, e_ix_g, e_tup_g, e_nil_gs, e_cons_gs, o_add, o_sub, o_add2, o_addt, o_mul, o_fdiv, o_mod, o_pow, o_aug, o_neg, m_eq, m_ne, m_lt, m_le, m_gt, m_ge, m_eqs, m_is, m_isnot, n_non, n_ref, n_int, n_tup, b_abs, b_int, b_len, b_max, b_min, l_list, r_1, r_2, t_bl, t_int, t_non, q_tup, q_rol, a_bl, d_none, d_some, d_int, u_all, u_if, g_nil, g_cons, isL_nil, isL_var, isL_int, isL_bl, isL_non, isL_str, isL_glob, isL_neg, isL_not, isL_and, isL_or, isL_ife, isL_cmp, isL_tup, isL_ix, isL_sl, isL_call, isL_bi, isL_bq, isL_meth, isL_rev, isL_step2, isL_lst, isL_bl1, isL_comp, isL_add, isL_mul, isL_sub, isL_fdiv, isL_mod, isL_pow, reduceIte, Bool.or_self, Bool.false_eq_true, isNonE, isNil, lenE, wipeM, Bool.or_true, Bool.true_or, Bool.or_false, List.getElem?_cons_succ, List.getElem?_cons_zero, List.set_cons_succ, List.set_cons_zero, List.length_cons, List.length_nil, List.length_map, rngL_length]
    have en : (1 + (i : Int) * 1) = (i : Int) + 1 := by omega
    rw [en]
    refine st_asg hΦ ?_
    simp only [e_var_v, e_var_t, e_var_q, e_var_i, e_int_v, e_int_t, e_int_q, e_int_i, e_bl_v, e_bl_t, e_bl_q, e_bl_i, e_non_v, e_non_t, e_non_q, e_non_i, e_str_v, e_str_t, e_str_q, e_str_i, e_glob_v, e_glob_t, e_glob_q, e_glob_i, e_neg_v, e_neg_t, e_neg_q, e_neg_i, e_ife_v, e_ife_t, e_ife_q, e_ife_i, e_tup_v, e_tup_t, e_tup_q, e_tup_i, e_ix_v, e_ix_t, e_ix_q, e_ix_i, e_sl_v, e_sl_t, e_sl_q, e_sl_i, e_call_v, e_call_t, e_call_q, e_call_i, e_bi_v, e_bi_t, e_bi_q, e_bi_i, e_bq_v, e_bq_t, e_bq_q, e_bq_i, e_meth_v, e_meth_t, e_meth_q, e_meth_i, e_lst_v, e_lst_q, e_lst_i, e_bl1_v, e_bl1_q, e_bl1_i, e_comp_v, e_comp_q, e_comp_i, e_sub_v, e_fdiv_v, e_mod_v, e_pow_v, e_add_v, e_mul_v, e_add_q, e_mul_q, e_add_i, e_mul_i, e_not_v, e_not_t, e_and_v, e_and_t, e_or_v, e_or_t, e_cmp_v, e_cmp_t, e_rng_i, e_enum_i, e_zip_i, e_nil_a, e_cons_a, e_var_g, e_ix_g, e_tup_g, e_nil_gs, e_cons_gs, o_add, o_sub, o_add2, o_addt, o_mul, o_fdiv, o_mod, o_pow, o_aug, o_neg, m_eq, m_ne, m_lt, m_le, m_gt, m_ge, m_eqs, m_is, m_isnot, n_non, n_ref, n_int, n_tup, b_abs, b_int, b_len, b_max, b_min, l_list, r_1, r_2, t_bl, t_int, t_non, q_tup, q_rol, a_bl, d_none, d_some, d_int, u_all, u_if, g_nil, g_cons, isL_nil, isL_var, isL_int, isL_bl, isL_non, isL_str, isL_glob, isL_neg, isL_not, isL_and, isL_or, isL_ife, isL_cmp, isL_tup, isL_ix, isL_sl, isL_call, isL_bi, isL_bq, isL_meth, isL_rev, isL_step2, isL_lst, isL_bl1, isL_comp, isL_add, isL_mul, isL_sub, isL_fdiv, isL_mod, isL_pow, reduceIte, Bool.or_self, Bool.false_eq_true, isNonE, isNil, lenE, wipeM, Bool.or_true, Bool.true_or, Bool.or_false, List.getElem?_cons_succ, List.getElem?_cons_zero, List.set_cons_succ, List.set_cons_zero, List.length_cons, List.length_nil, List.length_map, rngL_length]
    -- the walk over the earlier sums
    have next : ∀ D : DM, (∀ x5, D.nx [some (.ref a), some (.int (most : Nat)), some (.ref r), some (.int ((i : Int) + 1)), some (.int (- ps (cf xs) (i + 1))), x5] (put h r (LI (fsums xs (i + 1))))) →
        wS Φ W0 (.seq (.for_ (.var 5) (.rng (.cons (.int 1) (.cons (.var 3) .nil))) (.iff (.cmp .lt (.var 5) (.bi .len (.cons (.var 0) .nil))) (.asg (.var 4) (.op .sub (.var 4) (.op .mul (.ix (.var 0) (.var 5)) (.ix (.var 2) (.op .sub (.var 3) (.var 5)))))) .skip)) (.expr (.meth .append (.var 2) (.cons (.var 4) .nil)))) D
        [some (.ref a), some (.int (most : Nat)), some (.ref r), some (.int ((i : Int) + 1)), some (.int (-(((i : Int) + 1) * cf xs (i + 1)))), x5] (put h r (LI (fsums xs i))) := by
      intro D hD
      refine st_for hΦ ?_
      simp only [e_var_v, e_var_t, e_var_q, e_var_i, e_int_v, e_int_t, e_int_q, e_int_i, e_bl_v, e_bl_t, e_bl_q, e_bl_i, e_non_v, e_non_t, e_non_q, e_non_i, e_str_v, e_str_t, e_str_q, e_str_i, e_glob_v, e_glob_t, e_glob_q, e_glob_i, e_neg_v, e_neg_t, e_neg_q, e_neg_i, e_ife_v, e_ife_t, e_ife_q, e_ife_i, e_tup_v, e_tup_t, e_tup_q, e_tup_i, e_ix_v, e_ix_t, e_ix_q, e_ix_i, e_sl_v, e_sl_t, e_sl_q, e_sl_i, e_call_v, e_call_t, e_call_q, e_call_i, e_bi_v, e_bi_t, e_bi_q, e_bi_i, e_bq_v, e_bq_t, e_bq_q, e_bq_i, e_meth_v, e_meth_t, e_meth_q, e_meth_i, e_lst_v, e_lst_q, e_lst_i, e_bl1_v, e_bl1_q, e_bl1_i, e_comp_v, e_comp_q, e_comp_i, e_sub_v, e_fdiv_v, e_mod_v, e_pow_v, e_add_v, e_mul_v, e_add_q, e_mul_q, e_add_i, e_mul_i, e_not_v, e_not_t, e_and_v, e_and_t, e_or_v, e_or_t, e_cmp_v, e_cmp_t, e_rng_i, e_enum_i, e_zip_i, e_nil_a, e_cons_a, e_var_g, e_ix_g, e_tup_g, e_nil_gs, e_cons_gs, o_add, o_sub, o_add2, o_addt, o_mul, o_fdiv, o_mod, o_pow, o_aug, o_neg, m_eq, m_ne, m_lt, m_le, m_gt, m_ge, m_eqs, m_is, m_isnot, n_non, n_ref, n_int, n_tup, b_abs, b_int, b_len, b_max, b_min, l_list, r_1, r_2, t_bl, t_int, t_non, q_tup, q_rol, a_bl, d_none, d_some, d_int, u_all, u_if, g_nil, g_cons, isL_nil, isL_var, isL_int, isL_bl, isL_non, isL_str, isL_glob, isL_neg, isL_not, isL_and, isL_or, isL_ife, isL_cmp, isL_tup, isL_ix, isL_sl, isL_call, isL_bi, isL_bq, isL_meth, isL_rev, isL_step2, isL_lst, isL_bl1, isL_comp, isL_add, isL_mul, isL_sub, isL_fdiv, isL_mod, isL_pow, reduceIte, Bool.or_self, Bool.false_eq_true, isNonE, isNil, lenE, wipeM, Bool.or_true, Bool.true_or, Bool.or_false, List.getElem?_cons_succ, List.getElem?_cons_zero, List.set_cons_succ, List.set_cons_zero, List.length_cons, List.length_nil, List.length_map, rngL_length]
      refine ⟨by omega, ?_⟩
      refine ⟨fun j σ h' => ∃ x5, σ = [some (.ref a), some (.int (most : Nat)), some (.ref r), some (.int ((i : Int) + 1)), some (.int (-(((i : Int) + 1) * cf xs (i + 1)) + sumN (fun j => ps (cf xs) (i - j) * cf xs (j + 1)) j)), x5] ∧ h' = put h r (LI (fsums xs i)), ?_, ?_, ?_, ?_⟩
      · exact ⟨x5, by simp [sumN], rfl⟩
      · intro i σ h' _ _; trivial
      · rintro j m σ h' em ⟨x5, rfl, rfl⟩
        obtain ⟨hj, rfl⟩ := rng_get em
        simp only [e_var_v, e_var_t, e_var_q, e_var_i, e_int_v, e_int_t, e_int_q, e_int_i, e_bl_v, e_bl_t, e_bl_q, e_bl_i, e_non_v, e_non_t, e_non_q, e_non_i, e_str_v, e_str_t, e_str_q, e_str_i, e_glob_v, e_glob_t, e_glob_q, e_glob_i, e_neg_v, e_neg_t, e_neg_q, e_neg_i, e_ife_v, e_ife_t, e_ife_q, e_ife_i, e_tup_v, e_tup_t, e_tup_q, e_tup_i, e_ix_v, e_ix_t, e_ix_q, e_ix_i, e_sl_v, e_sl_t, e_sl_q, e_sl_i, e_call_v, e_call_t, e_call_q, e_call_i, e_bi_v, e_bi_t, e_bi_q, e_bi_i, e_bq_v, e_bq_t, e_bq_q, e_bq_i, e_meth_v, e_meth_t, e_meth_q, e_meth_i, e_lst_v, e_lst_q, e_lst_i, e_bl1_v, e_bl1_q, e_bl1_i, e_comp_v, e_comp_q, e_comp_i, e_sub_v, e_fdiv_v, e_mod_v, e_pow_v, e_add_v, e_mul_v, e_add_q, e_mul_q, e_add_i, e_mul_i, e_not_v, e_not_t, e_and_v, e_and_t, e_or_v, e_or_t, e_cmp_v, e_cmp_t, e_rng_i, e_enum_i, e_zip_i, e_nil_a, e_cons_a, e_var_g, e_ix_g, e_tup_g, e_nil_gs, e_cons_gs, o_add, o_sub, o_add2, o_addt, o_mul, o_fdiv, o_mod, o_pow, o_aug, o_neg, m_eq, m_ne, m_lt, m_le, m_gt, m_ge, m_eqs, m_is, m_isnot, n_non, n_ref, n_int, n_tup, b_abs, b_int, b_len, b_max, b_min, l_list, r_1, r_2, t_bl, t_int, t_non, q_tup, q_rol, a_bl, d_none, d_some, d_int, u_all, u_if, g_nil, g_cons, isL_nil, isL_var, isL_int, isL_bl, isL_non, isL_str, isL_glob, isL_neg, isL_not, isL_and, isL_or, isL_ife, isL_cmp, isL_tup, isL_ix, isL_sl, isL_call, isL_bi, isL_bq, isL_meth, isL_rev, isL_step2, isL_lst, isL_bl1, isL_comp, isL_add, isL_mul, isL_sub, isL_fdiv, isL_mod, isL_pow, reduceIte, Bool.or_self, Bool.false_eq_true, isNonE, isNil, lenE, wipeM, Bool.or_true, Bool.true_or, Bool.or_false, List.getElem?_cons_succ, List.getElem?_cons_zero, List.set_cons_succ, List.set_cons_zero, List.length_cons, List.length_nil, List.length_map, rngL_length]
        refine st_if1 ?_
        simp only [e_var_v, e_var_t, e_var_q, e_var_i, e_int_v, e_int_t, e_int_q, e_int_i, e_bl_v, e_bl_t, e_bl_q, e_bl_i, e_non_v, e_non_t, e_non_q, e_non_i, e_str_v, e_str_t, e_str_q, e_str_i, e_glob_v, e_glob_t, e_glob_q, e_glob_i, e_neg_v, e_neg_t, e_neg_q, e_neg_i, e_ife_v, e_ife_t, e_ife_q, e_ife_i, e_tup_v, e_tup_t, e_tup_q, e_tup_i, e_ix_v, e_ix_t, e_ix_q, e_ix_i, e_sl_v, e_sl_t, e_sl_q, e_sl_i, e_call_v, e_call_t, e_call_q, e_call_i, e_bi_v, e_bi_t, e_bi_q, e_bi_i, e_bq_v, e_bq_t, e_bq_q, e_bq_i, e_meth_v, e_meth_t, e_meth_q, e_meth_i, e_lst_v, e_lst_q, e_lst_i, e_bl1_v, e_bl1_q, e_bl1_i, e_comp_v, e_comp_q, e_comp_i, e_sub_v, e_fdiv_v, e_mod_v, e_pow_v, e_add_v, e_mul_v, e_add_q, e_mul_q, e_add_i, e_mul_i, e_not_v, e_not_t, e_and_v, e_and_t, e_or_v, e_or_t, e_cmp_v, e_cmp_t, e_rng_i, e_enum_i, e_zip_i, e_nil_a, e_cons_a, e_var_g, e_ix_g, e_tup_g, e_nil_gs, e_cons_gs, o_add, o_sub, o_add2, o_addt, o_mul, o_fdiv, o_mod, o_pow, o_aug, o_neg, m_eq, m_ne, m_lt, m_le, m_gt, m_ge, m_eqs, m_is, m_isnot, n_non, n_ref, n_int, n_tup, b_abs, b_int, b_len, b_max, b_min, l_list, r_1, r_2, t_bl, t_int, t_non, q_tup, q_rol, a_bl, d_none, d_some, d_int, u_all, u_if, g_nil, g_cons, isL_nil, isL_var, isL_int, isL_bl, isL_non, isL_str, isL_glob, isL_neg, isL_not, isL_and, isL_or, isL_ife, isL_cmp, isL_tup, isL_ix, isL_sl, isL_call, isL_bi, isL_bq, isL_meth, isL_rev, isL_step2, isL_lst, isL_bl1, isL_comp, isL_add, isL_mul, isL_sub, isL_fdiv, isL_mod, isL_pow, reduceIte, Bool.or_self, Bool.false_eq_true, isNonE, isNil, lenE, wipeM, Bool.or_true, Bool.true_or, Bool.or_false, List.getElem?_cons_succ, List.getElem?_cons_zero, List.set_cons_succ, List.set_cons_zero, List.length_cons, List.length_nil, List.length_map, rngL_length, hln]
        by_cases z : 1 + (j : Int) * 1 < ((xs.length : Nat) : Int)
        · rw [if_pos (decide_eq_true z)]
          refine st_asg1 ?_
          simp only [e_var_v, e_var_t, e_var_q, e_var_i, e_int_v, e_int_t, e_int_q, e_int_i, e_bl_v, e_bl_t, e_bl_q, e_bl_i, e_non_v, e_non_t, e_non_q, e_non_i, e_str_v, e_str_t, e_str_q, e_str_i, e_glob_v, e_glob_t, e_glob_q, e_glob_i, e_neg_v, e_neg_t, e_neg_q, e_neg_i, e_ife_v, e_ife_t, e_ife_q, e_ife_i, e_tup_v, e_tup_t, e_tup_q, e_tup_i, e_ix_v, e_ix_t, e_ix_q, e_ix_i, e_sl_v, e_sl_t, e_sl_q, e_sl_i, e_call_v, e_call_t, e_call_q, e_call_i, e_bi_v, e_bi_t, e_bi_q, e_bi_i, e_bq_v, e_bq_t, e_bq_q, e_bq_i, e_meth_v, e_meth_t, e_meth_q, e_meth_i, e_lst_v, e_lst_q, e_lst_i, e_bl1_v, e_bl1_q, e_bl1_i, e_comp_v, e_comp_q, e_comp_i, e_sub_v, e_fdiv_v, e_mod_v, e_pow_v, e_add_v, e_mul_v, e_add_q, e_mul_q, e_add_i, e_mul_i, e_not_v, e_not_t, e_and_v, e_and_t, e_or_v, e_or_t, e_cmp_v, e_cmp_t, e_rng_i, e_enum_i, e_zip_i, e_nil_a, e_cons_a, e_var_g, e_ix_g, e_tup_g, e_nil_gs, e_cons_gs, o_add, o_sub, o_add2, o_addt, o_mul, o_fdiv, o_mod, o_pow, o_aug, o_neg, m_eq, m_ne, m_lt, m_le, m_gt, m_ge, m_eqs, m_is, m_isnot, n_non, n_ref, n_int, n_tup, b_abs, b_int, b_len, b_max, b_min, l_list, r_1, r_2, t_bl, t_int, t_non, q_tup, q_rol, a_bl, d_none, d_some, d_int, u_all, u_if, g_nil, g_cons, isL_nil, isL_var, isL_int, isL_bl, isL_non, isL_str, isL_glob, isL_neg, isL_not, isL_and, isL_or, isL_ife, isL_cmp, isL_tup, isL_ix, isL_sl, isL_call, isL_bi, isL_bq, isL_meth, isL_rev, isL_step2, isL_lst, isL_bl1, isL_comp, isL_add, isL_mul, isL_sub, isL_fdiv, isL_mod, isL_pow, reduceIte, Bool.or_self, Bool.false_eq_true, isNonE, isNil, lenE, wipeM, Bool.or_true, Bool.true_or, Bool.or_false, List.getElem?_cons_succ, List.getElem?_cons_zero, List.set_cons_succ, List.set_cons_zero, List.length_cons, List.length_nil, List.length_map, rngL_length]
          refine ix_int (hap _) (by omega) (by omega) ?_
          refine ix_int put_same (by omega) (by omega) ?_
          rw [show (1 + (j : Int) * 1).toNat = j + 1 by omega, show ((i : Int) + 1 - (1 + (j : Int) * 1)).toNat = i - j by omega, fsums_get (by omega)]
          simp only [e_var_v, e_var_t, e_var_q, e_var_i, e_int_v, e_int_t, e_int_q, e_int_i, e_bl_v, e_bl_t, e_bl_q, e_bl_i, e_non_v, e_non_t, e_non_q, e_non_i, e_str_v, e_str_t, e_str_q, e_str_i, e_glob_v, e_glob_t, e_glob_q, e_glob_i, e_neg_v, e_neg_t, e_neg_q, e_neg_i, e_ife_v, e_ife_t, e_ife_q, e_ife_i, e_tup_v, e_tup_t, e_tup_q, e_tup_i, e_ix_v, e_ix_t, e_ix_q, e_ix_i, e_sl_v, e_sl_t, e_sl_q, e_sl_i, e_call_v, e_call_t, e_call_q, e_call_i, e_bi_v, e_bi_t, e_bi_q, e_bi_i, e_bq_v, e_bq_t, e_bq_q, e_bq_i, e_meth_v, e_meth_t, e_meth_q, e_meth_i, e_lst_v, e_lst_q, e_lst_i, e_bl1_v, e_bl1_q, e_bl1_i, e_comp_v, e_comp_q, e_comp_i, e_sub_v, e_fdiv_v, e_mod_v, e_pow_v, e_add_v, e_mul_v, e_add_q, e_mul_q, e_add_i, e_mul_i, e_not_v, e_not_t, e_and_v, e_and_t, e_or_v, e_or_t, e_cmp_v, e_cmp_t, e_rng_i, e_enum_i, e_zip_i, e_nil_a, e_cons_a, e_var_g, e_ix_g, e_tup_g, e_nil_gs, e_cons_gs, o_add, o_sub, o_add2, o_addt, o_mul, o_fdiv, o_mod, o_pow, o_aug, o_neg, m_eq, m_ne, m_lt, m_le, m_gt, m_ge, m_eqs, m_is, m_isnot, n_non, n_ref, n_int, n_tup, b_abs, b_int, b_len, b_max, b_min, l_list, r_1, r_2, t_bl, t_int, t_non, q_tup, q_rol, a_bl, d_none, d_some, d_int, u_all, u_if, g_nil, g_cons, isL_nil, isL_var, isL_int, isL_bl, isL_non, isL_str, isL_glob, isL_neg, isL_not, isL_and, isL_or, isL_ife, isL_cmp, isL_tup, isL_ix, isL_sl, isL_call, isL_bi, isL_bq, isL_meth, isL_rev, isL_step2, isL_lst, isL_bl1, isL_comp, isL_add, isL_mul, isL_sub, isL_fdiv, isL_mod, isL_pow, reduceIte, Bool.or_self, Bool.false_eq_true, isNonE, isNil, lenE, wipeM, Bool.or_true, Bool.true_or, Bool.or_false, List.getElem?_cons_succ, List.getElem?_cons_zero, List.set_cons_succ, List.set_cons_zero, List.length_cons, List.length_nil, List.length_map, rngL_length]
          refine ⟨?_, _, Sub.refl _, some (.int (1 + (j : Int) * 1)), ?_, rfl⟩
          · have b1 := ps_log bx (n := i - j) (by omega)
            have b2 := blog (j + 1)
            have e : (- ps (cf xs) (i - j)).natAbs = (ps (cf xs) (i - j)).natAbs := Int.natAbs_neg _
            show ((cf xs (j + 1)).natAbs.log2 + (- ps (cf xs) (i - j)).natAbs.log2 < 1000000)
            rw [e]; omega
          · simp only [sumN, List.cons.injEq, Option.some.injEq, M.int.injEq, true_and, and_true]
            show _ - cf xs (j + 1) * _ = _
            grind
        · rw [if_neg (by simpa using z)]
          refine st_skip ?_
          refine ⟨_, Sub.refl _, some (.int (1 + (j : Int) * 1)), ?_, rfl⟩
          rw [sumN, zero (j + 1) (by omega), Int.mul_zero, Int.add_zero]
      · rintro σ h' ⟨x5, rfl, rfl⟩
        rw [show ((i : Int) + 1 - 1).toNat = i by omega]
        have es : -(((i : Int) + 1) * cf xs (i + 1)) + sumN (fun j => ps (cf xs) (i - j) * cf xs (j + 1)) i = - ps (cf xs) (i + 1) := by rw [ps_succ]; omega
        rw [es]
        refine st_expr1 ?_
        simp only [e_var_v, e_var_t, e_var_q, e_var_i, e_int_v, e_int_t, e_int_q, e_int_i, e_bl_v, e_bl_t, e_bl_q, e_bl_i, e_non_v, e_non_t, e_non_q, e_non_i, e_str_v, e_str_t, e_str_q, e_str_i, e_glob_v, e_glob_t, e_glob_q, e_glob_i, e_neg_v, e_neg_t, e_neg_q, e_neg_i, e_ife_v, e_ife_t, e_ife_q, e_ife_i, e_tup_v, e_tup_t, e_tup_q, e_tup_i, e_ix_v, e_ix_t, e_ix_q, e_ix_i, e_sl_v, e_sl_t, e_sl_q, e_sl_i, e_call_v, e_call_t, e_call_q, e_call_i, e_bi_v, e_bi_t, e_bi_q, e_bi_i, e_bq_v, e_bq_t, e_bq_q, e_bq_i, e_meth_v, e_meth_t, e_meth_q, e_meth_i, e_lst_v, e_lst_q, e_lst_i, e_bl1_v, e_bl1_q, e_bl1_i, e_comp_v, e_comp_q, e_comp_i, e_sub_v, e_fdiv_v, e_mod_v, e_pow_v, e_add_v, e_mul_v, e_add_q, e_mul_q, e_add_i, e_mul_i, e_not_v, e_not_t, e_and_v, e_and_t, e_or_v, e_or_t, e_cmp_v, e_cmp_t, e_rng_i, e_enum_i, e_zip_i, e_nil_a, e_cons_a, e_var_g, e_ix_g, e_tup_g, e_nil_gs, e_cons_gs, o_add, o_sub, o_add2, o_addt, o_mul, o_fdiv, o_mod, o_pow, o_aug, o_neg, m_eq, m_ne, m_lt, m_le, m_gt, m_ge, m_eqs, m_is, m_isnot, n_non, n_ref, n_int, n_tup, b_abs, b_int, b_len, b_max, b_min, l_list, r_1, r_2, t_bl, t_int, t_non, q_tup, q_rol, a_bl, d_none, d_some, d_int, u_all, u_if, g_nil, g_cons, isL_nil, isL_var, isL_int, isL_bl, isL_non, isL_str, isL_glob, isL_neg, isL_not, isL_and, isL_or, isL_ife, isL_cmp, isL_tup, isL_ix, isL_sl, isL_call, isL_bi, isL_bq, isL_meth, isL_rev, isL_step2, isL_lst, isL_bl1, isL_comp, isL_add, isL_mul, isL_sub, isL_fdiv, isL_mod, isL_pow, reduceIte, Bool.or_self, Bool.false_eq_true, isNonE, isNil, lenE, wipeM, Bool.or_true, Bool.true_or, Bool.or_false, List.getElem?_cons_succ, List.getElem?_cons_zero, List.set_cons_succ, List.set_cons_zero, List.length_cons, List.length_nil, List.length_map, rngL_length]
        refine ⟨lst_ok put_same, (append_ref put_same (by rw [List.length_map]; have := hSZ; omega) ?_).2⟩
        have el : put (put h r (LI (fsums xs i))) r (.lst ((fsums xs i).map M.int ++ [.int (- ps (cf xs) (i + 1))])) = put h r (LI (fsums xs (i + 1))) := by
          rw [put_put]
          congr 1
          unfold fsums
          simp [LI, List.range_succ]
        rw [el]
        exact hD x5
    refine st_iff hΦ ?_
    simp only [e_var_v, e_var_t, e_var_q, e_var_i, e_int_v, e_int_t, e_int_q, e_int_i, e_bl_v, e_bl_t, e_bl_q, e_bl_i, e_non_v, e_non_t, e_non_q, e_non_i, e_str_v, e_str_t, e_str_q, e_str_i, e_glob_v, e_glob_t, e_glob_q, e_glob_i, e_neg_v, e_neg_t, e_neg_q, e_neg_i, e_ife_v, e_ife_t, e_ife_q, e_ife_i, e_tup_v, e_tup_t, e_tup_q, e_tup_i, e_ix_v, e_ix_t, e_ix_q, e_ix_i, e_sl_v, e_sl_t, e_sl_q, e_sl_i, e_call_v, e_call_t, e_call_q, e_call_i, e_bi_v, e_bi_t, e_bi_q, e_bi_i, e_bq_v, e_bq_t, e_bq_q, e_bq_i, e_meth_v, e_meth_t, e_meth_q, e_meth_i, e_lst_v, e_lst_q, e_lst_i, e_bl1_v, e_bl1_q, e_bl1_i, e_comp_v, e_comp_q, e_comp_i, e_sub_v, e_fdiv_v, e_mod_v, e_pow_v, e_add_v, e_mul_v, e_add_q, e_mul_q, e_add_i, e_mul_i, e_not_v, e_not_t, e_and_v, e_and_t, e_or_v, e_or_t, e_cmp_v, e_cmp_t, e_rng_i, e_enum_i, e_zip_i, e_nil_a, e_cons_a, e_var_g, e_ix_g, e_tup_g, e_nil_gs, e_cons_gs, o_add, o_sub, o_add2, o_addt, o_mul, o_fdiv, o_mod, o_pow, o_aug, o_neg, m_eq, m_ne, m_lt, m_le, m_gt, m_ge, m_eqs, m_is, m_isnot, n_non, n_ref, n_int, n_tup, b_abs, b_int, b_len, b_max, b_min, l_list, r_1, r_2, t_bl, t_int, t_non, q_tup, q_rol, a_bl, d_none, d_some, d_int, u_all, u_if, g_nil, g_cons, isL_nil, isL_var, isL_int, isL_bl, isL_non, isL_str, isL_glob, isL_neg, isL_not, isL_and, isL_or, isL_ife, isL_cmp, isL_tup, isL_ix, isL_sl, isL_call, isL_bi, isL_bq, isL_meth, isL_rev, isL_step2, isL_lst, isL_bl1, isL_comp, isL_add, isL_mul, isL_sub, isL_fdiv, isL_mod, isL_pow, reduceIte, Bool.or_self, Bool.false_eq_true, isNonE, isNil, lenE, wipeM, Bool.or_true, Bool.true_or, Bool.or_false, List.getElem?_cons_succ, List.getElem?_cons_zero, List.set_cons_succ, List.set_cons_zero, List.length_cons, List.length_nil, List.length_map, rngL_length, hln]
    by_cases z : (i : Int) + 1 < ((xs.length : Nat) : Int)
    · rw [if_pos (decide_eq_true z)]
      refine st_asg1 ?_
      simp only [e_var_v, e_var_t, e_var_q, e_var_i, e_int_v, e_int_t, e_int_q, e_int_i, e_bl_v, e_bl_t, e_bl_q, e_bl_i, e_non_v, e_non_t, e_non_q, e_non_i, e_str_v, e_str_t, e_str_q, e_str_i, e_glob_v, e_glob_t, e_glob_q, e_glob_i, e_neg_v, e_neg_t, e_neg_q, e_neg_i, e_ife_v, e_ife_t, e_ife_q, e_ife_i, e_tup_v, e_tup_t, e_tup_q, e_tup_i, e_ix_v, e_ix_t, e_ix_q, e_ix_i, e_sl_v, e_sl_t, e_sl_q, e_sl_i, e_call_v, e_call_t, e_call_q, e_call_i, e_bi_v, e_bi_t, e_bi_q, e_bi_i, e_bq_v, e_bq_t, e_bq_q, e_bq_i, e_meth_v, e_meth_t, e_meth_q, e_meth_i, e_lst_v, e_lst_q, e_lst_i, e_bl1_v, e_bl1_q, e_bl1_i, e_comp_v, e_comp_q, e_comp_i, e_sub_v, e_fdiv_v, e_mod_v, e_pow_v, e_add_v, e_mul_v, e_add_q, e_mul_q, e_add_i, e_mul_i, e_not_v, e_not_t, e_and_v, e_and_t, e_or_v, e_or_t, e_cmp_v, e_cmp_t, e_rng_i, e_enum_i, e_zip_i, e_nil_a, e_cons_a, e_var_g, e_ix_g, e_tup_g, e_nil_gs, e_cons_gs, o_add, o_sub, o_add2, o_addt, o_mul, o_fdiv, o_mod, o_pow, o_aug, o_neg, m_eq, m_ne, m_lt, m_le, m_gt, m_ge, m_eqs, m_is, m_isnot, n_non, n_ref, n_int, n_tup, b_abs, b_int, b_len, b_max, b_min, l_list, r_1, r_2, t_bl, t_int, t_non, q_tup, q_rol, a_bl, d_none, d_some, d_int, u_all, u_if, g_nil, g_cons, isL_nil, isL_var, isL_int, isL_bl, isL_non, isL_str, isL_glob, isL_neg, isL_not, isL_and, isL_or, isL_ife, isL_cmp, isL_tup, isL_ix, isL_sl, isL_call, isL_bi, isL_bq, isL_meth, isL_rev, isL_step2, isL_lst, isL_bl1, isL_comp, isL_add, isL_mul, isL_sub, isL_fdiv, isL_mod, isL_pow, reduceIte, Bool.or_self, Bool.false_eq_true, isNonE, isNil, lenE, wipeM, Bool.or_true, Bool.true_or, Bool.or_false, List.getElem?_cons_succ, List.getElem?_cons_zero, List.set_cons_succ, List.set_cons_zero, List.length_cons, List.length_nil, List.length_map, rngL_length]
      refine ix_int (hap _) (by omega) (by omega) ?_
      rw [show ((i : Int) + 1).toNat = i + 1 by omega]
      simp only [e_var_v, e_var_t, e_var_q, e_var_i, e_int_v, e_int_t, e_int_q, e_int_i, e_bl_v, e_bl_t, e_bl_q, e_bl_i, e_non_v, e_non_t, e_non_q, e_non_i, e_str_v, e_str_t, e_str_q, e_str_i, e_glob_v, e_glob_t, e_glob_q, e_glob_i, e_neg_v, e_neg_t, e_neg_q, e_neg_i, e_ife_v, e_ife_t, e_ife_q, e_ife_i, e_tup_v, e_tup_t, e_tup_q, e_tup_i, e_ix_v, e_ix_t, e_ix_q, e_ix_i, e_sl_v, e_sl_t, e_sl_q, e_sl_i, e_call_v, e_call_t, e_call_q, e_call_i, e_bi_v, e_bi_t, e_bi_q, e_bi_i, e_bq_v, e_bq_t, e_bq_q, e_bq_i, e_meth_v, e_meth_t, e_meth_q, e_meth_i, e_lst_v, e_lst_q, e_lst_i, e_bl1_v, e_bl1_q, e_bl1_i, e_comp_v, e_comp_q, e_comp_i, e_sub_v, e_fdiv_v, e_mod_v, e_pow_v, e_add_v, e_mul_v, e_add_q, e_mul_q, e_add_i, e_mul_i, e_not_v, e_not_t, e_and_v, e_and_t, e_or_v, e_or_t, e_cmp_v, e_cmp_t, e_rng_i, e_enum_i, e_zip_i, e_nil_a, e_cons_a, e_var_g, e_ix_g, e_tup_g, e_nil_gs, e_cons_gs, o_add, o_sub, o_add2, o_addt, o_mul, o_fdiv, o_mod, o_pow, o_aug, o_neg, m_eq, m_ne, m_lt, m_le, m_gt, m_ge, m_eqs, m_is, m_isnot, n_non, n_ref, n_int, n_tup, b_abs, b_int, b_len, b_max, b_min, l_list, r_1, r_2, t_bl, t_int, t_non, q_tup, q_rol, a_bl, d_none, d_some, d_int, u_all, u_if, g_nil, g_cons, isL_nil, isL_var, isL_int, isL_bl, isL_non, isL_str, isL_glob, isL_neg, isL_not, isL_and, isL_or, isL_ife, isL_cmp, isL_tup, isL_ix, isL_sl, isL_call, isL_bi, isL_bq, isL_meth, isL_rev, isL_step2, isL_lst, isL_bl1, isL_comp, isL_add, isL_mul, isL_sub, isL_fdiv, isL_mod, isL_pow, reduceIte, Bool.or_self, Bool.false_eq_true, isNonE, isNil, lenE, wipeM, Bool.or_true, Bool.true_or, Bool.or_false, List.getElem?_cons_succ, List.getElem?_cons_zero, List.set_cons_succ, List.set_cons_zero, List.length_cons, List.length_nil, List.length_map, rngL_length]
      refine ⟨?_, ?_⟩
      · have b2 := blog (i + 1)
        have b3 : (-((i : Int) + 1)).natAbs.log2 < 62 := log2_le (by omega) (by omega)
        show ((-((i : Int) + 1)).natAbs.log2 + (cf xs (i + 1)).natAbs.log2 < 1000000)
        omega
      · rw [Int.neg_mul]
        exact next _ fun x5 => ⟨_, Sub.refl _, _, _, _, rfl, rfl⟩
    · rw [if_neg (by simpa using z)]
      refine st_skip ?_
      have e0 : (0 : Int) = -(((i : Int) + 1) * cf xs (i + 1)) := by rw [zero (i + 1) (by omega)]; simp
      rw [e0]
      exact next _ fun x5 => ⟨_, Sub.refl _, _, _, _, rfl, rfl⟩
  · rintro σ h' ⟨x3, x4, x5, rfl, rfl⟩
    rw [show (((most : Nat) : Int) + 1 - 1).toNat = most by omega]
    refine st_ret ?_
    simp only [e_var_v, e_var_t, e_var_q, e_var_i, e_int_v, e_int_t, e_int_q, e_int_i, e_bl_v, e_bl_t, e_bl_q, e_bl_i, e_non_v, e_non_t, e_non_q, e_non_i, e_str_v, e_str_t, e_str_q, e_str_i, e_glob_v, e_glob_t, e_glob_q, e_glob_i, e_neg_v, e_neg_t, e_neg_q, e_neg_i, e_ife_v, e_ife_t, e_ife_q, e_ife_i, e_tup_v, e_tup_t, e_tup_q, e_tup_i, e_ix_v, e_ix_t, e_ix_q, e_ix_i, e_sl_v, e_sl_t, e_sl_q, e_sl_i, e_call_v, e_call_t, e_call_q, e_call_i, e_bi_v, e_bi_t, e_bi_q, e_bi_i, e_bq_v, e_bq_t, e_bq_q, e_bq_i, e_meth_v, e_meth_t, e_meth_q, e_meth_i, e_lst_v, e_lst_q, e_lst_i, e_bl1_v, e_bl1_q, e_bl1_i, e_comp_v, e_comp_q, e_comp_i, e_sub_v, e_fdiv_v, e_mod_v, e_pow_v, e_add_v, e_mul_v, e_add_q, e_mul_q, e_add_i, e_mul_i, e_not_v, e_not_t, e_and_v, e_and_t, e_or_v, e_or_t, e_cmp_v, e_cmp_t, e_rng_i, e_enum_i, e_zip_i, e_nil_a, e_cons_a, e_var_g, e_ix_g, e_tup_g, e_nil_gs, e_cons_gs, o_add, o_sub, o_add2, o_addt, o_mul, o_fdiv, o_mod, o_pow, o_aug, o_neg, m_eq, m_ne, m_lt, m_le, m_gt, m_ge, m_eqs, m_is, m_isnot, n_non, n_ref, n_int, n_tup, b_abs, b_int, b_len, b_max, b_min, l_list, r_1, r_2, t_bl, t_int, t_non, q_tup, q_rol, a_bl, d_none, d_some, d_int, u_all, u_if, g_nil, g_cons, isL_nil, isL_var, isL_int, isL_bl, isL_non, isL_str, isL_glob, isL_neg, isL_not, isL_and, isL_or, isL_ife, isL_cmp, isL_tup, isL_ix, isL_sl, isL_call, isL_bi, isL_bq, isL_meth, isL_rev, isL_step2, isL_lst, isL_bl1, isL_comp, isL_add, isL_mul, isL_sub, isL_fdiv, isL_mod, isL_pow, reduceIte, Bool.or_self, Bool.false_eq_true, isNonE, isNil, lenE, wipeM, Bool.or_true, Bool.true_or, Bool.or_false, List.getElem?_cons_succ, List.getElem?_cons_zero, List.set_cons_succ, List.set_cons_zero, List.length_cons, List.length_nil, List.length_map, rngL_length]
    exact ⟨_, Sub.refl _, post r nr⟩
end Mp.K39

set_option Elab.async false
set_option linter.all false
set_option maxRecDepth 100000
set_option exponentiation.threshold 500
namespace Mp.K39
open PySem Mp
/-! ### _law_of_sums -/
def spOfSums : SpM := fun ms h Q _ => ∃ (a : Nat) (ss : List Int) (q : Int) (g : Nat), ms = [.ref a, .int q, .int (g : Nat)] ∧ h a = some (LI ss) ∧ ss.length = g + 1 ∧ g ≤ 40 ∧ (∀ k, 1 ≤ k → k ≤ g → (- ss.getD k 0).natAbs ≤ (2 ^ 301) ^ k) ∧ 1 ≤ q ∧ q.natAbs < 2 ^ 100 ∧
  match mk (fun k => - ss.getD k 0) g with
  | none => Q .non h
  | some l => ∀ p, h p = none → Q (.ref p) (put h p (LI (full q l g)))
theorem sumN_neg' (t : Sq) (l : List Int) (i : Nat) : - tot t l (i + 1) = sumN (fun j => - t (j + 1) * l.getD (i - j) 0) (i + 1) := by
  unfold tot
  rw [← sumN_neg, sumN_rev]
  exact sumN_congr fun j hj => by
    rw [show i + 1 - (i + 1 - 1 - j) = j + 1 by omega, show i + 1 - 1 - j = i - j by omega]; grind
theorem keeps_of_sums (Φ : Phi) (hΦ : Φ.Mono) (hr : Φ.fn "_law_raised" = spRaised) : Keeps Φ 7 t_law_of_sums spOfSums := by
  intro ms h Q hsp
  obtain ⟨a, ss, q, g, rfl, ha, hss, hg, ht, q1, q2, post⟩ := hsp
  generalize hT : (fun k => - ss.getD k 0 : Sq) = t at *
  have ht : ∀ k, 1 ≤ k → k ≤ g → (t k).natAbs ≤ (2 ^ 301) ^ k := fun k k1 k2 => by rw [← hT]; exact ht k k1 k2
  have hs : ∀ k, ss.getD k 0 = - t k := fun k => by rw [← hT]; simp
  change wS Φ W0 _ _ [some (.ref a), some (.int q), some (.int (g : Nat)), none, none, none, none] h
  unfold t_law_of_sums
  refine st_asg hΦ ?_
  simp only [e_var_v, e_var_t, e_var_q, e_var_i, e_int_v, e_int_t, e_int_q, e_int_i, e_bl_v, e_bl_t, e_bl_q, e_bl_i, e_non_v, e_non_t, e_non_q, e_non_i, e_str_v, e_str_t, e_str_q, e_str_i, e_glob_v, e_glob_t, e_glob_q, e_glob_i, e_neg_v, e_neg_t, e_neg_q, e_neg_i, e_ife_v, e_ife_t, e_ife_q, e_ife_i, e_tup_v, e_tup_t, e_tup_q, e_tup_i, e_ix_v, e_ix_t, e_ix_q, e_ix_i, e_sl_v, e_sl_t, e_sl_q, e_sl_i, e_call_v, e_call_t, e_call_q, e_call_i, e_bi_v, e_bi_t, e_bi_q, e_bi_i, e_bq_v, e_bq_t, e_bq_q, e_bq_i, e_meth_v, e_meth_t, e_meth_q, e_meth_i, e_lst_v, e_lst_q, e_lst_i, e_bl1_v, e_bl1_q, e_bl1_i, e_comp_v, e_comp_q, e_comp_i, e_sub_v, e_fdiv_v, e_mod_v, e_pow_v, e_add_v, e_mul_v, e_add_q, e_mul_q, e_add_i, e_mul_i, e_not_v, e_not_t, e_and_v, e_and_t, e_or_v, e_or_t, e_cmp_v, e_cmp_t, e_rng_i, e_enum_i, e_zip_i, e_nil_a, e_cons_a, e_var_g, e_ix_g, e_tup_g, e_nil_gs, e_cons_gs, o_add, o_sub, o_add2, o_addt, o_mul, o_fdiv, o_mod, o_pow, o_aug, o_neg, m_eq, m_ne, m_lt, m_le, m_gt, m_ge, m_eqs, m_is, m_isnot, n_non, n_ref, n_int, n_tup, b_abs, b_int, b_len, b_max, b_min, l_list, r_1, r_2, t_bl, t_int, t_non, q_tup, q_rol, a_bl, d_none, d_some, d_int, u_all, u_if, g_nil, g_cons, isL_nil, isL_var, isL_int, isL_bl, isL_non, isL_str, isL_glob, isL_neg, isL_not, isL_and, isL_or, isL_ife, isL_cmp, isL_tup, isL_ix, isL_sl, isL_call, isL_bi, isL_bq, isL_meth, isL_rev, isL_step2, isL_lst, isL_bl1, isL_comp, isL_add, isL_mul, isL_sub, isL_fdiv, isL_mod, isL_pow, reduceIte, Bool.or_self, Bool.false_eq_true, isNonE, isNil, lenE, wipeM, Bool.or_true, Bool.true_or, Bool.or_false, List.getElem?_cons_succ, List.getElem?_cons_zero, List.set_cons_succ, List.set_cons_zero, List.length_cons, List.length_nil, List.length_map, rngL_length]
  refine ⟨by omega, trivial, fun p np => ?_⟩
  have hap : ∀ o, put h p o a = some (LI ss) := fun o => (put_ne (mh_ne ha np)).trans ha
  refine st_for hΦ ?_
  simp only [e_var_v, e_var_t, e_var_q, e_var_i, e_int_v, e_int_t, e_int_q, e_int_i, e_bl_v, e_bl_t, e_bl_q, e_bl_i, e_non_v, e_non_t, e_non_q, e_non_i, e_str_v, e_str_t, e_str_q, e_str_i, e_glob_v, e_glob_t, e_glob_q, e_glob_i, e_neg_v, e_neg_t, e_neg_q, e_neg_i, e_ife_v, e_ife_t, e_ife_q, e_ife_i, e_tup_v, e_tup_t, e_tup_q, e_tup_i, e_ix_v, e_ix_t, e_ix_q, e_ix_i, e_sl_v, e_sl_t, e_sl_q, e_sl_i, e_call_v, e_call_t, e_call_q, e_call_i, e_bi_v, e_bi_t, e_bi_q, e_bi_i, e_bq_v, e_bq_t, e_bq_q, e_bq_i, e_meth_v, e_meth_t, e_meth_q, e_meth_i, e_lst_v, e_lst_q, e_lst_i, e_bl1_v, e_bl1_q, e_bl1_i, e_comp_v, e_comp_q, e_comp_i, e_sub_v, e_fdiv_v, e_mod_v, e_pow_v, e_add_v, e_mul_v, e_add_q, e_mul_q, e_add_i, e_mul_i, e_not_v, e_not_t, e_and_v, e_and_t, e_or_v, e_or_t, e_cmp_v, e_cmp_t, e_rng_i, e_enum_i, e_zip_i, e_nil_a, e_cons_a, e_var_g, e_ix_g, e_tup_g, e_nil_gs, e_cons_gs, o_add, o_sub, o_add2, o_addt, o_mul, o_fdiv, o_mod, o_pow, o_aug, o_neg, m_eq, m_ne, m_lt, m_le, m_gt, m_ge, m_eqs, m_is, m_isnot, n_non, n_ref, n_int, n_tup, b_abs, b_int, b_len, b_max, b_min, l_list, r_1, r_2, t_bl, t_int, t_non, q_tup, q_rol, a_bl, d_none, d_some, d_int, u_all, u_if, g_nil, g_cons, isL_nil, isL_var, isL_int, isL_bl, isL_non, isL_str, isL_glob, isL_neg, isL_not, isL_and, isL_or, isL_ife, isL_cmp, isL_tup, isL_ix, isL_sl, isL_call, isL_bi, isL_bq, isL_meth, isL_rev, isL_step2, isL_lst, isL_bl1, isL_comp, isL_add, isL_mul, isL_sub, isL_fdiv, isL_mod, isL_pow, reduceIte, Bool.or_self, Bool.false_eq_true, isNonE, isNil, lenE, wipeM, Bool.or_true, Bool.true_or, Bool.or_false, List.getElem?_cons_succ, List.getElem?_cons_zero, List.set_cons_succ, List.set_cons_zero, List.length_cons, List.length_nil, List.length_map, rngL_length]
  refine ⟨by omega, ?_⟩
  refine ⟨fun i σ h' => ∃ l x4 x6, mk t i = some l ∧ σ = [some (.ref a), some (.int q), some (.int (g : Nat)), some (.ref p), x4, none, x6] ∧ h' = put h p (LI l), ?_, ?_, ?_, ?_⟩
  · exact ⟨[1], none, none, rfl, rfl, rfl⟩
  · intro i σ h' _ _; trivial
  · rintro i m σ h' em ⟨l, x3, x5, el, rfl, rfl⟩
    obtain ⟨hi, rfl⟩ := rng_get em
    have hll := mk_len el
    simp only [e_var_v, e_var_t, e_var_q, e_var_i, e_int_v, e_int_t, e_int_q, e_int_i, e_bl_v, e_bl_t, e_bl_q, e_bl_i, e_non_v, e_non_t, e_non_q, e_non_i, e_str_v, e_str_t, e_str_q, e_str_i, e_glob_v, e_glob_t, e_glob_q, e_glob_i, e_neg_v, e_neg_t, e_neg_q, e_neg_i, e_ife_v, e_ife_t, e_ife_q, e_ife_i, e_tup_v, e_tup_t, e_tup_q, e_tup_i, e_ix_v, e_ix_t, e_ix_q, e_ix_i, e_sl_v, e_sl_t, e_sl_q, e_sl_i, e_call_v, e_call_t, e_call_q, e_call_i, e_bi_v, e_bi_t, e_bi_q, e_bi_i, e_bq_v, e_bq_t, e_bq_q, e_bq_i, e_meth_v, e_meth_t, e_meth_q, e_meth_i, e_lst_v, e_lst_q, e_lst_i, e_bl1_v, e_bl1_q, e_bl1_i, e_comp_v, e_comp_q, e_comp_i, e_sub_v, e_fdiv_v, e_mod_v, e_pow_v, e_add_v, e_mul_v, e_add_q, e_mul_q, e_add_i, e_mul_i, e_not_v, e_not_t, e_and_v, e_and_t, e_or_v, e_or_t, e_cmp_v, e_cmp_t, e_rng_i, e_enum_i, e_zip_i, e_nil_a, e_cons_a, e_var_g, e_ix_g, e_tup_g, e_nil_gs, e_cons_gs, o_add, o_sub, o_add2, o_addt, o_mul, o_fdiv, o_mod, o_pow, o_aug, o_neg, m_eq, m_ne, m_lt, m_le, m_gt, m_ge, m_eqs, m_is, m_isnot, n_non, n_ref, n_int, n_tup, b_abs, b_int, b_len, b_max, b_min, l_list, r_1, r_2, t_bl, t_int, t_non, q_tup, q_rol, a_bl, d_none, d_some, d_int, u_all, u_if, g_nil, g_cons, isL_nil, isL_var, isL_int, isL_bl, isL_non, isL_str, isL_glob, isL_neg, isL_not, isL_and, isL_or, isL_ife, isL_cmp, isL_tup, isL_ix, isL_sl, isL_call, isL_bi, isL_bq, isL_meth, isL_rev, isL_step2, isL_lst, isL_bl1, isL_comp, isL_add, isL_mul, isL_sub, isL_fdiv, isL_mod, isL_pow, reduceIte, Bool.or_self, Bool.false_eq_true, isNonE, isNil, lenE, wipeM, Bool.or_true, Bool.true_or, Bool.or_false, List.getElem?_cons_succ, List.getElem?_cons_zero, List.set_cons_succ, List.set_cons_zero, List.length_cons, List.length_nil, List.length_map, rngL_length]
    refine st_asg hΦ ?_
    simp only [e_var_v, e_var_t, e_var_q, e_var_i, e_int_v, e_int_t, e_int_q, e_int_i, e_bl_v, e_bl_t, e_bl_q, e_bl_i, e_non_v, e_non_t, e_non_q, e_non_i, e_str_v, e_str_t, e_str_q, e_str_i, e_glob_v, e_glob_t, e_glob_q, e_glob_i, e_neg_v, e_neg_t, e_neg_q, e_neg_i, e_ife_v, e_ife_t, e_ife_q, e_ife_i, e_tup_v, e_tup_t, e_tup_q, e_tup_i, e_ix_v, e_ix_t, e_ix_q, e_ix_i, e_sl_v, e_sl_t, e_sl_q, e_sl_i, e_call_v, e_call_t, e_call_q, e_call_i, e_bi_v, e_bi_t, e_bi_q, e_bi_i, e_bq_v, e_bq_t, e_bq_q, e_bq_i, e_meth_v, e_meth_t, e_meth_q, e_meth_i, e_lst_v, e_lst_q, e_lst_i, e_bl1_v, e_bl1_q, e_bl1_i, e_comp_v, e_comp_q, e_comp_i, e_sub_v, e_fdiv_v, e_mod_v, e_pow_v, e_add_v, e_mul_v, e_add_q, e_mul_q, e_add_i, e_mul_i, e_not_v, e_not_t, e_and_v, e_and_t, e_or_v, e_or_t, e_cmp_v, e_cmp_t, e_rng_i, e_enum_i, e_zip_i, e_nil_a, e_cons_a, e_var_g, e_ix_g, e_tup_g, e_nil_gs, e_cons_gs, o_add, o_sub, o_add2, o_addt, o_mul, o_fdiv, o_mod, o_pow, o_aug, o_neg, m_eq, m_ne, m_lt, m_le, m_gt, m_ge, m_eqs, m_is, m_isnot, n_non, n_ref, n_int, n_tup, b_abs, b_int, b_len, b_max, b_min, l_list, r_1, r_2, t_bl, t_int, t_non, q_tup, q_rol, a_bl, d_none, d_some, d_int, u_all, u_if, g_nil, g_cons, isL_nil, isL_var, isL_int, isL_bl, isL_non, isL_str, isL_glob, isL_neg, isL_not, isL_and, isL_or, isL_ife, isL_cmp, isL_tup, isL_ix, isL_sl, isL_call, isL_bi, isL_bq, isL_meth, isL_rev, isL_step2, isL_lst, isL_bl1, isL_comp, isL_add, isL_mul, isL_sub, isL_fdiv, isL_mod, isL_pow, reduceIte, Bool.or_self, Bool.false_eq_true, isNonE, isNil, lenE, wipeM, Bool.or_true, Bool.true_or, Bool.or_false, List.getElem?_cons_succ, List.getElem?_cons_zero, List.set_cons_succ, List.set_cons_zero, List.length_cons, List.length_nil, List.length_map, rngL_length]
    refine ⟨by omega, by have := hSZ; omega, ?_⟩
    refine compI_pure hΦ (fun j => .int (- t (j + 1) * l.getD (i - j) 0)) ?_ ?_ ?_
    · trivial
    · intro j m R ej hR
      obtain ⟨hj, rfl⟩ := rng_get ej
      simp only [e_var_v, e_var_t, e_var_q, e_var_i, e_int_v, e_int_t, e_int_q, e_int_i, e_bl_v, e_bl_t, e_bl_q, e_bl_i, e_non_v, e_non_t, e_non_q, e_non_i, e_str_v, e_str_t, e_str_q, e_str_i, e_glob_v, e_glob_t, e_glob_q, e_glob_i, e_neg_v, e_neg_t, e_neg_q, e_neg_i, e_ife_v, e_ife_t, e_ife_q, e_ife_i, e_tup_v, e_tup_t, e_tup_q, e_tup_i, e_ix_v, e_ix_t, e_ix_q, e_ix_i, e_sl_v, e_sl_t, e_sl_q, e_sl_i, e_call_v, e_call_t, e_call_q, e_call_i, e_bi_v, e_bi_t, e_bi_q, e_bi_i, e_bq_v, e_bq_t, e_bq_q, e_bq_i, e_meth_v, e_meth_t, e_meth_q, e_meth_i, e_lst_v, e_lst_q, e_lst_i, e_bl1_v, e_bl1_q, e_bl1_i, e_comp_v, e_comp_q, e_comp_i, e_sub_v, e_fdiv_v, e_mod_v, e_pow_v, e_add_v, e_mul_v, e_add_q, e_mul_q, e_add_i, e_mul_i, e_not_v, e_not_t, e_and_v, e_and_t, e_or_v, e_or_t, e_cmp_v, e_cmp_t, e_rng_i, e_enum_i, e_zip_i, e_nil_a, e_cons_a, e_var_g, e_ix_g, e_tup_g, e_nil_gs, e_cons_gs, o_add, o_sub, o_add2, o_addt, o_mul, o_fdiv, o_mod, o_pow, o_aug, o_neg, m_eq, m_ne, m_lt, m_le, m_gt, m_ge, m_eqs, m_is, m_isnot, n_non, n_ref, n_int, n_tup, b_abs, b_int, b_len, b_max, b_min, l_list, r_1, r_2, t_bl, t_int, t_non, q_tup, q_rol, a_bl, d_none, d_some, d_int, u_all, u_if, g_nil, g_cons, isL_nil, isL_var, isL_int, isL_bl, isL_non, isL_str, isL_glob, isL_neg, isL_not, isL_and, isL_or, isL_ife, isL_cmp, isL_tup, isL_ix, isL_sl, isL_call, isL_bi, isL_bq, isL_meth, isL_rev, isL_step2, isL_lst, isL_bl1, isL_comp, isL_add, isL_mul, isL_sub, isL_fdiv, isL_mod, isL_pow, reduceIte, Bool.or_self, Bool.false_eq_true, isNonE, isNil, lenE, wipeM, Bool.or_true, Bool.true_or, Bool.or_false, List.getElem?_cons_succ, List.getElem?_cons_zero, List.set_cons_succ, List.set_cons_zero, List.length_cons, List.length_nil, List.length_map, rngL_length]
      refine ix_int (hap _) (by omega) (by omega) ?_
      refine ix_int put_same (by omega) (by omega) ?_
      rw [show (1 + (j : Int) * 1).toNat = j + 1 by omega, show (1 + (i : Int) * 1 - (1 + (j : Int) * 1)).toNat = i - j by omega, hs]
      simp only [e_var_v, e_var_t, e_var_q, e_var_i, e_int_v, e_int_t, e_int_q, e_int_i, e_bl_v, e_bl_t, e_bl_q, e_bl_i, e_non_v, e_non_t, e_non_q, e_non_i, e_str_v, e_str_t, e_str_q, e_str_i, e_glob_v, e_glob_t, e_glob_q, e_glob_i, e_neg_v, e_neg_t, e_neg_q, e_neg_i, e_ife_v, e_ife_t, e_ife_q, e_ife_i, e_tup_v, e_tup_t, e_tup_q, e_tup_i, e_ix_v, e_ix_t, e_ix_q, e_ix_i, e_sl_v, e_sl_t, e_sl_q, e_sl_i, e_call_v, e_call_t, e_call_q, e_call_i, e_bi_v, e_bi_t, e_bi_q, e_bi_i, e_bq_v, e_bq_t, e_bq_q, e_bq_i, e_meth_v, e_meth_t, e_meth_q, e_meth_i, e_lst_v, e_lst_q, e_lst_i, e_bl1_v, e_bl1_q, e_bl1_i, e_comp_v, e_comp_q, e_comp_i, e_sub_v, e_fdiv_v, e_mod_v, e_pow_v, e_add_v, e_mul_v, e_add_q, e_mul_q, e_add_i, e_mul_i, e_not_v, e_not_t, e_and_v, e_and_t, e_or_v, e_or_t, e_cmp_v, e_cmp_t, e_rng_i, e_enum_i, e_zip_i, e_nil_a, e_cons_a, e_var_g, e_ix_g, e_tup_g, e_nil_gs, e_cons_gs, o_add, o_sub, o_add2, o_addt, o_mul, o_fdiv, o_mod, o_pow, o_aug, o_neg, m_eq, m_ne, m_lt, m_le, m_gt, m_ge, m_eqs, m_is, m_isnot, n_non, n_ref, n_int, n_tup, b_abs, b_int, b_len, b_max, b_min, l_list, r_1, r_2, t_bl, t_int, t_non, q_tup, q_rol, a_bl, d_none, d_some, d_int, u_all, u_if, g_nil, g_cons, isL_nil, isL_var, isL_int, isL_bl, isL_non, isL_str, isL_glob, isL_neg, isL_not, isL_and, isL_or, isL_ife, isL_cmp, isL_tup, isL_ix, isL_sl, isL_call, isL_bi, isL_bq, isL_meth, isL_rev, isL_step2, isL_lst, isL_bl1, isL_comp, isL_add, isL_mul, isL_sub, isL_fdiv, isL_mod, isL_pow, reduceIte, Bool.or_self, Bool.false_eq_true, isNonE, isNil, lenE, wipeM, Bool.or_true, Bool.true_or, Bool.or_false, List.getElem?_cons_succ, List.getElem?_cons_zero, List.set_cons_succ, List.set_cons_zero, List.length_cons, List.length_nil, List.length_map, rngL_length]
      refine ⟨?_, hR⟩
      have b1 := log2_pow (B := 20000) (ht (j + 1) (by omega) (by omega)) (by omega)
      have b2 := log2_pow (B := 20000) (mk_bnd (Nat.one_le_pow _ _ (by decide)) (fun k k1 k2 => ht k k1 (by omega)) el (i - j) (by omega)) (by omega)
      have e : (- t (j + 1)).natAbs = (t (j + 1)).natAbs := Int.natAbs_neg _
      unfold MulOk; rw [e]; omega
    · rw [rngL_length, show (1 + (i : Int) * 1 + 1 - 1).toNat = i + 1 by omega]
      refine ⟨trivial, bq_sum rfl ?_⟩
      have et : ((List.range (i + 1)).map fun j => - t (j + 1) * l.getD (i - j) 0).sum = - tot t l (i + 1) := by
        rw [sum_map, sumN_neg' t l i]
      rw [et]
      simp only [e_var_v, e_var_t, e_var_q, e_var_i, e_int_v, e_int_t, e_int_q, e_int_i, e_bl_v, e_bl_t, e_bl_q, e_bl_i, e_non_v, e_non_t, e_non_q, e_non_i, e_str_v, e_str_t, e_str_q, e_str_i, e_glob_v, e_glob_t, e_glob_q, e_glob_i, e_neg_v, e_neg_t, e_neg_q, e_neg_i, e_ife_v, e_ife_t, e_ife_q, e_ife_i, e_tup_v, e_tup_t, e_tup_q, e_tup_i, e_ix_v, e_ix_t, e_ix_q, e_ix_i, e_sl_v, e_sl_t, e_sl_q, e_sl_i, e_call_v, e_call_t, e_call_q, e_call_i, e_bi_v, e_bi_t, e_bi_q, e_bi_i, e_bq_v, e_bq_t, e_bq_q, e_bq_i, e_meth_v, e_meth_t, e_meth_q, e_meth_i, e_lst_v, e_lst_q, e_lst_i, e_bl1_v, e_bl1_q, e_bl1_i, e_comp_v, e_comp_q, e_comp_i, e_sub_v, e_fdiv_v, e_mod_v, e_pow_v, e_add_v, e_mul_v, e_add_q, e_mul_q, e_add_i, e_mul_i, e_not_v, e_not_t, e_and_v, e_and_t, e_or_v, e_or_t, e_cmp_v, e_cmp_t, e_rng_i, e_enum_i, e_zip_i, e_nil_a, e_cons_a, e_var_g, e_ix_g, e_tup_g, e_nil_gs, e_cons_gs, o_add, o_sub, o_add2, o_addt, o_mul, o_fdiv, o_mod, o_pow, o_aug, o_neg, m_eq, m_ne, m_lt, m_le, m_gt, m_ge, m_eqs, m_is, m_isnot, n_non, n_ref, n_int, n_tup, b_abs, b_int, b_len, b_max, b_min, l_list, r_1, r_2, t_bl, t_int, t_non, q_tup, q_rol, a_bl, d_none, d_some, d_int, u_all, u_if, g_nil, g_cons, isL_nil, isL_var, isL_int, isL_bl, isL_non, isL_str, isL_glob, isL_neg, isL_not, isL_and, isL_or, isL_ife, isL_cmp, isL_tup, isL_ix, isL_sl, isL_call, isL_bi, isL_bq, isL_meth, isL_rev, isL_step2, isL_lst, isL_bl1, isL_comp, isL_add, isL_mul, isL_sub, isL_fdiv, isL_mod, isL_pow, reduceIte, Bool.or_self, Bool.false_eq_true, isNonE, isNil, lenE, wipeM, Bool.or_true, Bool.true_or, Bool.or_false, List.getElem?_cons_succ, List.getElem?_cons_zero, List.set_cons_succ, List.set_cons_zero, List.length_cons, List.length_nil, List.length_map, rngL_length]
      refine st_iff hΦ ?_
      simp only [e_var_v, e_var_t, e_var_q, e_var_i, e_int_v, e_int_t, e_int_q, e_int_i, e_bl_v, e_bl_t, e_bl_q, e_bl_i, e_non_v, e_non_t, e_non_q, e_non_i, e_str_v, e_str_t, e_str_q, e_str_i, e_glob_v, e_glob_t, e_glob_q, e_glob_i, e_neg_v, e_neg_t, e_neg_q, e_neg_i, e_ife_v, e_ife_t, e_ife_q, e_ife_i, e_tup_v, e_tup_t, e_tup_q, e_tup_i, e_ix_v, e_ix_t, e_ix_q, e_ix_i, e_sl_v, e_sl_t, e_sl_q, e_sl_i, e_call_v, e_call_t, e_call_q, e_call_i, e_bi_v, e_bi_t, e_bi_q, e_bi_i, e_bq_v, e_bq_t, e_bq_q, e_bq_i, e_meth_v, e_meth_t, e_meth_q, e_meth_i, e_lst_v, e_lst_q, e_lst_i, e_bl1_v, e_bl1_q, e_bl1_i, e_comp_v, e_comp_q, e_comp_i, e_sub_v, e_fdiv_v, e_mod_v, e_pow_v, e_add_v, e_mul_v, e_add_q, e_mul_q, e_add_i, e_mul_i, e_not_v, e_not_t, e_and_v, e_and_t, e_or_v, e_or_t, e_cmp_v, e_cmp_t, e_rng_i, e_enum_i, e_zip_i, e_nil_a, e_cons_a, e_var_g, e_ix_g, e_tup_g, e_nil_gs, e_cons_gs, o_add, o_sub, o_add2, o_addt, o_mul, o_fdiv, o_mod, o_pow, o_aug, o_neg, m_eq, m_ne, m_lt, m_le, m_gt, m_ge, m_eqs, m_is, m_isnot, n_non, n_ref, n_int, n_tup, b_abs, b_int, b_len, b_max, b_min, l_list, r_1, r_2, t_bl, t_int, t_non, q_tup, q_rol, a_bl, d_none, d_some, d_int, u_all, u_if, g_nil, g_cons, isL_nil, isL_var, isL_int, isL_bl, isL_non, isL_str, isL_glob, isL_neg, isL_not, isL_and, isL_or, isL_ife, isL_cmp, isL_tup, isL_ix, isL_sl, isL_call, isL_bi, isL_bq, isL_meth, isL_rev, isL_step2, isL_lst, isL_bl1, isL_comp, isL_add, isL_mul, isL_sub, isL_fdiv, isL_mod, isL_pow, reduceIte, Bool.or_self, Bool.false_eq_true, isNonE, isNil, lenE, wipeM, Bool.or_true, Bool.true_or, Bool.or_false, List.getElem?_cons_succ, List.getElem?_cons_zero, List.set_cons_succ, List.set_cons_zero, List.length_cons, List.length_nil, List.length_map, rngL_length]
      refine ⟨by omega, ?_⟩
      have en : (1 + (i : Int) * 1) = (i : Int) + 1 := by omega
      rw [en, Int.neg_neg]
      by_cases z : tot t l (i + 1) % ((i : Int) + 1) = 0
      · rw [if_neg (by simp [z])]
        refine st_skip ?_
        dsimp only
        refine st_expr1 ?_
        simp only [e_var_v, e_var_t, e_var_q, e_var_i, e_int_v, e_int_t, e_int_q, e_int_i, e_bl_v, e_bl_t, e_bl_q, e_bl_i, e_non_v, e_non_t, e_non_q, e_non_i, e_str_v, e_str_t, e_str_q, e_str_i, e_glob_v, e_glob_t, e_glob_q, e_glob_i, e_neg_v, e_neg_t, e_neg_q, e_neg_i, e_ife_v, e_ife_t, e_ife_q, e_ife_i, e_tup_v, e_tup_t, e_tup_q, e_tup_i, e_ix_v, e_ix_t, e_ix_q, e_ix_i, e_sl_v, e_sl_t, e_sl_q, e_sl_i, e_call_v, e_call_t, e_call_q, e_call_i, e_bi_v, e_bi_t, e_bi_q, e_bi_i, e_bq_v, e_bq_t, e_bq_q, e_bq_i, e_meth_v, e_meth_t, e_meth_q, e_meth_i, e_lst_v, e_lst_q, e_lst_i, e_bl1_v, e_bl1_q, e_bl1_i, e_comp_v, e_comp_q, e_comp_i, e_sub_v, e_fdiv_v, e_mod_v, e_pow_v, e_add_v, e_mul_v, e_add_q, e_mul_q, e_add_i, e_mul_i, e_not_v, e_not_t, e_and_v, e_and_t, e_or_v, e_or_t, e_cmp_v, e_cmp_t, e_rng_i, e_enum_i, e_zip_i, e_nil_a, e_cons_a, e_var_g, e_ix_g, e_tup_g, e_nil_gs, e_cons_gs, o_add, o_sub, o_add2, o_addt, o_mul, o_fdiv, o_mod, o_pow, o_aug, o_neg, m_eq, m_ne, m_lt, m_le, m_gt, m_ge, m_eqs, m_is, m_isnot, n_non, n_ref, n_int, n_tup, b_abs, b_int, b_len, b_max, b_min, l_list, r_1, r_2, t_bl, t_int, t_non, q_tup, q_rol, a_bl, d_none, d_some, d_int, u_all, u_if, g_nil, g_cons, isL_nil, isL_var, isL_int, isL_bl, isL_non, isL_str, isL_glob, isL_neg, isL_not, isL_and, isL_or, isL_ife, isL_cmp, isL_tup, isL_ix, isL_sl, isL_call, isL_bi, isL_bq, isL_meth, isL_rev, isL_step2, isL_lst, isL_bl1, isL_comp, isL_add, isL_mul, isL_sub, isL_fdiv, isL_mod, isL_pow, reduceIte, Bool.or_self, Bool.false_eq_true, isNonE, isNil, lenE, wipeM, Bool.or_true, Bool.true_or, Bool.or_false, List.getElem?_cons_succ, List.getElem?_cons_zero, List.set_cons_succ, List.set_cons_zero, List.length_cons, List.length_nil, List.length_map, rngL_length]
        refine ⟨lst_ok put_same, divOk (by omega) (by omega), ?_⟩
        refine (append_ref put_same (by rw [List.length_map]; have := hSZ; omega) ?_).2
        refine ⟨_, Sub.refl _, l ++ [tot t l (i + 1) / ((i : Int) + 1)], some (.int ((i : Int) + 1)), _, ?_, rfl, ?_⟩
        · rw [mk, el]; simp only []; rw [if_pos z]
        · simp [LI, put_put]
      · rw [if_pos (by simp [z])]
        refine st_ret ?_
        simp only [e_var_v, e_var_t, e_var_q, e_var_i, e_int_v, e_int_t, e_int_q, e_int_i, e_bl_v, e_bl_t, e_bl_q, e_bl_i, e_non_v, e_non_t, e_non_q, e_non_i, e_str_v, e_str_t, e_str_q, e_str_i, e_glob_v, e_glob_t, e_glob_q, e_glob_i, e_neg_v, e_neg_t, e_neg_q, e_neg_i, e_ife_v, e_ife_t, e_ife_q, e_ife_i, e_tup_v, e_tup_t, e_tup_q, e_tup_i, e_ix_v, e_ix_t, e_ix_q, e_ix_i, e_sl_v, e_sl_t, e_sl_q, e_sl_i, e_call_v, e_call_t, e_call_q, e_call_i, e_bi_v, e_bi_t, e_bi_q, e_bi_i, e_bq_v, e_bq_t, e_bq_q, e_bq_i, e_meth_v, e_meth_t, e_meth_q, e_meth_i, e_lst_v, e_lst_q, e_lst_i, e_bl1_v, e_bl1_q, e_bl1_i, e_comp_v, e_comp_q, e_comp_i, e_sub_v, e_fdiv_v, e_mod_v, e_pow_v, e_add_v, e_mul_v, e_add_q, e_mul_q, e_add_i, e_mul_i, e_not_v, e_not_t, e_and_v, e_and_t, e_or_v, e_or_t, e_cmp_v, e_cmp_t, e_rng_i, e_enum_i, e_zip_i, e_nil_a, e_cons_a, e_var_g, e_ix_g, e_tup_g, e_nil_gs, e_cons_gs, o_add, o_sub, o_add2, o_addt, o_mul, o_fdiv, o_mod, o_pow, o_aug, o_neg, m_eq, m_ne, m_lt, m_le, m_gt, m_ge, m_eqs, m_is, m_isnot, n_non, n_ref, n_int, n_tup, b_abs, b_int, b_len, b_max, b_min, l_list, r_1, r_2, t_bl, t_int, t_non, q_tup, q_rol, a_bl, d_none, d_some, d_int, u_all, u_if, g_nil, g_cons, isL_nil, isL_var, isL_int, isL_bl, isL_non, isL_str, isL_glob, isL_neg, isL_not, isL_and, isL_or, isL_ife, isL_cmp, isL_tup, isL_ix, isL_sl, isL_call, isL_bi, isL_bq, isL_meth, isL_rev, isL_step2, isL_lst, isL_bl1, isL_comp, isL_add, isL_mul, isL_sub, isL_fdiv, isL_mod, isL_pow, reduceIte, Bool.or_self, Bool.false_eq_true, isNonE, isNil, lenE, wipeM, Bool.or_true, Bool.true_or, Bool.or_false, List.getElem?_cons_succ, List.getElem?_cons_zero, List.set_cons_succ, List.set_cons_zero, List.length_cons, List.length_nil, List.length_map, rngL_length]
        have en : mk t (i + 1) = none := by rw [mk, el]; simp only []; rw [if_neg z]
        have em : mk t g = none := by
          obtain ⟨k, e⟩ := Nat.exists_eq_add_of_le (show i + 1 ≤ g by omega)
          rw [e]; exact mk_none en k
        rw [em] at post
        exact ⟨h, Sub.put np, post⟩
  · rintro σ h' ⟨l, x3, x5, el, rfl, rfl⟩
    rw [show ((g : Int) + 1 - 1).toNat = g by omega] at el
    rw [el] at post
    have hll := mk_len el
    refine st_for hΦ ?_
    simp only [e_var_v, e_var_t, e_var_q, e_var_i, e_int_v, e_int_t, e_int_q, e_int_i, e_bl_v, e_bl_t, e_bl_q, e_bl_i, e_non_v, e_non_t, e_non_q, e_non_i, e_str_v, e_str_t, e_str_q, e_str_i, e_glob_v, e_glob_t, e_glob_q, e_glob_i, e_neg_v, e_neg_t, e_neg_q, e_neg_i, e_ife_v, e_ife_t, e_ife_q, e_ife_i, e_tup_v, e_tup_t, e_tup_q, e_tup_i, e_ix_v, e_ix_t, e_ix_q, e_ix_i, e_sl_v, e_sl_t, e_sl_q, e_sl_i, e_call_v, e_call_t, e_call_q, e_call_i, e_bi_v, e_bi_t, e_bi_q, e_bi_i, e_bq_v, e_bq_t, e_bq_q, e_bq_i, e_meth_v, e_meth_t, e_meth_q, e_meth_i, e_lst_v, e_lst_q, e_lst_i, e_bl1_v, e_bl1_q, e_bl1_i, e_comp_v, e_comp_q, e_comp_i, e_sub_v, e_fdiv_v, e_mod_v, e_pow_v, e_add_v, e_mul_v, e_add_q, e_mul_q, e_add_i, e_mul_i, e_not_v, e_not_t, e_and_v, e_and_t, e_or_v, e_or_t, e_cmp_v, e_cmp_t, e_rng_i, e_enum_i, e_zip_i, e_nil_a, e_cons_a, e_var_g, e_ix_g, e_tup_g, e_nil_gs, e_cons_gs, o_add, o_sub, o_add2, o_addt, o_mul, o_fdiv, o_mod, o_pow, o_aug, o_neg, m_eq, m_ne, m_lt, m_le, m_gt, m_ge, m_eqs, m_is, m_isnot, n_non, n_ref, n_int, n_tup, b_abs, b_int, b_len, b_max, b_min, l_list, r_1, r_2, t_bl, t_int, t_non, q_tup, q_rol, a_bl, d_none, d_some, d_int, u_all, u_if, g_nil, g_cons, isL_nil, isL_var, isL_int, isL_bl, isL_non, isL_str, isL_glob, isL_neg, isL_not, isL_and, isL_or, isL_ife, isL_cmp, isL_tup, isL_ix, isL_sl, isL_call, isL_bi, isL_bq, isL_meth, isL_rev, isL_step2, isL_lst, isL_bl1, isL_comp, isL_add, isL_mul, isL_sub, isL_fdiv, isL_mod, isL_pow, reduceIte, Bool.or_self, Bool.false_eq_true, isNonE, isNil, lenE, wipeM, Bool.or_true, Bool.true_or, Bool.or_false, List.getElem?_cons_succ, List.getElem?_cons_zero, List.set_cons_succ, List.set_cons_zero, List.length_cons, List.length_nil, List.length_map, rngL_length]
    refine r_down ⟨by omega, ?_⟩
    refine ⟨fun i σ h' => ∃ x4, σ = [some (.ref a), some (.int q), some (.int (g : Nat)), some (.ref p), x3, x4, x5] ∧ h' = put h p (LI (l ++ (List.range i).map fun j => q ^ (j + 1) * l.getD (g - 1 - j) 0)), ?_, ?_, ?_, ?_⟩
    · exact ⟨none, rfl, by simp⟩
    · intro i σ h' _ _; trivial
    · rintro i m σ h' em ⟨x4, rfl, rfl⟩
      obtain ⟨hi, rfl⟩ := rng_get em
      simp only [e_var_v, e_var_t, e_var_q, e_var_i, e_int_v, e_int_t, e_int_q, e_int_i, e_bl_v, e_bl_t, e_bl_q, e_bl_i, e_non_v, e_non_t, e_non_q, e_non_i, e_str_v, e_str_t, e_str_q, e_str_i, e_glob_v, e_glob_t, e_glob_q, e_glob_i, e_neg_v, e_neg_t, e_neg_q, e_neg_i, e_ife_v, e_ife_t, e_ife_q, e_ife_i, e_tup_v, e_tup_t, e_tup_q, e_tup_i, e_ix_v, e_ix_t, e_ix_q, e_ix_i, e_sl_v, e_sl_t, e_sl_q, e_sl_i, e_call_v, e_call_t, e_call_q, e_call_i, e_bi_v, e_bi_t, e_bi_q, e_bi_i, e_bq_v, e_bq_t, e_bq_q, e_bq_i, e_meth_v, e_meth_t, e_meth_q, e_meth_i, e_lst_v, e_lst_q, e_lst_i, e_bl1_v, e_bl1_q, e_bl1_i, e_comp_v, e_comp_q, e_comp_i, e_sub_v, e_fdiv_v, e_mod_v, e_pow_v, e_add_v, e_mul_v, e_add_q, e_mul_q, e_add_i, e_mul_i, e_not_v, e_not_t, e_and_v, e_and_t, e_or_v, e_or_t, e_cmp_v, e_cmp_t, e_rng_i, e_enum_i, e_zip_i, e_nil_a, e_cons_a, e_var_g, e_ix_g, e_tup_g, e_nil_gs, e_cons_gs, o_add, o_sub, o_add2, o_addt, o_mul, o_fdiv, o_mod, o_pow, o_aug, o_neg, m_eq, m_ne, m_lt, m_le, m_gt, m_ge, m_eqs, m_is, m_isnot, n_non, n_ref, n_int, n_tup, b_abs, b_int, b_len, b_max, b_min, l_list, r_1, r_2, t_bl, t_int, t_non, q_tup, q_rol, a_bl, d_none, d_some, d_int, u_all, u_if, g_nil, g_cons, isL_nil, isL_var, isL_int, isL_bl, isL_non, isL_str, isL_glob, isL_neg, isL_not, isL_and, isL_or, isL_ife, isL_cmp, isL_tup, isL_ix, isL_sl, isL_call, isL_bi, isL_bq, isL_meth, isL_rev, isL_step2, isL_lst, isL_bl1, isL_comp, isL_add, isL_mul, isL_sub, isL_fdiv, isL_mod, isL_pow, reduceIte, Bool.or_self, Bool.false_eq_true, isNonE, isNil, lenE, wipeM, Bool.or_true, Bool.true_or, Bool.or_false, List.getElem?_cons_succ, List.getElem?_cons_zero, List.set_cons_succ, List.set_cons_zero, List.length_cons, List.length_nil, List.length_map, rngL_length]
      refine st_expr1 ?_
      simp only [e_var_v, e_var_t, e_var_q, e_var_i, e_int_v, e_int_t, e_int_q, e_int_i, e_bl_v, e_bl_t, e_bl_q, e_bl_i, e_non_v, e_non_t, e_non_q, e_non_i, e_str_v, e_str_t, e_str_q, e_str_i, e_glob_v, e_glob_t, e_glob_q, e_glob_i, e_neg_v, e_neg_t, e_neg_q, e_neg_i, e_ife_v, e_ife_t, e_ife_q, e_ife_i, e_tup_v, e_tup_t, e_tup_q, e_tup_i, e_ix_v, e_ix_t, e_ix_q, e_ix_i, e_sl_v, e_sl_t, e_sl_q, e_sl_i, e_call_v, e_call_t, e_call_q, e_call_i, e_bi_v, e_bi_t, e_bi_q, e_bi_i, e_bq_v, e_bq_t, e_bq_q, e_bq_i, e_meth_v, e_meth_t, e_meth_q, e_meth_i, e_lst_v, e_lst_q, e_lst_i, e_bl1_v, e_bl1_q, e_bl1_i, e_comp_v, e_comp_q, e_comp_i, e_sub_v, e_fdiv_v, e_mod_v, e_pow_v, e_add_v, e_mul_v, e_add_q, e_mul_q, e_add_i, e_mul_i, e_not_v, e_not_t, e_and_v, e_and_t, e_or_v, e_or_t, e_cmp_v, e_cmp_t, e_rng_i, e_enum_i, e_zip_i, e_nil_a, e_cons_a, e_var_g, e_ix_g, e_tup_g, e_nil_gs, e_cons_gs, o_add, o_sub, o_add2, o_addt, o_mul, o_fdiv, o_mod, o_pow, o_aug, o_neg, m_eq, m_ne, m_lt, m_le, m_gt, m_ge, m_eqs, m_is, m_isnot, n_non, n_ref, n_int, n_tup, b_abs, b_int, b_len, b_max, b_min, l_list, r_1, r_2, t_bl, t_int, t_non, q_tup, q_rol, a_bl, d_none, d_some, d_int, u_all, u_if, g_nil, g_cons, isL_nil, isL_var, isL_int, isL_bl, isL_non, isL_str, isL_glob, isL_neg, isL_not, isL_and, isL_or, isL_ife, isL_cmp, isL_tup, isL_ix, isL_sl, isL_call, isL_bi, isL_bq, isL_meth, isL_rev, isL_step2, isL_lst, isL_bl1, isL_comp, isL_add, isL_mul, isL_sub, isL_fdiv, isL_mod, isL_pow, reduceIte, Bool.or_self, Bool.false_eq_true, isNonE, isNil, lenE, wipeM, Bool.or_true, Bool.true_or, Bool.or_false, List.getElem?_cons_succ, List.getElem?_cons_zero, List.set_cons_succ, List.set_cons_zero, List.length_cons, List.length_nil, List.length_map, rngL_length]
      refine ⟨lst_ok put_same, ?_⟩
      rw [hr]
      refine ⟨q, _, rfl, by omega, by omega, q1, q2, ?_⟩
      simp only [e_var_v, e_var_t, e_var_q, e_var_i, e_int_v, e_int_t, e_int_q, e_int_i, e_bl_v, e_bl_t, e_bl_q, e_bl_i, e_non_v, e_non_t, e_non_q, e_non_i, e_str_v, e_str_t, e_str_q, e_str_i, e_glob_v, e_glob_t, e_glob_q, e_glob_i, e_neg_v, e_neg_t, e_neg_q, e_neg_i, e_ife_v, e_ife_t, e_ife_q, e_ife_i, e_tup_v, e_tup_t, e_tup_q, e_tup_i, e_ix_v, e_ix_t, e_ix_q, e_ix_i, e_sl_v, e_sl_t, e_sl_q, e_sl_i, e_call_v, e_call_t, e_call_q, e_call_i, e_bi_v, e_bi_t, e_bi_q, e_bi_i, e_bq_v, e_bq_t, e_bq_q, e_bq_i, e_meth_v, e_meth_t, e_meth_q, e_meth_i, e_lst_v, e_lst_q, e_lst_i, e_bl1_v, e_bl1_q, e_bl1_i, e_comp_v, e_comp_q, e_comp_i, e_sub_v, e_fdiv_v, e_mod_v, e_pow_v, e_add_v, e_mul_v, e_add_q, e_mul_q, e_add_i, e_mul_i, e_not_v, e_not_t, e_and_v, e_and_t, e_or_v, e_or_t, e_cmp_v, e_cmp_t, e_rng_i, e_enum_i, e_zip_i, e_nil_a, e_cons_a, e_var_g, e_ix_g, e_tup_g, e_nil_gs, e_cons_gs, o_add, o_sub, o_add2, o_addt, o_mul, o_fdiv, o_mod, o_pow, o_aug, o_neg, m_eq, m_ne, m_lt, m_le, m_gt, m_ge, m_eqs, m_is, m_isnot, n_non, n_ref, n_int, n_tup, b_abs, b_int, b_len, b_max, b_min, l_list, r_1, r_2, t_bl, t_int, t_non, q_tup, q_rol, a_bl, d_none, d_some, d_int, u_all, u_if, g_nil, g_cons, isL_nil, isL_var, isL_int, isL_bl, isL_non, isL_str, isL_glob, isL_neg, isL_not, isL_and, isL_or, isL_ife, isL_cmp, isL_tup, isL_ix, isL_sl, isL_call, isL_bi, isL_bq, isL_meth, isL_rev, isL_step2, isL_lst, isL_bl1, isL_comp, isL_add, isL_mul, isL_sub, isL_fdiv, isL_mod, isL_pow, reduceIte, Bool.or_self, Bool.false_eq_true, isNonE, isNil, lenE, wipeM, Bool.or_true, Bool.true_or, Bool.or_false, List.getElem?_cons_succ, List.getElem?_cons_zero, List.set_cons_succ, List.set_cons_zero, List.length_cons, List.length_nil, List.length_map, rngL_length]
      have hlt : i < g := by omega
      have e1 : ((g : Int) - ((g : Int) - 1 + (i : Int) * -1)).toNat = i + 1 := by omega
      have e2 : ((g : Int) - 1 + (i : Int) * -1).toNat = g - 1 - i := by omega
      refine ix_int put_same (by omega) (by rw [List.length_append]; omega) ?_
      rw [e1, e2, List.getD_eq_getElem?_getD, List.getElem?_append_left (by omega), ← List.getD_eq_getElem?_getD]
      simp only [e_var_v, e_var_t, e_var_q, e_var_i, e_int_v, e_int_t, e_int_q, e_int_i, e_bl_v, e_bl_t, e_bl_q, e_bl_i, e_non_v, e_non_t, e_non_q, e_non_i, e_str_v, e_str_t, e_str_q, e_str_i, e_glob_v, e_glob_t, e_glob_q, e_glob_i, e_neg_v, e_neg_t, e_neg_q, e_neg_i, e_ife_v, e_ife_t, e_ife_q, e_ife_i, e_tup_v, e_tup_t, e_tup_q, e_tup_i, e_ix_v, e_ix_t, e_ix_q, e_ix_i, e_sl_v, e_sl_t, e_sl_q, e_sl_i, e_call_v, e_call_t, e_call_q, e_call_i, e_bi_v, e_bi_t, e_bi_q, e_bi_i, e_bq_v, e_bq_t, e_bq_q, e_bq_i, e_meth_v, e_meth_t, e_meth_q, e_meth_i, e_lst_v, e_lst_q, e_lst_i, e_bl1_v, e_bl1_q, e_bl1_i, e_comp_v, e_comp_q, e_comp_i, e_sub_v, e_fdiv_v, e_mod_v, e_pow_v, e_add_v, e_mul_v, e_add_q, e_mul_q, e_add_i, e_mul_i, e_not_v, e_not_t, e_and_v, e_and_t, e_or_v, e_or_t, e_cmp_v, e_cmp_t, e_rng_i, e_enum_i, e_zip_i, e_nil_a, e_cons_a, e_var_g, e_ix_g, e_tup_g, e_nil_gs, e_cons_gs, o_add, o_sub, o_add2, o_addt, o_mul, o_fdiv, o_mod, o_pow, o_aug, o_neg, m_eq, m_ne, m_lt, m_le, m_gt, m_ge, m_eqs, m_is, m_isnot, n_non, n_ref, n_int, n_tup, b_abs, b_int, b_len, b_max, b_min, l_list, r_1, r_2, t_bl, t_int, t_non, q_tup, q_rol, a_bl, d_none, d_some, d_int, u_all, u_if, g_nil, g_cons, isL_nil, isL_var, isL_int, isL_bl, isL_non, isL_str, isL_glob, isL_neg, isL_not, isL_and, isL_or, isL_ife, isL_cmp, isL_tup, isL_ix, isL_sl, isL_call, isL_bi, isL_bq, isL_meth, isL_rev, isL_step2, isL_lst, isL_bl1, isL_comp, isL_add, isL_mul, isL_sub, isL_fdiv, isL_mod, isL_pow, reduceIte, Bool.or_self, Bool.false_eq_true, isNonE, isNil, lenE, wipeM, Bool.or_true, Bool.true_or, Bool.or_false, List.getElem?_cons_succ, List.getElem?_cons_zero, List.set_cons_succ, List.set_cons_zero, List.length_cons, List.length_nil, List.length_map, rngL_length]
      refine ⟨?_, (append_ref put_same (by rw [List.length_map, List.length_append, List.length_map, List.length_range]; have := hSZ; omega) ?_).2⟩
      · have b1 := pow_bnd (a := q) (e := ((i + 1 : Nat) : Int)) (x := q ^ (i + 1)) (by omega) (by omega) q1 q2 (by have := one_le_pow q1 (i + 1); omega) (by rw [show (((i + 1 : Nat) : Int)).toNat = i + 1 by omega]; exact Int.le_refl _)
        have b2 := log2_pow (B := 20000) (mk_bnd (Nat.one_le_pow _ _ (by decide)) (fun k k1 k2 => ht k k1 k2) el (g - 1 - i) (by omega)) (by omega)
        unfold MulOk; omega
      · refine ⟨_, Sub.refl _, _, rfl, ?_⟩
        simp [LI, put_put, List.range_succ]
    · rintro σ h' ⟨x4, rfl, rfl⟩
      refine st_ret ?_
      simp only [e_var_v, e_var_t, e_var_q, e_var_i, e_int_v, e_int_t, e_int_q, e_int_i, e_bl_v, e_bl_t, e_bl_q, e_bl_i, e_non_v, e_non_t, e_non_q, e_non_i, e_str_v, e_str_t, e_str_q, e_str_i, e_glob_v, e_glob_t, e_glob_q, e_glob_i, e_neg_v, e_neg_t, e_neg_q, e_neg_i, e_ife_v, e_ife_t, e_ife_q, e_ife_i, e_tup_v, e_tup_t, e_tup_q, e_tup_i, e_ix_v, e_ix_t, e_ix_q, e_ix_i, e_sl_v, e_sl_t, e_sl_q, e_sl_i, e_call_v, e_call_t, e_call_q, e_call_i, e_bi_v, e_bi_t, e_bi_q, e_bi_i, e_bq_v, e_bq_t, e_bq_q, e_bq_i, e_meth_v, e_meth_t, e_meth_q, e_meth_i, e_lst_v, e_lst_q, e_lst_i, e_bl1_v, e_bl1_q, e_bl1_i, e_comp_v, e_comp_q, e_comp_i, e_sub_v, e_fdiv_v, e_mod_v, e_pow_v, e_add_v, e_mul_v, e_add_q, e_mul_q, e_add_i, e_mul_i, e_not_v, e_not_t, e_and_v, e_and_t, e_or_v, e_or_t, e_cmp_v, e_cmp_t, e_rng_i, e_enum_i, e_zip_i, e_nil_a, e_cons_a, e_var_g, e_ix_g, e_tup_g, e_nil_gs, e_cons_gs, o_add, o_sub, o_add2, o_addt, o_mul, o_fdiv, o_mod, o_pow, o_aug, o_neg, m_eq, m_ne, m_lt, m_le, m_gt, m_ge, m_eqs, m_is, m_isnot, n_non, n_ref, n_int, n_tup, b_abs, b_int, b_len, b_max, b_min, l_list, r_1, r_2, t_bl, t_int, t_non, q_tup, q_rol, a_bl, d_none, d_some, d_int, u_all, u_if, g_nil, g_cons, isL_nil, isL_var, isL_int, isL_bl, isL_non, isL_str, isL_glob, isL_neg, isL_not, isL_and, isL_or, isL_ife, isL_cmp, isL_tup, isL_ix, isL_sl, isL_call, isL_bi, isL_bq, isL_meth, isL_rev, isL_step2, isL_lst, isL_bl1, isL_comp, isL_add, isL_mul, isL_sub, isL_fdiv, isL_mod, isL_pow, reduceIte, Bool.or_self, Bool.false_eq_true, isNonE, isNil, lenE, wipeM, Bool.or_true, Bool.true_or, Bool.or_false, List.getElem?_cons_succ, List.getElem?_cons_zero, List.set_cons_succ, List.set_cons_zero, List.length_cons, List.length_nil, List.length_map, rngL_length]
      rw [show ((g : Int) - 1 - -1).toNat = g by omega]
      exact ⟨_, Sub.refl _, post p np⟩
/-! ### _law_counts -/
theorem keeps_law_counts (Φ : Phi) (hΦ : Φ.Mono) (hr : Φ.fn "_law_raised" = spRaised) (hs : Φ.fn "_law_sums" = spSums) : Keeps Φ 5 t_law_counts spCounts := by
  intro ms h Q hsp
  obtain ⟨p, a, xs, most, rfl, ha, hm, hlen, hx, p1, p2, post⟩ := hsp
  change wS Φ W0 _ _ [some (.int p), some (.ref a), some (.int (most : Nat)), none, none] h
  unfold t_law_counts
  refine st_asg hΦ ?_
  simp only [e_var_v, e_var_t, e_var_q, e_var_i, e_int_v, e_int_t, e_int_q, e_int_i, e_bl_v, e_bl_t, e_bl_q, e_bl_i, e_non_v, e_non_t, e_non_q, e_non_i, e_str_v, e_str_t, e_str_q, e_str_i, e_glob_v, e_glob_t, e_glob_q, e_glob_i, e_neg_v, e_neg_t, e_neg_q, e_neg_i, e_ife_v, e_ife_t, e_ife_q, e_ife_i, e_tup_v, e_tup_t, e_tup_q, e_tup_i, e_ix_v, e_ix_t, e_ix_q, e_ix_i, e_sl_v, e_sl_t, e_sl_q, e_sl_i, e_call_v, e_call_t, e_call_q, e_call_i, e_bi_v, e_bi_t, e_bi_q, e_bi_i, e_bq_v, e_bq_t, e_bq_q, e_bq_i, e_meth_v, e_meth_t, e_meth_q, e_meth_i, e_lst_v, e_lst_q, e_lst_i, e_bl1_v, e_bl1_q, e_bl1_i, e_comp_v, e_comp_q, e_comp_i, e_sub_v, e_fdiv_v, e_mod_v, e_pow_v, e_add_v, e_mul_v, e_add_q, e_mul_q, e_add_i, e_mul_i, e_not_v, e_not_t, e_and_v, e_and_t, e_or_v, e_or_t, e_cmp_v, e_cmp_t, e_rng_i, e_enum_i, e_zip_i, e_nil_a, e_cons_a, e_var_g, e_ix_g, e_tup_g, e_nil_gs, e_cons_gs, o_add, o_sub, o_add2, o_addt, o_mul, o_fdiv, o_mod, o_pow, o_aug, o_neg, m_eq, m_ne, m_lt, m_le, m_gt, m_ge, m_eqs, m_is, m_isnot, n_non, n_ref, n_int, n_tup, b_abs, b_int, b_len, b_max, b_min, l_list, r_1, r_2, t_bl, t_int, t_non, q_tup, q_rol, a_bl, d_none, d_some, d_int, u_all, u_if, g_nil, g_cons, isL_nil, isL_var, isL_int, isL_bl, isL_non, isL_str, isL_glob, isL_neg, isL_not, isL_and, isL_or, isL_ife, isL_cmp, isL_tup, isL_ix, isL_sl, isL_call, isL_bi, isL_bq, isL_meth, isL_rev, isL_step2, isL_lst, isL_bl1, isL_comp, isL_add, isL_mul, isL_sub, isL_fdiv, isL_mod, isL_pow, reduceIte, Bool.or_self, Bool.false_eq_true, isNonE, isNil, lenE, wipeM, Bool.or_true, Bool.true_or, Bool.or_false, List.getElem?_cons_succ, List.getElem?_cons_zero, List.set_cons_succ, List.set_cons_zero, List.length_cons, List.length_nil, List.length_map, rngL_length]
  rw [hs]
  refine ⟨a, xs, most, rfl, ha, hm, hlen, hx, fun r nr => ?_⟩
  simp only [e_var_v, e_var_t, e_var_q, e_var_i, e_int_v, e_int_t, e_int_q, e_int_i, e_bl_v, e_bl_t, e_bl_q, e_bl_i, e_non_v, e_non_t, e_non_q, e_non_i, e_str_v, e_str_t, e_str_q, e_str_i, e_glob_v, e_glob_t, e_glob_q, e_glob_i, e_neg_v, e_neg_t, e_neg_q, e_neg_i, e_ife_v, e_ife_t, e_ife_q, e_ife_i, e_tup_v, e_tup_t, e_tup_q, e_tup_i, e_ix_v, e_ix_t, e_ix_q, e_ix_i, e_sl_v, e_sl_t, e_sl_q, e_sl_i, e_call_v, e_call_t, e_call_q, e_call_i, e_bi_v, e_bi_t, e_bi_q, e_bi_i, e_bq_v, e_bq_t, e_bq_q, e_bq_i, e_meth_v, e_meth_t, e_meth_q, e_meth_i, e_lst_v, e_lst_q, e_lst_i, e_bl1_v, e_bl1_q, e_bl1_i, e_comp_v, e_comp_q, e_comp_i, e_sub_v, e_fdiv_v, e_mod_v, e_pow_v, e_add_v, e_mul_v, e_add_q, e_mul_q, e_add_i, e_mul_i, e_not_v, e_not_t, e_and_v, e_and_t, e_or_v, e_or_t, e_cmp_v, e_cmp_t, e_rng_i, e_enum_i, e_zip_i, e_nil_a, e_cons_a, e_var_g, e_ix_g, e_tup_g, e_nil_gs, e_cons_gs, o_add, o_sub, o_add2, o_addt, o_mul, o_fdiv, o_mod, o_pow, o_aug, o_neg, m_eq, m_ne, m_lt, m_le, m_gt, m_ge, m_eqs, m_is, m_isnot, n_non, n_ref, n_int, n_tup, b_abs, b_int, b_len, b_max, b_min, l_list, r_1, r_2, t_bl, t_int, t_non, q_tup, q_rol, a_bl, d_none, d_some, d_int, u_all, u_if, g_nil, g_cons, isL_nil, isL_var, isL_int, isL_bl, isL_non, isL_str, isL_glob, isL_neg, isL_not, isL_and, isL_or, isL_ife, isL_cmp, isL_tup, isL_ix, isL_sl, isL_call, isL_bi, isL_bq, isL_meth, isL_rev, isL_step2, isL_lst, isL_bl1, isL_comp, isL_add, isL_mul, isL_sub, isL_fdiv, isL_mod, isL_pow, reduceIte, Bool.or_self, Bool.false_eq_true, isNonE, isNil, lenE, wipeM, Bool.or_true, Bool.true_or, Bool.or_false, List.getElem?_cons_succ, List.getElem?_cons_zero, List.set_cons_succ, List.set_cons_zero, List.length_cons, List.length_nil, List.length_map, rngL_length]
  refine st_ret ?_
  simp only [e_var_v, e_var_t, e_var_q, e_var_i, e_int_v, e_int_t, e_int_q, e_int_i, e_bl_v, e_bl_t, e_bl_q, e_bl_i, e_non_v, e_non_t, e_non_q, e_non_i, e_str_v, e_str_t, e_str_q, e_str_i, e_glob_v, e_glob_t, e_glob_q, e_glob_i, e_neg_v, e_neg_t, e_neg_q, e_neg_i, e_ife_v, e_ife_t, e_ife_q, e_ife_i, e_tup_v, e_tup_t, e_tup_q, e_tup_i, e_ix_v, e_ix_t, e_ix_q, e_ix_i, e_sl_v, e_sl_t, e_sl_q, e_sl_i, e_call_v, e_call_t, e_call_q, e_call_i, e_bi_v, e_bi_t, e_bi_q, e_bi_i, e_bq_v, e_bq_t, e_bq_q, e_bq_i, e_meth_v, e_meth_t, e_meth_q, e_meth_i, e_lst_v, e_lst_q, e_lst_i, e_bl1_v, e_bl1_q, e_bl1_i, e_comp_v, e_comp_q, e_comp_i, e_sub_v, e_fdiv_v, e_mod_v, e_pow_v, e_add_v, e_mul_v, e_add_q, e_mul_q, e_add_i, e_mul_i, e_not_v, e_not_t, e_and_v, e_and_t, e_or_v, e_or_t, e_cmp_v, e_cmp_t, e_rng_i, e_enum_i, e_zip_i, e_nil_a, e_cons_a, e_var_g, e_ix_g, e_tup_g, e_nil_gs, e_cons_gs, o_add, o_sub, o_add2, o_addt, o_mul, o_fdiv, o_mod, o_pow, o_aug, o_neg, m_eq, m_ne, m_lt, m_le, m_gt, m_ge, m_eqs, m_is, m_isnot, n_non, n_ref, n_int, n_tup, b_abs, b_int, b_len, b_max, b_min, l_list, r_1, r_2, t_bl, t_int, t_non, q_tup, q_rol, a_bl, d_none, d_some, d_int, u_all, u_if, g_nil, g_cons, isL_nil, isL_var, isL_int, isL_bl, isL_non, isL_str, isL_glob, isL_neg, isL_not, isL_and, isL_or, isL_ife, isL_cmp, isL_tup, isL_ix, isL_sl, isL_call, isL_bi, isL_bq, isL_meth, isL_rev, isL_step2, isL_lst, isL_bl1, isL_comp, isL_add, isL_mul, isL_sub, isL_fdiv, isL_mod, isL_pow, reduceIte, Bool.or_self, Bool.false_eq_true, isNonE, isNil, lenE, wipeM, Bool.or_true, Bool.true_or, Bool.or_false, List.getElem?_cons_succ, List.getElem?_cons_zero, List.set_cons_succ, List.set_cons_zero, List.length_cons, List.length_nil, List.length_map, rngL_length]
  refine ⟨by omega, by have := hSZ; omega, ?_⟩
  rw [show ((most : Int) + 1 - 1).toNat = most by omega]
  refine compI_pure hΦ (fun k => .int (ps (cf xs) (k + 1) + p ^ (k + 1) + 1)) trivial ?_ ?_
  · intro j m R ej hR
    obtain ⟨hj, rfl⟩ := rng_get ej
    simp only [e_var_v, e_var_t, e_var_q, e_var_i, e_int_v, e_int_t, e_int_q, e_int_i, e_bl_v, e_bl_t, e_bl_q, e_bl_i, e_non_v, e_non_t, e_non_q, e_non_i, e_str_v, e_str_t, e_str_q, e_str_i, e_glob_v, e_glob_t, e_glob_q, e_glob_i, e_neg_v, e_neg_t, e_neg_q, e_neg_i, e_ife_v, e_ife_t, e_ife_q, e_ife_i, e_tup_v, e_tup_t, e_tup_q, e_tup_i, e_ix_v, e_ix_t, e_ix_q, e_ix_i, e_sl_v, e_sl_t, e_sl_q, e_sl_i, e_call_v, e_call_t, e_call_q, e_call_i, e_bi_v, e_bi_t, e_bi_q, e_bi_i, e_bq_v, e_bq_t, e_bq_q, e_bq_i, e_meth_v, e_meth_t, e_meth_q, e_meth_i, e_lst_v, e_lst_q, e_lst_i, e_bl1_v, e_bl1_q, e_bl1_i, e_comp_v, e_comp_q, e_comp_i, e_sub_v, e_fdiv_v, e_mod_v, e_pow_v, e_add_v, e_mul_v, e_add_q, e_mul_q, e_add_i, e_mul_i, e_not_v, e_not_t, e_and_v, e_and_t, e_or_v, e_or_t, e_cmp_v, e_cmp_t, e_rng_i, e_enum_i, e_zip_i, e_nil_a, e_cons_a, e_var_g, e_ix_g, e_tup_g, e_nil_gs, e_cons_gs, o_add, o_sub, o_add2, o_addt, o_mul, o_fdiv, o_mod, o_pow, o_aug, o_neg, m_eq, m_ne, m_lt, m_le, m_gt, m_ge, m_eqs, m_is, m_isnot, n_non, n_ref, n_int, n_tup, b_abs, b_int, b_len, b_max, b_min, l_list, r_1, r_2, t_bl, t_int, t_non, q_tup, q_rol, a_bl, d_none, d_some, d_int, u_all, u_if, g_nil, g_cons, isL_nil, isL_var, isL_int, isL_bl, isL_non, isL_str, isL_glob, isL_neg, isL_not, isL_and, isL_or, isL_ife, isL_cmp, isL_tup, isL_ix, isL_sl, isL_call, isL_bi, isL_bq, isL_meth, isL_rev, isL_step2, isL_lst, isL_bl1, isL_comp, isL_add, isL_mul, isL_sub, isL_fdiv, isL_mod, isL_pow, reduceIte, Bool.or_self, Bool.false_eq_true, isNonE, isNil, lenE, wipeM, Bool.or_true, Bool.true_or, Bool.or_false, List.getElem?_cons_succ, List.getElem?_cons_zero, List.set_cons_succ, List.set_cons_zero, List.length_cons, List.length_nil, List.length_map, rngL_length]
    rw [hr]
    refine ⟨p, _, rfl, by omega, by omega, p1, p2, ?_⟩
    simp only [e_var_v, e_var_t, e_var_q, e_var_i, e_int_v, e_int_t, e_int_q, e_int_i, e_bl_v, e_bl_t, e_bl_q, e_bl_i, e_non_v, e_non_t, e_non_q, e_non_i, e_str_v, e_str_t, e_str_q, e_str_i, e_glob_v, e_glob_t, e_glob_q, e_glob_i, e_neg_v, e_neg_t, e_neg_q, e_neg_i, e_ife_v, e_ife_t, e_ife_q, e_ife_i, e_tup_v, e_tup_t, e_tup_q, e_tup_i, e_ix_v, e_ix_t, e_ix_q, e_ix_i, e_sl_v, e_sl_t, e_sl_q, e_sl_i, e_call_v, e_call_t, e_call_q, e_call_i, e_bi_v, e_bi_t, e_bi_q, e_bi_i, e_bq_v, e_bq_t, e_bq_q, e_bq_i, e_meth_v, e_meth_t, e_meth_q, e_meth_i, e_lst_v, e_lst_q, e_lst_i, e_bl1_v, e_bl1_q, e_bl1_i, e_comp_v, e_comp_q, e_comp_i, e_sub_v, e_fdiv_v, e_mod_v, e_pow_v, e_add_v, e_mul_v, e_add_q, e_mul_q, e_add_i, e_mul_i, e_not_v, e_not_t, e_and_v, e_and_t, e_or_v, e_or_t, e_cmp_v, e_cmp_t, e_rng_i, e_enum_i, e_zip_i, e_nil_a, e_cons_a, e_var_g, e_ix_g, e_tup_g, e_nil_gs, e_cons_gs, o_add, o_sub, o_add2, o_addt, o_mul, o_fdiv, o_mod, o_pow, o_aug, o_neg, m_eq, m_ne, m_lt, m_le, m_gt, m_ge, m_eqs, m_is, m_isnot, n_non, n_ref, n_int, n_tup, b_abs, b_int, b_len, b_max, b_min, l_list, r_1, r_2, t_bl, t_int, t_non, q_tup, q_rol, a_bl, d_none, d_some, d_int, u_all, u_if, g_nil, g_cons, isL_nil, isL_var, isL_int, isL_bl, isL_non, isL_str, isL_glob, isL_neg, isL_not, isL_and, isL_or, isL_ife, isL_cmp, isL_tup, isL_ix, isL_sl, isL_call, isL_bi, isL_bq, isL_meth, isL_rev, isL_step2, isL_lst, isL_bl1, isL_comp, isL_add, isL_mul, isL_sub, isL_fdiv, isL_mod, isL_pow, reduceIte, Bool.or_self, Bool.false_eq_true, isNonE, isNil, lenE, wipeM, Bool.or_true, Bool.true_or, Bool.or_false, List.getElem?_cons_succ, List.getElem?_cons_zero, List.set_cons_succ, List.set_cons_zero, List.length_cons, List.length_nil, List.length_map, rngL_length]
    refine ix_int put_same (by omega) (by rw [fsums_len]; omega) ?_
    rw [show (1 + (j : Int) * 1).toNat = j + 1 by omega, fsums_get (by omega)]
    simp only [e_var_v, e_var_t, e_var_q, e_var_i, e_int_v, e_int_t, e_int_q, e_int_i, e_bl_v, e_bl_t, e_bl_q, e_bl_i, e_non_v, e_non_t, e_non_q, e_non_i, e_str_v, e_str_t, e_str_q, e_str_i, e_glob_v, e_glob_t, e_glob_q, e_glob_i, e_neg_v, e_neg_t, e_neg_q, e_neg_i, e_ife_v, e_ife_t, e_ife_q, e_ife_i, e_tup_v, e_tup_t, e_tup_q, e_tup_i, e_ix_v, e_ix_t, e_ix_q, e_ix_i, e_sl_v, e_sl_t, e_sl_q, e_sl_i, e_call_v, e_call_t, e_call_q, e_call_i, e_bi_v, e_bi_t, e_bi_q, e_bi_i, e_bq_v, e_bq_t, e_bq_q, e_bq_i, e_meth_v, e_meth_t, e_meth_q, e_meth_i, e_lst_v, e_lst_q, e_lst_i, e_bl1_v, e_bl1_q, e_bl1_i, e_comp_v, e_comp_q, e_comp_i, e_sub_v, e_fdiv_v, e_mod_v, e_pow_v, e_add_v, e_mul_v, e_add_q, e_mul_q, e_add_i, e_mul_i, e_not_v, e_not_t, e_and_v, e_and_t, e_or_v, e_or_t, e_cmp_v, e_cmp_t, e_rng_i, e_enum_i, e_zip_i, e_nil_a, e_cons_a, e_var_g, e_ix_g, e_tup_g, e_nil_gs, e_cons_gs, o_add, o_sub, o_add2, o_addt, o_mul, o_fdiv, o_mod, o_pow, o_aug, o_neg, m_eq, m_ne, m_lt, m_le, m_gt, m_ge, m_eqs, m_is, m_isnot, n_non, n_ref, n_int, n_tup, b_abs, b_int, b_len, b_max, b_min, l_list, r_1, r_2, t_bl, t_int, t_non, q_tup, q_rol, a_bl, d_none, d_some, d_int, u_all, u_if, g_nil, g_cons, isL_nil, isL_var, isL_int, isL_bl, isL_non, isL_str, isL_glob, isL_neg, isL_not, isL_and, isL_or, isL_ife, isL_cmp, isL_tup, isL_ix, isL_sl, isL_call, isL_bi, isL_bq, isL_meth, isL_rev, isL_step2, isL_lst, isL_bl1, isL_comp, isL_add, isL_mul, isL_sub, isL_fdiv, isL_mod, isL_pow, reduceIte, Bool.or_self, Bool.false_eq_true, isNonE, isNil, lenE, wipeM, Bool.or_true, Bool.true_or, Bool.or_false, List.getElem?_cons_succ, List.getElem?_cons_zero, List.set_cons_succ, List.set_cons_zero, List.length_cons, List.length_nil, List.length_map, rngL_length]
    rw [show p ^ (j + 1) + 1 - - ps (cf xs) (j + 1) = ps (cf xs) (j + 1) + p ^ (j + 1) + 1 by omega]
    exact hR
  · rw [rngL_length]
    refine ⟨trivial, fun p' np' => ⟨put h p' (LI (counts p xs most)), ?_, post p' ((Sub.put nr).none np')⟩⟩
    have : (List.range most).map (fun k => M.int (ps (cf xs) (k + 1) + p ^ (k + 1) + 1)) = (counts p xs most).map M.int := by
      unfold counts; rw [List.map_map]; rfl
    rw [this]
    exact (Sub.put nr).put2
end Mp.K39

set_option Elab.async false
set_option linter.all false
set_option maxRecDepth 100000
set_option exponentiation.threshold 500
namespace Mp.K39
open PySem Mp
/-! ### _law_twin -/
def twin (xs : List Int) : List Int := (List.range xs.length).map fun k => xs.getD k 0 * sg k
def spTwin : SpM := fun ms h Q _ => ∃ (a : Nat) (xs : List Int), ms = [.ref a] ∧ h a = some (LI xs) ∧ xs.length ≤ 1000 ∧ (∀ c ∈ xs, c.natAbs ≤ 2 ^ 54) ∧ ∀ r, h r = none → Q (.ref r) (put h r (LI (twin xs)))
theorem keeps_twin (Φ : Phi) (hΦ : Φ.Mono) : Keeps Φ 2 t_law_twin spTwin := by
  intro ms h Q hsp
  obtain ⟨a, xs, rfl, ha, hlen, hx, post⟩ := hsp
  change wS Φ W0 _ _ [some (.ref a), none] h
  unfold t_law_twin
  refine st_ret ?_
  simp only [e_var_v, e_var_t, e_var_q, e_var_i, e_int_v, e_int_t, e_int_q, e_int_i, e_bl_v, e_bl_t, e_bl_q, e_bl_i, e_non_v, e_non_t, e_non_q, e_non_i, e_str_v, e_str_t, e_str_q, e_str_i, e_glob_v, e_glob_t, e_glob_q, e_glob_i, e_neg_v, e_neg_t, e_neg_q, e_neg_i, e_ife_v, e_ife_t, e_ife_q, e_ife_i, e_tup_v, e_tup_t, e_tup_q, e_tup_i, e_ix_v, e_ix_t, e_ix_q, e_ix_i, e_sl_v, e_sl_t, e_sl_q, e_sl_i, e_call_v, e_call_t, e_call_q, e_call_i, e_bi_v, e_bi_t, e_bi_q, e_bi_i, e_bq_v, e_bq_t, e_bq_q, e_bq_i, e_meth_v, e_meth_t, e_meth_q, e_meth_i, e_lst_v, e_lst_q, e_lst_i, e_bl1_v, e_bl1_q, e_bl1_i, e_comp_v, e_comp_q, e_comp_i, e_sub_v, e_fdiv_v, e_mod_v, e_pow_v, e_add_v, e_mul_v, e_add_q, e_mul_q, e_add_i, e_mul_i, e_not_v, e_not_t, e_and_v, e_and_t, e_or_v, e_or_t, e_cmp_v, e_cmp_t, e_rng_i, e_enum_i, e_zip_i, e_nil_a, e_cons_a, e_var_g, e_ix_g, e_tup_g, e_nil_gs, e_cons_gs, o_add, o_sub, o_add2, o_addt, o_mul, o_fdiv, o_mod, o_pow, o_aug, o_neg, m_eq, m_ne, m_lt, m_le, m_gt, m_ge, m_eqs, m_is, m_isnot, n_non, n_ref, n_int, n_tup, b_abs, b_int, b_len, b_max, b_min, l_list, r_1, r_2, t_bl, t_int, t_non, q_tup, q_rol, a_bl, d_none, d_some, d_int, u_all, u_if, g_nil, g_cons, isL_nil, isL_var, isL_int, isL_bl, isL_non, isL_str, isL_glob, isL_neg, isL_not, isL_and, isL_or, isL_ife, isL_cmp, isL_tup, isL_ix, isL_sl, isL_call, isL_bi, isL_bq, isL_meth, isL_rev, isL_step2, isL_lst, isL_bl1, isL_comp, isL_add, isL_mul, isL_sub, isL_fdiv, isL_mod, isL_pow, reduceIte, Bool.not_true, Bool.not_false, Bool.or_self, Bool.false_eq_true, isNonE, isNil, lenE, wipeM, Bool.or_true, Bool.true_or, Bool.or_false, List.getElem?_cons_succ, List.getElem?_cons_zero, List.set_cons_succ, List.set_cons_zero, List.length_cons, List.length_nil, List.length_map, rngL_length, len_int ha]
  refine ⟨by omega, by have := hSZ; omega, ?_⟩
  rw [show ((xs.length : Nat) : Int).toNat = xs.length by omega]
  refine compI_pureS hΦ (fun k => .int (xs.getD k 0 * sg k)) trivial ?_ ?_
  · intro j m R ej hR
    obtain ⟨hj, rfl⟩ := rng_get ej
    simp only [e_var_v, e_var_t, e_var_q, e_var_i, e_int_v, e_int_t, e_int_q, e_int_i, e_bl_v, e_bl_t, e_bl_q, e_bl_i, e_non_v, e_non_t, e_non_q, e_non_i, e_str_v, e_str_t, e_str_q, e_str_i, e_glob_v, e_glob_t, e_glob_q, e_glob_i, e_neg_v, e_neg_t, e_neg_q, e_neg_i, e_ife_v, e_ife_t, e_ife_q, e_ife_i, e_tup_v, e_tup_t, e_tup_q, e_tup_i, e_ix_v, e_ix_t, e_ix_q, e_ix_i, e_sl_v, e_sl_t, e_sl_q, e_sl_i, e_call_v, e_call_t, e_call_q, e_call_i, e_bi_v, e_bi_t, e_bi_q, e_bi_i, e_bq_v, e_bq_t, e_bq_q, e_bq_i, e_meth_v, e_meth_t, e_meth_q, e_meth_i, e_lst_v, e_lst_q, e_lst_i, e_bl1_v, e_bl1_q, e_bl1_i, e_comp_v, e_comp_q, e_comp_i, e_sub_v, e_fdiv_v, e_mod_v, e_pow_v, e_add_v, e_mul_v, e_add_q, e_mul_q, e_add_i, e_mul_i, e_not_v, e_not_t, e_and_v, e_and_t, e_or_v, e_or_t, e_cmp_v, e_cmp_t, e_rng_i, e_enum_i, e_zip_i, e_nil_a, e_cons_a, e_var_g, e_ix_g, e_tup_g, e_nil_gs, e_cons_gs, o_add, o_sub, o_add2, o_addt, o_mul, o_fdiv, o_mod, o_pow, o_aug, o_neg, m_eq, m_ne, m_lt, m_le, m_gt, m_ge, m_eqs, m_is, m_isnot, n_non, n_ref, n_int, n_tup, b_abs, b_int, b_len, b_max, b_min, l_list, r_1, r_2, t_bl, t_int, t_non, q_tup, q_rol, a_bl, d_none, d_some, d_int, u_all, u_if, g_nil, g_cons, isL_nil, isL_var, isL_int, isL_bl, isL_non, isL_str, isL_glob, isL_neg, isL_not, isL_and, isL_or, isL_ife, isL_cmp, isL_tup, isL_ix, isL_sl, isL_call, isL_bi, isL_bq, isL_meth, isL_rev, isL_step2, isL_lst, isL_bl1, isL_comp, isL_add, isL_mul, isL_sub, isL_fdiv, isL_mod, isL_pow, reduceIte, Bool.not_true, Bool.not_false, Bool.or_self, Bool.false_eq_true, isNonE, isNil, lenE, wipeM, Bool.or_true, Bool.true_or, Bool.or_false, List.getElem?_cons_succ, List.getElem?_cons_zero, List.set_cons_succ, List.set_cons_zero, List.length_cons, List.length_nil, List.length_map, rngL_length]
    refine ix_int ha (by omega) (by omega) ?_
    refine ⟨by omega, trivial, fun p np => ⟨by omega, ?_⟩⟩
    have e : ((0 + (j : Int) * 1) % 2).toNat = j % 2 := by omega
    refine ix_int (ns := [1, -1]) put_same (by omega) (by rw [e]; show j % 2 < 2; omega) ?_
    have s : [(1 : Int), -1].getD (j % 2) 0 = sg j := by
      unfold sg
      rcases Nat.mod_two_eq_zero_or_one j with z | z <;> rw [z] <;> rfl
    rw [e, s, show (0 + (j : Int) * 1).toNat = j by omega]
    simp only [e_var_v, e_var_t, e_var_q, e_var_i, e_int_v, e_int_t, e_int_q, e_int_i, e_bl_v, e_bl_t, e_bl_q, e_bl_i, e_non_v, e_non_t, e_non_q, e_non_i, e_str_v, e_str_t, e_str_q, e_str_i, e_glob_v, e_glob_t, e_glob_q, e_glob_i, e_neg_v, e_neg_t, e_neg_q, e_neg_i, e_ife_v, e_ife_t, e_ife_q, e_ife_i, e_tup_v, e_tup_t, e_tup_q, e_tup_i, e_ix_v, e_ix_t, e_ix_q, e_ix_i, e_sl_v, e_sl_t, e_sl_q, e_sl_i, e_call_v, e_call_t, e_call_q, e_call_i, e_bi_v, e_bi_t, e_bi_q, e_bi_i, e_bq_v, e_bq_t, e_bq_q, e_bq_i, e_meth_v, e_meth_t, e_meth_q, e_meth_i, e_lst_v, e_lst_q, e_lst_i, e_bl1_v, e_bl1_q, e_bl1_i, e_comp_v, e_comp_q, e_comp_i, e_sub_v, e_fdiv_v, e_mod_v, e_pow_v, e_add_v, e_mul_v, e_add_q, e_mul_q, e_add_i, e_mul_i, e_not_v, e_not_t, e_and_v, e_and_t, e_or_v, e_or_t, e_cmp_v, e_cmp_t, e_rng_i, e_enum_i, e_zip_i, e_nil_a, e_cons_a, e_var_g, e_ix_g, e_tup_g, e_nil_gs, e_cons_gs, o_add, o_sub, o_add2, o_addt, o_mul, o_fdiv, o_mod, o_pow, o_aug, o_neg, m_eq, m_ne, m_lt, m_le, m_gt, m_ge, m_eqs, m_is, m_isnot, n_non, n_ref, n_int, n_tup, b_abs, b_int, b_len, b_max, b_min, l_list, r_1, r_2, t_bl, t_int, t_non, q_tup, q_rol, a_bl, d_none, d_some, d_int, u_all, u_if, g_nil, g_cons, isL_nil, isL_var, isL_int, isL_bl, isL_non, isL_str, isL_glob, isL_neg, isL_not, isL_and, isL_or, isL_ife, isL_cmp, isL_tup, isL_ix, isL_sl, isL_call, isL_bi, isL_bq, isL_meth, isL_rev, isL_step2, isL_lst, isL_bl1, isL_comp, isL_add, isL_mul, isL_sub, isL_fdiv, isL_mod, isL_pow, reduceIte, Bool.not_true, Bool.not_false, Bool.or_self, Bool.false_eq_true, isNonE, isNil, lenE, wipeM, Bool.or_true, Bool.true_or, Bool.or_false, List.getElem?_cons_succ, List.getElem?_cons_zero, List.set_cons_succ, List.set_cons_zero, List.length_cons, List.length_nil, List.length_map, rngL_length]
    refine ⟨mulOk ?_ ?_, hR _ (Sub.put np)⟩
    · exact Nat.lt_of_le_of_lt (cf_bnd hx j) (by decide)
    · unfold sg; split <;> decide
  · rw [rngL_length]
    refine ⟨trivial, fun r nr => ⟨_, Sub.refl _, ?_⟩⟩
    have e : (List.range xs.length).map (fun k => M.int (xs.getD k 0 * sg k)) = (twin xs).map M.int := by unfold twin; rw [List.map_map]; rfl
    rw [e]
    exact post r nr
/-! ### _law_list -/
def spList : SpM := fun ms h Q _ => ∃ (a b : Nat) (ns : List Int) (n : Nat) (p : Int) (g : Nat) (most : Int), ms = [.ref a, .int p, .int (g : Nat), .int most] ∧ Deck h a b ns n ∧ ns.length ≤ 63 ∧ n < 1000000000 ∧ 1 ≤ p ∧ p < 1000 ∧ g ≤ 4 ∧ 0 ≤ most ∧ most ≤ 1000000000 ∧
  ∀ r h' l, l.length = g + 1 → l.getD 0 0 = 1 → (∀ c ∈ l, c.natAbs ≤ most.natAbs + 1) → h r = none → h' r = some (LI (full p l g)) → Deck h' a b ns (n + 1000) → (∀ c, c ≠ a → c ≠ r → h' c = h c) → Q (.ref r) h'
theorem keeps_list (Φ : Phi) (hΦ : Φ.Mono) (hr : Φ.fn "_law_raised" = spRaised) (hd : Φ.fn "_law_draw" = spDraw) : Keeps Φ 7 t_law_list spList := by
  intro ms h Q hsp
  obtain ⟨a, b, ns, n, p, g, most, rfl, dk, hlen, hn, p1, p2, hg, m0, m1, post⟩ := hsp
  have hp : p.natAbs < 2 ^ 100 := Nat.lt_of_lt_of_le (m := 1000) (by omega) (by decide)
  change wS Φ W0 _ _ [some (.ref a), some (.int p), some (.int (g : Nat)), some (.int most), none, none, none] h
  unfold t_law_list
  refine st_asg hΦ ?_
  simp only [e_var_v, e_var_t, e_var_q, e_var_i, e_int_v, e_int_t, e_int_q, e_int_i, e_bl_v, e_bl_t, e_bl_q, e_bl_i, e_non_v, e_non_t, e_non_q, e_non_i, e_str_v, e_str_t, e_str_q, e_str_i, e_glob_v, e_glob_t, e_glob_q, e_glob_i, e_neg_v, e_neg_t, e_neg_q, e_neg_i, e_ife_v, e_ife_t, e_ife_q, e_ife_i, e_tup_v, e_tup_t, e_tup_q, e_tup_i, e_ix_v, e_ix_t, e_ix_q, e_ix_i, e_sl_v, e_sl_t, e_sl_q, e_sl_i, e_call_v, e_call_t, e_call_q, e_call_i, e_bi_v, e_bi_t, e_bi_q, e_bi_i, e_bq_v, e_bq_t, e_bq_q, e_bq_i, e_meth_v, e_meth_t, e_meth_q, e_meth_i, e_lst_v, e_lst_q, e_lst_i, e_bl1_v, e_bl1_q, e_bl1_i, e_comp_v, e_comp_q, e_comp_i, e_sub_v, e_fdiv_v, e_mod_v, e_pow_v, e_add_v, e_mul_v, e_add_q, e_mul_q, e_add_i, e_mul_i, e_not_v, e_not_t, e_and_v, e_and_t, e_or_v, e_or_t, e_cmp_v, e_cmp_t, e_rng_i, e_enum_i, e_zip_i, e_nil_a, e_cons_a, e_var_g, e_ix_g, e_tup_g, e_nil_gs, e_cons_gs, o_add, o_sub, o_add2, o_addt, o_mul, o_fdiv, o_mod, o_pow, o_aug, o_neg, m_eq, m_ne, m_lt, m_le, m_gt, m_ge, m_eqs, m_is, m_isnot, n_non, n_ref, n_int, n_tup, b_abs, b_int, b_len, b_max, b_min, l_list, r_1, r_2, t_bl, t_int, t_non, q_tup, q_rol, a_bl, d_none, d_some, d_int, u_all, u_if, g_nil, g_cons, isL_nil, isL_var, isL_int, isL_bl, isL_non, isL_str, isL_glob, isL_neg, isL_not, isL_and, isL_or, isL_ife, isL_cmp, isL_tup, isL_ix, isL_sl, isL_call, isL_bi, isL_bq, isL_meth, isL_rev, isL_step2, isL_lst, isL_bl1, isL_comp, isL_add, isL_mul, isL_sub, isL_fdiv, isL_mod, isL_pow, reduceIte, Bool.not_true, Bool.not_false, Bool.or_self, Bool.false_eq_true, isNonE, isNil, lenE, wipeM, Bool.or_true, Bool.true_or, Bool.or_false, List.getElem?_cons_succ, List.getElem?_cons_zero, List.set_cons_succ, List.set_cons_zero, List.length_cons, List.length_nil, List.length_map, rngL_length]
  refine ⟨by omega, by omega, by have := hSZ; omega, ?_⟩
  rw [show ((g : Nat) : Int).toNat = g by omega]
  refine comp_inv hΦ (fun i acc h' => ∃ l : List Int, acc = l.map M.int ∧ l.length = i ∧ (∀ c ∈ l, c.natAbs ≤ most.natAbs + 1) ∧ Deck h' a b ns (n + i) ∧ ∀ c, c ≠ a → h' c = h c) ?_ ?_ ?_ ?_
  · exact ⟨[], rfl, rfl, by simp, dk, fun _ _ => rfl⟩
  · intro i acc h' _ _; trivial
  · rintro i m acc h' ei ⟨l, rfl, ll, lb, dk', fr⟩
    obtain ⟨hi, rfl⟩ := rng_get ei
    simp only [e_var_v, e_var_t, e_var_q, e_var_i, e_int_v, e_int_t, e_int_q, e_int_i, e_bl_v, e_bl_t, e_bl_q, e_bl_i, e_non_v, e_non_t, e_non_q, e_non_i, e_str_v, e_str_t, e_str_q, e_str_i, e_glob_v, e_glob_t, e_glob_q, e_glob_i, e_neg_v, e_neg_t, e_neg_q, e_neg_i, e_ife_v, e_ife_t, e_ife_q, e_ife_i, e_tup_v, e_tup_t, e_tup_q, e_tup_i, e_ix_v, e_ix_t, e_ix_q, e_ix_i, e_sl_v, e_sl_t, e_sl_q, e_sl_i, e_call_v, e_call_t, e_call_q, e_call_i, e_bi_v, e_bi_t, e_bi_q, e_bi_i, e_bq_v, e_bq_t, e_bq_q, e_bq_i, e_meth_v, e_meth_t, e_meth_q, e_meth_i, e_lst_v, e_lst_q, e_lst_i, e_bl1_v, e_bl1_q, e_bl1_i, e_comp_v, e_comp_q, e_comp_i, e_sub_v, e_fdiv_v, e_mod_v, e_pow_v, e_add_v, e_mul_v, e_add_q, e_mul_q, e_add_i, e_mul_i, e_not_v, e_not_t, e_and_v, e_and_t, e_or_v, e_or_t, e_cmp_v, e_cmp_t, e_rng_i, e_enum_i, e_zip_i, e_nil_a, e_cons_a, e_var_g, e_ix_g, e_tup_g, e_nil_gs, e_cons_gs, o_add, o_sub, o_add2, o_addt, o_mul, o_fdiv, o_mod, o_pow, o_aug, o_neg, m_eq, m_ne, m_lt, m_le, m_gt, m_ge, m_eqs, m_is, m_isnot, n_non, n_ref, n_int, n_tup, b_abs, b_int, b_len, b_max, b_min, l_list, r_1, r_2, t_bl, t_int, t_non, q_tup, q_rol, a_bl, d_none, d_some, d_int, u_all, u_if, g_nil, g_cons, isL_nil, isL_var, isL_int, isL_bl, isL_non, isL_str, isL_glob, isL_neg, isL_not, isL_and, isL_or, isL_ife, isL_cmp, isL_tup, isL_ix, isL_sl, isL_call, isL_bi, isL_bq, isL_meth, isL_rev, isL_step2, isL_lst, isL_bl1, isL_comp, isL_add, isL_mul, isL_sub, isL_fdiv, isL_mod, isL_pow, reduceIte, Bool.not_true, Bool.not_false, Bool.or_self, Bool.false_eq_true, isNonE, isNil, lenE, wipeM, Bool.or_true, Bool.true_or, Bool.or_false, List.getElem?_cons_succ, List.getElem?_cons_zero, List.set_cons_succ, List.set_cons_zero, List.length_cons, List.length_nil, List.length_map, rngL_length]
    refine ⟨mulOk (by decide) (by omega), ?_⟩
    rw [hd]
    refine ⟨a, b, ns, n + i, _, rfl, by omega, by omega, by omega, hlen, dk', fun v h'' v0 v1 dk'' fr' => ?_⟩
    simp only [e_var_v, e_var_t, e_var_q, e_var_i, e_int_v, e_int_t, e_int_q, e_int_i, e_bl_v, e_bl_t, e_bl_q, e_bl_i, e_non_v, e_non_t, e_non_q, e_non_i, e_str_v, e_str_t, e_str_q, e_str_i, e_glob_v, e_glob_t, e_glob_q, e_glob_i, e_neg_v, e_neg_t, e_neg_q, e_neg_i, e_ife_v, e_ife_t, e_ife_q, e_ife_i, e_tup_v, e_tup_t, e_tup_q, e_tup_i, e_ix_v, e_ix_t, e_ix_q, e_ix_i, e_sl_v, e_sl_t, e_sl_q, e_sl_i, e_call_v, e_call_t, e_call_q, e_call_i, e_bi_v, e_bi_t, e_bi_q, e_bi_i, e_bq_v, e_bq_t, e_bq_q, e_bq_i, e_meth_v, e_meth_t, e_meth_q, e_meth_i, e_lst_v, e_lst_q, e_lst_i, e_bl1_v, e_bl1_q, e_bl1_i, e_comp_v, e_comp_q, e_comp_i, e_sub_v, e_fdiv_v, e_mod_v, e_pow_v, e_add_v, e_mul_v, e_add_q, e_mul_q, e_add_i, e_mul_i, e_not_v, e_not_t, e_and_v, e_and_t, e_or_v, e_or_t, e_cmp_v, e_cmp_t, e_rng_i, e_enum_i, e_zip_i, e_nil_a, e_cons_a, e_var_g, e_ix_g, e_tup_g, e_nil_gs, e_cons_gs, o_add, o_sub, o_add2, o_addt, o_mul, o_fdiv, o_mod, o_pow, o_aug, o_neg, m_eq, m_ne, m_lt, m_le, m_gt, m_ge, m_eqs, m_is, m_isnot, n_non, n_ref, n_int, n_tup, b_abs, b_int, b_len, b_max, b_min, l_list, r_1, r_2, t_bl, t_int, t_non, q_tup, q_rol, a_bl, d_none, d_some, d_int, u_all, u_if, g_nil, g_cons, isL_nil, isL_var, isL_int, isL_bl, isL_non, isL_str, isL_glob, isL_neg, isL_not, isL_and, isL_or, isL_ife, isL_cmp, isL_tup, isL_ix, isL_sl, isL_call, isL_bi, isL_bq, isL_meth, isL_rev, isL_step2, isL_lst, isL_bl1, isL_comp, isL_add, isL_mul, isL_sub, isL_fdiv, isL_mod, isL_pow, reduceIte, Bool.not_true, Bool.not_false, Bool.or_self, Bool.false_eq_true, isNonE, isNil, lenE, wipeM, Bool.or_true, Bool.true_or, Bool.or_false, List.getElem?_cons_succ, List.getElem?_cons_zero, List.set_cons_succ, List.set_cons_zero, List.length_cons, List.length_nil, List.length_map, rngL_length]
    refine ⟨h'', Sub.refl _, l ++ [v - most], by simp, by simp [ll], ?_, dk'', fun c hc => (fr' c hc).trans (fr c hc)⟩
    intro c hc
    rcases List.mem_append.mp hc with hc | hc
    · exact lb c hc
    · have := List.mem_singleton.mp hc; omega
  · rintro acc h2 ⟨l0, rfl, ll, lb, dk2, fr⟩
    rw [rngL_length] at ll dk2
    refine ⟨trivial, trivial, trivial, trivial, by simp only [List.length_map, List.length_cons, List.length_nil]; have := hSZ; omega, trivial, fun r nr => ?_⟩
    obtain ⟨oa, ea⟩ := dk2.at
    have hra : r ≠ a := fun e => by rw [e, ea] at nr; cases nr
    have nr0 : h r = none := (fr r hra) ▸ nr
    generalize hl : (1 : Int) :: l0 = l at *
    have hll : l.length = g + 1 := by rw [← hl]; simp [ll]
    have l00 : l.getD 0 0 = 1 := by rw [← hl]; rfl
    have lbd : ∀ c ∈ l, c.natAbs ≤ most.natAbs + 1 := fun c hc => by
      rw [← hl] at hc
      rcases List.mem_cons.mp hc with e | hc
      · rw [e]; show 1 ≤ _; omega
      · exact lb c hc
    have el : ([M.int 1] ++ l0.map M.int) = l.map M.int := by rw [← hl]; rfl
    rw [el]
    refine st_for hΦ ?_
    simp only [e_var_v, e_var_t, e_var_q, e_var_i, e_int_v, e_int_t, e_int_q, e_int_i, e_bl_v, e_bl_t, e_bl_q, e_bl_i, e_non_v, e_non_t, e_non_q, e_non_i, e_str_v, e_str_t, e_str_q, e_str_i, e_glob_v, e_glob_t, e_glob_q, e_glob_i, e_neg_v, e_neg_t, e_neg_q, e_neg_i, e_ife_v, e_ife_t, e_ife_q, e_ife_i, e_tup_v, e_tup_t, e_tup_q, e_tup_i, e_ix_v, e_ix_t, e_ix_q, e_ix_i, e_sl_v, e_sl_t, e_sl_q, e_sl_i, e_call_v, e_call_t, e_call_q, e_call_i, e_bi_v, e_bi_t, e_bi_q, e_bi_i, e_bq_v, e_bq_t, e_bq_q, e_bq_i, e_meth_v, e_meth_t, e_meth_q, e_meth_i, e_lst_v, e_lst_q, e_lst_i, e_bl1_v, e_bl1_q, e_bl1_i, e_comp_v, e_comp_q, e_comp_i, e_sub_v, e_fdiv_v, e_mod_v, e_pow_v, e_add_v, e_mul_v, e_add_q, e_mul_q, e_add_i, e_mul_i, e_not_v, e_not_t, e_and_v, e_and_t, e_or_v, e_or_t, e_cmp_v, e_cmp_t, e_rng_i, e_enum_i, e_zip_i, e_nil_a, e_cons_a, e_var_g, e_ix_g, e_tup_g, e_nil_gs, e_cons_gs, o_add, o_sub, o_add2, o_addt, o_mul, o_fdiv, o_mod, o_pow, o_aug, o_neg, m_eq, m_ne, m_lt, m_le, m_gt, m_ge, m_eqs, m_is, m_isnot, n_non, n_ref, n_int, n_tup, b_abs, b_int, b_len, b_max, b_min, l_list, r_1, r_2, t_bl, t_int, t_non, q_tup, q_rol, a_bl, d_none, d_some, d_int, u_all, u_if, g_nil, g_cons, isL_nil, isL_var, isL_int, isL_bl, isL_non, isL_str, isL_glob, isL_neg, isL_not, isL_and, isL_or, isL_ife, isL_cmp, isL_tup, isL_ix, isL_sl, isL_call, isL_bi, isL_bq, isL_meth, isL_rev, isL_step2, isL_lst, isL_bl1, isL_comp, isL_add, isL_mul, isL_sub, isL_fdiv, isL_mod, isL_pow, reduceIte, Bool.not_true, Bool.not_false, Bool.or_self, Bool.false_eq_true, isNonE, isNil, lenE, wipeM, Bool.or_true, Bool.true_or, Bool.or_false, List.getElem?_cons_succ, List.getElem?_cons_zero, List.set_cons_succ, List.set_cons_zero, List.length_cons, List.length_nil, List.length_map, rngL_length]
    refine r_down ⟨by omega, ?_⟩
    refine ⟨fun i σ h' => ∃ x5, σ = [some (.ref a), some (.int p), some (.int (g : Nat)), some (.int most), some (.ref r), x5, none] ∧ h' = put h2 r (LI (l ++ (List.range i).map fun j => p ^ (j + 1) * l.getD (g - 1 - j) 0)), ?_, ?_, ?_, ?_⟩
    · exact ⟨none, rfl, by simp⟩
    · intro i σ h' _ _; trivial
    · rintro i m σ h' em ⟨x5, rfl, rfl⟩
      obtain ⟨hi, rfl⟩ := rng_get em
      simp only [e_var_v, e_var_t, e_var_q, e_var_i, e_int_v, e_int_t, e_int_q, e_int_i, e_bl_v, e_bl_t, e_bl_q, e_bl_i, e_non_v, e_non_t, e_non_q, e_non_i, e_str_v, e_str_t, e_str_q, e_str_i, e_glob_v, e_glob_t, e_glob_q, e_glob_i, e_neg_v, e_neg_t, e_neg_q, e_neg_i, e_ife_v, e_ife_t, e_ife_q, e_ife_i, e_tup_v, e_tup_t, e_tup_q, e_tup_i, e_ix_v, e_ix_t, e_ix_q, e_ix_i, e_sl_v, e_sl_t, e_sl_q, e_sl_i, e_call_v, e_call_t, e_call_q, e_call_i, e_bi_v, e_bi_t, e_bi_q, e_bi_i, e_bq_v, e_bq_t, e_bq_q, e_bq_i, e_meth_v, e_meth_t, e_meth_q, e_meth_i, e_lst_v, e_lst_q, e_lst_i, e_bl1_v, e_bl1_q, e_bl1_i, e_comp_v, e_comp_q, e_comp_i, e_sub_v, e_fdiv_v, e_mod_v, e_pow_v, e_add_v, e_mul_v, e_add_q, e_mul_q, e_add_i, e_mul_i, e_not_v, e_not_t, e_and_v, e_and_t, e_or_v, e_or_t, e_cmp_v, e_cmp_t, e_rng_i, e_enum_i, e_zip_i, e_nil_a, e_cons_a, e_var_g, e_ix_g, e_tup_g, e_nil_gs, e_cons_gs, o_add, o_sub, o_add2, o_addt, o_mul, o_fdiv, o_mod, o_pow, o_aug, o_neg, m_eq, m_ne, m_lt, m_le, m_gt, m_ge, m_eqs, m_is, m_isnot, n_non, n_ref, n_int, n_tup, b_abs, b_int, b_len, b_max, b_min, l_list, r_1, r_2, t_bl, t_int, t_non, q_tup, q_rol, a_bl, d_none, d_some, d_int, u_all, u_if, g_nil, g_cons, isL_nil, isL_var, isL_int, isL_bl, isL_non, isL_str, isL_glob, isL_neg, isL_not, isL_and, isL_or, isL_ife, isL_cmp, isL_tup, isL_ix, isL_sl, isL_call, isL_bi, isL_bq, isL_meth, isL_rev, isL_step2, isL_lst, isL_bl1, isL_comp, isL_add, isL_mul, isL_sub, isL_fdiv, isL_mod, isL_pow, reduceIte, Bool.not_true, Bool.not_false, Bool.or_self, Bool.false_eq_true, isNonE, isNil, lenE, wipeM, Bool.or_true, Bool.true_or, Bool.or_false, List.getElem?_cons_succ, List.getElem?_cons_zero, List.set_cons_succ, List.set_cons_zero, List.length_cons, List.length_nil, List.length_map, rngL_length]
      refine st_expr1 ?_
      simp only [e_var_v, e_var_t, e_var_q, e_var_i, e_int_v, e_int_t, e_int_q, e_int_i, e_bl_v, e_bl_t, e_bl_q, e_bl_i, e_non_v, e_non_t, e_non_q, e_non_i, e_str_v, e_str_t, e_str_q, e_str_i, e_glob_v, e_glob_t, e_glob_q, e_glob_i, e_neg_v, e_neg_t, e_neg_q, e_neg_i, e_ife_v, e_ife_t, e_ife_q, e_ife_i, e_tup_v, e_tup_t, e_tup_q, e_tup_i, e_ix_v, e_ix_t, e_ix_q, e_ix_i, e_sl_v, e_sl_t, e_sl_q, e_sl_i, e_call_v, e_call_t, e_call_q, e_call_i, e_bi_v, e_bi_t, e_bi_q, e_bi_i, e_bq_v, e_bq_t, e_bq_q, e_bq_i, e_meth_v, e_meth_t, e_meth_q, e_meth_i, e_lst_v, e_lst_q, e_lst_i, e_bl1_v, e_bl1_q, e_bl1_i, e_comp_v, e_comp_q, e_comp_i, e_sub_v, e_fdiv_v, e_mod_v, e_pow_v, e_add_v, e_mul_v, e_add_q, e_mul_q, e_add_i, e_mul_i, e_not_v, e_not_t, e_and_v, e_and_t, e_or_v, e_or_t, e_cmp_v, e_cmp_t, e_rng_i, e_enum_i, e_zip_i, e_nil_a, e_cons_a, e_var_g, e_ix_g, e_tup_g, e_nil_gs, e_cons_gs, o_add, o_sub, o_add2, o_addt, o_mul, o_fdiv, o_mod, o_pow, o_aug, o_neg, m_eq, m_ne, m_lt, m_le, m_gt, m_ge, m_eqs, m_is, m_isnot, n_non, n_ref, n_int, n_tup, b_abs, b_int, b_len, b_max, b_min, l_list, r_1, r_2, t_bl, t_int, t_non, q_tup, q_rol, a_bl, d_none, d_some, d_int, u_all, u_if, g_nil, g_cons, isL_nil, isL_var, isL_int, isL_bl, isL_non, isL_str, isL_glob, isL_neg, isL_not, isL_and, isL_or, isL_ife, isL_cmp, isL_tup, isL_ix, isL_sl, isL_call, isL_bi, isL_bq, isL_meth, isL_rev, isL_step2, isL_lst, isL_bl1, isL_comp, isL_add, isL_mul, isL_sub, isL_fdiv, isL_mod, isL_pow, reduceIte, Bool.not_true, Bool.not_false, Bool.or_self, Bool.false_eq_true, isNonE, isNil, lenE, wipeM, Bool.or_true, Bool.true_or, Bool.or_false, List.getElem?_cons_succ, List.getElem?_cons_zero, List.set_cons_succ, List.set_cons_zero, List.length_cons, List.length_nil, List.length_map, rngL_length]
      refine ⟨lst_ok put_same, ?_⟩
      rw [hr]
      refine ⟨p, _, rfl, by omega, by omega, p1, hp, ?_⟩
      simp only [e_var_v, e_var_t, e_var_q, e_var_i, e_int_v, e_int_t, e_int_q, e_int_i, e_bl_v, e_bl_t, e_bl_q, e_bl_i, e_non_v, e_non_t, e_non_q, e_non_i, e_str_v, e_str_t, e_str_q, e_str_i, e_glob_v, e_glob_t, e_glob_q, e_glob_i, e_neg_v, e_neg_t, e_neg_q, e_neg_i, e_ife_v, e_ife_t, e_ife_q, e_ife_i, e_tup_v, e_tup_t, e_tup_q, e_tup_i, e_ix_v, e_ix_t, e_ix_q, e_ix_i, e_sl_v, e_sl_t, e_sl_q, e_sl_i, e_call_v, e_call_t, e_call_q, e_call_i, e_bi_v, e_bi_t, e_bi_q, e_bi_i, e_bq_v, e_bq_t, e_bq_q, e_bq_i, e_meth_v, e_meth_t, e_meth_q, e_meth_i, e_lst_v, e_lst_q, e_lst_i, e_bl1_v, e_bl1_q, e_bl1_i, e_comp_v, e_comp_q, e_comp_i, e_sub_v, e_fdiv_v, e_mod_v, e_pow_v, e_add_v, e_mul_v, e_add_q, e_mul_q, e_add_i, e_mul_i, e_not_v, e_not_t, e_and_v, e_and_t, e_or_v, e_or_t, e_cmp_v, e_cmp_t, e_rng_i, e_enum_i, e_zip_i, e_nil_a, e_cons_a, e_var_g, e_ix_g, e_tup_g, e_nil_gs, e_cons_gs, o_add, o_sub, o_add2, o_addt, o_mul, o_fdiv, o_mod, o_pow, o_aug, o_neg, m_eq, m_ne, m_lt, m_le, m_gt, m_ge, m_eqs, m_is, m_isnot, n_non, n_ref, n_int, n_tup, b_abs, b_int, b_len, b_max, b_min, l_list, r_1, r_2, t_bl, t_int, t_non, q_tup, q_rol, a_bl, d_none, d_some, d_int, u_all, u_if, g_nil, g_cons, isL_nil, isL_var, isL_int, isL_bl, isL_non, isL_str, isL_glob, isL_neg, isL_not, isL_and, isL_or, isL_ife, isL_cmp, isL_tup, isL_ix, isL_sl, isL_call, isL_bi, isL_bq, isL_meth, isL_rev, isL_step2, isL_lst, isL_bl1, isL_comp, isL_add, isL_mul, isL_sub, isL_fdiv, isL_mod, isL_pow, reduceIte, Bool.not_true, Bool.not_false, Bool.or_self, Bool.false_eq_true, isNonE, isNil, lenE, wipeM, Bool.or_true, Bool.true_or, Bool.or_false, List.getElem?_cons_succ, List.getElem?_cons_zero, List.set_cons_succ, List.set_cons_zero, List.length_cons, List.length_nil, List.length_map, rngL_length]
      have hlt : i < g := by omega
      have e1 : ((g : Int) - ((g : Int) - 1 + (i : Int) * -1)).toNat = i + 1 := by omega
      have e2 : ((g : Int) - 1 + (i : Int) * -1).toNat = g - 1 - i := by omega
      refine ix_int put_same (by omega) (by rw [List.length_append]; omega) ?_
      rw [e1, e2, List.getD_eq_getElem?_getD, List.getElem?_append_left (by omega), ← List.getD_eq_getElem?_getD]
      simp only [e_var_v, e_var_t, e_var_q, e_var_i, e_int_v, e_int_t, e_int_q, e_int_i, e_bl_v, e_bl_t, e_bl_q, e_bl_i, e_non_v, e_non_t, e_non_q, e_non_i, e_str_v, e_str_t, e_str_q, e_str_i, e_glob_v, e_glob_t, e_glob_q, e_glob_i, e_neg_v, e_neg_t, e_neg_q, e_neg_i, e_ife_v, e_ife_t, e_ife_q, e_ife_i, e_tup_v, e_tup_t, e_tup_q, e_tup_i, e_ix_v, e_ix_t, e_ix_q, e_ix_i, e_sl_v, e_sl_t, e_sl_q, e_sl_i, e_call_v, e_call_t, e_call_q, e_call_i, e_bi_v, e_bi_t, e_bi_q, e_bi_i, e_bq_v, e_bq_t, e_bq_q, e_bq_i, e_meth_v, e_meth_t, e_meth_q, e_meth_i, e_lst_v, e_lst_q, e_lst_i, e_bl1_v, e_bl1_q, e_bl1_i, e_comp_v, e_comp_q, e_comp_i, e_sub_v, e_fdiv_v, e_mod_v, e_pow_v, e_add_v, e_mul_v, e_add_q, e_mul_q, e_add_i, e_mul_i, e_not_v, e_not_t, e_and_v, e_and_t, e_or_v, e_or_t, e_cmp_v, e_cmp_t, e_rng_i, e_enum_i, e_zip_i, e_nil_a, e_cons_a, e_var_g, e_ix_g, e_tup_g, e_nil_gs, e_cons_gs, o_add, o_sub, o_add2, o_addt, o_mul, o_fdiv, o_mod, o_pow, o_aug, o_neg, m_eq, m_ne, m_lt, m_le, m_gt, m_ge, m_eqs, m_is, m_isnot, n_non, n_ref, n_int, n_tup, b_abs, b_int, b_len, b_max, b_min, l_list, r_1, r_2, t_bl, t_int, t_non, q_tup, q_rol, a_bl, d_none, d_some, d_int, u_all, u_if, g_nil, g_cons, isL_nil, isL_var, isL_int, isL_bl, isL_non, isL_str, isL_glob, isL_neg, isL_not, isL_and, isL_or, isL_ife, isL_cmp, isL_tup, isL_ix, isL_sl, isL_call, isL_bi, isL_bq, isL_meth, isL_rev, isL_step2, isL_lst, isL_bl1, isL_comp, isL_add, isL_mul, isL_sub, isL_fdiv, isL_mod, isL_pow, reduceIte, Bool.not_true, Bool.not_false, Bool.or_self, Bool.false_eq_true, isNonE, isNil, lenE, wipeM, Bool.or_true, Bool.true_or, Bool.or_false, List.getElem?_cons_succ, List.getElem?_cons_zero, List.set_cons_succ, List.set_cons_zero, List.length_cons, List.length_nil, List.length_map, rngL_length]
      refine ⟨mulOk ?_ ?_, (append_ref put_same (by rw [List.length_map, List.length_append, List.length_map, List.length_range]; have := hSZ; omega) ?_).2⟩
      · have b1 := pow_small p1 p2 (i + 1)
        have b2 : (2 ^ 10) ^ (i + 1) ≤ (2 ^ 10) ^ 4 := Nat.pow_le_pow_right (by decide) (by omega)
        exact Nat.lt_of_le_of_lt (Nat.le_trans b1 b2) (by decide)
      · exact Nat.lt_of_le_of_lt (cf_bnd lbd (g - 1 - i)) (by omega)
      · refine ⟨_, Sub.refl _, _, rfl, ?_⟩
        simp [LI, put_put, List.range_succ]
    · rintro σ h' ⟨x5, rfl, rfl⟩
      refine st_ret ?_
      simp only [e_var_v, e_var_t, e_var_q, e_var_i, e_int_v, e_int_t, e_int_q, e_int_i, e_bl_v, e_bl_t, e_bl_q, e_bl_i, e_non_v, e_non_t, e_non_q, e_non_i, e_str_v, e_str_t, e_str_q, e_str_i, e_glob_v, e_glob_t, e_glob_q, e_glob_i, e_neg_v, e_neg_t, e_neg_q, e_neg_i, e_ife_v, e_ife_t, e_ife_q, e_ife_i, e_tup_v, e_tup_t, e_tup_q, e_tup_i, e_ix_v, e_ix_t, e_ix_q, e_ix_i, e_sl_v, e_sl_t, e_sl_q, e_sl_i, e_call_v, e_call_t, e_call_q, e_call_i, e_bi_v, e_bi_t, e_bi_q, e_bi_i, e_bq_v, e_bq_t, e_bq_q, e_bq_i, e_meth_v, e_meth_t, e_meth_q, e_meth_i, e_lst_v, e_lst_q, e_lst_i, e_bl1_v, e_bl1_q, e_bl1_i, e_comp_v, e_comp_q, e_comp_i, e_sub_v, e_fdiv_v, e_mod_v, e_pow_v, e_add_v, e_mul_v, e_add_q, e_mul_q, e_add_i, e_mul_i, e_not_v, e_not_t, e_and_v, e_and_t, e_or_v, e_or_t, e_cmp_v, e_cmp_t, e_rng_i, e_enum_i, e_zip_i, e_nil_a, e_cons_a, e_var_g, e_ix_g, e_tup_g, e_nil_gs, e_cons_gs, o_add, o_sub, o_add2, o_addt, o_mul, o_fdiv, o_mod, o_pow, o_aug, o_neg, m_eq, m_ne, m_lt, m_le, m_gt, m_ge, m_eqs, m_is, m_isnot, n_non, n_ref, n_int, n_tup, b_abs, b_int, b_len, b_max, b_min, l_list, r_1, r_2, t_bl, t_int, t_non, q_tup, q_rol, a_bl, d_none, d_some, d_int, u_all, u_if, g_nil, g_cons, isL_nil, isL_var, isL_int, isL_bl, isL_non, isL_str, isL_glob, isL_neg, isL_not, isL_and, isL_or, isL_ife, isL_cmp, isL_tup, isL_ix, isL_sl, isL_call, isL_bi, isL_bq, isL_meth, isL_rev, isL_step2, isL_lst, isL_bl1, isL_comp, isL_add, isL_mul, isL_sub, isL_fdiv, isL_mod, isL_pow, reduceIte, Bool.not_true, Bool.not_false, Bool.or_self, Bool.false_eq_true, isNonE, isNil, lenE, wipeM, Bool.or_true, Bool.true_or, Bool.or_false, List.getElem?_cons_succ, List.getElem?_cons_zero, List.set_cons_succ, List.set_cons_zero, List.length_cons, List.length_nil, List.length_map, rngL_length]
      rw [show ((g : Int) - 1 - -1).toNat = g by omega]
      exact ⟨_, Sub.refl _, post r _ l hll l00 lbd nr0 put_same ((dk2.put nr).mono (by omega)) fun c hc hc' => (put_ne hc').trans (fr c hc)⟩
end Mp.K39

set_option Elab.async false
set_option linter.all false
set_option maxRecDepth 100000
set_option exponentiation.threshold 500
namespace Mp.K39
open PySem Mp
/-! ### _law_product -/
def prod (xs ys : List Int) : List Int := (List.range (xs.length + ys.length - 1)).map fun k => conv (cf xs) (cf ys) k
/-- i rows done, and j places of the next -/
def part (a b : Sq) (i j k : Nat) : Int := sumN (fun i' => if i' ≤ k then a i' * b (k - i') else 0) i + (if i ≤ k ∧ k < i + j then a i * b (k - i) else 0)
theorem part_next {a b : Sq} {i j k : Nat} : part a b i (j + 1) k = if k = i + j then part a b i j k + a i * b j else part a b i j k := by
  unfold part
  by_cases h : k = i + j
  · subst h
    rw [if_pos rfl, if_pos (by omega), if_neg (by omega), show i + j - i = j by omega]; omega
  · rw [if_neg h]
    congr 1
    by_cases h2 : i ≤ k ∧ k < i + j
    · rw [if_pos h2, if_pos (by omega)]
    · rw [if_neg h2, if_neg (by omega)]
theorem part_row {a b : Sq} {i m k : Nat} (hb : ∀ j, m ≤ j → b j = 0) : part a b i m k = part a b (i + 1) 0 k := by
  unfold part
  rw [if_neg (show ¬ (i + 1 ≤ k ∧ k < i + 1 + 0) by omega), Int.add_zero]
  show _ = sumN _ i + (if i ≤ k then a i * b (k - i) else 0)
  congr 1
  by_cases h : i ≤ k
  · rw [if_pos h]
    by_cases h2 : k < i + m
    · rw [if_pos ⟨h, h2⟩]
    · rw [if_neg (by omega), hb (k - i) (by omega), Int.mul_zero]
  · rw [if_neg h, if_neg (by omega)]
theorem part_end {a b : Sq} {n k : Nat} (ha : ∀ i, n ≤ i → a i = 0) : part a b n 0 k = conv a b k := by
  unfold part
  rw [if_neg (by omega), Int.add_zero, conv_sum]
  have h1 : sumN (fun i' => if i' ≤ k then a i' * b (k - i') else 0) (n + (k + 1)) = sumN (fun i' => if i' ≤ k then a i' * b (k - i') else 0) n := sumN_more (by omega) fun i h _ => by
    rw [ha i h]; split <;> simp
  have h2 : sumN (fun i' => if i' ≤ k then a i' * b (k - i') else 0) (n + (k + 1)) = sumN (fun i' => if i' ≤ k then a i' * b (k - i') else 0) (k + 1) := sumN_more (by omega) fun i h _ => if_neg (by omega)
  rw [← h1, h2]
  exact sumN_congr fun i hi => if_pos (by omega)
theorem part_zero (a b : Sq) (k : Nat) : part a b 0 0 k = 0 := by
  unfold part
  rw [if_neg (by omega)]; rfl
theorem set_range {f : Nat → Int} {L n : Nat} {v : Int} (h : n < L) : ((List.range L).map fun k => M.int (f k)).set n (.int v) = (List.range L).map fun k => M.int (if k = n then v else f k) := by
  refine List.ext_getElem? fun i => ?_
  rw [List.getElem?_set, List.getElem?_map, List.getElem?_map, List.length_map, List.length_range]
  by_cases hi : i < L
  · rw [List.getElem?_range hi]
    by_cases e : n = i
    · subst e; simp [h]
    · rw [if_neg e]
      have e' : i ≠ n := fun z => e z.symm
      simp [e']
  · have e : n ≠ i := by omega
    rw [if_neg e, List.getElem?_eq_none (by simp; omega)]; rfl
abbrev rowL (xs ys : List Int) (i j : Nat) : MO := .lst ((List.range (xs.length + ys.length - 1)).map fun k => M.int (part (cf xs) (cf ys) i j k))
def spProd : SpM := fun ms h Q _ => ∃ (a b : Nat) (xs ys : List Int), ms = [.ref a, .ref b] ∧ h a = some (LI xs) ∧ h b = some (LI ys) ∧ 1 ≤ xs.length ∧ 1 ≤ ys.length ∧ xs.length ≤ 40 ∧ ys.length ≤ 40 ∧ (∀ c ∈ xs, c.natAbs ≤ 2 ^ 54) ∧ (∀ c ∈ ys, c.natAbs ≤ 2 ^ 54) ∧
  ∀ r, h r = none → Q (.ref r) (put h r (LI (prod xs ys)))
theorem keeps_product (Φ : Phi) (hΦ : Φ.Mono) : Keeps Φ 5 t_law_product spProd := by
  intro ms h Q hsp
  obtain ⟨a, b, xs, ys, rfl, ha, hb, lx, ly, lx', ly', hx, hy, post⟩ := hsp
  change wS Φ W0 _ _ [some (.ref a), some (.ref b), none, none, none] h
  unfold t_law_product
  have zx : ∀ i, xs.length ≤ i → cf xs i = 0 := fun i hi => by
    show xs.getD i 0 = 0
    rw [List.getD_eq_getElem?_getD, List.getElem?_eq_none (by omega)]; rfl
  have zy : ∀ i, ys.length ≤ i → cf ys i = 0 := fun i hi => by
    show ys.getD i 0 = 0
    rw [List.getD_eq_getElem?_getD, List.getElem?_eq_none (by omega)]; rfl
  refine st_asg hΦ ?_
  simp only [e_var_v, e_var_t, e_var_q, e_var_i, e_int_v, e_int_t, e_int_q, e_int_i, e_bl_v, e_bl_t, e_bl_q, e_bl_i, e_non_v, e_non_t, e_non_q, e_non_i, e_str_v, e_str_t, e_str_q, e_str_i, e_glob_v, e_glob_t, e_glob_q, e_glob_i, e_neg_v, e_neg_t, e_neg_q, e_neg_i, e_ife_v, e_ife_t, e_ife_q, e_ife_i, e_tup_v, e_tup_t, e_tup_q, e_tup_i, e_ix_v, e_ix_t, e_ix_q, e_ix_i, e_sl_v, e_sl_t, e_sl_q, e_sl_i, e_call_v, e_call_t, e_call_q, e_call_i, e_bi_v, e_bi_t, e_bi_q, e_bi_i, e_bq_v, e_bq_t, e_bq_q, e_bq_i, e_meth_v, e_meth_t, e_meth_q, e_meth_i, e_lst_v, e_lst_q, e_lst_i, e_bl1_v, e_bl1_q, e_bl1_i, e_comp_v, e_comp_q, e_comp_i, e_sub_v, e_fdiv_v, e_mod_v, e_pow_v, e_add_v, e_mul_v, e_add_q, e_mul_q, e_add_i, e_mul_i, e_not_v, e_not_t, e_and_v, e_and_t, e_or_v, e_or_t, e_cmp_v, e_cmp_t, e_rng_i, e_enum_i, e_zip_i, e_nil_a, e_cons_a, e_var_g, e_ix_g, e_tup_g, e_nil_gs, e_cons_gs, o_add, o_sub, o_add2, o_addt, o_mul, o_fdiv, o_mod, o_pow, o_aug, o_neg, m_eq, m_ne, m_lt, m_le, m_gt, m_ge, m_eqs, m_is, m_isnot, n_non, n_ref, n_int, n_tup, b_abs, b_int, b_len, b_max, b_min, l_list, r_1, r_2, t_bl, t_int, t_non, q_tup, q_rol, a_bl, d_none, d_some, d_int, u_all, u_if, g_nil, g_cons, isL_nil, isL_var, isL_int, isL_bl, isL_non, isL_str, isL_glob, isL_neg, isL_not, isL_and, isL_or, isL_ife, isL_cmp, isL_tup, isL_ix, isL_sl, isL_call, isL_bi, isL_bq, isL_meth, isL_rev, isL_step2, isL_lst, isL_bl1, isL_comp, isL_add, isL_mul, isL_sub, isL_fdiv, isL_mod, isL_pow, reduceIte, Bool.not_true, Bool.not_false, Bool.or_self, Bool.false_eq_true, isNonE, isNil, lenE, wipeM, Bool.or_true, Bool.true_or, Bool.or_false, List.getElem?_cons_succ, List.getElem?_cons_zero, List.set_cons_succ, List.set_cons_zero, List.length_cons, List.length_nil, List.length_map, rngL_length, len_int ha, len_int hb, repM]
  rw [show (((xs.length : Nat) : Int) + ((ys.length : Nat) : Int) - 1).toNat = xs.length + ys.length - 1 by omega]
  refine ⟨by omega, trivial, trivial, by omega, by have := hSZ; omega, trivial, fun r nr => ?_⟩
  have e0 : MO.lst (List.replicate (xs.length + ys.length - 1) [M.int 0]).flatten = rowL xs ys 0 0 := by
    unfold rowL
    congr 1
    generalize xs.length + ys.length - 1 = L
    induction L with
    | zero => rfl
    | succ L ih =>
      rw [List.range_succ, List.map_append, ← ih, List.replicate_succ', List.flatten_append]
      simp [part_zero]
  rw [e0]
  have hap : ∀ o, put h r o a = some (LI xs) := fun o => (put_ne (mh_ne ha nr)).trans ha
  have hbp : ∀ o, put h r o b = some (LI ys) := fun o => (put_ne (mh_ne hb nr)).trans hb
  have hla : ∀ o, lenM (.ref a) (put h r o) = some xs.length := fun o => len_int (hap o)
  have hlb : ∀ o, lenM (.ref b) (put h r o) = some ys.length := fun o => len_int (hbp o)
  refine st_for hΦ ?_
  simp only [e_var_v, e_var_t, e_var_q, e_var_i, e_int_v, e_int_t, e_int_q, e_int_i, e_bl_v, e_bl_t, e_bl_q, e_bl_i, e_non_v, e_non_t, e_non_q, e_non_i, e_str_v, e_str_t, e_str_q, e_str_i, e_glob_v, e_glob_t, e_glob_q, e_glob_i, e_neg_v, e_neg_t, e_neg_q, e_neg_i, e_ife_v, e_ife_t, e_ife_q, e_ife_i, e_tup_v, e_tup_t, e_tup_q, e_tup_i, e_ix_v, e_ix_t, e_ix_q, e_ix_i, e_sl_v, e_sl_t, e_sl_q, e_sl_i, e_call_v, e_call_t, e_call_q, e_call_i, e_bi_v, e_bi_t, e_bi_q, e_bi_i, e_bq_v, e_bq_t, e_bq_q, e_bq_i, e_meth_v, e_meth_t, e_meth_q, e_meth_i, e_lst_v, e_lst_q, e_lst_i, e_bl1_v, e_bl1_q, e_bl1_i, e_comp_v, e_comp_q, e_comp_i, e_sub_v, e_fdiv_v, e_mod_v, e_pow_v, e_add_v, e_mul_v, e_add_q, e_mul_q, e_add_i, e_mul_i, e_not_v, e_not_t, e_and_v, e_and_t, e_or_v, e_or_t, e_cmp_v, e_cmp_t, e_rng_i, e_enum_i, e_zip_i, e_nil_a, e_cons_a, e_var_g, e_ix_g, e_tup_g, e_nil_gs, e_cons_gs, o_add, o_sub, o_add2, o_addt, o_mul, o_fdiv, o_mod, o_pow, o_aug, o_neg, m_eq, m_ne, m_lt, m_le, m_gt, m_ge, m_eqs, m_is, m_isnot, n_non, n_ref, n_int, n_tup, b_abs, b_int, b_len, b_max, b_min, l_list, r_1, r_2, t_bl, t_int, t_non, q_tup, q_rol, a_bl, d_none, d_some, d_int, u_all, u_if, g_nil, g_cons, isL_nil, isL_var, isL_int, isL_bl, isL_non, isL_str, isL_glob, isL_neg, isL_not, isL_and, isL_or, isL_ife, isL_cmp, isL_tup, isL_ix, isL_sl, isL_call, isL_bi, isL_bq, isL_meth, isL_rev, isL_step2, isL_lst, isL_bl1, isL_comp, isL_add, isL_mul, isL_sub, isL_fdiv, isL_mod, isL_pow, reduceIte, Bool.not_true, Bool.not_false, Bool.or_self, Bool.false_eq_true, isNonE, isNil, lenE, wipeM, Bool.or_true, Bool.true_or, Bool.or_false, List.getElem?_cons_succ, List.getElem?_cons_zero, List.set_cons_succ, List.set_cons_zero, List.length_cons, List.length_nil, List.length_map, rngL_length, hla]
  refine ⟨by omega, ?_⟩
  rw [show ((xs.length : Nat) : Int).toNat = xs.length by omega]
  refine ⟨fun i σ h' => ∃ x3 x4, σ = [some (.ref a), some (.ref b), some (.ref r), x3, x4] ∧ h' = put h r (rowL xs ys i 0), ?_, ?_, ?_, ?_⟩
  · exact ⟨none, none, rfl, rfl⟩
  · intro i σ h' _ _; trivial
  · rintro i m σ h' em ⟨x3, x4, rfl, rfl⟩
    obtain ⟨hi, rfl⟩ := rng_get em
    simp only [e_var_v, e_var_t, e_var_q, e_var_i, e_int_v, e_int_t, e_int_q, e_int_i, e_bl_v, e_bl_t, e_bl_q, e_bl_i, e_non_v, e_non_t, e_non_q, e_non_i, e_str_v, e_str_t, e_str_q, e_str_i, e_glob_v, e_glob_t, e_glob_q, e_glob_i, e_neg_v, e_neg_t, e_neg_q, e_neg_i, e_ife_v, e_ife_t, e_ife_q, e_ife_i, e_tup_v, e_tup_t, e_tup_q, e_tup_i, e_ix_v, e_ix_t, e_ix_q, e_ix_i, e_sl_v, e_sl_t, e_sl_q, e_sl_i, e_call_v, e_call_t, e_call_q, e_call_i, e_bi_v, e_bi_t, e_bi_q, e_bi_i, e_bq_v, e_bq_t, e_bq_q, e_bq_i, e_meth_v, e_meth_t, e_meth_q, e_meth_i, e_lst_v, e_lst_q, e_lst_i, e_bl1_v, e_bl1_q, e_bl1_i, e_comp_v, e_comp_q, e_comp_i, e_sub_v, e_fdiv_v, e_mod_v, e_pow_v, e_add_v, e_mul_v, e_add_q, e_mul_q, e_add_i, e_mul_i, e_not_v, e_not_t, e_and_v, e_and_t, e_or_v, e_or_t, e_cmp_v, e_cmp_t, e_rng_i, e_enum_i, e_zip_i, e_nil_a, e_cons_a, e_var_g, e_ix_g, e_tup_g, e_nil_gs, e_cons_gs, o_add, o_sub, o_add2, o_addt, o_mul, o_fdiv, o_mod, o_pow, o_aug, o_neg, m_eq, m_ne, m_lt, m_le, m_gt, m_ge, m_eqs, m_is, m_isnot, n_non, n_ref, n_int, n_tup, b_abs, b_int, b_len, b_max, b_min, l_list, r_1, r_2, t_bl, t_int, t_non, q_tup, q_rol, a_bl, d_none, d_some, d_int, u_all, u_if, g_nil, g_cons, isL_nil, isL_var, isL_int, isL_bl, isL_non, isL_str, isL_glob, isL_neg, isL_not, isL_and, isL_or, isL_ife, isL_cmp, isL_tup, isL_ix, isL_sl, isL_call, isL_bi, isL_bq, isL_meth, isL_rev, isL_step2, isL_lst, isL_bl1, isL_comp, isL_add, isL_mul, isL_sub, isL_fdiv, isL_mod, isL_pow, reduceIte, Bool.not_true, Bool.not_false, Bool.or_self, Bool.false_eq_true, isNonE, isNil, lenE, wipeM, Bool.or_true, Bool.true_or, Bool.or_false, List.getElem?_cons_succ, List.getElem?_cons_zero, List.set_cons_succ, List.set_cons_zero, List.length_cons, List.length_nil, List.length_map, rngL_length]
    refine st_for1 hΦ ?_
    simp only [e_var_v, e_var_t, e_var_q, e_var_i, e_int_v, e_int_t, e_int_q, e_int_i, e_bl_v, e_bl_t, e_bl_q, e_bl_i, e_non_v, e_non_t, e_non_q, e_non_i, e_str_v, e_str_t, e_str_q, e_str_i, e_glob_v, e_glob_t, e_glob_q, e_glob_i, e_neg_v, e_neg_t, e_neg_q, e_neg_i, e_ife_v, e_ife_t, e_ife_q, e_ife_i, e_tup_v, e_tup_t, e_tup_q, e_tup_i, e_ix_v, e_ix_t, e_ix_q, e_ix_i, e_sl_v, e_sl_t, e_sl_q, e_sl_i, e_call_v, e_call_t, e_call_q, e_call_i, e_bi_v, e_bi_t, e_bi_q, e_bi_i, e_bq_v, e_bq_t, e_bq_q, e_bq_i, e_meth_v, e_meth_t, e_meth_q, e_meth_i, e_lst_v, e_lst_q, e_lst_i, e_bl1_v, e_bl1_q, e_bl1_i, e_comp_v, e_comp_q, e_comp_i, e_sub_v, e_fdiv_v, e_mod_v, e_pow_v, e_add_v, e_mul_v, e_add_q, e_mul_q, e_add_i, e_mul_i, e_not_v, e_not_t, e_and_v, e_and_t, e_or_v, e_or_t, e_cmp_v, e_cmp_t, e_rng_i, e_enum_i, e_zip_i, e_nil_a, e_cons_a, e_var_g, e_ix_g, e_tup_g, e_nil_gs, e_cons_gs, o_add, o_sub, o_add2, o_addt, o_mul, o_fdiv, o_mod, o_pow, o_aug, o_neg, m_eq, m_ne, m_lt, m_le, m_gt, m_ge, m_eqs, m_is, m_isnot, n_non, n_ref, n_int, n_tup, b_abs, b_int, b_len, b_max, b_min, l_list, r_1, r_2, t_bl, t_int, t_non, q_tup, q_rol, a_bl, d_none, d_some, d_int, u_all, u_if, g_nil, g_cons, isL_nil, isL_var, isL_int, isL_bl, isL_non, isL_str, isL_glob, isL_neg, isL_not, isL_and, isL_or, isL_ife, isL_cmp, isL_tup, isL_ix, isL_sl, isL_call, isL_bi, isL_bq, isL_meth, isL_rev, isL_step2, isL_lst, isL_bl1, isL_comp, isL_add, isL_mul, isL_sub, isL_fdiv, isL_mod, isL_pow, reduceIte, Bool.not_true, Bool.not_false, Bool.or_self, Bool.false_eq_true, isNonE, isNil, lenE, wipeM, Bool.or_true, Bool.true_or, Bool.or_false, List.getElem?_cons_succ, List.getElem?_cons_zero, List.set_cons_succ, List.set_cons_zero, List.length_cons, List.length_nil, List.length_map, rngL_length, hlb]
    refine ⟨by omega, ?_⟩
    rw [show ((ys.length : Nat) : Int).toNat = ys.length by omega]
    refine ⟨fun j σ h' => ∃ x4, σ = [some (.ref a), some (.ref b), some (.ref r), some (.int (0 + (i : Int) * 1)), x4] ∧ h' = put h r (rowL xs ys i j), ?_, ?_, ?_, ?_⟩
    · exact ⟨x4, rfl, rfl⟩
    · intro i σ h' _ _; trivial
    · rintro j m σ h' em ⟨x4, rfl, rfl⟩
      obtain ⟨hj, rfl⟩ := rng_get em
      simp only [e_var_v, e_var_t, e_var_q, e_var_i, e_int_v, e_int_t, e_int_q, e_int_i, e_bl_v, e_bl_t, e_bl_q, e_bl_i, e_non_v, e_non_t, e_non_q, e_non_i, e_str_v, e_str_t, e_str_q, e_str_i, e_glob_v, e_glob_t, e_glob_q, e_glob_i, e_neg_v, e_neg_t, e_neg_q, e_neg_i, e_ife_v, e_ife_t, e_ife_q, e_ife_i, e_tup_v, e_tup_t, e_tup_q, e_tup_i, e_ix_v, e_ix_t, e_ix_q, e_ix_i, e_sl_v, e_sl_t, e_sl_q, e_sl_i, e_call_v, e_call_t, e_call_q, e_call_i, e_bi_v, e_bi_t, e_bi_q, e_bi_i, e_bq_v, e_bq_t, e_bq_q, e_bq_i, e_meth_v, e_meth_t, e_meth_q, e_meth_i, e_lst_v, e_lst_q, e_lst_i, e_bl1_v, e_bl1_q, e_bl1_i, e_comp_v, e_comp_q, e_comp_i, e_sub_v, e_fdiv_v, e_mod_v, e_pow_v, e_add_v, e_mul_v, e_add_q, e_mul_q, e_add_i, e_mul_i, e_not_v, e_not_t, e_and_v, e_and_t, e_or_v, e_or_t, e_cmp_v, e_cmp_t, e_rng_i, e_enum_i, e_zip_i, e_nil_a, e_cons_a, e_var_g, e_ix_g, e_tup_g, e_nil_gs, e_cons_gs, o_add, o_sub, o_add2, o_addt, o_mul, o_fdiv, o_mod, o_pow, o_aug, o_neg, m_eq, m_ne, m_lt, m_le, m_gt, m_ge, m_eqs, m_is, m_isnot, n_non, n_ref, n_int, n_tup, b_abs, b_int, b_len, b_max, b_min, l_list, r_1, r_2, t_bl, t_int, t_non, q_tup, q_rol, a_bl, d_none, d_some, d_int, u_all, u_if, g_nil, g_cons, isL_nil, isL_var, isL_int, isL_bl, isL_non, isL_str, isL_glob, isL_neg, isL_not, isL_and, isL_or, isL_ife, isL_cmp, isL_tup, isL_ix, isL_sl, isL_call, isL_bi, isL_bq, isL_meth, isL_rev, isL_step2, isL_lst, isL_bl1, isL_comp, isL_add, isL_mul, isL_sub, isL_fdiv, isL_mod, isL_pow, reduceIte, Bool.not_true, Bool.not_false, Bool.or_self, Bool.false_eq_true, isNonE, isNil, lenE, wipeM, Bool.or_true, Bool.true_or, Bool.or_false, List.getElem?_cons_succ, List.getElem?_cons_zero, List.set_cons_succ, List.set_cons_zero, List.length_cons, List.length_nil, List.length_map, rngL_length]
      refine st_asg1 ?_
      simp only [e_var_v, e_var_t, e_var_q, e_var_i, e_int_v, e_int_t, e_int_q, e_int_i, e_bl_v, e_bl_t, e_bl_q, e_bl_i, e_non_v, e_non_t, e_non_q, e_non_i, e_str_v, e_str_t, e_str_q, e_str_i, e_glob_v, e_glob_t, e_glob_q, e_glob_i, e_neg_v, e_neg_t, e_neg_q, e_neg_i, e_ife_v, e_ife_t, e_ife_q, e_ife_i, e_tup_v, e_tup_t, e_tup_q, e_tup_i, e_ix_v, e_ix_t, e_ix_q, e_ix_i, e_sl_v, e_sl_t, e_sl_q, e_sl_i, e_call_v, e_call_t, e_call_q, e_call_i, e_bi_v, e_bi_t, e_bi_q, e_bi_i, e_bq_v, e_bq_t, e_bq_q, e_bq_i, e_meth_v, e_meth_t, e_meth_q, e_meth_i, e_lst_v, e_lst_q, e_lst_i, e_bl1_v, e_bl1_q, e_bl1_i, e_comp_v, e_comp_q, e_comp_i, e_sub_v, e_fdiv_v, e_mod_v, e_pow_v, e_add_v, e_mul_v, e_add_q, e_mul_q, e_add_i, e_mul_i, e_not_v, e_not_t, e_and_v, e_and_t, e_or_v, e_or_t, e_cmp_v, e_cmp_t, e_rng_i, e_enum_i, e_zip_i, e_nil_a, e_cons_a, e_var_g, e_ix_g, e_tup_g, e_nil_gs, e_cons_gs, o_add, o_sub, o_add2, o_addt, o_mul, o_fdiv, o_mod, o_pow, o_aug, o_neg, m_eq, m_ne, m_lt, m_le, m_gt, m_ge, m_eqs, m_is, m_isnot, n_non, n_ref, n_int, n_tup, b_abs, b_int, b_len, b_max, b_min, l_list, r_1, r_2, t_bl, t_int, t_non, q_tup, q_rol, a_bl, d_none, d_some, d_int, u_all, u_if, g_nil, g_cons, isL_nil, isL_var, isL_int, isL_bl, isL_non, isL_str, isL_glob, isL_neg, isL_not, isL_and, isL_or, isL_ife, isL_cmp, isL_tup, isL_ix, isL_sl, isL_call, isL_bi, isL_bq, isL_meth, isL_rev, isL_step2, isL_lst, isL_bl1, isL_comp, isL_add, isL_mul, isL_sub, isL_fdiv, isL_mod, isL_pow, reduceIte, Bool.not_true, Bool.not_false, Bool.or_self, Bool.false_eq_true, isNonE, isNil, lenE, wipeM, Bool.or_true, Bool.true_or, Bool.or_false, List.getElem?_cons_succ, List.getElem?_cons_zero, List.set_cons_succ, List.set_cons_zero, List.length_cons, List.length_nil, List.length_map, rngL_length]
      have et : (0 + (i : Int) * 1 + (0 + (j : Int) * 1)).toNat = i + j := by omega
      have hL : i + j < xs.length + ys.length - 1 := by omega
      have g1 : ((List.range (xs.length + ys.length - 1)).map fun k => M.int (part (cf xs) (cf ys) i j k))[(0 + (i : Int) * 1 + (0 + (j : Int) * 1)).toNat]? = some (.int (part (cf xs) (cf ys) i j (i + j))) := by
        rw [et, List.getElem?_map, List.getElem?_range hL]; rfl
      refine ix_ref put_same (at_nat (by omega) g1) ?_
      refine ix_int (hap _) (by omega) (by omega) ?_
      refine ix_int (hbp _) (by omega) (by omega) ?_
      rw [show (0 + (i : Int) * 1).toNat = i by omega, show (0 + (j : Int) * 1).toNat = j by omega]
      simp only [e_var_v, e_var_t, e_var_q, e_var_i, e_int_v, e_int_t, e_int_q, e_int_i, e_bl_v, e_bl_t, e_bl_q, e_bl_i, e_non_v, e_non_t, e_non_q, e_non_i, e_str_v, e_str_t, e_str_q, e_str_i, e_glob_v, e_glob_t, e_glob_q, e_glob_i, e_neg_v, e_neg_t, e_neg_q, e_neg_i, e_ife_v, e_ife_t, e_ife_q, e_ife_i, e_tup_v, e_tup_t, e_tup_q, e_tup_i, e_ix_v, e_ix_t, e_ix_q, e_ix_i, e_sl_v, e_sl_t, e_sl_q, e_sl_i, e_call_v, e_call_t, e_call_q, e_call_i, e_bi_v, e_bi_t, e_bi_q, e_bi_i, e_bq_v, e_bq_t, e_bq_q, e_bq_i, e_meth_v, e_meth_t, e_meth_q, e_meth_i, e_lst_v, e_lst_q, e_lst_i, e_bl1_v, e_bl1_q, e_bl1_i, e_comp_v, e_comp_q, e_comp_i, e_sub_v, e_fdiv_v, e_mod_v, e_pow_v, e_add_v, e_mul_v, e_add_q, e_mul_q, e_add_i, e_mul_i, e_not_v, e_not_t, e_and_v, e_and_t, e_or_v, e_or_t, e_cmp_v, e_cmp_t, e_rng_i, e_enum_i, e_zip_i, e_nil_a, e_cons_a, e_var_g, e_ix_g, e_tup_g, e_nil_gs, e_cons_gs, o_add, o_sub, o_add2, o_addt, o_mul, o_fdiv, o_mod, o_pow, o_aug, o_neg, m_eq, m_ne, m_lt, m_le, m_gt, m_ge, m_eqs, m_is, m_isnot, n_non, n_ref, n_int, n_tup, b_abs, b_int, b_len, b_max, b_min, l_list, r_1, r_2, t_bl, t_int, t_non, q_tup, q_rol, a_bl, d_none, d_some, d_int, u_all, u_if, g_nil, g_cons, isL_nil, isL_var, isL_int, isL_bl, isL_non, isL_str, isL_glob, isL_neg, isL_not, isL_and, isL_or, isL_ife, isL_cmp, isL_tup, isL_ix, isL_sl, isL_call, isL_bi, isL_bq, isL_meth, isL_rev, isL_step2, isL_lst, isL_bl1, isL_comp, isL_add, isL_mul, isL_sub, isL_fdiv, isL_mod, isL_pow, reduceIte, Bool.not_true, Bool.not_false, Bool.or_self, Bool.false_eq_true, isNonE, isNil, lenE, wipeM, Bool.or_true, Bool.true_or, Bool.or_false, List.getElem?_cons_succ, List.getElem?_cons_zero, List.set_cons_succ, List.set_cons_zero, List.length_cons, List.length_nil, List.length_map, rngL_length]
      refine ⟨mulOk (Nat.lt_of_le_of_lt (cf_bnd hx i) (by decide)) (Nat.lt_of_le_of_lt (cf_bnd hy j) (by decide)), ?_⟩
      refine set_ref put_same (ixN_nat et (by omega) (by simpa using hL)) ?_
      refine ⟨_, Sub.refl _, _, rfl, ?_⟩
      rw [put_put, set_range hL]
      congr 2
      exact List.map_congr_left fun k _ => by
        rw [part_next]
        by_cases e : k = i + j
        · rw [if_pos e, if_pos e, e]
        · rw [if_neg e, if_neg e]
    · rintro σ h' ⟨x4, rfl, rfl⟩
      have e : rowL xs ys i ys.length = rowL xs ys (i + 1) 0 := congrArg MO.lst (List.map_congr_left fun k _ => by rw [part_row zy])
      rw [e]
      exact ⟨_, Sub.refl _, _, _, rfl, rfl⟩
  · rintro σ h' ⟨x3, x4, rfl, rfl⟩
    refine st_ret ?_
    simp only [e_var_v, e_var_t, e_var_q, e_var_i, e_int_v, e_int_t, e_int_q, e_int_i, e_bl_v, e_bl_t, e_bl_q, e_bl_i, e_non_v, e_non_t, e_non_q, e_non_i, e_str_v, e_str_t, e_str_q, e_str_i, e_glob_v, e_glob_t, e_glob_q, e_glob_i, e_neg_v, e_neg_t, e_neg_q, e_neg_i, e_ife_v, e_ife_t, e_ife_q, e_ife_i, e_tup_v, e_tup_t, e_tup_q, e_tup_i, e_ix_v, e_ix_t, e_ix_q, e_ix_i, e_sl_v, e_sl_t, e_sl_q, e_sl_i, e_call_v, e_call_t, e_call_q, e_call_i, e_bi_v, e_bi_t, e_bi_q, e_bi_i, e_bq_v, e_bq_t, e_bq_q, e_bq_i, e_meth_v, e_meth_t, e_meth_q, e_meth_i, e_lst_v, e_lst_q, e_lst_i, e_bl1_v, e_bl1_q, e_bl1_i, e_comp_v, e_comp_q, e_comp_i, e_sub_v, e_fdiv_v, e_mod_v, e_pow_v, e_add_v, e_mul_v, e_add_q, e_mul_q, e_add_i, e_mul_i, e_not_v, e_not_t, e_and_v, e_and_t, e_or_v, e_or_t, e_cmp_v, e_cmp_t, e_rng_i, e_enum_i, e_zip_i, e_nil_a, e_cons_a, e_var_g, e_ix_g, e_tup_g, e_nil_gs, e_cons_gs, o_add, o_sub, o_add2, o_addt, o_mul, o_fdiv, o_mod, o_pow, o_aug, o_neg, m_eq, m_ne, m_lt, m_le, m_gt, m_ge, m_eqs, m_is, m_isnot, n_non, n_ref, n_int, n_tup, b_abs, b_int, b_len, b_max, b_min, l_list, r_1, r_2, t_bl, t_int, t_non, q_tup, q_rol, a_bl, d_none, d_some, d_int, u_all, u_if, g_nil, g_cons, isL_nil, isL_var, isL_int, isL_bl, isL_non, isL_str, isL_glob, isL_neg, isL_not, isL_and, isL_or, isL_ife, isL_cmp, isL_tup, isL_ix, isL_sl, isL_call, isL_bi, isL_bq, isL_meth, isL_rev, isL_step2, isL_lst, isL_bl1, isL_comp, isL_add, isL_mul, isL_sub, isL_fdiv, isL_mod, isL_pow, reduceIte, Bool.not_true, Bool.not_false, Bool.or_self, Bool.false_eq_true, isNonE, isNil, lenE, wipeM, Bool.or_true, Bool.true_or, Bool.or_false, List.getElem?_cons_succ, List.getElem?_cons_zero, List.set_cons_succ, List.set_cons_zero, List.length_cons, List.length_nil, List.length_map, rngL_length]
    have e : rowL xs ys xs.length 0 = LI (prod xs ys) := by
      unfold rowL prod
      show MO.lst _ = MO.lst _
      rw [List.map_map]
      congr 1
      exact List.map_congr_left fun k _ => by rw [part_end zx]; rfl
    rw [e]
    exact ⟨_, Sub.refl _, post r nr⟩
end Mp.K39

set_option Elab.async false
set_option linter.all false
set_option maxRecDepth 100000
set_option exponentiation.threshold 500
namespace Mp.K39
open PySem Mp
/-! ### what the lists are -/
/-- a list of a curve: the first is 1, the second half by the first -/
structure Lst (p : Int) (xs : List Int) (g : Nat) : Prop where
  ex : ∃ l : List Int, l.length = g + 1 ∧ l.getD 0 0 = 1 ∧ xs = full p l g
  bnd : ∀ c ∈ xs, c.natAbs ≤ 2 ^ 54
theorem full_len {q : Int} {l : List Int} {g : Nat} (h : l.length = g + 1) : (full q l g).length = 2 * g + 1 := by
  unfold full; simp [h]; omega
theorem full_get {q : Int} {l : List Int} {g : Nat} (h : l.length = g + 1) {i : Nat} (hi : i ≤ g) : (full q l g).getD i 0 = l.getD i 0 := by
  unfold full
  rw [List.getD_eq_getElem?_getD, List.getElem?_append_left (by omega), ← List.getD_eq_getElem?_getD]
theorem lst_of {p : Int} {l : List Int} {g : Nat} (p1 : 1 ≤ p) (p2 : p ≤ 61) (hg : g ≤ 4) (hl : l.length = g + 1) (h0 : l.getD 0 0 = 1) (hb : ∀ c ∈ l, c.natAbs ≤ 1000000001) : Lst p (full p l g) g := by
  refine ⟨⟨l, hl, h0, rfl⟩, fun c hc => ?_⟩
  rcases List.mem_append.mp hc with hc | hc
  · exact Nat.le_trans (hb c hc) (by decide)
  · obtain ⟨j, hj, rfl⟩ := List.mem_map.mp hc
    have hj := List.mem_range.mp hj
    rw [Int.natAbs_mul, Int.natAbs_pow]
    have b1 : p.natAbs ^ (j + 1) ≤ 61 ^ (j + 1) := Nat.pow_le_pow_left (by omega) _
    have b2 : 61 ^ (j + 1) ≤ 61 ^ 4 := Nat.pow_le_pow_right (by decide) (by omega)
    exact Nat.le_trans (Nat.mul_le_mul (Nat.le_trans b1 b2) (cf_bnd hb (g - 1 - j))) (by decide)
theorem Lst.len {p : Int} {xs : List Int} {g : Nat} (h : Lst p xs g) : xs.length = 2 * g + 1 := by
  obtain ⟨l, hl, _, rfl⟩ := h.ex
  exact full_len hl
theorem Lst.one {p : Int} {xs : List Int} {g : Nat} (h : Lst p xs g) : cf xs 0 = 1 := by
  obtain ⟨l, hl, h0, rfl⟩ := h.ex
  exact (full_get hl (by omega)).trans h0
theorem tt_counts {p : Int} {xs : List Int} {n k : Nat} (h1 : 1 ≤ k) (h2 : k ≤ n) : tt p (counts p xs n) k = ps (cf xs) k := by
  unfold tt
  rw [counts_get (by omega), show k - 1 + 1 = k by omega]; omega
/-- the list is found again -/
theorem lst_again {p : Int} {xs : List Int} {g : Nat} (h : Lst p xs g) : ∃ l, mk (tt p (counts p xs g)) g = some l ∧ full p l g = xs := by
  obtain ⟨l, hl, h0, e⟩ := h.ex
  refine ⟨l, ?_, e.symm⟩
  rw [mk_congr (u := ps (cf xs)) fun i a b => tt_counts a b, mk_ps h.one]
  congr 1
  refine List.ext_getElem? fun i => ?_
  by_cases hi : i < g + 1
  · rw [List.getElem?_map, List.getElem?_range hi, Option.map_some, List.getElem?_eq_getElem (by omega)]
    congr 1
    have := full_get (q := p) hl (show i ≤ g by omega)
    rw [← e] at this
    rw [show cf xs i = l.getD i 0 from this, List.getD_eq_getElem?_getD, List.getElem?_eq_getElem (by omega)]; rfl
  · rw [List.getElem?_eq_none (by simp; omega), List.getElem?_eq_none (by omega)]
theorem counts_take (p : Int) (xs : List Int) {g n : Nat} (h : g ≤ n) : (counts p xs n).take g = counts p xs g := by
  unfold counts
  rw [← List.map_take, List.take_range, Nat.min_eq_left h]
theorem few_counts {p : Int} {xs : List Int} (hx : ∀ c ∈ xs, c.natAbs ≤ 2 ^ 54) (p1 : 1 ≤ p) (p2 : p < 1000) {n : Nat} (hn : n ≤ 40) : Few (counts p xs n) := by
  refine ⟨by rw [counts_len]; omega, fun c hc => ?_⟩
  have b := counts_bnd hx p1 p2 hn c hc
  have b3 : (2 ^ 61) ^ n ≤ (2 ^ 61) ^ 40 := Nat.pow_le_pow_right (by decide) hn
  have b4 : (2 ^ 10) ^ n ≤ (2 ^ 10) ^ 40 := Nat.pow_le_pow_right (by decide) hn
  have b5 : (2 ^ 10) ^ 40 ≤ (2 ^ 61) ^ 40 := Nat.pow_le_pow_left (by decide) 40
  have b6 : 1 ≤ (2 ^ 61) ^ 40 := Nat.one_le_pow _ _ (by decide)
  have b7 : (2 ^ 61) ^ 41 = (2 ^ 61) ^ 40 * 2 ^ 61 := Nat.pow_succ ..
  refine log2_pow (b := 61) (k := 41) (B := 12900) ?_ (by decide)
  rw [b7]
  generalize (2 ^ 61) ^ 40 = x at *
  generalize (2 ^ 10) ^ 40 = y at *
  generalize (2 ^ 61) ^ n = z at *
  generalize (2 ^ 10) ^ n = w at *
  omega
theorem Lst.few {p : Int} {xs : List Int} {g : Nat} (h : Lst p xs g) (hg : g ≤ 8) : Few xs := ⟨by rw [h.len]; omega, fun c hc => log2_le (Nat.lt_of_le_of_lt (h.bnd c hc) (by decide : 2 ^ 54 < 2 ^ 12900)) (by decide)⟩
theorem few_nil : Few [] := ⟨by simp, by simp⟩
theorem mem4 {α : Type} {P : α → Prop} {a b c d : α} (h1 : P a) (h2 : P b) (h3 : P c) (h4 : P d) : ∀ p ∈ [a, b, c, d], P p := fun p hp => by
  simp at hp; rcases hp with rfl | rfl | rfl | rfl <;> assumption
theorem mem3 {α : Type} {P : α → Prop} {a b c : α} (h1 : P a) (h2 : P b) (h3 : P c) : ∀ p ∈ [a, b, c], P p := fun p hp => by
  simp at hp; rcases hp with rfl | rfl | rfl <;> assumption
theorem mem2 {α : Type} {P : α → Prop} {a b : α} (h1 : P a) (h2 : P b) : ∀ p ∈ [a, b], P p := fun p hp => by
  simp at hp; rcases hp with rfl | rfl <;> assumption
theorem newc {h : MH} {r : Nat} (n : h r = none) (o : MO) : ∃ h1, put h r o = h1 ∧ (∀ a u, h a = some u → h1 a = some u) ∧ h1 r = some o := ⟨_, rfl, Sub.put n, put_same⟩
/-! ### _law_is_counted -/
structure Fns (Φ : Phi) : Prop where
  mono : Φ.Mono
  raised : Φ.fn "raised" = spRaised
  made : Φ.fn "list_made" = spMade
  ofc : Φ.fn "list_of_counts" = spMade
  cof : Φ.fn "counts_of" = spCounts
  over : Φ.fn "list_over" = spOver
  is : Φ.fn "_law_is" = spIs
  lraised : Φ.fn "_law_raised" = spRaised
  sums : Φ.fn "_law_sums" = spSums
  ofs : Φ.fn "_law_of_sums" = spOfSums
  counts : Φ.fn "_law_counts" = spCounts
  product : Φ.fn "_law_product" = spProd
  list : Φ.fn "_law_list" = spList
  twin : Φ.fn "_law_twin" = spTwin
  draw : Φ.fn "_law_draw" = spDraw
  deck : Φ.fn "_law_deck" = spDeck
  primes : Φ.fn "_law_primes" = spPrimes
def spCounted : SpM := fun ms h Q _ => ∃ (p : Int) (a : Nat) (xs : List Int) (g : Nat), ms = [.int p, .ref a, .int (g : Nat)] ∧ h a = some (LI xs) ∧ 1 ≤ g ∧ g ≤ 4 ∧ Lst p xs g ∧ 1 ≤ p ∧ p ≤ 61 ∧ Q (.bl true) h
theorem counted2 (Φ : Phi) (F : Fns Φ) {D : DM} {h H : MH} {p : Int} {a : Nat} {xs : List Int} {g r1 r3 : Nat} (g1 : 1 ≤ g) (g4 : g ≤ 4) (L : Lst p xs g) (p1 : 1 ≤ p) (p2 : p ≤ 61) (ha : H a = some (LI xs)) (hd : H r1 = some (LI (counts p xs 40))) (S : Sub h H)
    (fin : ∀ H', Sub h H' → D.rt (.bl true) H') :
    wS Φ W0 (.seq (.iff (.not (.call "_law_is" (.cons (.call "counts_of" (.cons (.var 0) (.cons (.bl1 .list (.var 1)) (.cons (.int 40) .nil)))) (.cons (.var 3) .nil)))) (.ret (.bl false)) .skip) (.seq (.iff (.cmp .gt (.bq .max (.comp [7] (.var 7) (.sl (.var 3) .non (.var 2)) .nil (.bi .abs (.cons (.var 7) .nil)))) (.op .pow (.int 10) (.int 9))) (.ret (.bl true)) .skip) (.seq (.asg (.var 5) (.sl (.var 3) .non (.var 2))) (.seq (.asg (.var 6) (.call "list_of_counts" (.cons (.var 0) (.cons (.var 5) .nil)))) (.seq (.iff (.not (.call "_law_is" (.cons (.lst (.cons (.var 6) (.cons (.var 5) .nil))) (.cons (.lst (.cons (.var 1) (.cons (.sl (.var 3) .non (.var 2)) .nil))) .nil)))) (.ret (.bl false)) .skip) (.seq (.expr (.meth .append (.var 6) (.cons (.int 0) .nil))) (.ret (.call "_law_is" (.cons (.call "list_of_counts" (.cons (.var 0) (.cons (.sl (.var 3) .non (.var 2)) .nil))) (.cons (.var 1) .nil))))))))))
      D [some (.int p), some (.ref a), some (.int (g : Nat)), some (.ref r1), some (.ref r3), none, none, none] H := by
  have hΦ := F.mono
  have hlen := L.len
  have hb := L.bnd
  have hp : p.natAbs < 2 ^ 100 := Nat.lt_of_lt_of_le (m := 1000) (by omega) (by decide)
  obtain ⟨l, el, ef⟩ := lst_again L
  have fc : ∀ n, n ≤ 40 → Few (counts p xs n) := fun n hn => few_counts hb p1 (by omega) hn
  have fx := L.few (by omega)
  have ht := counts_take p xs (show g ≤ 40 by omega)
  refine st_iff hΦ ?_
  simp only [e_var_v, e_var_t, e_var_q, e_var_i, e_int_v, e_int_t, e_int_q, e_int_i, e_bl_v, e_bl_t, e_bl_q, e_bl_i, e_non_v, e_non_t, e_non_q, e_non_i, e_str_v, e_str_t, e_str_q, e_str_i, e_glob_v, e_glob_t, e_glob_q, e_glob_i, e_neg_v, e_neg_t, e_neg_q, e_neg_i, e_ife_v, e_ife_t, e_ife_q, e_ife_i, e_tup_v, e_tup_t, e_tup_q, e_tup_i, e_ix_v, e_ix_t, e_ix_q, e_ix_i, e_sl_v, e_sl_t, e_sl_q, e_sl_i, e_call_v, e_call_t, e_call_q, e_call_i, e_bi_v, e_bi_t, e_bi_q, e_bi_i, e_bq_v, e_bq_t, e_bq_q, e_bq_i, e_meth_v, e_meth_t, e_meth_q, e_meth_i, e_lst_v, e_lst_q, e_lst_i, e_bl1_v, e_bl1_q, e_bl1_i, e_comp_v, e_comp_q, e_comp_i, e_sub_v, e_fdiv_v, e_mod_v, e_pow_v, e_add_v, e_mul_v, e_add_q, e_mul_q, e_add_i, e_mul_i, e_not_v, e_not_t, e_and_v, e_and_t, e_or_v, e_or_t, e_cmp_v, e_cmp_t, e_rng_i, e_enum_i, e_zip_i, e_nil_a, e_cons_a, e_var_g, e_ix_g, e_tup_g, e_nil_gs, e_cons_gs, o_add, o_sub, o_add2, o_addt, o_mul, o_fdiv, o_mod, o_pow, o_aug, o_neg, m_eq, m_ne, m_lt, m_le, m_gt, m_ge, m_eqs, m_is, m_isnot, n_non, n_ref, n_int, n_tup, b_abs, b_int, b_len, b_max, b_min, l_list, r_1, r_2, t_bl, t_int, t_non, q_tup, q_rol, a_bl, d_none, d_some, d_int, u_all, u_if, g_nil, g_cons, isL_nil, isL_var, isL_int, isL_bl, isL_non, isL_str, isL_glob, isL_neg, isL_not, isL_and, isL_or, isL_ife, isL_cmp, isL_tup, isL_ix, isL_sl, isL_call, isL_bi, isL_bq, isL_meth, isL_rev, isL_step2, isL_lst, isL_bl1, isL_comp, isL_add, isL_mul, isL_sub, isL_fdiv, isL_mod, isL_pow, reduceIte, Bool.not_true, Bool.not_false, Bool.or_self, Bool.false_eq_true, isNonE, isNil, lenE, wipeM, Bool.or_true, Bool.true_or, Bool.or_false, List.getElem?_cons_succ, List.getElem?_cons_zero, List.set_cons_succ, List.set_cons_zero, List.length_cons, List.length_nil, List.length_map, rngL_length]
  refine asQ_ref ha ⟨⟨ha, trivial⟩, trivial, ?_⟩
  intro q1 n1
  obtain ⟨h1, eh, s1, e1⟩ := newc n1 (LI xs)
  rw [eh]
  clear eh
  rw [F.cof]
  refine ⟨p, q1, xs, 40, rfl, e1, by omega, by omega, hb, p1, hp, ?_⟩
  intro q2 n2
  obtain ⟨h2, eh, s2, e2⟩ := newc n2 (LI (counts p xs 40))
  rw [eh]
  clear eh
  have d2 : h2 r1 = some (LI (counts p xs 40)) := (by solve_by_elim (maxDepth := 40))
  have a2 : h2 a = some (LI xs) := (by solve_by_elim (maxDepth := 40))
  rw [F.is]
  refine ⟨.ref q2, .ref r1, dI (counts p xs 40), rfl, dat_dI e2, dat_dI d2, good_dI (fc 40 (by omega)), .inl ⟨_, rfl⟩, ?_⟩
  simp only [e_var_v, e_var_t, e_var_q, e_var_i, e_int_v, e_int_t, e_int_q, e_int_i, e_bl_v, e_bl_t, e_bl_q, e_bl_i, e_non_v, e_non_t, e_non_q, e_non_i, e_str_v, e_str_t, e_str_q, e_str_i, e_glob_v, e_glob_t, e_glob_q, e_glob_i, e_neg_v, e_neg_t, e_neg_q, e_neg_i, e_ife_v, e_ife_t, e_ife_q, e_ife_i, e_tup_v, e_tup_t, e_tup_q, e_tup_i, e_ix_v, e_ix_t, e_ix_q, e_ix_i, e_sl_v, e_sl_t, e_sl_q, e_sl_i, e_call_v, e_call_t, e_call_q, e_call_i, e_bi_v, e_bi_t, e_bi_q, e_bi_i, e_bq_v, e_bq_t, e_bq_q, e_bq_i, e_meth_v, e_meth_t, e_meth_q, e_meth_i, e_lst_v, e_lst_q, e_lst_i, e_bl1_v, e_bl1_q, e_bl1_i, e_comp_v, e_comp_q, e_comp_i, e_sub_v, e_fdiv_v, e_mod_v, e_pow_v, e_add_v, e_mul_v, e_add_q, e_mul_q, e_add_i, e_mul_i, e_not_v, e_not_t, e_and_v, e_and_t, e_or_v, e_or_t, e_cmp_v, e_cmp_t, e_rng_i, e_enum_i, e_zip_i, e_nil_a, e_cons_a, e_var_g, e_ix_g, e_tup_g, e_nil_gs, e_cons_gs, o_add, o_sub, o_add2, o_addt, o_mul, o_fdiv, o_mod, o_pow, o_aug, o_neg, m_eq, m_ne, m_lt, m_le, m_gt, m_ge, m_eqs, m_is, m_isnot, n_non, n_ref, n_int, n_tup, b_abs, b_int, b_len, b_max, b_min, l_list, r_1, r_2, t_bl, t_int, t_non, q_tup, q_rol, a_bl, d_none, d_some, d_int, u_all, u_if, g_nil, g_cons, isL_nil, isL_var, isL_int, isL_bl, isL_non, isL_str, isL_glob, isL_neg, isL_not, isL_and, isL_or, isL_ife, isL_cmp, isL_tup, isL_ix, isL_sl, isL_call, isL_bi, isL_bq, isL_meth, isL_rev, isL_step2, isL_lst, isL_bl1, isL_comp, isL_add, isL_mul, isL_sub, isL_fdiv, isL_mod, isL_pow, reduceIte, Bool.not_true, Bool.not_false, Bool.or_self, Bool.false_eq_true, isNonE, isNil, lenE, wipeM, Bool.or_true, Bool.true_or, Bool.or_false, List.getElem?_cons_succ, List.getElem?_cons_zero, List.set_cons_succ, List.set_cons_zero, List.length_cons, List.length_nil, List.length_map, rngL_length]
  refine st_skip ?_
  dsimp only
  refine st_iff hΦ ?_
  simp only [e_var_v, e_var_t, e_var_q, e_var_i, e_int_v, e_int_t, e_int_q, e_int_i, e_bl_v, e_bl_t, e_bl_q, e_bl_i, e_non_v, e_non_t, e_non_q, e_non_i, e_str_v, e_str_t, e_str_q, e_str_i, e_glob_v, e_glob_t, e_glob_q, e_glob_i, e_neg_v, e_neg_t, e_neg_q, e_neg_i, e_ife_v, e_ife_t, e_ife_q, e_ife_i, e_tup_v, e_tup_t, e_tup_q, e_tup_i, e_ix_v, e_ix_t, e_ix_q, e_ix_i, e_sl_v, e_sl_t, e_sl_q, e_sl_i, e_call_v, e_call_t, e_call_q, e_call_i, e_bi_v, e_bi_t, e_bi_q, e_bi_i, e_bq_v, e_bq_t, e_bq_q, e_bq_i, e_meth_v, e_meth_t, e_meth_q, e_meth_i, e_lst_v, e_lst_q, e_lst_i, e_bl1_v, e_bl1_q, e_bl1_i, e_comp_v, e_comp_q, e_comp_i, e_sub_v, e_fdiv_v, e_mod_v, e_pow_v, e_add_v, e_mul_v, e_add_q, e_mul_q, e_add_i, e_mul_i, e_not_v, e_not_t, e_and_v, e_and_t, e_or_v, e_or_t, e_cmp_v, e_cmp_t, e_rng_i, e_enum_i, e_zip_i, e_nil_a, e_cons_a, e_var_g, e_ix_g, e_tup_g, e_nil_gs, e_cons_gs, o_add, o_sub, o_add2, o_addt, o_mul, o_fdiv, o_mod, o_pow, o_aug, o_neg, m_eq, m_ne, m_lt, m_le, m_gt, m_ge, m_eqs, m_is, m_isnot, n_non, n_ref, n_int, n_tup, b_abs, b_int, b_len, b_max, b_min, l_list, r_1, r_2, t_bl, t_int, t_non, q_tup, q_rol, a_bl, d_none, d_some, d_int, u_all, u_if, g_nil, g_cons, isL_nil, isL_var, isL_int, isL_bl, isL_non, isL_str, isL_glob, isL_neg, isL_not, isL_and, isL_or, isL_ife, isL_cmp, isL_tup, isL_ix, isL_sl, isL_call, isL_bi, isL_bq, isL_meth, isL_rev, isL_step2, isL_lst, isL_bl1, isL_comp, isL_add, isL_mul, isL_sub, isL_fdiv, isL_mod, isL_pow, reduceIte, Bool.not_true, Bool.not_false, Bool.or_self, Bool.false_eq_true, isNonE, isNil, lenE, wipeM, Bool.or_true, Bool.true_or, Bool.or_false, List.getElem?_cons_succ, List.getElem?_cons_zero, List.set_cons_succ, List.set_cons_zero, List.length_cons, List.length_nil, List.length_map, rngL_length]
  refine sl_ref d2 ?_
  rw [cut_take, ht]
  intro q3 n3
  obtain ⟨h3, eh, s3, e3⟩ := newc n3 (.lst ((counts p xs g).map M.int))
  rw [eh]
  clear eh
  refine asQ_ref e3 ?_
  refine ⟨by rw [List.length_map, counts_len]; have := hSZ; omega, ?_⟩
  refine compI_pure hΦ (fun j => .int (if (counts p xs g).getD j 0 < 0 then -(counts p xs g).getD j 0 else (counts p xs g).getD j 0)) ⟨e3, trivial⟩ ?_ ?_
  · intro j m R ej hR
    obtain ⟨n, en, rfl⟩ := intmap_get ej
    simp only [e_var_v, e_var_t, e_var_q, e_var_i, e_int_v, e_int_t, e_int_q, e_int_i, e_bl_v, e_bl_t, e_bl_q, e_bl_i, e_non_v, e_non_t, e_non_q, e_non_i, e_str_v, e_str_t, e_str_q, e_str_i, e_glob_v, e_glob_t, e_glob_q, e_glob_i, e_neg_v, e_neg_t, e_neg_q, e_neg_i, e_ife_v, e_ife_t, e_ife_q, e_ife_i, e_tup_v, e_tup_t, e_tup_q, e_tup_i, e_ix_v, e_ix_t, e_ix_q, e_ix_i, e_sl_v, e_sl_t, e_sl_q, e_sl_i, e_call_v, e_call_t, e_call_q, e_call_i, e_bi_v, e_bi_t, e_bi_q, e_bi_i, e_bq_v, e_bq_t, e_bq_q, e_bq_i, e_meth_v, e_meth_t, e_meth_q, e_meth_i, e_lst_v, e_lst_q, e_lst_i, e_bl1_v, e_bl1_q, e_bl1_i, e_comp_v, e_comp_q, e_comp_i, e_sub_v, e_fdiv_v, e_mod_v, e_pow_v, e_add_v, e_mul_v, e_add_q, e_mul_q, e_add_i, e_mul_i, e_not_v, e_not_t, e_and_v, e_and_t, e_or_v, e_or_t, e_cmp_v, e_cmp_t, e_rng_i, e_enum_i, e_zip_i, e_nil_a, e_cons_a, e_var_g, e_ix_g, e_tup_g, e_nil_gs, e_cons_gs, o_add, o_sub, o_add2, o_addt, o_mul, o_fdiv, o_mod, o_pow, o_aug, o_neg, m_eq, m_ne, m_lt, m_le, m_gt, m_ge, m_eqs, m_is, m_isnot, n_non, n_ref, n_int, n_tup, b_abs, b_int, b_len, b_max, b_min, l_list, r_1, r_2, t_bl, t_int, t_non, q_tup, q_rol, a_bl, d_none, d_some, d_int, u_all, u_if, g_nil, g_cons, isL_nil, isL_var, isL_int, isL_bl, isL_non, isL_str, isL_glob, isL_neg, isL_not, isL_and, isL_or, isL_ife, isL_cmp, isL_tup, isL_ix, isL_sl, isL_call, isL_bi, isL_bq, isL_meth, isL_rev, isL_step2, isL_lst, isL_bl1, isL_comp, isL_add, isL_mul, isL_sub, isL_fdiv, isL_mod, isL_pow, reduceIte, Bool.not_true, Bool.not_false, Bool.or_self, Bool.false_eq_true, isNonE, isNil, lenE, wipeM, Bool.or_true, Bool.true_or, Bool.or_false, List.getElem?_cons_succ, List.getElem?_cons_zero, List.set_cons_succ, List.set_cons_zero, List.length_cons, List.length_nil, List.length_map, rngL_length]
    have : (counts p xs g).getD j 0 = n := by rw [List.getD_eq_getElem?_getD, en]; rfl
    rw [this] at hR
    exact hR
  rw [List.length_map, counts_len]
  refine ⟨trivial, bq_max rfl (by omega) fun mx => ?_⟩
  simp only [e_var_v, e_var_t, e_var_q, e_var_i, e_int_v, e_int_t, e_int_q, e_int_i, e_bl_v, e_bl_t, e_bl_q, e_bl_i, e_non_v, e_non_t, e_non_q, e_non_i, e_str_v, e_str_t, e_str_q, e_str_i, e_glob_v, e_glob_t, e_glob_q, e_glob_i, e_neg_v, e_neg_t, e_neg_q, e_neg_i, e_ife_v, e_ife_t, e_ife_q, e_ife_i, e_tup_v, e_tup_t, e_tup_q, e_tup_i, e_ix_v, e_ix_t, e_ix_q, e_ix_i, e_sl_v, e_sl_t, e_sl_q, e_sl_i, e_call_v, e_call_t, e_call_q, e_call_i, e_bi_v, e_bi_t, e_bi_q, e_bi_i, e_bq_v, e_bq_t, e_bq_q, e_bq_i, e_meth_v, e_meth_t, e_meth_q, e_meth_i, e_lst_v, e_lst_q, e_lst_i, e_bl1_v, e_bl1_q, e_bl1_i, e_comp_v, e_comp_q, e_comp_i, e_sub_v, e_fdiv_v, e_mod_v, e_pow_v, e_add_v, e_mul_v, e_add_q, e_mul_q, e_add_i, e_mul_i, e_not_v, e_not_t, e_and_v, e_and_t, e_or_v, e_or_t, e_cmp_v, e_cmp_t, e_rng_i, e_enum_i, e_zip_i, e_nil_a, e_cons_a, e_var_g, e_ix_g, e_tup_g, e_nil_gs, e_cons_gs, o_add, o_sub, o_add2, o_addt, o_mul, o_fdiv, o_mod, o_pow, o_aug, o_neg, m_eq, m_ne, m_lt, m_le, m_gt, m_ge, m_eqs, m_is, m_isnot, n_non, n_ref, n_int, n_tup, b_abs, b_int, b_len, b_max, b_min, l_list, r_1, r_2, t_bl, t_int, t_non, q_tup, q_rol, a_bl, d_none, d_some, d_int, u_all, u_if, g_nil, g_cons, isL_nil, isL_var, isL_int, isL_bl, isL_non, isL_str, isL_glob, isL_neg, isL_not, isL_and, isL_or, isL_ife, isL_cmp, isL_tup, isL_ix, isL_sl, isL_call, isL_bi, isL_bq, isL_meth, isL_rev, isL_step2, isL_lst, isL_bl1, isL_comp, isL_add, isL_mul, isL_sub, isL_fdiv, isL_mod, isL_pow, reduceIte, Bool.not_true, Bool.not_false, Bool.or_self, Bool.false_eq_true, isNonE, isNil, lenE, wipeM, Bool.or_true, Bool.true_or, Bool.or_false, List.getElem?_cons_succ, List.getElem?_cons_zero, List.set_cons_succ, List.set_cons_zero, List.length_cons, List.length_nil, List.length_map, rngL_length]
  refine ⟨by decide, ?_⟩
  have S3 : Sub h h3 := fun b o e => by have := S b o e; solve_by_elim (maxDepth := 40)
  by_cases z : (10 : Int) ^ (9 : Int).toNat < mx
  · rw [if_pos (decide_eq_true z)]
    refine st_ret ?_
    simp only [e_var_v, e_var_t, e_var_q, e_var_i, e_int_v, e_int_t, e_int_q, e_int_i, e_bl_v, e_bl_t, e_bl_q, e_bl_i, e_non_v, e_non_t, e_non_q, e_non_i, e_str_v, e_str_t, e_str_q, e_str_i, e_glob_v, e_glob_t, e_glob_q, e_glob_i, e_neg_v, e_neg_t, e_neg_q, e_neg_i, e_ife_v, e_ife_t, e_ife_q, e_ife_i, e_tup_v, e_tup_t, e_tup_q, e_tup_i, e_ix_v, e_ix_t, e_ix_q, e_ix_i, e_sl_v, e_sl_t, e_sl_q, e_sl_i, e_call_v, e_call_t, e_call_q, e_call_i, e_bi_v, e_bi_t, e_bi_q, e_bi_i, e_bq_v, e_bq_t, e_bq_q, e_bq_i, e_meth_v, e_meth_t, e_meth_q, e_meth_i, e_lst_v, e_lst_q, e_lst_i, e_bl1_v, e_bl1_q, e_bl1_i, e_comp_v, e_comp_q, e_comp_i, e_sub_v, e_fdiv_v, e_mod_v, e_pow_v, e_add_v, e_mul_v, e_add_q, e_mul_q, e_add_i, e_mul_i, e_not_v, e_not_t, e_and_v, e_and_t, e_or_v, e_or_t, e_cmp_v, e_cmp_t, e_rng_i, e_enum_i, e_zip_i, e_nil_a, e_cons_a, e_var_g, e_ix_g, e_tup_g, e_nil_gs, e_cons_gs, o_add, o_sub, o_add2, o_addt, o_mul, o_fdiv, o_mod, o_pow, o_aug, o_neg, m_eq, m_ne, m_lt, m_le, m_gt, m_ge, m_eqs, m_is, m_isnot, n_non, n_ref, n_int, n_tup, b_abs, b_int, b_len, b_max, b_min, l_list, r_1, r_2, t_bl, t_int, t_non, q_tup, q_rol, a_bl, d_none, d_some, d_int, u_all, u_if, g_nil, g_cons, isL_nil, isL_var, isL_int, isL_bl, isL_non, isL_str, isL_glob, isL_neg, isL_not, isL_and, isL_or, isL_ife, isL_cmp, isL_tup, isL_ix, isL_sl, isL_call, isL_bi, isL_bq, isL_meth, isL_rev, isL_step2, isL_lst, isL_bl1, isL_comp, isL_add, isL_mul, isL_sub, isL_fdiv, isL_mod, isL_pow, reduceIte, Bool.not_true, Bool.not_false, Bool.or_self, Bool.false_eq_true, isNonE, isNil, lenE, wipeM, Bool.or_true, Bool.true_or, Bool.or_false, List.getElem?_cons_succ, List.getElem?_cons_zero, List.set_cons_succ, List.set_cons_zero, List.length_cons, List.length_nil, List.length_map, rngL_length]
    exact fin _ S3
  rw [if_neg (by simpa using z)]
  refine st_skip ?_
  dsimp only
  have d3 := s3 _ _ d2
  have a3 := s3 _ _ a2
  refine st_asg hΦ ?_
  simp only [e_var_v, e_var_t, e_var_q, e_var_i, e_int_v, e_int_t, e_int_q, e_int_i, e_bl_v, e_bl_t, e_bl_q, e_bl_i, e_non_v, e_non_t, e_non_q, e_non_i, e_str_v, e_str_t, e_str_q, e_str_i, e_glob_v, e_glob_t, e_glob_q, e_glob_i, e_neg_v, e_neg_t, e_neg_q, e_neg_i, e_ife_v, e_ife_t, e_ife_q, e_ife_i, e_tup_v, e_tup_t, e_tup_q, e_tup_i, e_ix_v, e_ix_t, e_ix_q, e_ix_i, e_sl_v, e_sl_t, e_sl_q, e_sl_i, e_call_v, e_call_t, e_call_q, e_call_i, e_bi_v, e_bi_t, e_bi_q, e_bi_i, e_bq_v, e_bq_t, e_bq_q, e_bq_i, e_meth_v, e_meth_t, e_meth_q, e_meth_i, e_lst_v, e_lst_q, e_lst_i, e_bl1_v, e_bl1_q, e_bl1_i, e_comp_v, e_comp_q, e_comp_i, e_sub_v, e_fdiv_v, e_mod_v, e_pow_v, e_add_v, e_mul_v, e_add_q, e_mul_q, e_add_i, e_mul_i, e_not_v, e_not_t, e_and_v, e_and_t, e_or_v, e_or_t, e_cmp_v, e_cmp_t, e_rng_i, e_enum_i, e_zip_i, e_nil_a, e_cons_a, e_var_g, e_ix_g, e_tup_g, e_nil_gs, e_cons_gs, o_add, o_sub, o_add2, o_addt, o_mul, o_fdiv, o_mod, o_pow, o_aug, o_neg, m_eq, m_ne, m_lt, m_le, m_gt, m_ge, m_eqs, m_is, m_isnot, n_non, n_ref, n_int, n_tup, b_abs, b_int, b_len, b_max, b_min, l_list, r_1, r_2, t_bl, t_int, t_non, q_tup, q_rol, a_bl, d_none, d_some, d_int, u_all, u_if, g_nil, g_cons, isL_nil, isL_var, isL_int, isL_bl, isL_non, isL_str, isL_glob, isL_neg, isL_not, isL_and, isL_or, isL_ife, isL_cmp, isL_tup, isL_ix, isL_sl, isL_call, isL_bi, isL_bq, isL_meth, isL_rev, isL_step2, isL_lst, isL_bl1, isL_comp, isL_add, isL_mul, isL_sub, isL_fdiv, isL_mod, isL_pow, reduceIte, Bool.not_true, Bool.not_false, Bool.or_self, Bool.false_eq_true, isNonE, isNil, lenE, wipeM, Bool.or_true, Bool.true_or, Bool.or_false, List.getElem?_cons_succ, List.getElem?_cons_zero, List.set_cons_succ, List.set_cons_zero, List.length_cons, List.length_nil, List.length_map, rngL_length]
  refine sl_ref d3 ?_
  rw [cut_take, ht]
  intro q4 n4
  obtain ⟨h4, eh, s4, e4⟩ := newc n4 (.lst ((counts p xs g).map M.int))
  rw [eh]
  clear eh
  refine st_asg hΦ ?_
  simp only [e_var_v, e_var_t, e_var_q, e_var_i, e_int_v, e_int_t, e_int_q, e_int_i, e_bl_v, e_bl_t, e_bl_q, e_bl_i, e_non_v, e_non_t, e_non_q, e_non_i, e_str_v, e_str_t, e_str_q, e_str_i, e_glob_v, e_glob_t, e_glob_q, e_glob_i, e_neg_v, e_neg_t, e_neg_q, e_neg_i, e_ife_v, e_ife_t, e_ife_q, e_ife_i, e_tup_v, e_tup_t, e_tup_q, e_tup_i, e_ix_v, e_ix_t, e_ix_q, e_ix_i, e_sl_v, e_sl_t, e_sl_q, e_sl_i, e_call_v, e_call_t, e_call_q, e_call_i, e_bi_v, e_bi_t, e_bi_q, e_bi_i, e_bq_v, e_bq_t, e_bq_q, e_bq_i, e_meth_v, e_meth_t, e_meth_q, e_meth_i, e_lst_v, e_lst_q, e_lst_i, e_bl1_v, e_bl1_q, e_bl1_i, e_comp_v, e_comp_q, e_comp_i, e_sub_v, e_fdiv_v, e_mod_v, e_pow_v, e_add_v, e_mul_v, e_add_q, e_mul_q, e_add_i, e_mul_i, e_not_v, e_not_t, e_and_v, e_and_t, e_or_v, e_or_t, e_cmp_v, e_cmp_t, e_rng_i, e_enum_i, e_zip_i, e_nil_a, e_cons_a, e_var_g, e_ix_g, e_tup_g, e_nil_gs, e_cons_gs, o_add, o_sub, o_add2, o_addt, o_mul, o_fdiv, o_mod, o_pow, o_aug, o_neg, m_eq, m_ne, m_lt, m_le, m_gt, m_ge, m_eqs, m_is, m_isnot, n_non, n_ref, n_int, n_tup, b_abs, b_int, b_len, b_max, b_min, l_list, r_1, r_2, t_bl, t_int, t_non, q_tup, q_rol, a_bl, d_none, d_some, d_int, u_all, u_if, g_nil, g_cons, isL_nil, isL_var, isL_int, isL_bl, isL_non, isL_str, isL_glob, isL_neg, isL_not, isL_and, isL_or, isL_ife, isL_cmp, isL_tup, isL_ix, isL_sl, isL_call, isL_bi, isL_bq, isL_meth, isL_rev, isL_step2, isL_lst, isL_bl1, isL_comp, isL_add, isL_mul, isL_sub, isL_fdiv, isL_mod, isL_pow, reduceIte, Bool.not_true, Bool.not_false, Bool.or_self, Bool.false_eq_true, isNonE, isNil, lenE, wipeM, Bool.or_true, Bool.true_or, Bool.or_false, List.getElem?_cons_succ, List.getElem?_cons_zero, List.set_cons_succ, List.set_cons_zero, List.length_cons, List.length_nil, List.length_map, rngL_length]
  rw [F.ofc]
  have c300 : ∀ c ∈ counts p xs g, c.natAbs < 2 ^ 300 := counts_300 hb p1 (by omega) g4
  refine ⟨p, q4, counts p xs g, rfl, e4, by rw [counts_len]; omega, c300, p1, hp, ?_⟩
  rw [counts_len, el]
  simp only []
  rw [ef]
  intro q5 n5
  obtain ⟨h5, eh, s5, e5⟩ := newc n5 (LI xs)
  rw [eh]
  clear eh
  refine st_iff hΦ ?_
  simp only [e_var_v, e_var_t, e_var_q, e_var_i, e_int_v, e_int_t, e_int_q, e_int_i, e_bl_v, e_bl_t, e_bl_q, e_bl_i, e_non_v, e_non_t, e_non_q, e_non_i, e_str_v, e_str_t, e_str_q, e_str_i, e_glob_v, e_glob_t, e_glob_q, e_glob_i, e_neg_v, e_neg_t, e_neg_q, e_neg_i, e_ife_v, e_ife_t, e_ife_q, e_ife_i, e_tup_v, e_tup_t, e_tup_q, e_tup_i, e_ix_v, e_ix_t, e_ix_q, e_ix_i, e_sl_v, e_sl_t, e_sl_q, e_sl_i, e_call_v, e_call_t, e_call_q, e_call_i, e_bi_v, e_bi_t, e_bi_q, e_bi_i, e_bq_v, e_bq_t, e_bq_q, e_bq_i, e_meth_v, e_meth_t, e_meth_q, e_meth_i, e_lst_v, e_lst_q, e_lst_i, e_bl1_v, e_bl1_q, e_bl1_i, e_comp_v, e_comp_q, e_comp_i, e_sub_v, e_fdiv_v, e_mod_v, e_pow_v, e_add_v, e_mul_v, e_add_q, e_mul_q, e_add_i, e_mul_i, e_not_v, e_not_t, e_and_v, e_and_t, e_or_v, e_or_t, e_cmp_v, e_cmp_t, e_rng_i, e_enum_i, e_zip_i, e_nil_a, e_cons_a, e_var_g, e_ix_g, e_tup_g, e_nil_gs, e_cons_gs, o_add, o_sub, o_add2, o_addt, o_mul, o_fdiv, o_mod, o_pow, o_aug, o_neg, m_eq, m_ne, m_lt, m_le, m_gt, m_ge, m_eqs, m_is, m_isnot, n_non, n_ref, n_int, n_tup, b_abs, b_int, b_len, b_max, b_min, l_list, r_1, r_2, t_bl, t_int, t_non, q_tup, q_rol, a_bl, d_none, d_some, d_int, u_all, u_if, g_nil, g_cons, isL_nil, isL_var, isL_int, isL_bl, isL_non, isL_str, isL_glob, isL_neg, isL_not, isL_and, isL_or, isL_ife, isL_cmp, isL_tup, isL_ix, isL_sl, isL_call, isL_bi, isL_bq, isL_meth, isL_rev, isL_step2, isL_lst, isL_bl1, isL_comp, isL_add, isL_mul, isL_sub, isL_fdiv, isL_mod, isL_pow, reduceIte, Bool.not_true, Bool.not_false, Bool.or_self, Bool.false_eq_true, isNonE, isNil, lenE, wipeM, Bool.or_true, Bool.true_or, Bool.or_false, List.getElem?_cons_succ, List.getElem?_cons_zero, List.set_cons_succ, List.set_cons_zero, List.length_cons, List.length_nil, List.length_map, rngL_length]
  refine ⟨by omega, trivial, ?_⟩
  intro q6 n6
  obtain ⟨h6, eh, s6, e6⟩ := newc n6 (.lst [.ref q5, .ref q4])
  rw [eh]
  clear eh
  refine sl_ref (show h6 r1 = some (.lst ((counts p xs 40).map M.int)) from (by solve_by_elim (maxDepth := 40))) ?_
  rw [cut_take, ht]
  intro q7 n7
  obtain ⟨h7, eh, s7, e7⟩ := newc n7 (.lst ((counts p xs g).map M.int))
  rw [eh]
  clear eh
  refine ⟨by omega, trivial, ?_⟩
  intro q8 n8
  obtain ⟨h8, eh, s8, e8⟩ := newc n8 (.lst [.ref a, .ref q7])
  rw [eh]
  clear eh
  rw [F.is]
  have a8 : h8 a = some (LI xs) := (by solve_by_elim (maxDepth := 40))
  have e58 : h8 q5 = some (LI xs) := (by solve_by_elim (maxDepth := 40))
  have d8 : h8 r1 = some (LI (counts p xs 40)) := (by solve_by_elim (maxDepth := 40))
  refine ⟨.ref q6, .ref q8, dLL [xs, counts p xs g], rfl, ?_, ?_, good_dLL (by simp) (mem2 fx (fc g (by omega))), .inl ⟨_, rfl⟩, ?_⟩
  · exact dat_dLL [(q5, xs), (q4, counts p xs g)] (show h8 q6 = some (.lst [.ref q5, .ref q4]) from (by solve_by_elim (maxDepth := 40))) (mem2 e58 (show h8 q4 = some (.lst ((counts p xs g).map M.int)) from (by solve_by_elim (maxDepth := 40))))
  · exact dat_dLL [(a, xs), (q7, counts p xs g)] e8 (mem2 a8 (show h8 q7 = some (.lst ((counts p xs g).map M.int)) from (by solve_by_elim (maxDepth := 40))))
  simp only [e_var_v, e_var_t, e_var_q, e_var_i, e_int_v, e_int_t, e_int_q, e_int_i, e_bl_v, e_bl_t, e_bl_q, e_bl_i, e_non_v, e_non_t, e_non_q, e_non_i, e_str_v, e_str_t, e_str_q, e_str_i, e_glob_v, e_glob_t, e_glob_q, e_glob_i, e_neg_v, e_neg_t, e_neg_q, e_neg_i, e_ife_v, e_ife_t, e_ife_q, e_ife_i, e_tup_v, e_tup_t, e_tup_q, e_tup_i, e_ix_v, e_ix_t, e_ix_q, e_ix_i, e_sl_v, e_sl_t, e_sl_q, e_sl_i, e_call_v, e_call_t, e_call_q, e_call_i, e_bi_v, e_bi_t, e_bi_q, e_bi_i, e_bq_v, e_bq_t, e_bq_q, e_bq_i, e_meth_v, e_meth_t, e_meth_q, e_meth_i, e_lst_v, e_lst_q, e_lst_i, e_bl1_v, e_bl1_q, e_bl1_i, e_comp_v, e_comp_q, e_comp_i, e_sub_v, e_fdiv_v, e_mod_v, e_pow_v, e_add_v, e_mul_v, e_add_q, e_mul_q, e_add_i, e_mul_i, e_not_v, e_not_t, e_and_v, e_and_t, e_or_v, e_or_t, e_cmp_v, e_cmp_t, e_rng_i, e_enum_i, e_zip_i, e_nil_a, e_cons_a, e_var_g, e_ix_g, e_tup_g, e_nil_gs, e_cons_gs, o_add, o_sub, o_add2, o_addt, o_mul, o_fdiv, o_mod, o_pow, o_aug, o_neg, m_eq, m_ne, m_lt, m_le, m_gt, m_ge, m_eqs, m_is, m_isnot, n_non, n_ref, n_int, n_tup, b_abs, b_int, b_len, b_max, b_min, l_list, r_1, r_2, t_bl, t_int, t_non, q_tup, q_rol, a_bl, d_none, d_some, d_int, u_all, u_if, g_nil, g_cons, isL_nil, isL_var, isL_int, isL_bl, isL_non, isL_str, isL_glob, isL_neg, isL_not, isL_and, isL_or, isL_ife, isL_cmp, isL_tup, isL_ix, isL_sl, isL_call, isL_bi, isL_bq, isL_meth, isL_rev, isL_step2, isL_lst, isL_bl1, isL_comp, isL_add, isL_mul, isL_sub, isL_fdiv, isL_mod, isL_pow, reduceIte, Bool.not_true, Bool.not_false, Bool.or_self, Bool.false_eq_true, isNonE, isNil, lenE, wipeM, Bool.or_true, Bool.true_or, Bool.or_false, List.getElem?_cons_succ, List.getElem?_cons_zero, List.set_cons_succ, List.set_cons_zero, List.length_cons, List.length_nil, List.length_map, rngL_length]
  refine st_skip ?_
  dsimp only
  have N5 : h q5 = none := Sub.none (fun b o e => by have := S3 b o e; solve_by_elim (maxDepth := 40)) n5
  have S8 : Sub h h8 := fun b o e => by have := S3 b o e; solve_by_elim (maxDepth := 40)
  have na : a ≠ q5 := mh_ne (s4 _ _ a3) n5
  have nr : r1 ≠ q5 := mh_ne (s4 _ _ d3) n5
  refine st_expr hΦ ?_
  simp only [e_var_v, e_var_t, e_var_q, e_var_i, e_int_v, e_int_t, e_int_q, e_int_i, e_bl_v, e_bl_t, e_bl_q, e_bl_i, e_non_v, e_non_t, e_non_q, e_non_i, e_str_v, e_str_t, e_str_q, e_str_i, e_glob_v, e_glob_t, e_glob_q, e_glob_i, e_neg_v, e_neg_t, e_neg_q, e_neg_i, e_ife_v, e_ife_t, e_ife_q, e_ife_i, e_tup_v, e_tup_t, e_tup_q, e_tup_i, e_ix_v, e_ix_t, e_ix_q, e_ix_i, e_sl_v, e_sl_t, e_sl_q, e_sl_i, e_call_v, e_call_t, e_call_q, e_call_i, e_bi_v, e_bi_t, e_bi_q, e_bi_i, e_bq_v, e_bq_t, e_bq_q, e_bq_i, e_meth_v, e_meth_t, e_meth_q, e_meth_i, e_lst_v, e_lst_q, e_lst_i, e_bl1_v, e_bl1_q, e_bl1_i, e_comp_v, e_comp_q, e_comp_i, e_sub_v, e_fdiv_v, e_mod_v, e_pow_v, e_add_v, e_mul_v, e_add_q, e_mul_q, e_add_i, e_mul_i, e_not_v, e_not_t, e_and_v, e_and_t, e_or_v, e_or_t, e_cmp_v, e_cmp_t, e_rng_i, e_enum_i, e_zip_i, e_nil_a, e_cons_a, e_var_g, e_ix_g, e_tup_g, e_nil_gs, e_cons_gs, o_add, o_sub, o_add2, o_addt, o_mul, o_fdiv, o_mod, o_pow, o_aug, o_neg, m_eq, m_ne, m_lt, m_le, m_gt, m_ge, m_eqs, m_is, m_isnot, n_non, n_ref, n_int, n_tup, b_abs, b_int, b_len, b_max, b_min, l_list, r_1, r_2, t_bl, t_int, t_non, q_tup, q_rol, a_bl, d_none, d_some, d_int, u_all, u_if, g_nil, g_cons, isL_nil, isL_var, isL_int, isL_bl, isL_non, isL_str, isL_glob, isL_neg, isL_not, isL_and, isL_or, isL_ife, isL_cmp, isL_tup, isL_ix, isL_sl, isL_call, isL_bi, isL_bq, isL_meth, isL_rev, isL_step2, isL_lst, isL_bl1, isL_comp, isL_add, isL_mul, isL_sub, isL_fdiv, isL_mod, isL_pow, reduceIte, Bool.not_true, Bool.not_false, Bool.or_self, Bool.false_eq_true, isNonE, isNil, lenE, wipeM, Bool.or_true, Bool.true_or, Bool.or_false, List.getElem?_cons_succ, List.getElem?_cons_zero, List.set_cons_succ, List.set_cons_zero, List.length_cons, List.length_nil, List.length_map, rngL_length]
  refine ⟨lst_ok e58, (append_ref e58 (by rw [List.length_map]; have := hSZ; omega) ?_).2⟩
  refine st_ret ?_
  simp only [e_var_v, e_var_t, e_var_q, e_var_i, e_int_v, e_int_t, e_int_q, e_int_i, e_bl_v, e_bl_t, e_bl_q, e_bl_i, e_non_v, e_non_t, e_non_q, e_non_i, e_str_v, e_str_t, e_str_q, e_str_i, e_glob_v, e_glob_t, e_glob_q, e_glob_i, e_neg_v, e_neg_t, e_neg_q, e_neg_i, e_ife_v, e_ife_t, e_ife_q, e_ife_i, e_tup_v, e_tup_t, e_tup_q, e_tup_i, e_ix_v, e_ix_t, e_ix_q, e_ix_i, e_sl_v, e_sl_t, e_sl_q, e_sl_i, e_call_v, e_call_t, e_call_q, e_call_i, e_bi_v, e_bi_t, e_bi_q, e_bi_i, e_bq_v, e_bq_t, e_bq_q, e_bq_i, e_meth_v, e_meth_t, e_meth_q, e_meth_i, e_lst_v, e_lst_q, e_lst_i, e_bl1_v, e_bl1_q, e_bl1_i, e_comp_v, e_comp_q, e_comp_i, e_sub_v, e_fdiv_v, e_mod_v, e_pow_v, e_add_v, e_mul_v, e_add_q, e_mul_q, e_add_i, e_mul_i, e_not_v, e_not_t, e_and_v, e_and_t, e_or_v, e_or_t, e_cmp_v, e_cmp_t, e_rng_i, e_enum_i, e_zip_i, e_nil_a, e_cons_a, e_var_g, e_ix_g, e_tup_g, e_nil_gs, e_cons_gs, o_add, o_sub, o_add2, o_addt, o_mul, o_fdiv, o_mod, o_pow, o_aug, o_neg, m_eq, m_ne, m_lt, m_le, m_gt, m_ge, m_eqs, m_is, m_isnot, n_non, n_ref, n_int, n_tup, b_abs, b_int, b_len, b_max, b_min, l_list, r_1, r_2, t_bl, t_int, t_non, q_tup, q_rol, a_bl, d_none, d_some, d_int, u_all, u_if, g_nil, g_cons, isL_nil, isL_var, isL_int, isL_bl, isL_non, isL_str, isL_glob, isL_neg, isL_not, isL_and, isL_or, isL_ife, isL_cmp, isL_tup, isL_ix, isL_sl, isL_call, isL_bi, isL_bq, isL_meth, isL_rev, isL_step2, isL_lst, isL_bl1, isL_comp, isL_add, isL_mul, isL_sub, isL_fdiv, isL_mod, isL_pow, reduceIte, Bool.not_true, Bool.not_false, Bool.or_self, Bool.false_eq_true, isNonE, isNil, lenE, wipeM, Bool.or_true, Bool.true_or, Bool.or_false, List.getElem?_cons_succ, List.getElem?_cons_zero, List.set_cons_succ, List.set_cons_zero, List.length_cons, List.length_nil, List.length_map, rngL_length]
  refine sl_ref ((put_ne nr).trans d8) ?_
  rw [cut_take, ht]
  intro q9 n9
  obtain ⟨h9, eh, s9, e9⟩ := newc n9 (.lst ((counts p xs g).map M.int))
  rw [eh]
  clear eh
  rw [F.ofc]
  refine ⟨p, q9, counts p xs g, rfl, e9, by rw [counts_len]; omega, c300, p1, hp, ?_⟩
  rw [counts_len, el]
  simp only []
  rw [ef]
  intro q10 n10
  obtain ⟨h10, eh, s10, e10⟩ := newc n10 (LI xs)
  rw [eh]
  clear eh
  rw [F.is]
  have a10 : h10 a = some (LI xs) := s10 _ _ (s9 _ _ ((put_ne na).trans a8))
  refine ⟨.ref q10, .ref a, dI xs, rfl, dat_dI e10, dat_dI a10, good_dI fx, .inl ⟨_, rfl⟩, ?_⟩
  exact fin _ fun b o e => s10 _ _ (s9 _ _ ((sub_putN S8 N5) b o e))
theorem keeps_counted (Φ : Phi) (F : Fns Φ) : Keeps Φ 8 t_law_is_counted spCounted := by
  intro ms h Q hsp
  obtain ⟨p, a, xs, g, rfl, ha, g1, g4, L, p1, p2, post⟩ := hsp
  have hΦ := F.mono
  have hlen := L.len
  have hb := L.bnd
  have hp : p.natAbs < 2 ^ 100 := Nat.lt_of_lt_of_le (m := 1000) (by omega) (by decide)
  obtain ⟨l, el, ef⟩ := lst_again L
  have fc : ∀ n, n ≤ 40 → Few (counts p xs n) := fun n hn => few_counts hb p1 (by omega) hn
  have fx := L.few (by omega)
  change wS Φ W0 _ _ [some (.int p), some (.ref a), some (.int (g : Nat)), none, none, none, none, none] h
  unfold t_law_is_counted
  refine st_asg hΦ ?_
  simp only [e_var_v, e_var_t, e_var_q, e_var_i, e_int_v, e_int_t, e_int_q, e_int_i, e_bl_v, e_bl_t, e_bl_q, e_bl_i, e_non_v, e_non_t, e_non_q, e_non_i, e_str_v, e_str_t, e_str_q, e_str_i, e_glob_v, e_glob_t, e_glob_q, e_glob_i, e_neg_v, e_neg_t, e_neg_q, e_neg_i, e_ife_v, e_ife_t, e_ife_q, e_ife_i, e_tup_v, e_tup_t, e_tup_q, e_tup_i, e_ix_v, e_ix_t, e_ix_q, e_ix_i, e_sl_v, e_sl_t, e_sl_q, e_sl_i, e_call_v, e_call_t, e_call_q, e_call_i, e_bi_v, e_bi_t, e_bi_q, e_bi_i, e_bq_v, e_bq_t, e_bq_q, e_bq_i, e_meth_v, e_meth_t, e_meth_q, e_meth_i, e_lst_v, e_lst_q, e_lst_i, e_bl1_v, e_bl1_q, e_bl1_i, e_comp_v, e_comp_q, e_comp_i, e_sub_v, e_fdiv_v, e_mod_v, e_pow_v, e_add_v, e_mul_v, e_add_q, e_mul_q, e_add_i, e_mul_i, e_not_v, e_not_t, e_and_v, e_and_t, e_or_v, e_or_t, e_cmp_v, e_cmp_t, e_rng_i, e_enum_i, e_zip_i, e_nil_a, e_cons_a, e_var_g, e_ix_g, e_tup_g, e_nil_gs, e_cons_gs, o_add, o_sub, o_add2, o_addt, o_mul, o_fdiv, o_mod, o_pow, o_aug, o_neg, m_eq, m_ne, m_lt, m_le, m_gt, m_ge, m_eqs, m_is, m_isnot, n_non, n_ref, n_int, n_tup, b_abs, b_int, b_len, b_max, b_min, l_list, r_1, r_2, t_bl, t_int, t_non, q_tup, q_rol, a_bl, d_none, d_some, d_int, u_all, u_if, g_nil, g_cons, isL_nil, isL_var, isL_int, isL_bl, isL_non, isL_str, isL_glob, isL_neg, isL_not, isL_and, isL_or, isL_ife, isL_cmp, isL_tup, isL_ix, isL_sl, isL_call, isL_bi, isL_bq, isL_meth, isL_rev, isL_step2, isL_lst, isL_bl1, isL_comp, isL_add, isL_mul, isL_sub, isL_fdiv, isL_mod, isL_pow, reduceIte, Bool.not_true, Bool.not_false, Bool.or_self, Bool.false_eq_true, isNonE, isNil, lenE, wipeM, Bool.or_true, Bool.true_or, Bool.or_false, List.getElem?_cons_succ, List.getElem?_cons_zero, List.set_cons_succ, List.set_cons_zero, List.length_cons, List.length_nil, List.length_map, rngL_length]
  rw [F.counts]
  refine ⟨p, a, xs, 40, rfl, ha, by omega, by omega, hb, p1, hp, ?_⟩
  intro r1 n1
  obtain ⟨h1, eh, s1, e1⟩ := newc n1 (LI (counts p xs 40))
  rw [eh]
  clear eh
  refine st_asg hΦ ?_
  simp only [e_var_v, e_var_t, e_var_q, e_var_i, e_int_v, e_int_t, e_int_q, e_int_i, e_bl_v, e_bl_t, e_bl_q, e_bl_i, e_non_v, e_non_t, e_non_q, e_non_i, e_str_v, e_str_t, e_str_q, e_str_i, e_glob_v, e_glob_t, e_glob_q, e_glob_i, e_neg_v, e_neg_t, e_neg_q, e_neg_i, e_ife_v, e_ife_t, e_ife_q, e_ife_i, e_tup_v, e_tup_t, e_tup_q, e_tup_i, e_ix_v, e_ix_t, e_ix_q, e_ix_i, e_sl_v, e_sl_t, e_sl_q, e_sl_i, e_call_v, e_call_t, e_call_q, e_call_i, e_bi_v, e_bi_t, e_bi_q, e_bi_i, e_bq_v, e_bq_t, e_bq_q, e_bq_i, e_meth_v, e_meth_t, e_meth_q, e_meth_i, e_lst_v, e_lst_q, e_lst_i, e_bl1_v, e_bl1_q, e_bl1_i, e_comp_v, e_comp_q, e_comp_i, e_sub_v, e_fdiv_v, e_mod_v, e_pow_v, e_add_v, e_mul_v, e_add_q, e_mul_q, e_add_i, e_mul_i, e_not_v, e_not_t, e_and_v, e_and_t, e_or_v, e_or_t, e_cmp_v, e_cmp_t, e_rng_i, e_enum_i, e_zip_i, e_nil_a, e_cons_a, e_var_g, e_ix_g, e_tup_g, e_nil_gs, e_cons_gs, o_add, o_sub, o_add2, o_addt, o_mul, o_fdiv, o_mod, o_pow, o_aug, o_neg, m_eq, m_ne, m_lt, m_le, m_gt, m_ge, m_eqs, m_is, m_isnot, n_non, n_ref, n_int, n_tup, b_abs, b_int, b_len, b_max, b_min, l_list, r_1, r_2, t_bl, t_int, t_non, q_tup, q_rol, a_bl, d_none, d_some, d_int, u_all, u_if, g_nil, g_cons, isL_nil, isL_var, isL_int, isL_bl, isL_non, isL_str, isL_glob, isL_neg, isL_not, isL_and, isL_or, isL_ife, isL_cmp, isL_tup, isL_ix, isL_sl, isL_call, isL_bi, isL_bq, isL_meth, isL_rev, isL_step2, isL_lst, isL_bl1, isL_comp, isL_add, isL_mul, isL_sub, isL_fdiv, isL_mod, isL_pow, reduceIte, Bool.not_true, Bool.not_false, Bool.or_self, Bool.false_eq_true, isNonE, isNil, lenE, wipeM, Bool.or_true, Bool.true_or, Bool.or_false, List.getElem?_cons_succ, List.getElem?_cons_zero, List.set_cons_succ, List.set_cons_zero, List.length_cons, List.length_nil, List.length_map, rngL_length]
  refine asQ_ref (s1 _ _ ha) ⟨⟨s1 _ _ ha, trivial⟩, trivial, ?_⟩
  intro r2 n2
  obtain ⟨h2, eh, s2, e2⟩ := newc n2 (LI xs)
  rw [eh]
  clear eh
  rw [F.cof]
  refine ⟨p, r2, xs, 40, rfl, e2, by omega, by omega, hb, p1, hp, ?_⟩
  intro r3 n3
  obtain ⟨h3, eh, s3, e3⟩ := newc n3 (LI (counts p xs 40))
  rw [eh]
  clear eh
  have a3 : h3 a = some (LI xs) := s3 _ _ (s2 _ _ (s1 _ _ ha))
  have d3 : h3 r1 = some (LI (counts p xs 40)) := s3 _ _ (s2 _ _ e1)
  have n31 : r1 ≠ r3 := mh_ne (s2 _ _ e1) n3
  have S3 : Sub h h3 := fun a o e => s3 _ _ (s2 _ _ (s1 _ _ e))
  have N3 : h r3 = none := Sub.none (fun a o e => s2 _ _ (s1 _ _ e)) n3
  clear s1 s2 s3 e1 e2
  refine st_iff hΦ ?_
  simp only [e_var_v, e_var_t, e_var_q, e_var_i, e_int_v, e_int_t, e_int_q, e_int_i, e_bl_v, e_bl_t, e_bl_q, e_bl_i, e_non_v, e_non_t, e_non_q, e_non_i, e_str_v, e_str_t, e_str_q, e_str_i, e_glob_v, e_glob_t, e_glob_q, e_glob_i, e_neg_v, e_neg_t, e_neg_q, e_neg_i, e_ife_v, e_ife_t, e_ife_q, e_ife_i, e_tup_v, e_tup_t, e_tup_q, e_tup_i, e_ix_v, e_ix_t, e_ix_q, e_ix_i, e_sl_v, e_sl_t, e_sl_q, e_sl_i, e_call_v, e_call_t, e_call_q, e_call_i, e_bi_v, e_bi_t, e_bi_q, e_bi_i, e_bq_v, e_bq_t, e_bq_q, e_bq_i, e_meth_v, e_meth_t, e_meth_q, e_meth_i, e_lst_v, e_lst_q, e_lst_i, e_bl1_v, e_bl1_q, e_bl1_i, e_comp_v, e_comp_q, e_comp_i, e_sub_v, e_fdiv_v, e_mod_v, e_pow_v, e_add_v, e_mul_v, e_add_q, e_mul_q, e_add_i, e_mul_i, e_not_v, e_not_t, e_and_v, e_and_t, e_or_v, e_or_t, e_cmp_v, e_cmp_t, e_rng_i, e_enum_i, e_zip_i, e_nil_a, e_cons_a, e_var_g, e_ix_g, e_tup_g, e_nil_gs, e_cons_gs, o_add, o_sub, o_add2, o_addt, o_mul, o_fdiv, o_mod, o_pow, o_aug, o_neg, m_eq, m_ne, m_lt, m_le, m_gt, m_ge, m_eqs, m_is, m_isnot, n_non, n_ref, n_int, n_tup, b_abs, b_int, b_len, b_max, b_min, l_list, r_1, r_2, t_bl, t_int, t_non, q_tup, q_rol, a_bl, d_none, d_some, d_int, u_all, u_if, g_nil, g_cons, isL_nil, isL_var, isL_int, isL_bl, isL_non, isL_str, isL_glob, isL_neg, isL_not, isL_and, isL_or, isL_ife, isL_cmp, isL_tup, isL_ix, isL_sl, isL_call, isL_bi, isL_bq, isL_meth, isL_rev, isL_step2, isL_lst, isL_bl1, isL_comp, isL_add, isL_mul, isL_sub, isL_fdiv, isL_mod, isL_pow, reduceIte, Bool.not_true, Bool.not_false, Bool.or_self, Bool.false_eq_true, isNonE, isNil, lenE, wipeM, Bool.or_true, Bool.true_or, Bool.or_false, List.getElem?_cons_succ, List.getElem?_cons_zero, List.set_cons_succ, List.set_cons_zero, List.length_cons, List.length_nil, List.length_map, rngL_length]
  refine asQ_ref a3 ⟨⟨a3, trivial⟩, trivial, ?_⟩
  intro r4 n4
  obtain ⟨h4, eh, s4, e4⟩ := newc n4 (LI xs)
  rw [eh]
  clear eh
  rw [F.cof]
  refine ⟨p, r4, xs, 0, rfl, e4, by omega, by omega, hb, p1, hp, ?_⟩
  intro r5 n5
  obtain ⟨h5, eh, s5, e5⟩ := newc n5 (LI (counts p xs 0))
  rw [eh]
  clear eh
  have a5 := s5 _ _ (s4 _ _ a3)
  refine asQ_ref a5 ⟨⟨a5, trivial⟩, trivial, ?_⟩
  intro r6 n6
  obtain ⟨h6, eh, s6, e6⟩ := newc n6 (LI xs)
  rw [eh]
  clear eh
  refine ⟨p, r6, xs, g, rfl, e6, by omega, by omega, hb, p1, hp, ?_⟩
  intro r7 n7
  obtain ⟨h7, eh, s7, e7⟩ := newc n7 (LI (counts p xs g))
  rw [eh]
  clear eh
  have a7 := s7 _ _ (s6 _ _ a5)
  refine asQ_ref a7 ⟨⟨a7, trivial⟩, trivial, ?_⟩
  intro r8 n8
  obtain ⟨h8, eh, s8, e8⟩ := newc n8 (LI xs)
  rw [eh]
  clear eh
  rw [F.over]
  have hg2 : xs.length / 2 = g := by omega
  refine ⟨p, r8, xs, rfl, e8, by omega, hb, p1, by omega, ?_⟩
  rw [hg2, el]
  simp only []
  rw [ef]
  intro r9 n9
  obtain ⟨h9, eh, s9, e9⟩ := newc n9 (LI xs)
  rw [eh]
  clear eh
  refine ⟨by omega, trivial, ?_⟩
  intro r10 n10
  obtain ⟨h10, eh, s10, e10⟩ := newc n10 (.lst [.ref r3, .ref r5, .ref r7, .ref r9])
  rw [eh]
  clear eh
  refine ⟨by omega, trivial, ?_⟩
  intro r11 n11
  obtain ⟨h11, eh, s11, e11⟩ := newc n11 (.lst [])
  rw [eh]
  clear eh
  refine sl_ref (show h11 r1 = some (.lst ((counts p xs 40).map M.int)) from (by solve_by_elim (maxDepth := 40))) ?_
  rw [cut_take, counts_take p xs (show g ≤ 40 by omega)]
  intro r12 n12
  obtain ⟨h12, eh, s12, e12⟩ := newc n12 (.lst ((counts p xs g).map M.int))
  rw [eh]
  clear eh
  refine ⟨by omega, trivial, ?_⟩
  intro r13 n13
  obtain ⟨h13, eh, s13, e13⟩ := newc n13 (.lst [.ref r1, .ref r11, .ref r12, .ref a])
  rw [eh]
  clear eh
  rw [F.is]
  refine ⟨.ref r10, .ref r13, dLL [counts p xs 40, [], counts p xs g, xs], rfl, ?_, ?_, good_dLL (by simp) (mem4 (fc 40 (by omega)) few_nil (fc g (by omega)) fx), .inl ⟨_, rfl⟩, ?_⟩
  · have q5 : h13 r5 = some (LI (counts p xs 0)) := (by solve_by_elim (maxDepth := 40))
    exact dat_dLL [(r3, counts p xs 40), (r5, []), (r7, counts p xs g), (r9, xs)] (show h13 r10 = some (.lst [.ref r3, .ref r5, .ref r7, .ref r9]) from (by solve_by_elim (maxDepth := 40))) (mem4 (show h13 r3 = some (LI (counts p xs 40)) from (by solve_by_elim (maxDepth := 40))) q5 (show h13 r7 = some (LI (counts p xs g)) from (by solve_by_elim (maxDepth := 40))) (show h13 r9 = some (LI xs) from (by solve_by_elim (maxDepth := 40))))
  · exact dat_dLL [(r1, counts p xs 40), (r11, []), (r12, counts p xs g), (a, xs)] e13 (mem4 (show h13 r1 = some (LI (counts p xs 40)) from (by solve_by_elim (maxDepth := 40))) (show h13 r11 = some (.lst []) from (by solve_by_elim (maxDepth := 40))) (show h13 r12 = some (.lst ((counts p xs g).map M.int)) from (by solve_by_elim (maxDepth := 40))) (show h13 a = some (LI xs) from (by solve_by_elim (maxDepth := 40))))
  simp only [e_var_v, e_var_t, e_var_q, e_var_i, e_int_v, e_int_t, e_int_q, e_int_i, e_bl_v, e_bl_t, e_bl_q, e_bl_i, e_non_v, e_non_t, e_non_q, e_non_i, e_str_v, e_str_t, e_str_q, e_str_i, e_glob_v, e_glob_t, e_glob_q, e_glob_i, e_neg_v, e_neg_t, e_neg_q, e_neg_i, e_ife_v, e_ife_t, e_ife_q, e_ife_i, e_tup_v, e_tup_t, e_tup_q, e_tup_i, e_ix_v, e_ix_t, e_ix_q, e_ix_i, e_sl_v, e_sl_t, e_sl_q, e_sl_i, e_call_v, e_call_t, e_call_q, e_call_i, e_bi_v, e_bi_t, e_bi_q, e_bi_i, e_bq_v, e_bq_t, e_bq_q, e_bq_i, e_meth_v, e_meth_t, e_meth_q, e_meth_i, e_lst_v, e_lst_q, e_lst_i, e_bl1_v, e_bl1_q, e_bl1_i, e_comp_v, e_comp_q, e_comp_i, e_sub_v, e_fdiv_v, e_mod_v, e_pow_v, e_add_v, e_mul_v, e_add_q, e_mul_q, e_add_i, e_mul_i, e_not_v, e_not_t, e_and_v, e_and_t, e_or_v, e_or_t, e_cmp_v, e_cmp_t, e_rng_i, e_enum_i, e_zip_i, e_nil_a, e_cons_a, e_var_g, e_ix_g, e_tup_g, e_nil_gs, e_cons_gs, o_add, o_sub, o_add2, o_addt, o_mul, o_fdiv, o_mod, o_pow, o_aug, o_neg, m_eq, m_ne, m_lt, m_le, m_gt, m_ge, m_eqs, m_is, m_isnot, n_non, n_ref, n_int, n_tup, b_abs, b_int, b_len, b_max, b_min, l_list, r_1, r_2, t_bl, t_int, t_non, q_tup, q_rol, a_bl, d_none, d_some, d_int, u_all, u_if, g_nil, g_cons, isL_nil, isL_var, isL_int, isL_bl, isL_non, isL_str, isL_glob, isL_neg, isL_not, isL_and, isL_or, isL_ife, isL_cmp, isL_tup, isL_ix, isL_sl, isL_call, isL_bi, isL_bq, isL_meth, isL_rev, isL_step2, isL_lst, isL_bl1, isL_comp, isL_add, isL_mul, isL_sub, isL_fdiv, isL_mod, isL_pow, reduceIte, Bool.not_true, Bool.not_false, Bool.or_self, Bool.false_eq_true, isNonE, isNil, lenE, wipeM, Bool.or_true, Bool.true_or, Bool.or_false, List.getElem?_cons_succ, List.getElem?_cons_zero, List.set_cons_succ, List.set_cons_zero, List.length_cons, List.length_nil, List.length_map, rngL_length]
  refine st_skip ?_
  dsimp only
  have a13 : h13 a = some (LI xs) := (by solve_by_elim (maxDepth := 40))
  have d13 : h13 r1 = some (LI (counts p xs 40)) := (by solve_by_elim (maxDepth := 40))
  have t13 : h13 r3 = some (LI (counts p xs 40)) := (by solve_by_elim (maxDepth := 40))
  have S13 : Sub h h13 := fun b o e => by have := S3 b o e; solve_by_elim (maxDepth := 40)
  refine st_expr hΦ ?_
  simp only [e_var_v, e_var_t, e_var_q, e_var_i, e_int_v, e_int_t, e_int_q, e_int_i, e_bl_v, e_bl_t, e_bl_q, e_bl_i, e_non_v, e_non_t, e_non_q, e_non_i, e_str_v, e_str_t, e_str_q, e_str_i, e_glob_v, e_glob_t, e_glob_q, e_glob_i, e_neg_v, e_neg_t, e_neg_q, e_neg_i, e_ife_v, e_ife_t, e_ife_q, e_ife_i, e_tup_v, e_tup_t, e_tup_q, e_tup_i, e_ix_v, e_ix_t, e_ix_q, e_ix_i, e_sl_v, e_sl_t, e_sl_q, e_sl_i, e_call_v, e_call_t, e_call_q, e_call_i, e_bi_v, e_bi_t, e_bi_q, e_bi_i, e_bq_v, e_bq_t, e_bq_q, e_bq_i, e_meth_v, e_meth_t, e_meth_q, e_meth_i, e_lst_v, e_lst_q, e_lst_i, e_bl1_v, e_bl1_q, e_bl1_i, e_comp_v, e_comp_q, e_comp_i, e_sub_v, e_fdiv_v, e_mod_v, e_pow_v, e_add_v, e_mul_v, e_add_q, e_mul_q, e_add_i, e_mul_i, e_not_v, e_not_t, e_and_v, e_and_t, e_or_v, e_or_t, e_cmp_v, e_cmp_t, e_rng_i, e_enum_i, e_zip_i, e_nil_a, e_cons_a, e_var_g, e_ix_g, e_tup_g, e_nil_gs, e_cons_gs, o_add, o_sub, o_add2, o_addt, o_mul, o_fdiv, o_mod, o_pow, o_aug, o_neg, m_eq, m_ne, m_lt, m_le, m_gt, m_ge, m_eqs, m_is, m_isnot, n_non, n_ref, n_int, n_tup, b_abs, b_int, b_len, b_max, b_min, l_list, r_1, r_2, t_bl, t_int, t_non, q_tup, q_rol, a_bl, d_none, d_some, d_int, u_all, u_if, g_nil, g_cons, isL_nil, isL_var, isL_int, isL_bl, isL_non, isL_str, isL_glob, isL_neg, isL_not, isL_and, isL_or, isL_ife, isL_cmp, isL_tup, isL_ix, isL_sl, isL_call, isL_bi, isL_bq, isL_meth, isL_rev, isL_step2, isL_lst, isL_bl1, isL_comp, isL_add, isL_mul, isL_sub, isL_fdiv, isL_mod, isL_pow, reduceIte, Bool.not_true, Bool.not_false, Bool.or_self, Bool.false_eq_true, isNonE, isNil, lenE, wipeM, Bool.or_true, Bool.true_or, Bool.or_false, List.getElem?_cons_succ, List.getElem?_cons_zero, List.set_cons_succ, List.set_cons_zero, List.length_cons, List.length_nil, List.length_map, rngL_length]
  refine ⟨lst_ok t13, (append_ref t13 (by rw [List.length_map, counts_len]; have := hSZ; omega) ?_).2⟩
  exact counted2 Φ F g1 g4 L p1 p2 ((put_ne (mh_ne ha N3)).trans a13) ((put_ne n31).trans d13) (sub_putN S13 N3) fun H' s => ⟨h, s, post⟩
end Mp.K39

set_option Elab.async false
set_option linter.all false
set_option maxRecDepth 100000
set_option exponentiation.threshold 500
namespace Mp.K39
open PySem Mp
theorem cf_twin (xs : List Int) : cf (twin xs) = fun k => sg k * cf xs k := by
  funext k
  show (twin xs).getD k 0 = sg k * xs.getD k 0
  unfold twin
  by_cases h : k < xs.length
  · rw [List.getD_eq_getElem?_getD, List.getElem?_map, List.getElem?_range h]
    show xs.getD k 0 * sg k = _
    exact Int.mul_comm _ _
  · rw [List.getD_eq_getElem?_getD, List.getElem?_eq_none (by simp; omega), List.getD_eq_getElem?_getD, List.getElem?_eq_none (by omega)]
    show (0 : Int) = _ * 0
    rw [Int.mul_zero]
theorem twin_bnd {xs : List Int} (hx : ∀ c ∈ xs, c.natAbs ≤ 2 ^ 54) : ∀ c ∈ twin xs, c.natAbs ≤ 2 ^ 54 := by
  intro c hc
  obtain ⟨k, hk, rfl⟩ := List.mem_map.mp hc
  have b := cf_bnd hx k
  have b' : (xs.getD k 0).natAbs ≤ 2 ^ 54 := b
  unfold sg
  split <;> omega
def spIsTwin : SpM := fun ms h Q _ => ∃ (p : Int) (a : Nat) (xs : List Int) (g : Nat), ms = [.int p, .ref a] ∧ h a = some (LI xs) ∧ g ≤ 4 ∧ Lst p xs g ∧ 1 ≤ p ∧ p ≤ 61 ∧ Q (.bl true) h
theorem keeps_is_twin (Φ : Phi) (F : Fns Φ) : Keeps Φ 6 t_law_is_twin spIsTwin := by
  intro ms h Q hsp
  obtain ⟨p, a, xs, g, rfl, ha, g4, L, p1, p2, post⟩ := hsp
  have hΦ := F.mono
  have hlen := L.len
  have hb := L.bnd
  have hp : p.natAbs < 2 ^ 100 := Nat.lt_of_lt_of_le (m := 1000) (by omega) (by decide)
  change wS Φ W0 _ _ [some (.int p), some (.ref a), none, none, none, none] h
  unfold t_law_is_twin
  refine st_asg hΦ ?_
  simp only [e_var_v, e_var_t, e_var_q, e_var_i, e_int_v, e_int_t, e_int_q, e_int_i, e_bl_v, e_bl_t, e_bl_q, e_bl_i, e_non_v, e_non_t, e_non_q, e_non_i, e_str_v, e_str_t, e_str_q, e_str_i, e_glob_v, e_glob_t, e_glob_q, e_glob_i, e_neg_v, e_neg_t, e_neg_q, e_neg_i, e_ife_v, e_ife_t, e_ife_q, e_ife_i, e_tup_v, e_tup_t, e_tup_q, e_tup_i, e_ix_v, e_ix_t, e_ix_q, e_ix_i, e_sl_v, e_sl_t, e_sl_q, e_sl_i, e_call_v, e_call_t, e_call_q, e_call_i, e_bi_v, e_bi_t, e_bi_q, e_bi_i, e_bq_v, e_bq_t, e_bq_q, e_bq_i, e_meth_v, e_meth_t, e_meth_q, e_meth_i, e_lst_v, e_lst_q, e_lst_i, e_bl1_v, e_bl1_q, e_bl1_i, e_comp_v, e_comp_q, e_comp_i, e_sub_v, e_fdiv_v, e_mod_v, e_pow_v, e_add_v, e_mul_v, e_add_q, e_mul_q, e_add_i, e_mul_i, e_not_v, e_not_t, e_and_v, e_and_t, e_or_v, e_or_t, e_cmp_v, e_cmp_t, e_rng_i, e_enum_i, e_zip_i, e_nil_a, e_cons_a, e_var_g, e_ix_g, e_tup_g, e_nil_gs, e_cons_gs, o_add, o_sub, o_add2, o_addt, o_mul, o_fdiv, o_mod, o_pow, o_aug, o_neg, m_eq, m_ne, m_lt, m_le, m_gt, m_ge, m_eqs, m_is, m_isnot, n_non, n_ref, n_int, n_tup, b_abs, b_int, b_len, b_max, b_min, l_list, r_1, r_2, t_bl, t_int, t_non, q_tup, q_rol, a_bl, d_none, d_some, d_int, u_all, u_if, g_nil, g_cons, isL_nil, isL_var, isL_int, isL_bl, isL_non, isL_str, isL_glob, isL_neg, isL_not, isL_and, isL_or, isL_ife, isL_cmp, isL_tup, isL_ix, isL_sl, isL_call, isL_bi, isL_bq, isL_meth, isL_rev, isL_step2, isL_lst, isL_bl1, isL_comp, isL_add, isL_mul, isL_sub, isL_fdiv, isL_mod, isL_pow, reduceIte, Bool.not_true, Bool.not_false, Bool.or_self, Bool.false_eq_true, isNonE, isNil, lenE, wipeM, Bool.or_true, Bool.true_or, Bool.or_false, List.getElem?_cons_succ, List.getElem?_cons_zero, List.set_cons_succ, List.set_cons_zero, List.length_cons, List.length_nil, List.length_map, rngL_length]
  rw [F.cof]
  refine ⟨p, a, xs, 20, rfl, ha, by omega, by omega, hb, p1, hp, ?_⟩
  intro r1 n1
  obtain ⟨h1, eh, s1, e1⟩ := newc n1 (LI (counts p xs 20))
  rw [eh]
  clear eh
  rw [F.twin]
  refine ⟨a, xs, rfl, s1 _ _ ha, by omega, hb, ?_⟩
  intro r2 n2
  obtain ⟨h2, eh, s2, e2⟩ := newc n2 (LI (twin xs))
  rw [eh]
  clear eh
  refine ⟨p, r2, twin xs, 20, rfl, e2, by omega, by simp [twin]; omega, twin_bnd hb, p1, hp, ?_⟩
  intro r3 n3
  obtain ⟨h3, eh, s3, e3⟩ := newc n3 (LI (counts p (twin xs) 20))
  rw [eh]
  clear eh
  refine ⟨by omega, trivial, ?_⟩
  refine st_asg hΦ ?_
  simp only [e_var_v, e_var_t, e_var_q, e_var_i, e_int_v, e_int_t, e_int_q, e_int_i, e_bl_v, e_bl_t, e_bl_q, e_bl_i, e_non_v, e_non_t, e_non_q, e_non_i, e_str_v, e_str_t, e_str_q, e_str_i, e_glob_v, e_glob_t, e_glob_q, e_glob_i, e_neg_v, e_neg_t, e_neg_q, e_neg_i, e_ife_v, e_ife_t, e_ife_q, e_ife_i, e_tup_v, e_tup_t, e_tup_q, e_tup_i, e_ix_v, e_ix_t, e_ix_q, e_ix_i, e_sl_v, e_sl_t, e_sl_q, e_sl_i, e_call_v, e_call_t, e_call_q, e_call_i, e_bi_v, e_bi_t, e_bi_q, e_bi_i, e_bq_v, e_bq_t, e_bq_q, e_bq_i, e_meth_v, e_meth_t, e_meth_q, e_meth_i, e_lst_v, e_lst_q, e_lst_i, e_bl1_v, e_bl1_q, e_bl1_i, e_comp_v, e_comp_q, e_comp_i, e_sub_v, e_fdiv_v, e_mod_v, e_pow_v, e_add_v, e_mul_v, e_add_q, e_mul_q, e_add_i, e_mul_i, e_not_v, e_not_t, e_and_v, e_and_t, e_or_v, e_or_t, e_cmp_v, e_cmp_t, e_rng_i, e_enum_i, e_zip_i, e_nil_a, e_cons_a, e_var_g, e_ix_g, e_tup_g, e_nil_gs, e_cons_gs, o_add, o_sub, o_add2, o_addt, o_mul, o_fdiv, o_mod, o_pow, o_aug, o_neg, m_eq, m_ne, m_lt, m_le, m_gt, m_ge, m_eqs, m_is, m_isnot, n_non, n_ref, n_int, n_tup, b_abs, b_int, b_len, b_max, b_min, l_list, r_1, r_2, t_bl, t_int, t_non, q_tup, q_rol, a_bl, d_none, d_some, d_int, u_all, u_if, g_nil, g_cons, isL_nil, isL_var, isL_int, isL_bl, isL_non, isL_str, isL_glob, isL_neg, isL_not, isL_and, isL_or, isL_ife, isL_cmp, isL_tup, isL_ix, isL_sl, isL_call, isL_bi, isL_bq, isL_meth, isL_rev, isL_step2, isL_lst, isL_bl1, isL_comp, isL_add, isL_mul, isL_sub, isL_fdiv, isL_mod, isL_pow, reduceIte, Bool.not_true, Bool.not_false, Bool.or_self, Bool.false_eq_true, isNonE, isNil, lenE, wipeM, Bool.or_true, Bool.true_or, Bool.or_false, List.getElem?_cons_succ, List.getElem?_cons_zero, List.set_cons_succ, List.set_cons_zero, List.length_cons, List.length_nil, List.length_map, rngL_length]
  refine ⟨by omega, trivial, fun r4 n4 => ?_⟩
  have e13 : h3 r1 = some (LI (counts p xs 20)) := (by solve_by_elim (maxDepth := 40))
  have S3 : Sub h h3 := fun b o e => by solve_by_elim (maxDepth := 40)
  have f1 : ∀ o, put h3 r4 o r1 = some (LI (counts p xs 20)) := fun o => (put_ne (mh_ne e13 n4)).trans e13
  have f3 : ∀ o, put h3 r4 o r3 = some (LI (counts p (twin xs) 20)) := fun o => (put_ne (mh_ne e3 n4)).trans e3
  refine st_for hΦ ?_
  simp only [e_var_v, e_var_t, e_var_q, e_var_i, e_int_v, e_int_t, e_int_q, e_int_i, e_bl_v, e_bl_t, e_bl_q, e_bl_i, e_non_v, e_non_t, e_non_q, e_non_i, e_str_v, e_str_t, e_str_q, e_str_i, e_glob_v, e_glob_t, e_glob_q, e_glob_i, e_neg_v, e_neg_t, e_neg_q, e_neg_i, e_ife_v, e_ife_t, e_ife_q, e_ife_i, e_tup_v, e_tup_t, e_tup_q, e_tup_i, e_ix_v, e_ix_t, e_ix_q, e_ix_i, e_sl_v, e_sl_t, e_sl_q, e_sl_i, e_call_v, e_call_t, e_call_q, e_call_i, e_bi_v, e_bi_t, e_bi_q, e_bi_i, e_bq_v, e_bq_t, e_bq_q, e_bq_i, e_meth_v, e_meth_t, e_meth_q, e_meth_i, e_lst_v, e_lst_q, e_lst_i, e_bl1_v, e_bl1_q, e_bl1_i, e_comp_v, e_comp_q, e_comp_i, e_sub_v, e_fdiv_v, e_mod_v, e_pow_v, e_add_v, e_mul_v, e_add_q, e_mul_q, e_add_i, e_mul_i, e_not_v, e_not_t, e_and_v, e_and_t, e_or_v, e_or_t, e_cmp_v, e_cmp_t, e_rng_i, e_enum_i, e_zip_i, e_nil_a, e_cons_a, e_var_g, e_ix_g, e_tup_g, e_nil_gs, e_cons_gs, o_add, o_sub, o_add2, o_addt, o_mul, o_fdiv, o_mod, o_pow, o_aug, o_neg, m_eq, m_ne, m_lt, m_le, m_gt, m_ge, m_eqs, m_is, m_isnot, n_non, n_ref, n_int, n_tup, b_abs, b_int, b_len, b_max, b_min, l_list, r_1, r_2, t_bl, t_int, t_non, q_tup, q_rol, a_bl, d_none, d_some, d_int, u_all, u_if, g_nil, g_cons, isL_nil, isL_var, isL_int, isL_bl, isL_non, isL_str, isL_glob, isL_neg, isL_not, isL_and, isL_or, isL_ife, isL_cmp, isL_tup, isL_ix, isL_sl, isL_call, isL_bi, isL_bq, isL_meth, isL_rev, isL_step2, isL_lst, isL_bl1, isL_comp, isL_add, isL_mul, isL_sub, isL_fdiv, isL_mod, isL_pow, reduceIte, Bool.not_true, Bool.not_false, Bool.or_self, Bool.false_eq_true, isNonE, isNil, lenE, wipeM, Bool.or_true, Bool.true_or, Bool.or_false, List.getElem?_cons_succ, List.getElem?_cons_zero, List.set_cons_succ, List.set_cons_zero, List.length_cons, List.length_nil, List.length_map, rngL_length]
  refine ⟨by omega, ?_⟩
  refine ⟨fun i σ h' => ∃ x3, σ = [some (.int p), some (.ref a), some (.ref r4), x3, some (.ref r1), some (.ref r3)] ∧ h' = put h3 r4 (LI (counts p (twin xs) i)), ?_, ?_, ?_, ?_⟩
  · exact ⟨none, rfl, rfl⟩
  · intro i σ h' _ _; trivial
  · rintro i m σ h' em ⟨x3, rfl, rfl⟩
    obtain ⟨hi, rfl⟩ := rng_get em
    have hi : i < 20 := by omega
    simp only [e_var_v, e_var_t, e_var_q, e_var_i, e_int_v, e_int_t, e_int_q, e_int_i, e_bl_v, e_bl_t, e_bl_q, e_bl_i, e_non_v, e_non_t, e_non_q, e_non_i, e_str_v, e_str_t, e_str_q, e_str_i, e_glob_v, e_glob_t, e_glob_q, e_glob_i, e_neg_v, e_neg_t, e_neg_q, e_neg_i, e_ife_v, e_ife_t, e_ife_q, e_ife_i, e_tup_v, e_tup_t, e_tup_q, e_tup_i, e_ix_v, e_ix_t, e_ix_q, e_ix_i, e_sl_v, e_sl_t, e_sl_q, e_sl_i, e_call_v, e_call_t, e_call_q, e_call_i, e_bi_v, e_bi_t, e_bi_q, e_bi_i, e_bq_v, e_bq_t, e_bq_q, e_bq_i, e_meth_v, e_meth_t, e_meth_q, e_meth_i, e_lst_v, e_lst_q, e_lst_i, e_bl1_v, e_bl1_q, e_bl1_i, e_comp_v, e_comp_q, e_comp_i, e_sub_v, e_fdiv_v, e_mod_v, e_pow_v, e_add_v, e_mul_v, e_add_q, e_mul_q, e_add_i, e_mul_i, e_not_v, e_not_t, e_and_v, e_and_t, e_or_v, e_or_t, e_cmp_v, e_cmp_t, e_rng_i, e_enum_i, e_zip_i, e_nil_a, e_cons_a, e_var_g, e_ix_g, e_tup_g, e_nil_gs, e_cons_gs, o_add, o_sub, o_add2, o_addt, o_mul, o_fdiv, o_mod, o_pow, o_aug, o_neg, m_eq, m_ne, m_lt, m_le, m_gt, m_ge, m_eqs, m_is, m_isnot, n_non, n_ref, n_int, n_tup, b_abs, b_int, b_len, b_max, b_min, l_list, r_1, r_2, t_bl, t_int, t_non, q_tup, q_rol, a_bl, d_none, d_some, d_int, u_all, u_if, g_nil, g_cons, isL_nil, isL_var, isL_int, isL_bl, isL_non, isL_str, isL_glob, isL_neg, isL_not, isL_and, isL_or, isL_ife, isL_cmp, isL_tup, isL_ix, isL_sl, isL_call, isL_bi, isL_bq, isL_meth, isL_rev, isL_step2, isL_lst, isL_bl1, isL_comp, isL_add, isL_mul, isL_sub, isL_fdiv, isL_mod, isL_pow, reduceIte, Bool.not_true, Bool.not_false, Bool.or_self, Bool.false_eq_true, isNonE, isNil, lenE, wipeM, Bool.or_true, Bool.true_or, Bool.or_false, List.getElem?_cons_succ, List.getElem?_cons_zero, List.set_cons_succ, List.set_cons_zero, List.length_cons, List.length_nil, List.length_map, rngL_length]
    refine st_expr1 ?_
    simp only [e_var_v, e_var_t, e_var_q, e_var_i, e_int_v, e_int_t, e_int_q, e_int_i, e_bl_v, e_bl_t, e_bl_q, e_bl_i, e_non_v, e_non_t, e_non_q, e_non_i, e_str_v, e_str_t, e_str_q, e_str_i, e_glob_v, e_glob_t, e_glob_q, e_glob_i, e_neg_v, e_neg_t, e_neg_q, e_neg_i, e_ife_v, e_ife_t, e_ife_q, e_ife_i, e_tup_v, e_tup_t, e_tup_q, e_tup_i, e_ix_v, e_ix_t, e_ix_q, e_ix_i, e_sl_v, e_sl_t, e_sl_q, e_sl_i, e_call_v, e_call_t, e_call_q, e_call_i, e_bi_v, e_bi_t, e_bi_q, e_bi_i, e_bq_v, e_bq_t, e_bq_q, e_bq_i, e_meth_v, e_meth_t, e_meth_q, e_meth_i, e_lst_v, e_lst_q, e_lst_i, e_bl1_v, e_bl1_q, e_bl1_i, e_comp_v, e_comp_q, e_comp_i, e_sub_v, e_fdiv_v, e_mod_v, e_pow_v, e_add_v, e_mul_v, e_add_q, e_mul_q, e_add_i, e_mul_i, e_not_v, e_not_t, e_and_v, e_and_t, e_or_v, e_or_t, e_cmp_v, e_cmp_t, e_rng_i, e_enum_i, e_zip_i, e_nil_a, e_cons_a, e_var_g, e_ix_g, e_tup_g, e_nil_gs, e_cons_gs, o_add, o_sub, o_add2, o_addt, o_mul, o_fdiv, o_mod, o_pow, o_aug, o_neg, m_eq, m_ne, m_lt, m_le, m_gt, m_ge, m_eqs, m_is, m_isnot, n_non, n_ref, n_int, n_tup, b_abs, b_int, b_len, b_max, b_min, l_list, r_1, r_2, t_bl, t_int, t_non, q_tup, q_rol, a_bl, d_none, d_some, d_int, u_all, u_if, g_nil, g_cons, isL_nil, isL_var, isL_int, isL_bl, isL_non, isL_str, isL_glob, isL_neg, isL_not, isL_and, isL_or, isL_ife, isL_cmp, isL_tup, isL_ix, isL_sl, isL_call, isL_bi, isL_bq, isL_meth, isL_rev, isL_step2, isL_lst, isL_bl1, isL_comp, isL_add, isL_mul, isL_sub, isL_fdiv, isL_mod, isL_pow, reduceIte, Bool.not_true, Bool.not_false, Bool.or_self, Bool.false_eq_true, isNonE, isNil, lenE, wipeM, Bool.or_true, Bool.true_or, Bool.or_false, List.getElem?_cons_succ, List.getElem?_cons_zero, List.set_cons_succ, List.set_cons_zero, List.length_cons, List.length_nil, List.length_map, rngL_length]
    refine ⟨lst_ok put_same, ix_int (f1 _) (by omega) (by rw [counts_len]; omega) ?_⟩
    rw [F.lraised]
    refine ⟨p, _, rfl, by omega, by omega, p1, hp, ?_⟩
    rw [show (1 + (i : Int) * 1 - 1).toNat = i by omega, show (1 + (i : Int) * 1).toNat = i + 1 by omega, counts_get hi]
    simp only [e_var_v, e_var_t, e_var_q, e_var_i, e_int_v, e_int_t, e_int_q, e_int_i, e_bl_v, e_bl_t, e_bl_q, e_bl_i, e_non_v, e_non_t, e_non_q, e_non_i, e_str_v, e_str_t, e_str_q, e_str_i, e_glob_v, e_glob_t, e_glob_q, e_glob_i, e_neg_v, e_neg_t, e_neg_q, e_neg_i, e_ife_v, e_ife_t, e_ife_q, e_ife_i, e_tup_v, e_tup_t, e_tup_q, e_tup_i, e_ix_v, e_ix_t, e_ix_q, e_ix_i, e_sl_v, e_sl_t, e_sl_q, e_sl_i, e_call_v, e_call_t, e_call_q, e_call_i, e_bi_v, e_bi_t, e_bi_q, e_bi_i, e_bq_v, e_bq_t, e_bq_q, e_bq_i, e_meth_v, e_meth_t, e_meth_q, e_meth_i, e_lst_v, e_lst_q, e_lst_i, e_bl1_v, e_bl1_q, e_bl1_i, e_comp_v, e_comp_q, e_comp_i, e_sub_v, e_fdiv_v, e_mod_v, e_pow_v, e_add_v, e_mul_v, e_add_q, e_mul_q, e_add_i, e_mul_i, e_not_v, e_not_t, e_and_v, e_and_t, e_or_v, e_or_t, e_cmp_v, e_cmp_t, e_rng_i, e_enum_i, e_zip_i, e_nil_a, e_cons_a, e_var_g, e_ix_g, e_tup_g, e_nil_gs, e_cons_gs, o_add, o_sub, o_add2, o_addt, o_mul, o_fdiv, o_mod, o_pow, o_aug, o_neg, m_eq, m_ne, m_lt, m_le, m_gt, m_ge, m_eqs, m_is, m_isnot, n_non, n_ref, n_int, n_tup, b_abs, b_int, b_len, b_max, b_min, l_list, r_1, r_2, t_bl, t_int, t_non, q_tup, q_rol, a_bl, d_none, d_some, d_int, u_all, u_if, g_nil, g_cons, isL_nil, isL_var, isL_int, isL_bl, isL_non, isL_str, isL_glob, isL_neg, isL_not, isL_and, isL_or, isL_ife, isL_cmp, isL_tup, isL_ix, isL_sl, isL_call, isL_bi, isL_bq, isL_meth, isL_rev, isL_step2, isL_lst, isL_bl1, isL_comp, isL_add, isL_mul, isL_sub, isL_fdiv, isL_mod, isL_pow, reduceIte, Bool.not_true, Bool.not_false, Bool.or_self, Bool.false_eq_true, isNonE, isNil, lenE, wipeM, Bool.or_true, Bool.true_or, Bool.or_false, List.getElem?_cons_succ, List.getElem?_cons_zero, List.set_cons_succ, List.set_cons_zero, List.length_cons, List.length_nil, List.length_map, rngL_length]
    have b1 : (p ^ (i + 1)).natAbs.log2 < 2000 := log2_pow (pow_small p1 (by omega) (i + 1)) (by omega)
    refine ⟨by unfold MulOk; have : (2 : Int).natAbs.log2 = 1 := by decide
               omega, ?_⟩
    refine ix_int (f1 _) (by omega) (by rw [counts_len]; omega) ?_
    rw [show (1 + (i : Int) * 1 - 1).toNat = i by omega, counts_get hi]
    simp only [e_var_v, e_var_t, e_var_q, e_var_i, e_int_v, e_int_t, e_int_q, e_int_i, e_bl_v, e_bl_t, e_bl_q, e_bl_i, e_non_v, e_non_t, e_non_q, e_non_i, e_str_v, e_str_t, e_str_q, e_str_i, e_glob_v, e_glob_t, e_glob_q, e_glob_i, e_neg_v, e_neg_t, e_neg_q, e_neg_i, e_ife_v, e_ife_t, e_ife_q, e_ife_i, e_tup_v, e_tup_t, e_tup_q, e_tup_i, e_ix_v, e_ix_t, e_ix_q, e_ix_i, e_sl_v, e_sl_t, e_sl_q, e_sl_i, e_call_v, e_call_t, e_call_q, e_call_i, e_bi_v, e_bi_t, e_bi_q, e_bi_i, e_bq_v, e_bq_t, e_bq_q, e_bq_i, e_meth_v, e_meth_t, e_meth_q, e_meth_i, e_lst_v, e_lst_q, e_lst_i, e_bl1_v, e_bl1_q, e_bl1_i, e_comp_v, e_comp_q, e_comp_i, e_sub_v, e_fdiv_v, e_mod_v, e_pow_v, e_add_v, e_mul_v, e_add_q, e_mul_q, e_add_i, e_mul_i, e_not_v, e_not_t, e_and_v, e_and_t, e_or_v, e_or_t, e_cmp_v, e_cmp_t, e_rng_i, e_enum_i, e_zip_i, e_nil_a, e_cons_a, e_var_g, e_ix_g, e_tup_g, e_nil_gs, e_cons_gs, o_add, o_sub, o_add2, o_addt, o_mul, o_fdiv, o_mod, o_pow, o_aug, o_neg, m_eq, m_ne, m_lt, m_le, m_gt, m_ge, m_eqs, m_is, m_isnot, n_non, n_ref, n_int, n_tup, b_abs, b_int, b_len, b_max, b_min, l_list, r_1, r_2, t_bl, t_int, t_non, q_tup, q_rol, a_bl, d_none, d_some, d_int, u_all, u_if, g_nil, g_cons, isL_nil, isL_var, isL_int, isL_bl, isL_non, isL_str, isL_glob, isL_neg, isL_not, isL_and, isL_or, isL_ife, isL_cmp, isL_tup, isL_ix, isL_sl, isL_call, isL_bi, isL_bq, isL_meth, isL_rev, isL_step2, isL_lst, isL_bl1, isL_comp, isL_add, isL_mul, isL_sub, isL_fdiv, isL_mod, isL_pow, reduceIte, Bool.not_true, Bool.not_false, Bool.or_self, Bool.false_eq_true, isNonE, isNil, lenE, wipeM, Bool.or_true, Bool.true_or, Bool.or_false, List.getElem?_cons_succ, List.getElem?_cons_zero, List.set_cons_succ, List.set_cons_zero, List.length_cons, List.length_nil, List.length_map, rngL_length]
    refine ⟨by omega, trivial, ?_⟩
    intro r5 n5
    refine ⟨by omega, ?_⟩
    have hm : (1 + (i : Int) * 1) % 2 = 0 ∨ (1 + (i : Int) * 1) % 2 = 1 := by omega
    refine ix_int (ns := [_, _]) put_same (by omega) (by show _ < 2; omega) ?_
    have val : ([ps (cf xs) (i + 1) + p ^ (i + 1) + 1, 2 * p ^ (i + 1) + 2 - (ps (cf xs) (i + 1) + p ^ (i + 1) + 1)] : List Int).getD ((1 + (i : Int) * 1) % 2).toNat 0 = ps (cf (twin xs)) (i + 1) + p ^ (i + 1) + 1 := by
      rw [cf_twin, ps_twin L.one]
      unfold sg
      rcases hm with z | z
      · rw [if_pos (by omega), z]
        show ps (cf xs) (i + 1) + p ^ (i + 1) + 1 = _
        omega
      · rw [if_neg (by omega), z]
        show 2 * p ^ (i + 1) + 2 - (ps (cf xs) (i + 1) + p ^ (i + 1) + 1) = _
        omega
    rw [val]
    have n54 : r4 ≠ r5 := mh_ne put_same n5
    refine (append_ref (xs := (counts p (twin xs) i).map M.int) ((put_ne n54).trans put_same) (by rw [List.length_map, counts_len]; have := hSZ; omega) ?_).2
    refine ⟨put h3 r4 (LI (counts p (twin xs) (i + 1))), ?_, _, rfl, rfl⟩
    have el : (.lst ((counts p (twin xs) i).map M.int ++ [.int (ps (cf (twin xs)) (i + 1) + p ^ (i + 1) + 1)]) : MO) = LI (counts p (twin xs) (i + 1)) := by
      unfold counts; simp [LI, List.range_succ]
    rw [el]
    intro b o e
    by_cases z : b = r4
    · subst z; rw [put_same] at e ⊢; exact e
    · rw [put_ne z] at e ⊢
      have : put h3 r4 (LI (counts p (twin xs) i)) b = some o := (put_ne z).trans e
      rw [put_ne (mh_ne this n5)]; exact this
  · rintro σ h' ⟨x3, rfl, rfl⟩
    refine st_ret ?_
    simp only [e_var_v, e_var_t, e_var_q, e_var_i, e_int_v, e_int_t, e_int_q, e_int_i, e_bl_v, e_bl_t, e_bl_q, e_bl_i, e_non_v, e_non_t, e_non_q, e_non_i, e_str_v, e_str_t, e_str_q, e_str_i, e_glob_v, e_glob_t, e_glob_q, e_glob_i, e_neg_v, e_neg_t, e_neg_q, e_neg_i, e_ife_v, e_ife_t, e_ife_q, e_ife_i, e_tup_v, e_tup_t, e_tup_q, e_tup_i, e_ix_v, e_ix_t, e_ix_q, e_ix_i, e_sl_v, e_sl_t, e_sl_q, e_sl_i, e_call_v, e_call_t, e_call_q, e_call_i, e_bi_v, e_bi_t, e_bi_q, e_bi_i, e_bq_v, e_bq_t, e_bq_q, e_bq_i, e_meth_v, e_meth_t, e_meth_q, e_meth_i, e_lst_v, e_lst_q, e_lst_i, e_bl1_v, e_bl1_q, e_bl1_i, e_comp_v, e_comp_q, e_comp_i, e_sub_v, e_fdiv_v, e_mod_v, e_pow_v, e_add_v, e_mul_v, e_add_q, e_mul_q, e_add_i, e_mul_i, e_not_v, e_not_t, e_and_v, e_and_t, e_or_v, e_or_t, e_cmp_v, e_cmp_t, e_rng_i, e_enum_i, e_zip_i, e_nil_a, e_cons_a, e_var_g, e_ix_g, e_tup_g, e_nil_gs, e_cons_gs, o_add, o_sub, o_add2, o_addt, o_mul, o_fdiv, o_mod, o_pow, o_aug, o_neg, m_eq, m_ne, m_lt, m_le, m_gt, m_ge, m_eqs, m_is, m_isnot, n_non, n_ref, n_int, n_tup, b_abs, b_int, b_len, b_max, b_min, l_list, r_1, r_2, t_bl, t_int, t_non, q_tup, q_rol, a_bl, d_none, d_some, d_int, u_all, u_if, g_nil, g_cons, isL_nil, isL_var, isL_int, isL_bl, isL_non, isL_str, isL_glob, isL_neg, isL_not, isL_and, isL_or, isL_ife, isL_cmp, isL_tup, isL_ix, isL_sl, isL_call, isL_bi, isL_bq, isL_meth, isL_rev, isL_step2, isL_lst, isL_bl1, isL_comp, isL_add, isL_mul, isL_sub, isL_fdiv, isL_mod, isL_pow, reduceIte, Bool.not_true, Bool.not_false, Bool.or_self, Bool.false_eq_true, isNonE, isNil, lenE, wipeM, Bool.or_true, Bool.true_or, Bool.or_false, List.getElem?_cons_succ, List.getElem?_cons_zero, List.set_cons_succ, List.set_cons_zero, List.length_cons, List.length_nil, List.length_map, rngL_length]
    rw [F.is]
    refine ⟨.ref r3, .ref r4, dI (counts p (twin xs) 20), rfl, dat_dI (f3 _), dat_dI put_same, good_dI (few_counts (twin_bnd hb) p1 (by omega) (by omega)), .inl ⟨_, rfl⟩, ?_⟩
    exact ⟨h, S3.trans (Sub.put n4), post⟩
end Mp.K39

set_option Elab.async false
set_option linter.all false
set_option maxRecDepth 100000
set_option exponentiation.threshold 500
namespace Mp.K39
open PySem Mp
/-! ### the product of two such lists is such a list -/
/-- the middle symmetry: a (2 g - i) p^i = p^g a i -/
def Sym (p : Int) (a : Sq) (g : Nat) : Prop := (∀ i, 2 * g < i → a i = 0) ∧ ∀ i, i ≤ 2 * g → a (2 * g - i) * p ^ i = p ^ g * a i
theorem full_hi {q : Int} {l : List Int} {g i : Nat} (h : l.length = g + 1) (hi : i < g) : (full q l g).getD (2 * g - i) 0 = q ^ (g - i) * l.getD i 0 := by
  unfold full
  rw [List.getD_eq_getElem?_getD, List.getElem?_append_right (by omega), h, List.getElem?_map, List.getElem?_range (by omega)]
  show q ^ _ * l.getD _ 0 = _
  rw [show 2 * g - i - (g + 1) + 1 = g - i by omega, show g - 1 - (2 * g - i - (g + 1)) = i by omega]
theorem Lst.sym {p : Int} {xs : List Int} {g : Nat} (h : Lst p xs g) : Sym p (cf xs) g := by
  have hl' := h.len
  obtain ⟨l, hl, h0, e⟩ := h.ex
  subst e
  refine ⟨fun i hi => ?_, fun i hi => ?_⟩
  · show (full p l g).getD i 0 = 0
    rw [List.getD_eq_getElem?_getD, List.getElem?_eq_none (by omega)]; rfl
  · show (full p l g).getD (2 * g - i) 0 * p ^ i = p ^ g * (full p l g).getD i 0
    by_cases c : i < g
    · rw [full_hi hl c, full_get hl (by omega)]
      have : p ^ g = p ^ (g - i) * p ^ i := by rw [← Int.pow_add]; congr 1; omega
      rw [this]; grind
    · by_cases c2 : i = g
      · subst c2
        rw [show 2 * i - i = i by omega, Int.mul_comm]
      · have e2 := full_hi (q := p) hl (show 2 * g - i < g by omega)
        rw [show 2 * g - (2 * g - i) = i by omega] at e2
        rw [e2, full_get hl (by omega)]
        have : p ^ i = p ^ g * p ^ (g - (2 * g - i)) := by rw [← Int.pow_add]; congr 1; omega
        rw [this]; grind
theorem sumN_mul (c : Int) (f : Nat → Int) : ∀ n, sumN (fun i => c * f i) n = c * sumN f n
  | 0 => by simp [sumN]
  | n + 1 => by simp only [sumN, sumN_mul c f n]; grind
/-- a convolution read from its other end -/
theorem conv_rev {a b : Sq} {A B k : Nat} (ha : ∀ i, A < i → a i = 0) (hb : ∀ i, B < i → b i = 0) (hk : k ≤ A + B) :
    conv a b (A + B - k) = sumN (fun i => if i ≤ A ∧ i ≤ k ∧ k - i ≤ B then a (A - i) * b (B - (k - i)) else 0) (k + 1) := by
  rw [conv_sum]
  -- both as a sum over the places of a
  have h1 : sumN (fun m => a m * b (A + B - k - m)) (A + B - k + 1) = sumN (fun m => if m ≤ A + B - k then a m * b (A + B - k - m) else 0) (A + 1) := by
    have e1 : sumN (fun m => if m ≤ A + B - k then a m * b (A + B - k - m) else 0) ((A + 1) + (A + B - k + 1)) = sumN (fun m => if m ≤ A + B - k then a m * b (A + B - k - m) else 0) (A + B - k + 1) := sumN_more (by omega) fun i h _ => if_neg (by omega)
    have e2 : sumN (fun m => if m ≤ A + B - k then a m * b (A + B - k - m) else 0) ((A + 1) + (A + B - k + 1)) = sumN (fun m => if m ≤ A + B - k then a m * b (A + B - k - m) else 0) (A + 1) := sumN_more (by omega) fun i h _ => by
      rw [ha i (by omega)]; split <;> simp
    rw [← e2, e1]
    exact sumN_congr fun i hi => (if_pos (by omega)).symm
  have h2 : sumN (fun i => if i ≤ A ∧ i ≤ k ∧ k - i ≤ B then a (A - i) * b (B - (k - i)) else 0) (k + 1) = sumN (fun i => if i ≤ A ∧ i ≤ k ∧ k - i ≤ B then a (A - i) * b (B - (k - i)) else 0) (A + 1) := by
    have e1 : sumN (fun i => if i ≤ A ∧ i ≤ k ∧ k - i ≤ B then a (A - i) * b (B - (k - i)) else 0) ((k + 1) + (A + 1)) = sumN (fun i => if i ≤ A ∧ i ≤ k ∧ k - i ≤ B then a (A - i) * b (B - (k - i)) else 0) (k + 1) := sumN_more (by omega) fun i h _ => if_neg (by omega)
    have e2 : sumN (fun i => if i ≤ A ∧ i ≤ k ∧ k - i ≤ B then a (A - i) * b (B - (k - i)) else 0) ((k + 1) + (A + 1)) = sumN (fun i => if i ≤ A ∧ i ≤ k ∧ k - i ≤ B then a (A - i) * b (B - (k - i)) else 0) (A + 1) := sumN_more (by omega) fun i h _ => if_neg (by omega)
    rw [← e1, e2]
  rw [h1, h2, sumN_rev (A + 1)]
  refine sumN_congr fun i hi => ?_
  have es : A + 1 - 1 - i = A - i := by omega
  rw [es]
  by_cases c1 : A - i ≤ A + B - k
  · rw [if_pos c1]
    by_cases c2 : i ≤ k
    · rw [if_pos ⟨by omega, c2, by omega⟩, show A + B - k - (A - i) = B - (k - i) by omega]
    · rw [if_neg (by omega), hb (A + B - k - (A - i)) (by omega), Int.mul_zero]
  · rw [if_neg c1, if_neg (by omega)]
theorem Sym.mul {p : Int} {a b : Sq} {g k : Nat} (ha : Sym p a g) (hb : Sym p b k) : Sym p (conv a b) (g + k) := by
  refine ⟨fun i hi => ?_, fun i hi => ?_⟩
  · rw [conv_sum]
    exact sumN_zero fun m hm => by
      by_cases c : 2 * g < m
      · rw [ha.1 m c, Int.zero_mul]
      · rw [hb.1 (i - m) (by omega), Int.mul_zero]
  · rw [show 2 * (g + k) - i = 2 * g + 2 * k - i by omega, conv_rev ha.1 hb.1 (by omega), conv_sum, Int.mul_comm, ← sumN_mul, ← sumN_mul]
    refine sumN_congr fun m hm => ?_
    have e1 : p ^ i = p ^ m * p ^ (i - m) := by rw [← Int.pow_add]; congr 1; omega
    have e2 : p ^ (g + k) = p ^ g * p ^ k := Int.pow_add ..
    by_cases c : m ≤ 2 * g ∧ m ≤ i ∧ i - m ≤ 2 * k
    · rw [if_pos c, e1, e2]
      have h1 := ha.2 m c.1
      have h2 := hb.2 (i - m) c.2.2
      have : p ^ m * p ^ (i - m) * (a (2 * g - m) * b (2 * k - (i - m))) = (a (2 * g - m) * p ^ m) * (b (2 * k - (i - m)) * p ^ (i - m)) := by grind
      rw [this, h1, h2]; grind
    · rw [if_neg c, Int.mul_zero]
      by_cases c2 : 2 * g < m
      · rw [ha.1 m c2]; simp
      · rw [hb.1 (i - m) (by omega)]; simp
theorem prod_cf {xs ys : List Int} (hx : 1 ≤ xs.length) (hy : 1 ≤ ys.length) (k : Nat) : cf (prod xs ys) k = conv (cf xs) (cf ys) k := by
  show (prod xs ys).getD k 0 = _
  unfold prod
  by_cases h : k < xs.length + ys.length - 1
  · rw [List.getD_eq_getElem?_getD, List.getElem?_map, List.getElem?_range h]; rfl
  · rw [List.getD_eq_getElem?_getD, List.getElem?_eq_none (by simp; omega), conv_sum]
    refine (sumN_zero fun m hm => ?_).symm
    by_cases c : m < xs.length
    · have : cf ys (k - m) = 0 := by
        show ys.getD (k - m) 0 = 0
        rw [List.getD_eq_getElem?_getD, List.getElem?_eq_none (by omega)]; rfl
      rw [this, Int.mul_zero]
    · have : cf xs m = 0 := by
        show xs.getD m 0 = 0
        rw [List.getD_eq_getElem?_getD, List.getElem?_eq_none (by omega)]; rfl
      rw [this, Int.zero_mul]
theorem prod_lst {p : Int} {xs ys : List Int} {g k : Nat} (p1 : 1 ≤ p) (hx : Lst p xs g) (hy : Lst p ys k) (hb : ∀ c ∈ prod xs ys, c.natAbs ≤ 2 ^ 54) : Lst p (prod xs ys) (g + k) := by
  have lx := hx.len
  have ly := hy.len
  have lz : (prod xs ys).length = 2 * (g + k) + 1 := by simp [prod]; omega
  have S := hx.sym.mul hy.sym
  have cz : ∀ i, (prod xs ys).getD i 0 = conv (cf xs) (cf ys) i := fun i => prod_cf (by omega) (by omega) i
  refine ⟨⟨(prod xs ys).take (g + k + 1), by rw [List.length_take]; omega, ?_, ?_⟩, hb⟩
  · rw [List.getD_eq_getElem?_getD, List.getElem?_take, if_pos (by omega), ← List.getD_eq_getElem?_getD, cz]
    show cf xs 0 * cf ys 0 = 1
    rw [hx.one, hy.one]; rfl
  · refine List.ext_getElem? fun i => ?_
    have tl : ((prod xs ys).take (g + k + 1)).length = g + k + 1 := by rw [List.length_take]; omega
    by_cases c : i < 2 * (g + k) + 1
    · have e : ∀ (l : List Int) (h : i < l.length), l[i]? = some (l.getD i 0) := fun l h => by rw [List.getD_eq_getElem?_getD, List.getElem?_eq_getElem h]; rfl
      rw [e _ (by omega), e _ (by rw [full_len tl]; omega)]
      congr 1
      have tk : ∀ m, m ≤ g + k → ((prod xs ys).take (g + k + 1)).getD m 0 = (prod xs ys).getD m 0 := fun m hm => by
        rw [List.getD_eq_getElem?_getD, List.getElem?_take, if_pos (by omega), ← List.getD_eq_getElem?_getD]
      by_cases c2 : i ≤ g + k
      · rw [full_get tl c2, tk i c2]
      · have e2 := full_hi (q := p) tl (show 2 * (g + k) - i < g + k by omega)
        rw [show 2 * (g + k) - (2 * (g + k) - i) = i by omega, tk _ (by omega)] at e2
        rw [e2, cz, cz]
        have s := S.2 (2 * (g + k) - i) (by omega)
        rw [show 2 * (g + k) - (2 * (g + k) - i) = i by omega] at s
        have e3 : p ^ (g + k) = p ^ (g + k - (2 * (g + k) - i)) * p ^ (2 * (g + k) - i) := by rw [← Int.pow_add]; congr 1; omega
        rw [e3] at s
        have pp : p ^ (2 * (g + k) - i) ≠ 0 := by have := one_le_pow p1 (2 * (g + k) - i); omega
        refine Int.eq_of_mul_eq_mul_right pp ?_
        rw [s]; grind
    · rw [List.getElem?_eq_none (by omega), List.getElem?_eq_none (by rw [full_len tl]; omega)]
end Mp.K39

set_option Elab.async false
set_option linter.all false
set_option maxRecDepth 100000
set_option exponentiation.threshold 500
namespace Mp.K39
open PySem Mp
theorem full_bnd {p : Int} {l : List Int} {g : Nat} (p1 : 1 ≤ p) (p2 : p ≤ 61) (hg : g ≤ 3) (hb : ∀ c ∈ l, c.natAbs ≤ 61) : ∀ c ∈ full p l g, c.natAbs ≤ 2 ^ 24 := fun c hc => by
  rcases List.mem_append.mp hc with hc | hc
  · exact Nat.le_trans (hb c hc) (by decide)
  · obtain ⟨j, hj, rfl⟩ := List.mem_map.mp hc
    have hj := List.mem_range.mp hj
    rw [Int.natAbs_mul, Int.natAbs_pow]
    have b1 : p.natAbs ^ (j + 1) ≤ 61 ^ (j + 1) := Nat.pow_le_pow_left (by omega) _
    have b2 : 61 ^ (j + 1) ≤ 61 ^ 3 := Nat.pow_le_pow_right (by decide) (by omega)
    exact Nat.le_trans (Nat.mul_le_mul (Nat.le_trans b1 b2) (cf_bnd hb (g - 1 - j))) (by decide)
theorem prod_bnd {xs ys : List Int} (hx : ∀ c ∈ xs, c.natAbs ≤ 2 ^ 24) (hy : ∀ c ∈ ys, c.natAbs ≤ 2 ^ 24) (hl : xs.length + ys.length ≤ 60) : ∀ c ∈ prod xs ys, c.natAbs ≤ 2 ^ 54 := fun c hc => by
  obtain ⟨k, hk, rfl⟩ := List.mem_map.mp hc
  have hk := List.mem_range.mp hk
  rw [conv_sum]
  have b : (sumN (fun i => cf xs i * cf ys (k - i)) (k + 1)).natAbs ≤ (k + 1) * (2 ^ 24 * 2 ^ 24) := sumN_abs fun i hi => by
    rw [Int.natAbs_mul]
    exact Nat.mul_le_mul (cf_bnd hx i) (cf_bnd hy (k - i))
  have : (k + 1) * (2 ^ 24 * 2 ^ 24) ≤ 60 * (2 ^ 24 * 2 ^ 24) := Nat.mul_le_mul_right _ (by omega)
  exact Nat.le_trans b (Nat.le_trans this (by decide))
/-- the counts of a product -/
theorem counts_prod {p : Int} {xs ys : List Int} {g k : Nat} (hx : Lst p xs g) (hy : Lst p ys k) (n : Nat) : ps (cf (prod xs ys)) n = ps (cf xs) n + ps (cf ys) n := by
  have lx := hx.len
  have ly := hy.len
  have e : cf (prod xs ys) = conv (cf xs) (cf ys) := funext fun i => prod_cf (by omega) (by omega) i
  rw [e, ps_mul hx.one hy.one]
def spJoined : SpM := fun ms h Q _ => ∃ (a b : Nat) (ns : List Int) (n : Nat) (p : Int), ms = [.ref a, .int p] ∧ Deck h a b ns n ∧ ns.length ≤ 63 ∧ n < 900000000 ∧ 1 ≤ p ∧ p ≤ 61 ∧
  ∀ h', Deck h' a b ns (n + 10000) → (∀ c o, c ≠ a → h c = some o → h' c = some o) → Q (.bl true) h'
theorem Deck.ne {h : MH} {a b r : Nat} {ns : List Int} {n : Nat} (d : Deck h a b ns n) (e : h r = none) : r ≠ a := fun z => by
  obtain ⟨o, q⟩ := d.at
  rw [z, q] at e; cases e
theorem joined2 (Φ : Phi) (F : Fns Φ) {D : DM} {H : MH} {p : Int} {a u v : Nat} {xs ys : List Int} {g k : Nat} (g4 : g + k ≤ 4) (X : Lst p xs g) (Y : Lst p ys k) (bx : ∀ c ∈ xs, c.natAbs ≤ 2 ^ 24) (by' : ∀ c ∈ ys, c.natAbs ≤ 2 ^ 24) (p1 : 1 ≤ p) (p2 : p ≤ 61) (hu : H u = some (LI xs)) (hv : H v = some (LI ys)) (g1 : 1 ≤ g)
    {x9 x10 : Option M} (fin : ∀ H', Sub H H' → D.rt (.bl true) H') :
    wS Φ W0 (.seq (.asg (.var 3) (.call "_law_product" (.cons (.var 7) (.cons (.var 8) .nil)))) (.seq (.asg (.var 4) (.comp [9] (.var 9) (.lst (.cons (.var 7) (.cons (.var 8) (.cons (.var 3) .nil)))) .nil (.call "counts_of" (.cons (.var 1) (.cons (.var 9) (.cons (.int 12) .nil)))))) (.seq (.asg (.var 5) (.comp [10] (.var 10) (.rng (.cons (.int 12) .nil)) .nil (.op .sub (.op .sub (.op .add (.ix (.ix (.var 4) (.int 0)) (.var 10)) (.ix (.ix (.var 4) (.int 1)) (.var 10))) (.call "_law_raised" (.cons (.var 1) (.cons (.op .add (.var 10) (.int 1)) .nil)))) (.int 1)))) (.seq (.iff (.or (.not (.call "_law_is" (.cons (.ix (.var 4) (.int 2)) (.cons (.var 5) .nil)))) (.not (.call "_law_is" (.cons (.ix (.var 4) (.int 2)) (.cons (.call "_law_counts" (.cons (.var 1) (.cons (.var 3) (.cons (.int 12) .nil)))) .nil))))) (.ret (.bl false)) .skip) (.seq (.asg (.var 6) (.op .fdiv (.bi .len (.cons (.var 3) .nil)) (.int 2))) (.ret (.or (.cmp .gt (.bq .max (.comp [10] (.var 10) (.sl (.var 5) .non (.var 6)) .nil (.bi .abs (.cons (.var 10) .nil)))) (.op .pow (.int 10) (.int 9))) (.call "_law_is" (.cons (.call "list_of_counts" (.cons (.var 1) (.cons (.sl (.var 5) .non (.var 6)) .nil))) (.cons (.var 3) .nil)))))))))) D
      [some (.ref a), some (.int p), some (.int (g : Nat)), none, none, none, none, some (.ref u), some (.ref v), x9, x10] H := by
  have hΦ := F.mono
  have lx := X.len
  have ly := Y.len
  have hp : p.natAbs < 2 ^ 100 := Nat.lt_of_lt_of_le (m := 1000) (by omega) (by decide)
  have bz := prod_bnd bx by' (by omega)
  have Z := prod_lst p1 X Y bz
  have lz := Z.len
  obtain ⟨l, el, ef⟩ := lst_again Z
  have b54 : 2 ^ 24 ≤ 2 ^ 54 := by decide
  have bx' : ∀ c ∈ xs, c.natAbs ≤ 2 ^ 54 := fun c h => Nat.le_trans (bx c h) b54
  have by'' : ∀ c ∈ ys, c.natAbs ≤ 2 ^ 54 := fun c h => Nat.le_trans (by' c h) b54
  refine st_asg hΦ ?_
  simp only [e_var_v, e_var_t, e_var_q, e_var_i, e_int_v, e_int_t, e_int_q, e_int_i, e_bl_v, e_bl_t, e_bl_q, e_bl_i, e_non_v, e_non_t, e_non_q, e_non_i, e_str_v, e_str_t, e_str_q, e_str_i, e_glob_v, e_glob_t, e_glob_q, e_glob_i, e_neg_v, e_neg_t, e_neg_q, e_neg_i, e_ife_v, e_ife_t, e_ife_q, e_ife_i, e_tup_v, e_tup_t, e_tup_q, e_tup_i, e_ix_v, e_ix_t, e_ix_q, e_ix_i, e_sl_v, e_sl_t, e_sl_q, e_sl_i, e_call_v, e_call_t, e_call_q, e_call_i, e_bi_v, e_bi_t, e_bi_q, e_bi_i, e_bq_v, e_bq_t, e_bq_q, e_bq_i, e_meth_v, e_meth_t, e_meth_q, e_meth_i, e_lst_v, e_lst_q, e_lst_i, e_bl1_v, e_bl1_q, e_bl1_i, e_comp_v, e_comp_q, e_comp_i, e_sub_v, e_fdiv_v, e_mod_v, e_pow_v, e_add_v, e_mul_v, e_add_q, e_mul_q, e_add_i, e_mul_i, e_not_v, e_not_t, e_and_v, e_and_t, e_or_v, e_or_t, e_cmp_v, e_cmp_t, e_rng_i, e_enum_i, e_zip_i, e_nil_a, e_cons_a, e_var_g, e_ix_g, e_tup_g, e_nil_gs, e_cons_gs, o_add, o_sub, o_add2, o_addt, o_mul, o_fdiv, o_mod, o_pow, o_aug, o_neg, m_eq, m_ne, m_lt, m_le, m_gt, m_ge, m_eqs, m_is, m_isnot, n_non, n_ref, n_int, n_tup, b_abs, b_int, b_len, b_max, b_min, l_list, r_1, r_2, t_bl, t_int, t_non, q_tup, q_rol, a_bl, d_none, d_some, d_int, u_all, u_if, g_nil, g_cons, isL_nil, isL_var, isL_int, isL_bl, isL_non, isL_str, isL_glob, isL_neg, isL_not, isL_and, isL_or, isL_ife, isL_cmp, isL_tup, isL_ix, isL_sl, isL_call, isL_bi, isL_bq, isL_meth, isL_rev, isL_step2, isL_lst, isL_bl1, isL_comp, isL_add, isL_mul, isL_sub, isL_fdiv, isL_mod, isL_pow, reduceIte, Bool.not_true, Bool.not_false, Bool.or_self, Bool.false_eq_true, isNonE, isNil, lenE, wipeM, Bool.or_true, Bool.true_or, Bool.or_false, List.getElem?_cons_succ, List.getElem?_cons_zero, List.set_cons_succ, List.set_cons_zero, List.length_cons, List.length_nil, List.length_map, rngL_length]
  rw [F.product]
  refine ⟨u, v, xs, ys, rfl, hu, hv, by omega, by omega, by omega, by omega, bx', by'', ?_⟩
  intro w n1
  obtain ⟨h1, eh, s1, e1⟩ := newc n1 (LI (prod xs ys))
  rw [eh]
  clear eh
  have u1 := s1 _ _ hu
  have v1 := s1 _ _ hv
  refine st_asg hΦ ?_
  simp only [e_var_v, e_var_t, e_var_q, e_var_i, e_int_v, e_int_t, e_int_q, e_int_i, e_bl_v, e_bl_t, e_bl_q, e_bl_i, e_non_v, e_non_t, e_non_q, e_non_i, e_str_v, e_str_t, e_str_q, e_str_i, e_glob_v, e_glob_t, e_glob_q, e_glob_i, e_neg_v, e_neg_t, e_neg_q, e_neg_i, e_ife_v, e_ife_t, e_ife_q, e_ife_i, e_tup_v, e_tup_t, e_tup_q, e_tup_i, e_ix_v, e_ix_t, e_ix_q, e_ix_i, e_sl_v, e_sl_t, e_sl_q, e_sl_i, e_call_v, e_call_t, e_call_q, e_call_i, e_bi_v, e_bi_t, e_bi_q, e_bi_i, e_bq_v, e_bq_t, e_bq_q, e_bq_i, e_meth_v, e_meth_t, e_meth_q, e_meth_i, e_lst_v, e_lst_q, e_lst_i, e_bl1_v, e_bl1_q, e_bl1_i, e_comp_v, e_comp_q, e_comp_i, e_sub_v, e_fdiv_v, e_mod_v, e_pow_v, e_add_v, e_mul_v, e_add_q, e_mul_q, e_add_i, e_mul_i, e_not_v, e_not_t, e_and_v, e_and_t, e_or_v, e_or_t, e_cmp_v, e_cmp_t, e_rng_i, e_enum_i, e_zip_i, e_nil_a, e_cons_a, e_var_g, e_ix_g, e_tup_g, e_nil_gs, e_cons_gs, o_add, o_sub, o_add2, o_addt, o_mul, o_fdiv, o_mod, o_pow, o_aug, o_neg, m_eq, m_ne, m_lt, m_le, m_gt, m_ge, m_eqs, m_is, m_isnot, n_non, n_ref, n_int, n_tup, b_abs, b_int, b_len, b_max, b_min, l_list, r_1, r_2, t_bl, t_int, t_non, q_tup, q_rol, a_bl, d_none, d_some, d_int, u_all, u_if, g_nil, g_cons, isL_nil, isL_var, isL_int, isL_bl, isL_non, isL_str, isL_glob, isL_neg, isL_not, isL_and, isL_or, isL_ife, isL_cmp, isL_tup, isL_ix, isL_sl, isL_call, isL_bi, isL_bq, isL_meth, isL_rev, isL_step2, isL_lst, isL_bl1, isL_comp, isL_add, isL_mul, isL_sub, isL_fdiv, isL_mod, isL_pow, reduceIte, Bool.not_true, Bool.not_false, Bool.or_self, Bool.false_eq_true, isNonE, isNil, lenE, wipeM, Bool.or_true, Bool.true_or, Bool.or_false, List.getElem?_cons_succ, List.getElem?_cons_zero, List.set_cons_succ, List.set_cons_zero, List.length_cons, List.length_nil, List.length_map, rngL_length]
  refine ⟨by omega, by have := hSZ; omega, ?_⟩
  -- the three counts
  refine comp_inv hΦ (fun i acc h' => Sub h1 h' ∧ ∃ rs : List Nat, acc = rs.map M.ref ∧ rs.length = i ∧ ∀ j, j < i → ∃ r, rs[j]? = some r ∧ h' r = some (LI (counts p ([xs, ys, prod xs ys].getD j []) 12))) ?_ ?_ ?_ ?_
  · exact ⟨Sub.refl _, [], rfl, rfl, fun j hj => absurd hj (by omega)⟩
  · intro i acc h' _ _; trivial
  · rintro i m acc h' ei ⟨sb, rs, rfl, lr, hr⟩
    have hi : i < 3 := (List.getElem?_eq_some_iff.mp ei).1
    obtain ⟨q, eq, hq, bq⟩ : ∃ q, m = .ref q ∧ h' q = some (LI ([xs, ys, prod xs ys].getD i [])) ∧ ([xs, ys, prod xs ys].getD i []).length ≤ 1000 ∧ ∀ c ∈ ([xs, ys, prod xs ys].getD i []), c.natAbs ≤ 2 ^ 54 := by
      match i, hi, ei with
      | 0, _, ei => cases ei; exact ⟨u, rfl, sb _ _ u1, by show xs.length ≤ 1000; omega, bx'⟩
      | 1, _, ei => cases ei; exact ⟨v, rfl, sb _ _ v1, by show ys.length ≤ 1000; omega, by''⟩
      | 2, _, ei => cases ei; exact ⟨w, rfl, sb _ _ e1, by show (prod xs ys).length ≤ 1000; omega, bz⟩
    subst eq
    simp only [e_var_v, e_var_t, e_var_q, e_var_i, e_int_v, e_int_t, e_int_q, e_int_i, e_bl_v, e_bl_t, e_bl_q, e_bl_i, e_non_v, e_non_t, e_non_q, e_non_i, e_str_v, e_str_t, e_str_q, e_str_i, e_glob_v, e_glob_t, e_glob_q, e_glob_i, e_neg_v, e_neg_t, e_neg_q, e_neg_i, e_ife_v, e_ife_t, e_ife_q, e_ife_i, e_tup_v, e_tup_t, e_tup_q, e_tup_i, e_ix_v, e_ix_t, e_ix_q, e_ix_i, e_sl_v, e_sl_t, e_sl_q, e_sl_i, e_call_v, e_call_t, e_call_q, e_call_i, e_bi_v, e_bi_t, e_bi_q, e_bi_i, e_bq_v, e_bq_t, e_bq_q, e_bq_i, e_meth_v, e_meth_t, e_meth_q, e_meth_i, e_lst_v, e_lst_q, e_lst_i, e_bl1_v, e_bl1_q, e_bl1_i, e_comp_v, e_comp_q, e_comp_i, e_sub_v, e_fdiv_v, e_mod_v, e_pow_v, e_add_v, e_mul_v, e_add_q, e_mul_q, e_add_i, e_mul_i, e_not_v, e_not_t, e_and_v, e_and_t, e_or_v, e_or_t, e_cmp_v, e_cmp_t, e_rng_i, e_enum_i, e_zip_i, e_nil_a, e_cons_a, e_var_g, e_ix_g, e_tup_g, e_nil_gs, e_cons_gs, o_add, o_sub, o_add2, o_addt, o_mul, o_fdiv, o_mod, o_pow, o_aug, o_neg, m_eq, m_ne, m_lt, m_le, m_gt, m_ge, m_eqs, m_is, m_isnot, n_non, n_ref, n_int, n_tup, b_abs, b_int, b_len, b_max, b_min, l_list, r_1, r_2, t_bl, t_int, t_non, q_tup, q_rol, a_bl, d_none, d_some, d_int, u_all, u_if, g_nil, g_cons, isL_nil, isL_var, isL_int, isL_bl, isL_non, isL_str, isL_glob, isL_neg, isL_not, isL_and, isL_or, isL_ife, isL_cmp, isL_tup, isL_ix, isL_sl, isL_call, isL_bi, isL_bq, isL_meth, isL_rev, isL_step2, isL_lst, isL_bl1, isL_comp, isL_add, isL_mul, isL_sub, isL_fdiv, isL_mod, isL_pow, reduceIte, Bool.not_true, Bool.not_false, Bool.or_self, Bool.false_eq_true, isNonE, isNil, lenE, wipeM, Bool.or_true, Bool.true_or, Bool.or_false, List.getElem?_cons_succ, List.getElem?_cons_zero, List.set_cons_succ, List.set_cons_zero, List.length_cons, List.length_nil, List.length_map, rngL_length]
    rw [F.cof]
    refine ⟨p, q, _, 12, rfl, hq, by omega, bq.1, bq.2, p1, hp, ?_⟩
    intro r nr
    refine ⟨_, Sub.refl _, sb.trans (Sub.put nr), rs ++ [r], by simp, by simp [lr], fun j hj => ?_⟩
    by_cases z : j < i
    · obtain ⟨r', g1, g2⟩ := hr j z
      exact ⟨r', by rw [List.getElem?_append_left (by omega)]; exact g1, Sub.put nr _ _ g2⟩
    · obtain rfl : j = i := by omega
      exact ⟨r, by rw [List.getElem?_append_right (by omega), lr]; simp, put_same⟩
  rintro acc h2 ⟨sb, rs, rfl, lr, hr⟩
  obtain ⟨ra, a0, a1⟩ := hr 0 (show 0 < 3 by omega)
  obtain ⟨rb, b0, b1⟩ := hr 1 (show 1 < 3 by omega)
  obtain ⟨rc, c0, c1⟩ := hr 2 (show 2 < 3 by omega)
  have ers : rs.map M.ref = [.ref ra, .ref rb, .ref rc] := by
    match rs, lr with
    | [x, y, z], _ =>
      cases a0; cases b0; cases c0; rfl
  rw [ers]
  refine ⟨trivial, ?_⟩
  intro t n3
  obtain ⟨h3, eh, s3, e3⟩ := newc n3 (.lst [.ref ra, .ref rb, .ref rc])
  rw [eh]
  clear eh
  have w3 : h3 w = some (LI (prod xs ys)) := s3 _ _ (sb _ _ e1)
  have a3 : h3 ra = some (LI (counts p xs 12)) := s3 _ _ a1
  have b3 : h3 rb = some (LI (counts p ys 12)) := s3 _ _ b1
  have c3 : h3 rc = some (LI (counts p (prod xs ys) 12)) := s3 _ _ c1
  have S3 : Sub H h3 := fun b o e => s3 _ _ (sb _ _ (s1 _ _ e))
  clear s3 sb s1 a1 b1 c1 a0 b0 c0 hr
  refine st_asg hΦ ?_
  simp only [e_var_v, e_var_t, e_var_q, e_var_i, e_int_v, e_int_t, e_int_q, e_int_i, e_bl_v, e_bl_t, e_bl_q, e_bl_i, e_non_v, e_non_t, e_non_q, e_non_i, e_str_v, e_str_t, e_str_q, e_str_i, e_glob_v, e_glob_t, e_glob_q, e_glob_i, e_neg_v, e_neg_t, e_neg_q, e_neg_i, e_ife_v, e_ife_t, e_ife_q, e_ife_i, e_tup_v, e_tup_t, e_tup_q, e_tup_i, e_ix_v, e_ix_t, e_ix_q, e_ix_i, e_sl_v, e_sl_t, e_sl_q, e_sl_i, e_call_v, e_call_t, e_call_q, e_call_i, e_bi_v, e_bi_t, e_bi_q, e_bi_i, e_bq_v, e_bq_t, e_bq_q, e_bq_i, e_meth_v, e_meth_t, e_meth_q, e_meth_i, e_lst_v, e_lst_q, e_lst_i, e_bl1_v, e_bl1_q, e_bl1_i, e_comp_v, e_comp_q, e_comp_i, e_sub_v, e_fdiv_v, e_mod_v, e_pow_v, e_add_v, e_mul_v, e_add_q, e_mul_q, e_add_i, e_mul_i, e_not_v, e_not_t, e_and_v, e_and_t, e_or_v, e_or_t, e_cmp_v, e_cmp_t, e_rng_i, e_enum_i, e_zip_i, e_nil_a, e_cons_a, e_var_g, e_ix_g, e_tup_g, e_nil_gs, e_cons_gs, o_add, o_sub, o_add2, o_addt, o_mul, o_fdiv, o_mod, o_pow, o_aug, o_neg, m_eq, m_ne, m_lt, m_le, m_gt, m_ge, m_eqs, m_is, m_isnot, n_non, n_ref, n_int, n_tup, b_abs, b_int, b_len, b_max, b_min, l_list, r_1, r_2, t_bl, t_int, t_non, q_tup, q_rol, a_bl, d_none, d_some, d_int, u_all, u_if, g_nil, g_cons, isL_nil, isL_var, isL_int, isL_bl, isL_non, isL_str, isL_glob, isL_neg, isL_not, isL_and, isL_or, isL_ife, isL_cmp, isL_tup, isL_ix, isL_sl, isL_call, isL_bi, isL_bq, isL_meth, isL_rev, isL_step2, isL_lst, isL_bl1, isL_comp, isL_add, isL_mul, isL_sub, isL_fdiv, isL_mod, isL_pow, reduceIte, Bool.not_true, Bool.not_false, Bool.or_self, Bool.false_eq_true, isNonE, isNil, lenE, wipeM, Bool.or_true, Bool.true_or, Bool.or_false, List.getElem?_cons_succ, List.getElem?_cons_zero, List.set_cons_succ, List.set_cons_zero, List.length_cons, List.length_nil, List.length_map, rngL_length]
  refine ⟨by omega, by have := hSZ; omega, ?_⟩
  refine compI_pure hΦ (fun j => .int ((counts p (prod xs ys) 12).getD j 0)) trivial ?_ ?_
  · intro j m R ej hR
    obtain ⟨hj, rfl⟩ := rng_get ej
    have hj : j < 12 := by omega
    simp only [e_var_v, e_var_t, e_var_q, e_var_i, e_int_v, e_int_t, e_int_q, e_int_i, e_bl_v, e_bl_t, e_bl_q, e_bl_i, e_non_v, e_non_t, e_non_q, e_non_i, e_str_v, e_str_t, e_str_q, e_str_i, e_glob_v, e_glob_t, e_glob_q, e_glob_i, e_neg_v, e_neg_t, e_neg_q, e_neg_i, e_ife_v, e_ife_t, e_ife_q, e_ife_i, e_tup_v, e_tup_t, e_tup_q, e_tup_i, e_ix_v, e_ix_t, e_ix_q, e_ix_i, e_sl_v, e_sl_t, e_sl_q, e_sl_i, e_call_v, e_call_t, e_call_q, e_call_i, e_bi_v, e_bi_t, e_bi_q, e_bi_i, e_bq_v, e_bq_t, e_bq_q, e_bq_i, e_meth_v, e_meth_t, e_meth_q, e_meth_i, e_lst_v, e_lst_q, e_lst_i, e_bl1_v, e_bl1_q, e_bl1_i, e_comp_v, e_comp_q, e_comp_i, e_sub_v, e_fdiv_v, e_mod_v, e_pow_v, e_add_v, e_mul_v, e_add_q, e_mul_q, e_add_i, e_mul_i, e_not_v, e_not_t, e_and_v, e_and_t, e_or_v, e_or_t, e_cmp_v, e_cmp_t, e_rng_i, e_enum_i, e_zip_i, e_nil_a, e_cons_a, e_var_g, e_ix_g, e_tup_g, e_nil_gs, e_cons_gs, o_add, o_sub, o_add2, o_addt, o_mul, o_fdiv, o_mod, o_pow, o_aug, o_neg, m_eq, m_ne, m_lt, m_le, m_gt, m_ge, m_eqs, m_is, m_isnot, n_non, n_ref, n_int, n_tup, b_abs, b_int, b_len, b_max, b_min, l_list, r_1, r_2, t_bl, t_int, t_non, q_tup, q_rol, a_bl, d_none, d_some, d_int, u_all, u_if, g_nil, g_cons, isL_nil, isL_var, isL_int, isL_bl, isL_non, isL_str, isL_glob, isL_neg, isL_not, isL_and, isL_or, isL_ife, isL_cmp, isL_tup, isL_ix, isL_sl, isL_call, isL_bi, isL_bq, isL_meth, isL_rev, isL_step2, isL_lst, isL_bl1, isL_comp, isL_add, isL_mul, isL_sub, isL_fdiv, isL_mod, isL_pow, reduceIte, Bool.not_true, Bool.not_false, Bool.or_self, Bool.false_eq_true, isNonE, isNil, lenE, wipeM, Bool.or_true, Bool.true_or, Bool.or_false, List.getElem?_cons_succ, List.getElem?_cons_zero, List.set_cons_succ, List.set_cons_zero, List.length_cons, List.length_nil, List.length_map, rngL_length]
    refine ix_ref e3 (v := .ref ra) rfl ?_
    refine ix_int a3 (by omega) (by rw [counts_len]; omega) ?_
    refine ix_ref e3 (v := .ref rb) rfl ?_
    refine ix_int b3 (by omega) (by rw [counts_len]; omega) ?_
    rw [show (0 + (j : Int) * 1).toNat = j by omega]
    simp only [e_var_v, e_var_t, e_var_q, e_var_i, e_int_v, e_int_t, e_int_q, e_int_i, e_bl_v, e_bl_t, e_bl_q, e_bl_i, e_non_v, e_non_t, e_non_q, e_non_i, e_str_v, e_str_t, e_str_q, e_str_i, e_glob_v, e_glob_t, e_glob_q, e_glob_i, e_neg_v, e_neg_t, e_neg_q, e_neg_i, e_ife_v, e_ife_t, e_ife_q, e_ife_i, e_tup_v, e_tup_t, e_tup_q, e_tup_i, e_ix_v, e_ix_t, e_ix_q, e_ix_i, e_sl_v, e_sl_t, e_sl_q, e_sl_i, e_call_v, e_call_t, e_call_q, e_call_i, e_bi_v, e_bi_t, e_bi_q, e_bi_i, e_bq_v, e_bq_t, e_bq_q, e_bq_i, e_meth_v, e_meth_t, e_meth_q, e_meth_i, e_lst_v, e_lst_q, e_lst_i, e_bl1_v, e_bl1_q, e_bl1_i, e_comp_v, e_comp_q, e_comp_i, e_sub_v, e_fdiv_v, e_mod_v, e_pow_v, e_add_v, e_mul_v, e_add_q, e_mul_q, e_add_i, e_mul_i, e_not_v, e_not_t, e_and_v, e_and_t, e_or_v, e_or_t, e_cmp_v, e_cmp_t, e_rng_i, e_enum_i, e_zip_i, e_nil_a, e_cons_a, e_var_g, e_ix_g, e_tup_g, e_nil_gs, e_cons_gs, o_add, o_sub, o_add2, o_addt, o_mul, o_fdiv, o_mod, o_pow, o_aug, o_neg, m_eq, m_ne, m_lt, m_le, m_gt, m_ge, m_eqs, m_is, m_isnot, n_non, n_ref, n_int, n_tup, b_abs, b_int, b_len, b_max, b_min, l_list, r_1, r_2, t_bl, t_int, t_non, q_tup, q_rol, a_bl, d_none, d_some, d_int, u_all, u_if, g_nil, g_cons, isL_nil, isL_var, isL_int, isL_bl, isL_non, isL_str, isL_glob, isL_neg, isL_not, isL_and, isL_or, isL_ife, isL_cmp, isL_tup, isL_ix, isL_sl, isL_call, isL_bi, isL_bq, isL_meth, isL_rev, isL_step2, isL_lst, isL_bl1, isL_comp, isL_add, isL_mul, isL_sub, isL_fdiv, isL_mod, isL_pow, reduceIte, Bool.not_true, Bool.not_false, Bool.or_self, Bool.false_eq_true, isNonE, isNil, lenE, wipeM, Bool.or_true, Bool.true_or, Bool.or_false, List.getElem?_cons_succ, List.getElem?_cons_zero, List.set_cons_succ, List.set_cons_zero, List.length_cons, List.length_nil, List.length_map, rngL_length]
    rw [F.lraised]
    refine ⟨p, _, rfl, by omega, by omega, p1, hp, ?_⟩
    simp only [e_var_v, e_var_t, e_var_q, e_var_i, e_int_v, e_int_t, e_int_q, e_int_i, e_bl_v, e_bl_t, e_bl_q, e_bl_i, e_non_v, e_non_t, e_non_q, e_non_i, e_str_v, e_str_t, e_str_q, e_str_i, e_glob_v, e_glob_t, e_glob_q, e_glob_i, e_neg_v, e_neg_t, e_neg_q, e_neg_i, e_ife_v, e_ife_t, e_ife_q, e_ife_i, e_tup_v, e_tup_t, e_tup_q, e_tup_i, e_ix_v, e_ix_t, e_ix_q, e_ix_i, e_sl_v, e_sl_t, e_sl_q, e_sl_i, e_call_v, e_call_t, e_call_q, e_call_i, e_bi_v, e_bi_t, e_bi_q, e_bi_i, e_bq_v, e_bq_t, e_bq_q, e_bq_i, e_meth_v, e_meth_t, e_meth_q, e_meth_i, e_lst_v, e_lst_q, e_lst_i, e_bl1_v, e_bl1_q, e_bl1_i, e_comp_v, e_comp_q, e_comp_i, e_sub_v, e_fdiv_v, e_mod_v, e_pow_v, e_add_v, e_mul_v, e_add_q, e_mul_q, e_add_i, e_mul_i, e_not_v, e_not_t, e_and_v, e_and_t, e_or_v, e_or_t, e_cmp_v, e_cmp_t, e_rng_i, e_enum_i, e_zip_i, e_nil_a, e_cons_a, e_var_g, e_ix_g, e_tup_g, e_nil_gs, e_cons_gs, o_add, o_sub, o_add2, o_addt, o_mul, o_fdiv, o_mod, o_pow, o_aug, o_neg, m_eq, m_ne, m_lt, m_le, m_gt, m_ge, m_eqs, m_is, m_isnot, n_non, n_ref, n_int, n_tup, b_abs, b_int, b_len, b_max, b_min, l_list, r_1, r_2, t_bl, t_int, t_non, q_tup, q_rol, a_bl, d_none, d_some, d_int, u_all, u_if, g_nil, g_cons, isL_nil, isL_var, isL_int, isL_bl, isL_non, isL_str, isL_glob, isL_neg, isL_not, isL_and, isL_or, isL_ife, isL_cmp, isL_tup, isL_ix, isL_sl, isL_call, isL_bi, isL_bq, isL_meth, isL_rev, isL_step2, isL_lst, isL_bl1, isL_comp, isL_add, isL_mul, isL_sub, isL_fdiv, isL_mod, isL_pow, reduceIte, Bool.not_true, Bool.not_false, Bool.or_self, Bool.false_eq_true, isNonE, isNil, lenE, wipeM, Bool.or_true, Bool.true_or, Bool.or_false, List.getElem?_cons_succ, List.getElem?_cons_zero, List.set_cons_succ, List.set_cons_zero, List.length_cons, List.length_nil, List.length_map, rngL_length]
    rw [show (0 + (j : Int) * 1 + 1).toNat = j + 1 by omega, counts_get hj, counts_get hj]
    rw [counts_get hj, counts_prod X Y] at hR
    have e : ps (cf xs) (j + 1) + p ^ (j + 1) + 1 + (ps (cf ys) (j + 1) + p ^ (j + 1) + 1) - p ^ (j + 1) - 1 = ps (cf xs) (j + 1) + ps (cf ys) (j + 1) + p ^ (j + 1) + 1 := by omega
    rw [e]
    exact hR
  rw [rngL_length]
  refine ⟨trivial, ?_⟩
  have ed : (List.range (12 : Int).toNat).map (fun j => M.int ((counts p (prod xs ys) 12).getD j 0)) = (counts p (prod xs ys) 12).map M.int := by
    have : (List.range (12 : Int).toNat).map (fun j => M.int ((counts p (prod xs ys) 12).getD j 0)) = ((List.range 12).map (fun j => (counts p (prod xs ys) 12).getD j 0)).map M.int := by rw [List.map_map]; rfl
    rw [this]
    refine congrArg (List.map M.int) (List.ext_getElem? fun i => ?_)
    by_cases hi : i < 12
    · rw [List.getElem?_map, List.getElem?_range hi, Option.map_some, List.getD_eq_getElem?_getD, List.getElem?_eq_getElem (by rw [counts_len]; exact hi)]; rfl
    · rw [List.getElem?_eq_none (by simp; omega), List.getElem?_eq_none (by rw [counts_len]; omega)]
  rw [ed]
  intro d n4
  obtain ⟨h4, eh, s4, e4⟩ := newc n4 (.lst ((counts p (prod xs ys) 12).map M.int))
  rw [eh]
  clear eh
  have fz : Few (counts p (prod xs ys) 12) := few_counts bz p1 (by omega) (by omega)
  refine st_iff hΦ ?_
  simp only [e_var_v, e_var_t, e_var_q, e_var_i, e_int_v, e_int_t, e_int_q, e_int_i, e_bl_v, e_bl_t, e_bl_q, e_bl_i, e_non_v, e_non_t, e_non_q, e_non_i, e_str_v, e_str_t, e_str_q, e_str_i, e_glob_v, e_glob_t, e_glob_q, e_glob_i, e_neg_v, e_neg_t, e_neg_q, e_neg_i, e_ife_v, e_ife_t, e_ife_q, e_ife_i, e_tup_v, e_tup_t, e_tup_q, e_tup_i, e_ix_v, e_ix_t, e_ix_q, e_ix_i, e_sl_v, e_sl_t, e_sl_q, e_sl_i, e_call_v, e_call_t, e_call_q, e_call_i, e_bi_v, e_bi_t, e_bi_q, e_bi_i, e_bq_v, e_bq_t, e_bq_q, e_bq_i, e_meth_v, e_meth_t, e_meth_q, e_meth_i, e_lst_v, e_lst_q, e_lst_i, e_bl1_v, e_bl1_q, e_bl1_i, e_comp_v, e_comp_q, e_comp_i, e_sub_v, e_fdiv_v, e_mod_v, e_pow_v, e_add_v, e_mul_v, e_add_q, e_mul_q, e_add_i, e_mul_i, e_not_v, e_not_t, e_and_v, e_and_t, e_or_v, e_or_t, e_cmp_v, e_cmp_t, e_rng_i, e_enum_i, e_zip_i, e_nil_a, e_cons_a, e_var_g, e_ix_g, e_tup_g, e_nil_gs, e_cons_gs, o_add, o_sub, o_add2, o_addt, o_mul, o_fdiv, o_mod, o_pow, o_aug, o_neg, m_eq, m_ne, m_lt, m_le, m_gt, m_ge, m_eqs, m_is, m_isnot, n_non, n_ref, n_int, n_tup, b_abs, b_int, b_len, b_max, b_min, l_list, r_1, r_2, t_bl, t_int, t_non, q_tup, q_rol, a_bl, d_none, d_some, d_int, u_all, u_if, g_nil, g_cons, isL_nil, isL_var, isL_int, isL_bl, isL_non, isL_str, isL_glob, isL_neg, isL_not, isL_and, isL_or, isL_ife, isL_cmp, isL_tup, isL_ix, isL_sl, isL_call, isL_bi, isL_bq, isL_meth, isL_rev, isL_step2, isL_lst, isL_bl1, isL_comp, isL_add, isL_mul, isL_sub, isL_fdiv, isL_mod, isL_pow, reduceIte, Bool.not_true, Bool.not_false, Bool.or_self, Bool.false_eq_true, isNonE, isNil, lenE, wipeM, Bool.or_true, Bool.true_or, Bool.or_false, List.getElem?_cons_succ, List.getElem?_cons_zero, List.set_cons_succ, List.set_cons_zero, List.length_cons, List.length_nil, List.length_map, rngL_length]
  refine ix_ref (s4 _ _ e3) (v := .ref rc) rfl ?_
  rw [F.is]
  refine ⟨.ref rc, .ref d, dI (counts p (prod xs ys) 12), rfl, dat_dI (s4 _ _ c3), dat_dI e4, good_dI fz, .inl ⟨_, rfl⟩, ?_⟩
  simp only [e_var_v, e_var_t, e_var_q, e_var_i, e_int_v, e_int_t, e_int_q, e_int_i, e_bl_v, e_bl_t, e_bl_q, e_bl_i, e_non_v, e_non_t, e_non_q, e_non_i, e_str_v, e_str_t, e_str_q, e_str_i, e_glob_v, e_glob_t, e_glob_q, e_glob_i, e_neg_v, e_neg_t, e_neg_q, e_neg_i, e_ife_v, e_ife_t, e_ife_q, e_ife_i, e_tup_v, e_tup_t, e_tup_q, e_tup_i, e_ix_v, e_ix_t, e_ix_q, e_ix_i, e_sl_v, e_sl_t, e_sl_q, e_sl_i, e_call_v, e_call_t, e_call_q, e_call_i, e_bi_v, e_bi_t, e_bi_q, e_bi_i, e_bq_v, e_bq_t, e_bq_q, e_bq_i, e_meth_v, e_meth_t, e_meth_q, e_meth_i, e_lst_v, e_lst_q, e_lst_i, e_bl1_v, e_bl1_q, e_bl1_i, e_comp_v, e_comp_q, e_comp_i, e_sub_v, e_fdiv_v, e_mod_v, e_pow_v, e_add_v, e_mul_v, e_add_q, e_mul_q, e_add_i, e_mul_i, e_not_v, e_not_t, e_and_v, e_and_t, e_or_v, e_or_t, e_cmp_v, e_cmp_t, e_rng_i, e_enum_i, e_zip_i, e_nil_a, e_cons_a, e_var_g, e_ix_g, e_tup_g, e_nil_gs, e_cons_gs, o_add, o_sub, o_add2, o_addt, o_mul, o_fdiv, o_mod, o_pow, o_aug, o_neg, m_eq, m_ne, m_lt, m_le, m_gt, m_ge, m_eqs, m_is, m_isnot, n_non, n_ref, n_int, n_tup, b_abs, b_int, b_len, b_max, b_min, l_list, r_1, r_2, t_bl, t_int, t_non, q_tup, q_rol, a_bl, d_none, d_some, d_int, u_all, u_if, g_nil, g_cons, isL_nil, isL_var, isL_int, isL_bl, isL_non, isL_str, isL_glob, isL_neg, isL_not, isL_and, isL_or, isL_ife, isL_cmp, isL_tup, isL_ix, isL_sl, isL_call, isL_bi, isL_bq, isL_meth, isL_rev, isL_step2, isL_lst, isL_bl1, isL_comp, isL_add, isL_mul, isL_sub, isL_fdiv, isL_mod, isL_pow, reduceIte, Bool.not_true, Bool.not_false, Bool.or_self, Bool.false_eq_true, isNonE, isNil, lenE, wipeM, Bool.or_true, Bool.true_or, Bool.or_false, List.getElem?_cons_succ, List.getElem?_cons_zero, List.set_cons_succ, List.set_cons_zero, List.length_cons, List.length_nil, List.length_map, rngL_length]
  refine ix_ref (s4 _ _ e3) (v := .ref rc) rfl ?_
  rw [F.counts]
  refine ⟨p, w, prod xs ys, 12, rfl, s4 _ _ w3, by omega, by omega, bz, p1, hp, ?_⟩
  intro q n5
  obtain ⟨h5, eh, s5, e5⟩ := newc n5 (LI (counts p (prod xs ys) 12))
  rw [eh]
  clear eh
  refine ⟨.ref rc, .ref q, dI (counts p (prod xs ys) 12), rfl, dat_dI (s5 _ _ (s4 _ _ c3)), dat_dI e5, good_dI fz, .inl ⟨_, rfl⟩, ?_⟩
  simp only [e_var_v, e_var_t, e_var_q, e_var_i, e_int_v, e_int_t, e_int_q, e_int_i, e_bl_v, e_bl_t, e_bl_q, e_bl_i, e_non_v, e_non_t, e_non_q, e_non_i, e_str_v, e_str_t, e_str_q, e_str_i, e_glob_v, e_glob_t, e_glob_q, e_glob_i, e_neg_v, e_neg_t, e_neg_q, e_neg_i, e_ife_v, e_ife_t, e_ife_q, e_ife_i, e_tup_v, e_tup_t, e_tup_q, e_tup_i, e_ix_v, e_ix_t, e_ix_q, e_ix_i, e_sl_v, e_sl_t, e_sl_q, e_sl_i, e_call_v, e_call_t, e_call_q, e_call_i, e_bi_v, e_bi_t, e_bi_q, e_bi_i, e_bq_v, e_bq_t, e_bq_q, e_bq_i, e_meth_v, e_meth_t, e_meth_q, e_meth_i, e_lst_v, e_lst_q, e_lst_i, e_bl1_v, e_bl1_q, e_bl1_i, e_comp_v, e_comp_q, e_comp_i, e_sub_v, e_fdiv_v, e_mod_v, e_pow_v, e_add_v, e_mul_v, e_add_q, e_mul_q, e_add_i, e_mul_i, e_not_v, e_not_t, e_and_v, e_and_t, e_or_v, e_or_t, e_cmp_v, e_cmp_t, e_rng_i, e_enum_i, e_zip_i, e_nil_a, e_cons_a, e_var_g, e_ix_g, e_tup_g, e_nil_gs, e_cons_gs, o_add, o_sub, o_add2, o_addt, o_mul, o_fdiv, o_mod, o_pow, o_aug, o_neg, m_eq, m_ne, m_lt, m_le, m_gt, m_ge, m_eqs, m_is, m_isnot, n_non, n_ref, n_int, n_tup, b_abs, b_int, b_len, b_max, b_min, l_list, r_1, r_2, t_bl, t_int, t_non, q_tup, q_rol, a_bl, d_none, d_some, d_int, u_all, u_if, g_nil, g_cons, isL_nil, isL_var, isL_int, isL_bl, isL_non, isL_str, isL_glob, isL_neg, isL_not, isL_and, isL_or, isL_ife, isL_cmp, isL_tup, isL_ix, isL_sl, isL_call, isL_bi, isL_bq, isL_meth, isL_rev, isL_step2, isL_lst, isL_bl1, isL_comp, isL_add, isL_mul, isL_sub, isL_fdiv, isL_mod, isL_pow, reduceIte, Bool.not_true, Bool.not_false, Bool.or_self, Bool.false_eq_true, isNonE, isNil, lenE, wipeM, Bool.or_true, Bool.true_or, Bool.or_false, List.getElem?_cons_succ, List.getElem?_cons_zero, List.set_cons_succ, List.set_cons_zero, List.length_cons, List.length_nil, List.length_map, rngL_length]
  refine st_skip ?_
  dsimp only
  have w5 : h5 w = some (LI (prod xs ys)) := s5 _ _ (s4 _ _ w3)
  have d5 : h5 d = some (LI (counts p (prod xs ys) 12)) := s5 _ _ e4
  have S5 : Sub H h5 := fun b o e => s5 _ _ (s4 _ _ (S3 b o e))
  refine st_asg hΦ ?_
  simp only [e_var_v, e_var_t, e_var_q, e_var_i, e_int_v, e_int_t, e_int_q, e_int_i, e_bl_v, e_bl_t, e_bl_q, e_bl_i, e_non_v, e_non_t, e_non_q, e_non_i, e_str_v, e_str_t, e_str_q, e_str_i, e_glob_v, e_glob_t, e_glob_q, e_glob_i, e_neg_v, e_neg_t, e_neg_q, e_neg_i, e_ife_v, e_ife_t, e_ife_q, e_ife_i, e_tup_v, e_tup_t, e_tup_q, e_tup_i, e_ix_v, e_ix_t, e_ix_q, e_ix_i, e_sl_v, e_sl_t, e_sl_q, e_sl_i, e_call_v, e_call_t, e_call_q, e_call_i, e_bi_v, e_bi_t, e_bi_q, e_bi_i, e_bq_v, e_bq_t, e_bq_q, e_bq_i, e_meth_v, e_meth_t, e_meth_q, e_meth_i, e_lst_v, e_lst_q, e_lst_i, e_bl1_v, e_bl1_q, e_bl1_i, e_comp_v, e_comp_q, e_comp_i, e_sub_v, e_fdiv_v, e_mod_v, e_pow_v, e_add_v, e_mul_v, e_add_q, e_mul_q, e_add_i, e_mul_i, e_not_v, e_not_t, e_and_v, e_and_t, e_or_v, e_or_t, e_cmp_v, e_cmp_t, e_rng_i, e_enum_i, e_zip_i, e_nil_a, e_cons_a, e_var_g, e_ix_g, e_tup_g, e_nil_gs, e_cons_gs, o_add, o_sub, o_add2, o_addt, o_mul, o_fdiv, o_mod, o_pow, o_aug, o_neg, m_eq, m_ne, m_lt, m_le, m_gt, m_ge, m_eqs, m_is, m_isnot, n_non, n_ref, n_int, n_tup, b_abs, b_int, b_len, b_max, b_min, l_list, r_1, r_2, t_bl, t_int, t_non, q_tup, q_rol, a_bl, d_none, d_some, d_int, u_all, u_if, g_nil, g_cons, isL_nil, isL_var, isL_int, isL_bl, isL_non, isL_str, isL_glob, isL_neg, isL_not, isL_and, isL_or, isL_ife, isL_cmp, isL_tup, isL_ix, isL_sl, isL_call, isL_bi, isL_bq, isL_meth, isL_rev, isL_step2, isL_lst, isL_bl1, isL_comp, isL_add, isL_mul, isL_sub, isL_fdiv, isL_mod, isL_pow, reduceIte, Bool.not_true, Bool.not_false, Bool.or_self, Bool.false_eq_true, isNonE, isNil, lenE, wipeM, Bool.or_true, Bool.true_or, Bool.or_false, List.getElem?_cons_succ, List.getElem?_cons_zero, List.set_cons_succ, List.set_cons_zero, List.length_cons, List.length_nil, List.length_map, rngL_length, len_int w5]
  refine ⟨divOk (by omega) (by omega), ?_⟩
  rw [show (((prod xs ys).length : Nat) : Int) / 2 = ((g + k : Nat) : Int) by omega]
  refine st_ret ?_
  simp only [e_var_v, e_var_t, e_var_q, e_var_i, e_int_v, e_int_t, e_int_q, e_int_i, e_bl_v, e_bl_t, e_bl_q, e_bl_i, e_non_v, e_non_t, e_non_q, e_non_i, e_str_v, e_str_t, e_str_q, e_str_i, e_glob_v, e_glob_t, e_glob_q, e_glob_i, e_neg_v, e_neg_t, e_neg_q, e_neg_i, e_ife_v, e_ife_t, e_ife_q, e_ife_i, e_tup_v, e_tup_t, e_tup_q, e_tup_i, e_ix_v, e_ix_t, e_ix_q, e_ix_i, e_sl_v, e_sl_t, e_sl_q, e_sl_i, e_call_v, e_call_t, e_call_q, e_call_i, e_bi_v, e_bi_t, e_bi_q, e_bi_i, e_bq_v, e_bq_t, e_bq_q, e_bq_i, e_meth_v, e_meth_t, e_meth_q, e_meth_i, e_lst_v, e_lst_q, e_lst_i, e_bl1_v, e_bl1_q, e_bl1_i, e_comp_v, e_comp_q, e_comp_i, e_sub_v, e_fdiv_v, e_mod_v, e_pow_v, e_add_v, e_mul_v, e_add_q, e_mul_q, e_add_i, e_mul_i, e_not_v, e_not_t, e_and_v, e_and_t, e_or_v, e_or_t, e_cmp_v, e_cmp_t, e_rng_i, e_enum_i, e_zip_i, e_nil_a, e_cons_a, e_var_g, e_ix_g, e_tup_g, e_nil_gs, e_cons_gs, o_add, o_sub, o_add2, o_addt, o_mul, o_fdiv, o_mod, o_pow, o_aug, o_neg, m_eq, m_ne, m_lt, m_le, m_gt, m_ge, m_eqs, m_is, m_isnot, n_non, n_ref, n_int, n_tup, b_abs, b_int, b_len, b_max, b_min, l_list, r_1, r_2, t_bl, t_int, t_non, q_tup, q_rol, a_bl, d_none, d_some, d_int, u_all, u_if, g_nil, g_cons, isL_nil, isL_var, isL_int, isL_bl, isL_non, isL_str, isL_glob, isL_neg, isL_not, isL_and, isL_or, isL_ife, isL_cmp, isL_tup, isL_ix, isL_sl, isL_call, isL_bi, isL_bq, isL_meth, isL_rev, isL_step2, isL_lst, isL_bl1, isL_comp, isL_add, isL_mul, isL_sub, isL_fdiv, isL_mod, isL_pow, reduceIte, Bool.not_true, Bool.not_false, Bool.or_self, Bool.false_eq_true, isNonE, isNil, lenE, wipeM, Bool.or_true, Bool.true_or, Bool.or_false, List.getElem?_cons_succ, List.getElem?_cons_zero, List.set_cons_succ, List.set_cons_zero, List.length_cons, List.length_nil, List.length_map, rngL_length]
  refine sl_ref d5 ?_
  rw [cut_take, counts_take p _ (show g + k ≤ 12 by omega)]
  intro q2 n6
  obtain ⟨h6, eh, s6, e6⟩ := newc n6 (.lst ((counts p (prod xs ys) (g + k)).map M.int))
  rw [eh]
  clear eh
  refine asQ_ref e6 ?_
  refine ⟨by rw [List.length_map, counts_len]; have := hSZ; omega, ?_⟩
  refine compI_pure hΦ (fun j => .int (if (counts p (prod xs ys) (g + k)).getD j 0 < 0 then -(counts p (prod xs ys) (g + k)).getD j 0 else (counts p (prod xs ys) (g + k)).getD j 0)) ⟨e6, trivial⟩ ?_ ?_
  · intro j m R ej hR
    obtain ⟨n, en, rfl⟩ := intmap_get ej
    simp only [e_var_v, e_var_t, e_var_q, e_var_i, e_int_v, e_int_t, e_int_q, e_int_i, e_bl_v, e_bl_t, e_bl_q, e_bl_i, e_non_v, e_non_t, e_non_q, e_non_i, e_str_v, e_str_t, e_str_q, e_str_i, e_glob_v, e_glob_t, e_glob_q, e_glob_i, e_neg_v, e_neg_t, e_neg_q, e_neg_i, e_ife_v, e_ife_t, e_ife_q, e_ife_i, e_tup_v, e_tup_t, e_tup_q, e_tup_i, e_ix_v, e_ix_t, e_ix_q, e_ix_i, e_sl_v, e_sl_t, e_sl_q, e_sl_i, e_call_v, e_call_t, e_call_q, e_call_i, e_bi_v, e_bi_t, e_bi_q, e_bi_i, e_bq_v, e_bq_t, e_bq_q, e_bq_i, e_meth_v, e_meth_t, e_meth_q, e_meth_i, e_lst_v, e_lst_q, e_lst_i, e_bl1_v, e_bl1_q, e_bl1_i, e_comp_v, e_comp_q, e_comp_i, e_sub_v, e_fdiv_v, e_mod_v, e_pow_v, e_add_v, e_mul_v, e_add_q, e_mul_q, e_add_i, e_mul_i, e_not_v, e_not_t, e_and_v, e_and_t, e_or_v, e_or_t, e_cmp_v, e_cmp_t, e_rng_i, e_enum_i, e_zip_i, e_nil_a, e_cons_a, e_var_g, e_ix_g, e_tup_g, e_nil_gs, e_cons_gs, o_add, o_sub, o_add2, o_addt, o_mul, o_fdiv, o_mod, o_pow, o_aug, o_neg, m_eq, m_ne, m_lt, m_le, m_gt, m_ge, m_eqs, m_is, m_isnot, n_non, n_ref, n_int, n_tup, b_abs, b_int, b_len, b_max, b_min, l_list, r_1, r_2, t_bl, t_int, t_non, q_tup, q_rol, a_bl, d_none, d_some, d_int, u_all, u_if, g_nil, g_cons, isL_nil, isL_var, isL_int, isL_bl, isL_non, isL_str, isL_glob, isL_neg, isL_not, isL_and, isL_or, isL_ife, isL_cmp, isL_tup, isL_ix, isL_sl, isL_call, isL_bi, isL_bq, isL_meth, isL_rev, isL_step2, isL_lst, isL_bl1, isL_comp, isL_add, isL_mul, isL_sub, isL_fdiv, isL_mod, isL_pow, reduceIte, Bool.not_true, Bool.not_false, Bool.or_self, Bool.false_eq_true, isNonE, isNil, lenE, wipeM, Bool.or_true, Bool.true_or, Bool.or_false, List.getElem?_cons_succ, List.getElem?_cons_zero, List.set_cons_succ, List.set_cons_zero, List.length_cons, List.length_nil, List.length_map, rngL_length]
    have : (counts p (prod xs ys) (g + k)).getD j 0 = n := by rw [List.getD_eq_getElem?_getD, en]; rfl
    rw [this] at hR
    exact hR
  rw [List.length_map, counts_len]
  refine ⟨trivial, bq_max rfl (by omega) fun mx => ?_⟩
  simp only [e_var_v, e_var_t, e_var_q, e_var_i, e_int_v, e_int_t, e_int_q, e_int_i, e_bl_v, e_bl_t, e_bl_q, e_bl_i, e_non_v, e_non_t, e_non_q, e_non_i, e_str_v, e_str_t, e_str_q, e_str_i, e_glob_v, e_glob_t, e_glob_q, e_glob_i, e_neg_v, e_neg_t, e_neg_q, e_neg_i, e_ife_v, e_ife_t, e_ife_q, e_ife_i, e_tup_v, e_tup_t, e_tup_q, e_tup_i, e_ix_v, e_ix_t, e_ix_q, e_ix_i, e_sl_v, e_sl_t, e_sl_q, e_sl_i, e_call_v, e_call_t, e_call_q, e_call_i, e_bi_v, e_bi_t, e_bi_q, e_bi_i, e_bq_v, e_bq_t, e_bq_q, e_bq_i, e_meth_v, e_meth_t, e_meth_q, e_meth_i, e_lst_v, e_lst_q, e_lst_i, e_bl1_v, e_bl1_q, e_bl1_i, e_comp_v, e_comp_q, e_comp_i, e_sub_v, e_fdiv_v, e_mod_v, e_pow_v, e_add_v, e_mul_v, e_add_q, e_mul_q, e_add_i, e_mul_i, e_not_v, e_not_t, e_and_v, e_and_t, e_or_v, e_or_t, e_cmp_v, e_cmp_t, e_rng_i, e_enum_i, e_zip_i, e_nil_a, e_cons_a, e_var_g, e_ix_g, e_tup_g, e_nil_gs, e_cons_gs, o_add, o_sub, o_add2, o_addt, o_mul, o_fdiv, o_mod, o_pow, o_aug, o_neg, m_eq, m_ne, m_lt, m_le, m_gt, m_ge, m_eqs, m_is, m_isnot, n_non, n_ref, n_int, n_tup, b_abs, b_int, b_len, b_max, b_min, l_list, r_1, r_2, t_bl, t_int, t_non, q_tup, q_rol, a_bl, d_none, d_some, d_int, u_all, u_if, g_nil, g_cons, isL_nil, isL_var, isL_int, isL_bl, isL_non, isL_str, isL_glob, isL_neg, isL_not, isL_and, isL_or, isL_ife, isL_cmp, isL_tup, isL_ix, isL_sl, isL_call, isL_bi, isL_bq, isL_meth, isL_rev, isL_step2, isL_lst, isL_bl1, isL_comp, isL_add, isL_mul, isL_sub, isL_fdiv, isL_mod, isL_pow, reduceIte, Bool.not_true, Bool.not_false, Bool.or_self, Bool.false_eq_true, isNonE, isNil, lenE, wipeM, Bool.or_true, Bool.true_or, Bool.or_false, List.getElem?_cons_succ, List.getElem?_cons_zero, List.set_cons_succ, List.set_cons_zero, List.length_cons, List.length_nil, List.length_map, rngL_length]
  refine ⟨by decide, ?_⟩
  have S6 : Sub H h6 := fun b o e => s6 _ _ (S5 b o e)
  by_cases z : (10 : Int) ^ (9 : Int).toNat < mx
  · rw [if_pos (decide_eq_true z), decide_eq_true z]
    exact fin _ S6
  rw [if_neg (by simpa using z)]
  refine sl_ref (s6 _ _ d5) ?_
  rw [cut_take, counts_take p _ (show g + k ≤ 12 by omega)]
  intro q3 n7
  obtain ⟨h7, eh, s7, e7⟩ := newc n7 (.lst ((counts p (prod xs ys) (g + k)).map M.int))
  rw [eh]
  clear eh
  rw [F.ofc]
  refine ⟨p, q3, counts p (prod xs ys) (g + k), rfl, e7, by rw [counts_len]; omega, counts_300 bz p1 (by omega) g4, p1, hp, ?_⟩
  rw [counts_len, el]
  simp only []
  rw [ef]
  intro q4 n8
  obtain ⟨h8, eh, s8, e8⟩ := newc n8 (LI (prod xs ys))
  rw [eh]
  clear eh
  rw [F.is]
  refine ⟨.ref q4, .ref w, dI (prod xs ys), rfl, dat_dI e8, dat_dI (s8 _ _ (s7 _ _ (s6 _ _ w5))), good_dI (Z.few (by omega)), .inl ⟨_, rfl⟩, ?_⟩
  exact fin _ fun b o e => s8 _ _ (s7 _ _ (S6 b o e))
/-- a list drawn, its size from a display of two -/
theorem keeps_joined (Φ : Phi) (F : Fns Φ) : Keeps Φ 11 t_law_is_joined spJoined := by
  intro ms h Q hsp
  obtain ⟨a, b, ns, n, p, rfl, dk, hns, hn, p1, p2, post⟩ := hsp
  have hΦ := F.mono
  have hp : p.natAbs < 2 ^ 100 := Nat.lt_of_lt_of_le (m := 1000) (by omega) (by decide)
  change wS Φ W0 _ _ [some (.ref a), some (.int p), none, none, none, none, none, none, none, none, none] h
  unfold t_law_is_joined
  refine st_asg hΦ ?_
  simp only [e_var_v, e_var_t, e_var_q, e_var_i, e_int_v, e_int_t, e_int_q, e_int_i, e_bl_v, e_bl_t, e_bl_q, e_bl_i, e_non_v, e_non_t, e_non_q, e_non_i, e_str_v, e_str_t, e_str_q, e_str_i, e_glob_v, e_glob_t, e_glob_q, e_glob_i, e_neg_v, e_neg_t, e_neg_q, e_neg_i, e_ife_v, e_ife_t, e_ife_q, e_ife_i, e_tup_v, e_tup_t, e_tup_q, e_tup_i, e_ix_v, e_ix_t, e_ix_q, e_ix_i, e_sl_v, e_sl_t, e_sl_q, e_sl_i, e_call_v, e_call_t, e_call_q, e_call_i, e_bi_v, e_bi_t, e_bi_q, e_bi_i, e_bq_v, e_bq_t, e_bq_q, e_bq_i, e_meth_v, e_meth_t, e_meth_q, e_meth_i, e_lst_v, e_lst_q, e_lst_i, e_bl1_v, e_bl1_q, e_bl1_i, e_comp_v, e_comp_q, e_comp_i, e_sub_v, e_fdiv_v, e_mod_v, e_pow_v, e_add_v, e_mul_v, e_add_q, e_mul_q, e_add_i, e_mul_i, e_not_v, e_not_t, e_and_v, e_and_t, e_or_v, e_or_t, e_cmp_v, e_cmp_t, e_rng_i, e_enum_i, e_zip_i, e_nil_a, e_cons_a, e_var_g, e_ix_g, e_tup_g, e_nil_gs, e_cons_gs, o_add, o_sub, o_add2, o_addt, o_mul, o_fdiv, o_mod, o_pow, o_aug, o_neg, m_eq, m_ne, m_lt, m_le, m_gt, m_ge, m_eqs, m_is, m_isnot, n_non, n_ref, n_int, n_tup, b_abs, b_int, b_len, b_max, b_min, l_list, r_1, r_2, t_bl, t_int, t_non, q_tup, q_rol, a_bl, d_none, d_some, d_int, u_all, u_if, g_nil, g_cons, isL_nil, isL_var, isL_int, isL_bl, isL_non, isL_str, isL_glob, isL_neg, isL_not, isL_and, isL_or, isL_ife, isL_cmp, isL_tup, isL_ix, isL_sl, isL_call, isL_bi, isL_bq, isL_meth, isL_rev, isL_step2, isL_lst, isL_bl1, isL_comp, isL_add, isL_mul, isL_sub, isL_fdiv, isL_mod, isL_pow, reduceIte, Bool.not_true, Bool.not_false, Bool.or_self, Bool.false_eq_true, isNonE, isNil, lenE, wipeM, Bool.or_true, Bool.true_or, Bool.or_false, List.getElem?_cons_succ, List.getElem?_cons_zero, List.set_cons_succ, List.set_cons_zero, List.length_cons, List.length_nil, List.length_map, rngL_length]
  rw [F.draw]
  refine ⟨a, b, ns, n, 3, rfl, by omega, by omega, by omega, hns, dk, fun v1 h1 v1a v1b dk1 fr1 => ?_⟩
  have t1 : ∀ c o, c ≠ a → h c = some o → h1 c = some o := fun c o z e => (fr1 c z).trans e
  simp only [e_var_v, e_var_t, e_var_q, e_var_i, e_int_v, e_int_t, e_int_q, e_int_i, e_bl_v, e_bl_t, e_bl_q, e_bl_i, e_non_v, e_non_t, e_non_q, e_non_i, e_str_v, e_str_t, e_str_q, e_str_i, e_glob_v, e_glob_t, e_glob_q, e_glob_i, e_neg_v, e_neg_t, e_neg_q, e_neg_i, e_ife_v, e_ife_t, e_ife_q, e_ife_i, e_tup_v, e_tup_t, e_tup_q, e_tup_i, e_ix_v, e_ix_t, e_ix_q, e_ix_i, e_sl_v, e_sl_t, e_sl_q, e_sl_i, e_call_v, e_call_t, e_call_q, e_call_i, e_bi_v, e_bi_t, e_bi_q, e_bi_i, e_bq_v, e_bq_t, e_bq_q, e_bq_i, e_meth_v, e_meth_t, e_meth_q, e_meth_i, e_lst_v, e_lst_q, e_lst_i, e_bl1_v, e_bl1_q, e_bl1_i, e_comp_v, e_comp_q, e_comp_i, e_sub_v, e_fdiv_v, e_mod_v, e_pow_v, e_add_v, e_mul_v, e_add_q, e_mul_q, e_add_i, e_mul_i, e_not_v, e_not_t, e_and_v, e_and_t, e_or_v, e_or_t, e_cmp_v, e_cmp_t, e_rng_i, e_enum_i, e_zip_i, e_nil_a, e_cons_a, e_var_g, e_ix_g, e_tup_g, e_nil_gs, e_cons_gs, o_add, o_sub, o_add2, o_addt, o_mul, o_fdiv, o_mod, o_pow, o_aug, o_neg, m_eq, m_ne, m_lt, m_le, m_gt, m_ge, m_eqs, m_is, m_isnot, n_non, n_ref, n_int, n_tup, b_abs, b_int, b_len, b_max, b_min, l_list, r_1, r_2, t_bl, t_int, t_non, q_tup, q_rol, a_bl, d_none, d_some, d_int, u_all, u_if, g_nil, g_cons, isL_nil, isL_var, isL_int, isL_bl, isL_non, isL_str, isL_glob, isL_neg, isL_not, isL_and, isL_or, isL_ife, isL_cmp, isL_tup, isL_ix, isL_sl, isL_call, isL_bi, isL_bq, isL_meth, isL_rev, isL_step2, isL_lst, isL_bl1, isL_comp, isL_add, isL_mul, isL_sub, isL_fdiv, isL_mod, isL_pow, reduceIte, Bool.not_true, Bool.not_false, Bool.or_self, Bool.false_eq_true, isNonE, isNil, lenE, wipeM, Bool.or_true, Bool.true_or, Bool.or_false, List.getElem?_cons_succ, List.getElem?_cons_zero, List.set_cons_succ, List.set_cons_zero, List.length_cons, List.length_nil, List.length_map, rngL_length]
  obtain ⟨g, eg⟩ : ∃ g : Nat, (1 : Int) + v1 = g := ⟨(1 + v1).toNat, by omega⟩
  have g1 : 1 ≤ g := by omega
  have g3 : g ≤ 3 := by omega
  rw [eg]
  refine st_asg hΦ ?_
  simp only [e_var_v, e_var_t, e_var_q, e_var_i, e_int_v, e_int_t, e_int_q, e_int_i, e_bl_v, e_bl_t, e_bl_q, e_bl_i, e_non_v, e_non_t, e_non_q, e_non_i, e_str_v, e_str_t, e_str_q, e_str_i, e_glob_v, e_glob_t, e_glob_q, e_glob_i, e_neg_v, e_neg_t, e_neg_q, e_neg_i, e_ife_v, e_ife_t, e_ife_q, e_ife_i, e_tup_v, e_tup_t, e_tup_q, e_tup_i, e_ix_v, e_ix_t, e_ix_q, e_ix_i, e_sl_v, e_sl_t, e_sl_q, e_sl_i, e_call_v, e_call_t, e_call_q, e_call_i, e_bi_v, e_bi_t, e_bi_q, e_bi_i, e_bq_v, e_bq_t, e_bq_q, e_bq_i, e_meth_v, e_meth_t, e_meth_q, e_meth_i, e_lst_v, e_lst_q, e_lst_i, e_bl1_v, e_bl1_q, e_bl1_i, e_comp_v, e_comp_q, e_comp_i, e_sub_v, e_fdiv_v, e_mod_v, e_pow_v, e_add_v, e_mul_v, e_add_q, e_mul_q, e_add_i, e_mul_i, e_not_v, e_not_t, e_and_v, e_and_t, e_or_v, e_or_t, e_cmp_v, e_cmp_t, e_rng_i, e_enum_i, e_zip_i, e_nil_a, e_cons_a, e_var_g, e_ix_g, e_tup_g, e_nil_gs, e_cons_gs, o_add, o_sub, o_add2, o_addt, o_mul, o_fdiv, o_mod, o_pow, o_aug, o_neg, m_eq, m_ne, m_lt, m_le, m_gt, m_ge, m_eqs, m_is, m_isnot, n_non, n_ref, n_int, n_tup, b_abs, b_int, b_len, b_max, b_min, l_list, r_1, r_2, t_bl, t_int, t_non, q_tup, q_rol, a_bl, d_none, d_some, d_int, u_all, u_if, g_nil, g_cons, isL_nil, isL_var, isL_int, isL_bl, isL_non, isL_str, isL_glob, isL_neg, isL_not, isL_and, isL_or, isL_ife, isL_cmp, isL_tup, isL_ix, isL_sl, isL_call, isL_bi, isL_bq, isL_meth, isL_rev, isL_step2, isL_lst, isL_bl1, isL_comp, isL_add, isL_mul, isL_sub, isL_fdiv, isL_mod, isL_pow, reduceIte, Bool.not_true, Bool.not_false, Bool.or_self, Bool.false_eq_true, isNonE, isNil, lenE, wipeM, Bool.or_true, Bool.true_or, Bool.or_false, List.getElem?_cons_succ, List.getElem?_cons_zero, List.set_cons_succ, List.set_cons_zero, List.length_cons, List.length_nil, List.length_map, rngL_length]
  refine ⟨by omega, trivial, ?_⟩
  intro q1 n2
  obtain ⟨h2, eh, s2, e2⟩ := newc n2 (.lst [.int 5, .int 60])
  rw [eh]
  clear eh
  rw [F.draw]
  refine ⟨a, b, ns, n + 1, 2, rfl, by omega, by omega, by omega, hns, dk1.sub s2, fun v2 h3 v2a v2b dk3 fr3 => ?_⟩
  have m1 : q1 ≠ a := dk1.ne n2
  have t3 : ∀ c o, c ≠ a → h2 c = some o → h3 c = some o := fun c o z e => (fr3 c z).trans e
  refine ix_int (ns := [5, 60]) (t3 _ _ m1 e2) v2a (by show _ < 2; omega) ?_
  have two : ∀ v : Int, 0 ≤ v → v < 2 → ([5, 60] : List Int).getD v.toNat 0 = 5 ∨ ([5, 60] : List Int).getD v.toNat 0 = 60 := fun v h0 h1 => by
    have : v = 0 ∨ v = 1 := by omega
    rcases this with rfl | rfl
    · exact .inl rfl
    · exact .inr rfl
  have hm := two v2 v2a v2b
  generalize ([5, 60] : List Int).getD v2.toNat 0 = most at *
  rw [F.list]
  refine ⟨a, b, ns, n + 1 + 1, p, g, most, rfl, dk3, hns, by omega, p1, by omega, by omega, by omega, by omega, fun r4 h4 l1 hl1 l10 lb1 nr4 hr4 dk4 fr4 => ?_⟩
  have m4 : r4 ≠ a := dk3.ne nr4
  have t4 : ∀ c o, c ≠ a → h3 c = some o → h4 c = some o := fun c o z e => (fr4 c z (mh_ne e nr4)).trans e
  refine ⟨a, b, ns, n + 1 + 1 + 1000, _, rfl, by omega, by omega, by omega, hns, dk4, fun v5 h5 v5a v5b dk5 fr5 => ?_⟩
  have t5 : ∀ c o, c ≠ a → h4 c = some o → h5 c = some o := fun c o z e => (fr5 c z).trans e
  obtain ⟨k, ek⟩ : ∃ k : Nat, (1 : Int) + v5 = k := ⟨(1 + v5).toNat, by omega⟩
  have k1 : 1 ≤ k := by omega
  have gk : g + k ≤ 4 := by omega
  simp only [e_var_v, e_var_t, e_var_q, e_var_i, e_int_v, e_int_t, e_int_q, e_int_i, e_bl_v, e_bl_t, e_bl_q, e_bl_i, e_non_v, e_non_t, e_non_q, e_non_i, e_str_v, e_str_t, e_str_q, e_str_i, e_glob_v, e_glob_t, e_glob_q, e_glob_i, e_neg_v, e_neg_t, e_neg_q, e_neg_i, e_ife_v, e_ife_t, e_ife_q, e_ife_i, e_tup_v, e_tup_t, e_tup_q, e_tup_i, e_ix_v, e_ix_t, e_ix_q, e_ix_i, e_sl_v, e_sl_t, e_sl_q, e_sl_i, e_call_v, e_call_t, e_call_q, e_call_i, e_bi_v, e_bi_t, e_bi_q, e_bi_i, e_bq_v, e_bq_t, e_bq_q, e_bq_i, e_meth_v, e_meth_t, e_meth_q, e_meth_i, e_lst_v, e_lst_q, e_lst_i, e_bl1_v, e_bl1_q, e_bl1_i, e_comp_v, e_comp_q, e_comp_i, e_sub_v, e_fdiv_v, e_mod_v, e_pow_v, e_add_v, e_mul_v, e_add_q, e_mul_q, e_add_i, e_mul_i, e_not_v, e_not_t, e_and_v, e_and_t, e_or_v, e_or_t, e_cmp_v, e_cmp_t, e_rng_i, e_enum_i, e_zip_i, e_nil_a, e_cons_a, e_var_g, e_ix_g, e_tup_g, e_nil_gs, e_cons_gs, o_add, o_sub, o_add2, o_addt, o_mul, o_fdiv, o_mod, o_pow, o_aug, o_neg, m_eq, m_ne, m_lt, m_le, m_gt, m_ge, m_eqs, m_is, m_isnot, n_non, n_ref, n_int, n_tup, b_abs, b_int, b_len, b_max, b_min, l_list, r_1, r_2, t_bl, t_int, t_non, q_tup, q_rol, a_bl, d_none, d_some, d_int, u_all, u_if, g_nil, g_cons, isL_nil, isL_var, isL_int, isL_bl, isL_non, isL_str, isL_glob, isL_neg, isL_not, isL_and, isL_or, isL_ife, isL_cmp, isL_tup, isL_ix, isL_sl, isL_call, isL_bi, isL_bq, isL_meth, isL_rev, isL_step2, isL_lst, isL_bl1, isL_comp, isL_add, isL_mul, isL_sub, isL_fdiv, isL_mod, isL_pow, reduceIte, Bool.not_true, Bool.not_false, Bool.or_self, Bool.false_eq_true, isNonE, isNil, lenE, wipeM, Bool.or_true, Bool.true_or, Bool.or_false, List.getElem?_cons_succ, List.getElem?_cons_zero, List.set_cons_succ, List.set_cons_zero, List.length_cons, List.length_nil, List.length_map, rngL_length]
  rw [ek]
  refine ⟨by omega, trivial, ?_⟩
  intro q6 n6
  obtain ⟨h6, eh, s6, e6⟩ := newc n6 (.lst [.int 5, .int 60])
  rw [eh]
  clear eh
  have m6 : q6 ≠ a := dk5.ne n6
  refine ⟨a, b, ns, n + 1 + 1 + 1000 + 1, 2, rfl, by omega, by omega, by omega, hns, dk5.sub s6, fun v7 h7 v7a v7b dk7 fr7 => ?_⟩
  have t7 : ∀ c o, c ≠ a → h6 c = some o → h7 c = some o := fun c o z e => (fr7 c z).trans e
  refine ix_int (ns := [5, 60]) (t7 _ _ m6 e6) v7a (by show _ < 2; omega) ?_
  have hm2 := two v7 v7a v7b
  generalize ([5, 60] : List Int).getD v7.toNat 0 = most2 at *
  refine ⟨a, b, ns, n + 1 + 1 + 1000 + 1 + 1, p, k, most2, rfl, dk7, hns, by omega, p1, by omega, by omega, by omega, by omega, fun r8 h8 l2 hl2 l20 lb2 nr8 hr8 dk8 fr8 => ?_⟩
  have m8 : r8 ≠ a := dk7.ne nr8
  have t8 : ∀ c o, c ≠ a → h7 c = some o → h8 c = some o := fun c o z e => (fr8 c z (mh_ne e nr8)).trans e
  have x8 : h8 r4 = some (LI (full p l1 g)) := t8 _ _ m4 (t7 _ _ m4 (s6 _ _ (t5 _ _ m4 hr4)))
  have T8 : ∀ c o, c ≠ a → h c = some o → h8 c = some o := fun c o z e => t8 _ _ z (t7 _ _ z (s6 _ _ (t5 _ _ z (t4 _ _ z (t3 _ _ z (s2 _ _ (t1 _ _ z e)))))))
  refine ⟨by omega, trivial, ?_⟩
  have lb1' : ∀ c ∈ l1, c.natAbs ≤ 61 := fun c hc => Nat.le_trans (lb1 c hc) (by omega)
  have lb2' : ∀ c ∈ l2, c.natAbs ≤ 61 := fun c hc => Nat.le_trans (lb2 c hc) (by omega)
  have L1 : Lst p (full p l1 g) g := lst_of p1 p2 (by omega) hl1 l10 fun c hc => Nat.le_trans (lb1' c hc) (by decide)
  have L2 : Lst p (full p l2 k) k := lst_of p1 p2 (by omega) hl2 l20 fun c hc => Nat.le_trans (lb2' c hc) (by decide)
  have B1 := full_bnd p1 p2 g3 lb1'
  have B2 := full_bnd p1 p2 (show k ≤ 3 by omega) lb2'
  refine st_iff hΦ ?_
  simp only [e_var_v, e_var_t, e_var_q, e_var_i, e_int_v, e_int_t, e_int_q, e_int_i, e_bl_v, e_bl_t, e_bl_q, e_bl_i, e_non_v, e_non_t, e_non_q, e_non_i, e_str_v, e_str_t, e_str_q, e_str_i, e_glob_v, e_glob_t, e_glob_q, e_glob_i, e_neg_v, e_neg_t, e_neg_q, e_neg_i, e_ife_v, e_ife_t, e_ife_q, e_ife_i, e_tup_v, e_tup_t, e_tup_q, e_tup_i, e_ix_v, e_ix_t, e_ix_q, e_ix_i, e_sl_v, e_sl_t, e_sl_q, e_sl_i, e_call_v, e_call_t, e_call_q, e_call_i, e_bi_v, e_bi_t, e_bi_q, e_bi_i, e_bq_v, e_bq_t, e_bq_q, e_bq_i, e_meth_v, e_meth_t, e_meth_q, e_meth_i, e_lst_v, e_lst_q, e_lst_i, e_bl1_v, e_bl1_q, e_bl1_i, e_comp_v, e_comp_q, e_comp_i, e_sub_v, e_fdiv_v, e_mod_v, e_pow_v, e_add_v, e_mul_v, e_add_q, e_mul_q, e_add_i, e_mul_i, e_not_v, e_not_t, e_and_v, e_and_t, e_or_v, e_or_t, e_cmp_v, e_cmp_t, e_rng_i, e_enum_i, e_zip_i, e_nil_a, e_cons_a, e_var_g, e_ix_g, e_tup_g, e_nil_gs, e_cons_gs, o_add, o_sub, o_add2, o_addt, o_mul, o_fdiv, o_mod, o_pow, o_aug, o_neg, m_eq, m_ne, m_lt, m_le, m_gt, m_ge, m_eqs, m_is, m_isnot, n_non, n_ref, n_int, n_tup, b_abs, b_int, b_len, b_max, b_min, l_list, r_1, r_2, t_bl, t_int, t_non, q_tup, q_rol, a_bl, d_none, d_some, d_int, u_all, u_if, g_nil, g_cons, isL_nil, isL_var, isL_int, isL_bl, isL_non, isL_str, isL_glob, isL_neg, isL_not, isL_and, isL_or, isL_ife, isL_cmp, isL_tup, isL_ix, isL_sl, isL_call, isL_bi, isL_bq, isL_meth, isL_rev, isL_step2, isL_lst, isL_bl1, isL_comp, isL_add, isL_mul, isL_sub, isL_fdiv, isL_mod, isL_pow, reduceIte, Bool.not_true, Bool.not_false, Bool.or_self, Bool.false_eq_true, isNonE, isNil, lenE, wipeM, Bool.or_true, Bool.true_or, Bool.or_false, List.getElem?_cons_succ, List.getElem?_cons_zero, List.set_cons_succ, List.set_cons_zero, List.length_cons, List.length_nil, List.length_map, rngL_length]
  by_cases z : (g : Int) < 3
  · rw [if_pos (decide_eq_true z)]
    rw [F.draw]
    refine ⟨a, b, ns, n + 1 + 1 + 1000 + 1 + 1 + 1000, 3, rfl, by omega, by omega, by omega, hns, dk8, fun v9 h9 v9a v9b dk9 fr9 => ?_⟩
    have t9 : ∀ c o, c ≠ a → h8 c = some o → h9 c = some o := fun c o z e => (fr9 c z).trans e
    have fin : ∀ H', Sub h9 H' → ∃ h0, Sub h0 H' ∧ Q (.bl true) h0 := fun H' s => ⟨H', Sub.refl _, post H' ((dk9.sub s).mono (by omega)) fun c o z e => s _ _ (t9 _ _ z (T8 _ _ z e))⟩
    simp only [e_var_v, e_var_t, e_var_q, e_var_i, e_int_v, e_int_t, e_int_q, e_int_i, e_bl_v, e_bl_t, e_bl_q, e_bl_i, e_non_v, e_non_t, e_non_q, e_non_i, e_str_v, e_str_t, e_str_q, e_str_i, e_glob_v, e_glob_t, e_glob_q, e_glob_i, e_neg_v, e_neg_t, e_neg_q, e_neg_i, e_ife_v, e_ife_t, e_ife_q, e_ife_i, e_tup_v, e_tup_t, e_tup_q, e_tup_i, e_ix_v, e_ix_t, e_ix_q, e_ix_i, e_sl_v, e_sl_t, e_sl_q, e_sl_i, e_call_v, e_call_t, e_call_q, e_call_i, e_bi_v, e_bi_t, e_bi_q, e_bi_i, e_bq_v, e_bq_t, e_bq_q, e_bq_i, e_meth_v, e_meth_t, e_meth_q, e_meth_i, e_lst_v, e_lst_q, e_lst_i, e_bl1_v, e_bl1_q, e_bl1_i, e_comp_v, e_comp_q, e_comp_i, e_sub_v, e_fdiv_v, e_mod_v, e_pow_v, e_add_v, e_mul_v, e_add_q, e_mul_q, e_add_i, e_mul_i, e_not_v, e_not_t, e_and_v, e_and_t, e_or_v, e_or_t, e_cmp_v, e_cmp_t, e_rng_i, e_enum_i, e_zip_i, e_nil_a, e_cons_a, e_var_g, e_ix_g, e_tup_g, e_nil_gs, e_cons_gs, o_add, o_sub, o_add2, o_addt, o_mul, o_fdiv, o_mod, o_pow, o_aug, o_neg, m_eq, m_ne, m_lt, m_le, m_gt, m_ge, m_eqs, m_is, m_isnot, n_non, n_ref, n_int, n_tup, b_abs, b_int, b_len, b_max, b_min, l_list, r_1, r_2, t_bl, t_int, t_non, q_tup, q_rol, a_bl, d_none, d_some, d_int, u_all, u_if, g_nil, g_cons, isL_nil, isL_var, isL_int, isL_bl, isL_non, isL_str, isL_glob, isL_neg, isL_not, isL_and, isL_or, isL_ife, isL_cmp, isL_tup, isL_ix, isL_sl, isL_call, isL_bi, isL_bq, isL_meth, isL_rev, isL_step2, isL_lst, isL_bl1, isL_comp, isL_add, isL_mul, isL_sub, isL_fdiv, isL_mod, isL_pow, reduceIte, Bool.not_true, Bool.not_false, Bool.or_self, Bool.false_eq_true, isNonE, isNil, lenE, wipeM, Bool.or_true, Bool.true_or, Bool.or_false, List.getElem?_cons_succ, List.getElem?_cons_zero, List.set_cons_succ, List.set_cons_zero, List.length_cons, List.length_nil, List.length_map, rngL_length]
    by_cases z2 : v9 = 0
    · rw [if_pos (decide_eq_true z2)]
      refine st_asg1 ?_
      simp only [e_var_v, e_var_t, e_var_q, e_var_i, e_int_v, e_int_t, e_int_q, e_int_i, e_bl_v, e_bl_t, e_bl_q, e_bl_i, e_non_v, e_non_t, e_non_q, e_non_i, e_str_v, e_str_t, e_str_q, e_str_i, e_glob_v, e_glob_t, e_glob_q, e_glob_i, e_neg_v, e_neg_t, e_neg_q, e_neg_i, e_ife_v, e_ife_t, e_ife_q, e_ife_i, e_tup_v, e_tup_t, e_tup_q, e_tup_i, e_ix_v, e_ix_t, e_ix_q, e_ix_i, e_sl_v, e_sl_t, e_sl_q, e_sl_i, e_call_v, e_call_t, e_call_q, e_call_i, e_bi_v, e_bi_t, e_bi_q, e_bi_i, e_bq_v, e_bq_t, e_bq_q, e_bq_i, e_meth_v, e_meth_t, e_meth_q, e_meth_i, e_lst_v, e_lst_q, e_lst_i, e_bl1_v, e_bl1_q, e_bl1_i, e_comp_v, e_comp_q, e_comp_i, e_sub_v, e_fdiv_v, e_mod_v, e_pow_v, e_add_v, e_mul_v, e_add_q, e_mul_q, e_add_i, e_mul_i, e_not_v, e_not_t, e_and_v, e_and_t, e_or_v, e_or_t, e_cmp_v, e_cmp_t, e_rng_i, e_enum_i, e_zip_i, e_nil_a, e_cons_a, e_var_g, e_ix_g, e_tup_g, e_nil_gs, e_cons_gs, o_add, o_sub, o_add2, o_addt, o_mul, o_fdiv, o_mod, o_pow, o_aug, o_neg, m_eq, m_ne, m_lt, m_le, m_gt, m_ge, m_eqs, m_is, m_isnot, n_non, n_ref, n_int, n_tup, b_abs, b_int, b_len, b_max, b_min, l_list, r_1, r_2, t_bl, t_int, t_non, q_tup, q_rol, a_bl, d_none, d_some, d_int, u_all, u_if, g_nil, g_cons, isL_nil, isL_var, isL_int, isL_bl, isL_non, isL_str, isL_glob, isL_neg, isL_not, isL_and, isL_or, isL_ife, isL_cmp, isL_tup, isL_ix, isL_sl, isL_call, isL_bi, isL_bq, isL_meth, isL_rev, isL_step2, isL_lst, isL_bl1, isL_comp, isL_add, isL_mul, isL_sub, isL_fdiv, isL_mod, isL_pow, reduceIte, Bool.not_true, Bool.not_false, Bool.or_self, Bool.false_eq_true, isNonE, isNil, lenE, wipeM, Bool.or_true, Bool.true_or, Bool.or_false, List.getElem?_cons_succ, List.getElem?_cons_zero, List.set_cons_succ, List.set_cons_zero, List.length_cons, List.length_nil, List.length_map, rngL_length]
      exact joined2 Φ F (show g + g ≤ 4 by omega) L1 L1 B1 B1 p1 p2 (t9 _ _ m4 x8) (t9 _ _ m4 x8) g1 fin
    · rw [if_neg (by simpa using z2)]
      refine st_skip ?_
      exact joined2 Φ F gk L1 L2 B1 B2 p1 p2 (t9 _ _ m4 x8) (t9 _ _ m8 hr8) g1 fin
  · rw [if_neg (by simpa using z)]
    refine st_skip ?_
    exact joined2 Φ F gk L1 L2 B1 B2 p1 p2 x8 hr8 g1 fun H' s => ⟨H', Sub.refl _, post H' ((dk8.sub s).mono (by omega)) fun c o z e => s _ _ (T8 _ _ z e)⟩
end Mp.K39

set_option Elab.async false
set_option linter.all false
set_option maxRecDepth 100000
set_option exponentiation.threshold 500
namespace Mp.K39
open PySem Mp
theorem bq_maxF {k : QK} {h : MH} {K : KE} {f : Nat → Int} {n : Nat} (hk : k.isT = false) (hn : 0 < n) (q : ∀ m, (∀ j, j < n → f j ≤ m) → K (.int m) h) : bqM .max k ((List.range n).map fun j => .int (f j)) h K :=
  ⟨hk, (List.range n).map f, by rw [List.map_map]; rfl, by simpa using hn, fun m _ g => q m fun j hj => g _ (List.mem_map.mpr ⟨j, List.mem_range.mpr hj, rfl⟩)⟩
theorem map_getD (ds : List Int) : (List.range ds.length).map (fun j => ds.getD j 0) = ds := by
  refine List.ext_getElem? fun i => ?_
  by_cases h : i < ds.length
  · rw [List.getElem?_map, List.getElem?_range h, Option.map_some, List.getD_eq_getElem?_getD, List.getElem?_eq_getElem h]; rfl
  · rw [List.getElem?_eq_none (by simp; omega), List.getElem?_eq_none (by omega)]
theorem abs_of {x : Int} {m : Int} (h : (if x < 0 then -x else x) ≤ m) : x.natAbs ≤ m.toNat := by split at h <;> omega
theorem changed2 (Φ : Phi) (F : Fns Φ) {D : DM} {H : MH} {p : Int} {a c d : Nat} {g : Int} {ds : List Int} {x5 x8 : Option M} (d1 : 1 ≤ ds.length) (d4 : ds.length ≤ 4) (p1 : 1 ≤ p) (p2 : p ≤ 61) (hd : H d = some (LI ds))
    (fin : ∀ H', Sub H H' → D.rt (.bl true) H') :
    wS Φ W0 (.seq (.iff (.cmp .gt (.bq .max (.comp [9] (.var 9) (.var 4) .nil (.bi .abs (.cons (.var 9) .nil)))) (.op .pow (.int 10) (.int 9))) (.ret (.bl true)) .skip) (.seq (.asg (.var 6) (.op .add (.lst (.cons (.int 0) .nil)) (.comp [9] (.var 9) (.rng (.cons (.bi .len (.cons (.var 4) .nil)) .nil)) .nil (.op .sub (.op .add (.call "_law_raised" (.cons (.var 1) (.cons (.op .add (.var 9) (.int 1)) .nil))) (.int 1)) (.ix (.var 4) (.var 9)))))) (.seq (.asg (.var 7) (.call "_law_of_sums" (.cons (.var 6) (.cons (.var 1) (.cons (.bi .len (.cons (.var 4) .nil)) .nil))))) (.seq (.iff (.not (.call "_law_is" (.cons (.call "list_of_counts" (.cons (.var 1) (.cons (.bl1 .list (.var 4)) .nil))) (.cons (.var 7) .nil)))) (.ret (.bl false)) .skip) (.ret (.or (.cmp .is (.var 7) .non) (.or (.cmp .gt (.bq .max (.comp [10] (.var 10) (.sl (.var 7) .non (.op .add (.bi .len (.cons (.var 4) .nil)) (.int 1))) .nil (.bi .abs (.cons (.var 10) .nil)))) (.op .pow (.int 10) (.int 9))) (.call "_law_is" (.cons (.call "counts_of" (.cons (.var 1) (.cons (.var 7) (.cons (.bi .len (.cons (.var 4) .nil)) .nil)))) (.cons (.var 4) .nil)))))))))) D
      [some (.ref a), some (.int p), some (.ref c), some (.int g), some (.ref d), x5, none, none, x8, none, none] H := by
  have hΦ := F.mono
  have hp : p.natAbs < 2 ^ 100 := Nat.lt_of_lt_of_le (m := 1000) (by omega) (by decide)
  refine st_iff hΦ ?_
  simp only [e_var_v, e_var_t, e_var_q, e_var_i, e_int_v, e_int_t, e_int_q, e_int_i, e_bl_v, e_bl_t, e_bl_q, e_bl_i, e_non_v, e_non_t, e_non_q, e_non_i, e_str_v, e_str_t, e_str_q, e_str_i, e_glob_v, e_glob_t, e_glob_q, e_glob_i, e_neg_v, e_neg_t, e_neg_q, e_neg_i, e_ife_v, e_ife_t, e_ife_q, e_ife_i, e_tup_v, e_tup_t, e_tup_q, e_tup_i, e_ix_v, e_ix_t, e_ix_q, e_ix_i, e_sl_v, e_sl_t, e_sl_q, e_sl_i, e_call_v, e_call_t, e_call_q, e_call_i, e_bi_v, e_bi_t, e_bi_q, e_bi_i, e_bq_v, e_bq_t, e_bq_q, e_bq_i, e_meth_v, e_meth_t, e_meth_q, e_meth_i, e_lst_v, e_lst_q, e_lst_i, e_bl1_v, e_bl1_q, e_bl1_i, e_comp_v, e_comp_q, e_comp_i, e_sub_v, e_fdiv_v, e_mod_v, e_pow_v, e_add_v, e_mul_v, e_add_q, e_mul_q, e_add_i, e_mul_i, e_not_v, e_not_t, e_and_v, e_and_t, e_or_v, e_or_t, e_cmp_v, e_cmp_t, e_rng_i, e_enum_i, e_zip_i, e_nil_a, e_cons_a, e_var_g, e_ix_g, e_tup_g, e_nil_gs, e_cons_gs, o_add, o_sub, o_add2, o_addt, o_mul, o_fdiv, o_mod, o_pow, o_aug, o_neg, m_eq, m_ne, m_lt, m_le, m_gt, m_ge, m_eqs, m_is, m_isnot, n_non, n_ref, n_int, n_tup, b_abs, b_int, b_len, b_max, b_min, l_list, r_1, r_2, t_bl, t_int, t_non, q_tup, q_rol, a_bl, d_none, d_some, d_int, u_all, u_if, g_nil, g_cons, isL_nil, isL_var, isL_int, isL_bl, isL_non, isL_str, isL_glob, isL_neg, isL_not, isL_and, isL_or, isL_ife, isL_cmp, isL_tup, isL_ix, isL_sl, isL_call, isL_bi, isL_bq, isL_meth, isL_rev, isL_step2, isL_lst, isL_bl1, isL_comp, isL_add, isL_mul, isL_sub, isL_fdiv, isL_mod, isL_pow, reduceIte, Bool.not_true, Bool.not_false, Bool.or_self, Bool.false_eq_true, isNonE, isNil, lenE, wipeM, Bool.or_true, Bool.true_or, Bool.or_false, List.getElem?_cons_succ, List.getElem?_cons_zero, List.set_cons_succ, List.set_cons_zero, List.length_cons, List.length_nil, List.length_map, rngL_length]
  refine asQ_ref hd ?_
  refine ⟨by rw [List.length_map]; have := hSZ; omega, ?_⟩
  refine compI_pure hΦ (fun j => .int (if ds.getD j 0 < 0 then -ds.getD j 0 else ds.getD j 0)) ⟨hd, trivial⟩ ?_ ?_
  · intro j m R ej hR
    obtain ⟨n, en, rfl⟩ := intmap_get ej
    simp only [e_var_v, e_var_t, e_var_q, e_var_i, e_int_v, e_int_t, e_int_q, e_int_i, e_bl_v, e_bl_t, e_bl_q, e_bl_i, e_non_v, e_non_t, e_non_q, e_non_i, e_str_v, e_str_t, e_str_q, e_str_i, e_glob_v, e_glob_t, e_glob_q, e_glob_i, e_neg_v, e_neg_t, e_neg_q, e_neg_i, e_ife_v, e_ife_t, e_ife_q, e_ife_i, e_tup_v, e_tup_t, e_tup_q, e_tup_i, e_ix_v, e_ix_t, e_ix_q, e_ix_i, e_sl_v, e_sl_t, e_sl_q, e_sl_i, e_call_v, e_call_t, e_call_q, e_call_i, e_bi_v, e_bi_t, e_bi_q, e_bi_i, e_bq_v, e_bq_t, e_bq_q, e_bq_i, e_meth_v, e_meth_t, e_meth_q, e_meth_i, e_lst_v, e_lst_q, e_lst_i, e_bl1_v, e_bl1_q, e_bl1_i, e_comp_v, e_comp_q, e_comp_i, e_sub_v, e_fdiv_v, e_mod_v, e_pow_v, e_add_v, e_mul_v, e_add_q, e_mul_q, e_add_i, e_mul_i, e_not_v, e_not_t, e_and_v, e_and_t, e_or_v, e_or_t, e_cmp_v, e_cmp_t, e_rng_i, e_enum_i, e_zip_i, e_nil_a, e_cons_a, e_var_g, e_ix_g, e_tup_g, e_nil_gs, e_cons_gs, o_add, o_sub, o_add2, o_addt, o_mul, o_fdiv, o_mod, o_pow, o_aug, o_neg, m_eq, m_ne, m_lt, m_le, m_gt, m_ge, m_eqs, m_is, m_isnot, n_non, n_ref, n_int, n_tup, b_abs, b_int, b_len, b_max, b_min, l_list, r_1, r_2, t_bl, t_int, t_non, q_tup, q_rol, a_bl, d_none, d_some, d_int, u_all, u_if, g_nil, g_cons, isL_nil, isL_var, isL_int, isL_bl, isL_non, isL_str, isL_glob, isL_neg, isL_not, isL_and, isL_or, isL_ife, isL_cmp, isL_tup, isL_ix, isL_sl, isL_call, isL_bi, isL_bq, isL_meth, isL_rev, isL_step2, isL_lst, isL_bl1, isL_comp, isL_add, isL_mul, isL_sub, isL_fdiv, isL_mod, isL_pow, reduceIte, Bool.not_true, Bool.not_false, Bool.or_self, Bool.false_eq_true, isNonE, isNil, lenE, wipeM, Bool.or_true, Bool.true_or, Bool.or_false, List.getElem?_cons_succ, List.getElem?_cons_zero, List.set_cons_succ, List.set_cons_zero, List.length_cons, List.length_nil, List.length_map, rngL_length]
    have : ds.getD j 0 = n := by rw [List.getD_eq_getElem?_getD, en]; rfl
    rw [this] at hR
    exact hR
  rw [List.length_map]
  refine ⟨trivial, bq_maxF rfl (by omega) fun mx hmx => ?_⟩
  simp only [e_var_v, e_var_t, e_var_q, e_var_i, e_int_v, e_int_t, e_int_q, e_int_i, e_bl_v, e_bl_t, e_bl_q, e_bl_i, e_non_v, e_non_t, e_non_q, e_non_i, e_str_v, e_str_t, e_str_q, e_str_i, e_glob_v, e_glob_t, e_glob_q, e_glob_i, e_neg_v, e_neg_t, e_neg_q, e_neg_i, e_ife_v, e_ife_t, e_ife_q, e_ife_i, e_tup_v, e_tup_t, e_tup_q, e_tup_i, e_ix_v, e_ix_t, e_ix_q, e_ix_i, e_sl_v, e_sl_t, e_sl_q, e_sl_i, e_call_v, e_call_t, e_call_q, e_call_i, e_bi_v, e_bi_t, e_bi_q, e_bi_i, e_bq_v, e_bq_t, e_bq_q, e_bq_i, e_meth_v, e_meth_t, e_meth_q, e_meth_i, e_lst_v, e_lst_q, e_lst_i, e_bl1_v, e_bl1_q, e_bl1_i, e_comp_v, e_comp_q, e_comp_i, e_sub_v, e_fdiv_v, e_mod_v, e_pow_v, e_add_v, e_mul_v, e_add_q, e_mul_q, e_add_i, e_mul_i, e_not_v, e_not_t, e_and_v, e_and_t, e_or_v, e_or_t, e_cmp_v, e_cmp_t, e_rng_i, e_enum_i, e_zip_i, e_nil_a, e_cons_a, e_var_g, e_ix_g, e_tup_g, e_nil_gs, e_cons_gs, o_add, o_sub, o_add2, o_addt, o_mul, o_fdiv, o_mod, o_pow, o_aug, o_neg, m_eq, m_ne, m_lt, m_le, m_gt, m_ge, m_eqs, m_is, m_isnot, n_non, n_ref, n_int, n_tup, b_abs, b_int, b_len, b_max, b_min, l_list, r_1, r_2, t_bl, t_int, t_non, q_tup, q_rol, a_bl, d_none, d_some, d_int, u_all, u_if, g_nil, g_cons, isL_nil, isL_var, isL_int, isL_bl, isL_non, isL_str, isL_glob, isL_neg, isL_not, isL_and, isL_or, isL_ife, isL_cmp, isL_tup, isL_ix, isL_sl, isL_call, isL_bi, isL_bq, isL_meth, isL_rev, isL_step2, isL_lst, isL_bl1, isL_comp, isL_add, isL_mul, isL_sub, isL_fdiv, isL_mod, isL_pow, reduceIte, Bool.not_true, Bool.not_false, Bool.or_self, Bool.false_eq_true, isNonE, isNil, lenE, wipeM, Bool.or_true, Bool.true_or, Bool.or_false, List.getElem?_cons_succ, List.getElem?_cons_zero, List.set_cons_succ, List.set_cons_zero, List.length_cons, List.length_nil, List.length_map, rngL_length]
  refine ⟨by decide, ?_⟩
  by_cases z : (10 : Int) ^ (9 : Int).toNat < mx
  · rw [if_pos (decide_eq_true z)]
    refine st_ret ?_
    simp only [e_var_v, e_var_t, e_var_q, e_var_i, e_int_v, e_int_t, e_int_q, e_int_i, e_bl_v, e_bl_t, e_bl_q, e_bl_i, e_non_v, e_non_t, e_non_q, e_non_i, e_str_v, e_str_t, e_str_q, e_str_i, e_glob_v, e_glob_t, e_glob_q, e_glob_i, e_neg_v, e_neg_t, e_neg_q, e_neg_i, e_ife_v, e_ife_t, e_ife_q, e_ife_i, e_tup_v, e_tup_t, e_tup_q, e_tup_i, e_ix_v, e_ix_t, e_ix_q, e_ix_i, e_sl_v, e_sl_t, e_sl_q, e_sl_i, e_call_v, e_call_t, e_call_q, e_call_i, e_bi_v, e_bi_t, e_bi_q, e_bi_i, e_bq_v, e_bq_t, e_bq_q, e_bq_i, e_meth_v, e_meth_t, e_meth_q, e_meth_i, e_lst_v, e_lst_q, e_lst_i, e_bl1_v, e_bl1_q, e_bl1_i, e_comp_v, e_comp_q, e_comp_i, e_sub_v, e_fdiv_v, e_mod_v, e_pow_v, e_add_v, e_mul_v, e_add_q, e_mul_q, e_add_i, e_mul_i, e_not_v, e_not_t, e_and_v, e_and_t, e_or_v, e_or_t, e_cmp_v, e_cmp_t, e_rng_i, e_enum_i, e_zip_i, e_nil_a, e_cons_a, e_var_g, e_ix_g, e_tup_g, e_nil_gs, e_cons_gs, o_add, o_sub, o_add2, o_addt, o_mul, o_fdiv, o_mod, o_pow, o_aug, o_neg, m_eq, m_ne, m_lt, m_le, m_gt, m_ge, m_eqs, m_is, m_isnot, n_non, n_ref, n_int, n_tup, b_abs, b_int, b_len, b_max, b_min, l_list, r_1, r_2, t_bl, t_int, t_non, q_tup, q_rol, a_bl, d_none, d_some, d_int, u_all, u_if, g_nil, g_cons, isL_nil, isL_var, isL_int, isL_bl, isL_non, isL_str, isL_glob, isL_neg, isL_not, isL_and, isL_or, isL_ife, isL_cmp, isL_tup, isL_ix, isL_sl, isL_call, isL_bi, isL_bq, isL_meth, isL_rev, isL_step2, isL_lst, isL_bl1, isL_comp, isL_add, isL_mul, isL_sub, isL_fdiv, isL_mod, isL_pow, reduceIte, Bool.not_true, Bool.not_false, Bool.or_self, Bool.false_eq_true, isNonE, isNil, lenE, wipeM, Bool.or_true, Bool.true_or, Bool.or_false, List.getElem?_cons_succ, List.getElem?_cons_zero, List.set_cons_succ, List.set_cons_zero, List.length_cons, List.length_nil, List.length_map, rngL_length]
    exact fin _ (Sub.refl _)
  rw [if_neg (by simpa using z)]
  have mx9 : mx ≤ 1000000000 := by
    have : (10 : Int) ^ (9 : Int).toNat = 1000000000 := by decide
    omega
  have bd : ∀ x ∈ ds, x.natAbs ≤ 1000000000 := fun x hx => by
    obtain ⟨j, hj, e⟩ := List.getElem_of_mem hx
    have := abs_of (hmx j hj)
    rw [List.getD_eq_getElem?_getD, List.getElem?_eq_getElem hj] at this
    have e' : (some ds[j]).getD 0 = x := e
    rw [e'] at this; omega
  refine st_skip ?_
  dsimp only
  refine st_asg hΦ ?_
  simp only [e_var_v, e_var_t, e_var_q, e_var_i, e_int_v, e_int_t, e_int_q, e_int_i, e_bl_v, e_bl_t, e_bl_q, e_bl_i, e_non_v, e_non_t, e_non_q, e_non_i, e_str_v, e_str_t, e_str_q, e_str_i, e_glob_v, e_glob_t, e_glob_q, e_glob_i, e_neg_v, e_neg_t, e_neg_q, e_neg_i, e_ife_v, e_ife_t, e_ife_q, e_ife_i, e_tup_v, e_tup_t, e_tup_q, e_tup_i, e_ix_v, e_ix_t, e_ix_q, e_ix_i, e_sl_v, e_sl_t, e_sl_q, e_sl_i, e_call_v, e_call_t, e_call_q, e_call_i, e_bi_v, e_bi_t, e_bi_q, e_bi_i, e_bq_v, e_bq_t, e_bq_q, e_bq_i, e_meth_v, e_meth_t, e_meth_q, e_meth_i, e_lst_v, e_lst_q, e_lst_i, e_bl1_v, e_bl1_q, e_bl1_i, e_comp_v, e_comp_q, e_comp_i, e_sub_v, e_fdiv_v, e_mod_v, e_pow_v, e_add_v, e_mul_v, e_add_q, e_mul_q, e_add_i, e_mul_i, e_not_v, e_not_t, e_and_v, e_and_t, e_or_v, e_or_t, e_cmp_v, e_cmp_t, e_rng_i, e_enum_i, e_zip_i, e_nil_a, e_cons_a, e_var_g, e_ix_g, e_tup_g, e_nil_gs, e_cons_gs, o_add, o_sub, o_add2, o_addt, o_mul, o_fdiv, o_mod, o_pow, o_aug, o_neg, m_eq, m_ne, m_lt, m_le, m_gt, m_ge, m_eqs, m_is, m_isnot, n_non, n_ref, n_int, n_tup, b_abs, b_int, b_len, b_max, b_min, l_list, r_1, r_2, t_bl, t_int, t_non, q_tup, q_rol, a_bl, d_none, d_some, d_int, u_all, u_if, g_nil, g_cons, isL_nil, isL_var, isL_int, isL_bl, isL_non, isL_str, isL_glob, isL_neg, isL_not, isL_and, isL_or, isL_ife, isL_cmp, isL_tup, isL_ix, isL_sl, isL_call, isL_bi, isL_bq, isL_meth, isL_rev, isL_step2, isL_lst, isL_bl1, isL_comp, isL_add, isL_mul, isL_sub, isL_fdiv, isL_mod, isL_pow, reduceIte, Bool.not_true, Bool.not_false, Bool.or_self, Bool.false_eq_true, isNonE, isNil, lenE, wipeM, Bool.or_true, Bool.true_or, Bool.or_false, List.getElem?_cons_succ, List.getElem?_cons_zero, List.set_cons_succ, List.set_cons_zero, List.length_cons, List.length_nil, List.length_map, rngL_length, len_int hd]
  refine ⟨by omega, by omega, by have := hSZ; omega, ?_⟩
  rw [show ((ds.length : Nat) : Int).toNat = ds.length by omega]
  refine compI_pure hΦ (fun j => .int (p ^ (j + 1) + 1 - ds.getD j 0)) trivial ?_ ?_
  · intro j m R ej hR
    obtain ⟨hj, rfl⟩ := rng_get ej
    simp only [e_var_v, e_var_t, e_var_q, e_var_i, e_int_v, e_int_t, e_int_q, e_int_i, e_bl_v, e_bl_t, e_bl_q, e_bl_i, e_non_v, e_non_t, e_non_q, e_non_i, e_str_v, e_str_t, e_str_q, e_str_i, e_glob_v, e_glob_t, e_glob_q, e_glob_i, e_neg_v, e_neg_t, e_neg_q, e_neg_i, e_ife_v, e_ife_t, e_ife_q, e_ife_i, e_tup_v, e_tup_t, e_tup_q, e_tup_i, e_ix_v, e_ix_t, e_ix_q, e_ix_i, e_sl_v, e_sl_t, e_sl_q, e_sl_i, e_call_v, e_call_t, e_call_q, e_call_i, e_bi_v, e_bi_t, e_bi_q, e_bi_i, e_bq_v, e_bq_t, e_bq_q, e_bq_i, e_meth_v, e_meth_t, e_meth_q, e_meth_i, e_lst_v, e_lst_q, e_lst_i, e_bl1_v, e_bl1_q, e_bl1_i, e_comp_v, e_comp_q, e_comp_i, e_sub_v, e_fdiv_v, e_mod_v, e_pow_v, e_add_v, e_mul_v, e_add_q, e_mul_q, e_add_i, e_mul_i, e_not_v, e_not_t, e_and_v, e_and_t, e_or_v, e_or_t, e_cmp_v, e_cmp_t, e_rng_i, e_enum_i, e_zip_i, e_nil_a, e_cons_a, e_var_g, e_ix_g, e_tup_g, e_nil_gs, e_cons_gs, o_add, o_sub, o_add2, o_addt, o_mul, o_fdiv, o_mod, o_pow, o_aug, o_neg, m_eq, m_ne, m_lt, m_le, m_gt, m_ge, m_eqs, m_is, m_isnot, n_non, n_ref, n_int, n_tup, b_abs, b_int, b_len, b_max, b_min, l_list, r_1, r_2, t_bl, t_int, t_non, q_tup, q_rol, a_bl, d_none, d_some, d_int, u_all, u_if, g_nil, g_cons, isL_nil, isL_var, isL_int, isL_bl, isL_non, isL_str, isL_glob, isL_neg, isL_not, isL_and, isL_or, isL_ife, isL_cmp, isL_tup, isL_ix, isL_sl, isL_call, isL_bi, isL_bq, isL_meth, isL_rev, isL_step2, isL_lst, isL_bl1, isL_comp, isL_add, isL_mul, isL_sub, isL_fdiv, isL_mod, isL_pow, reduceIte, Bool.not_true, Bool.not_false, Bool.or_self, Bool.false_eq_true, isNonE, isNil, lenE, wipeM, Bool.or_true, Bool.true_or, Bool.or_false, List.getElem?_cons_succ, List.getElem?_cons_zero, List.set_cons_succ, List.set_cons_zero, List.length_cons, List.length_nil, List.length_map, rngL_length]
    rw [F.lraised]
    refine ⟨p, _, rfl, by omega, by omega, p1, hp, ?_⟩
    simp only [e_var_v, e_var_t, e_var_q, e_var_i, e_int_v, e_int_t, e_int_q, e_int_i, e_bl_v, e_bl_t, e_bl_q, e_bl_i, e_non_v, e_non_t, e_non_q, e_non_i, e_str_v, e_str_t, e_str_q, e_str_i, e_glob_v, e_glob_t, e_glob_q, e_glob_i, e_neg_v, e_neg_t, e_neg_q, e_neg_i, e_ife_v, e_ife_t, e_ife_q, e_ife_i, e_tup_v, e_tup_t, e_tup_q, e_tup_i, e_ix_v, e_ix_t, e_ix_q, e_ix_i, e_sl_v, e_sl_t, e_sl_q, e_sl_i, e_call_v, e_call_t, e_call_q, e_call_i, e_bi_v, e_bi_t, e_bi_q, e_bi_i, e_bq_v, e_bq_t, e_bq_q, e_bq_i, e_meth_v, e_meth_t, e_meth_q, e_meth_i, e_lst_v, e_lst_q, e_lst_i, e_bl1_v, e_bl1_q, e_bl1_i, e_comp_v, e_comp_q, e_comp_i, e_sub_v, e_fdiv_v, e_mod_v, e_pow_v, e_add_v, e_mul_v, e_add_q, e_mul_q, e_add_i, e_mul_i, e_not_v, e_not_t, e_and_v, e_and_t, e_or_v, e_or_t, e_cmp_v, e_cmp_t, e_rng_i, e_enum_i, e_zip_i, e_nil_a, e_cons_a, e_var_g, e_ix_g, e_tup_g, e_nil_gs, e_cons_gs, o_add, o_sub, o_add2, o_addt, o_mul, o_fdiv, o_mod, o_pow, o_aug, o_neg, m_eq, m_ne, m_lt, m_le, m_gt, m_ge, m_eqs, m_is, m_isnot, n_non, n_ref, n_int, n_tup, b_abs, b_int, b_len, b_max, b_min, l_list, r_1, r_2, t_bl, t_int, t_non, q_tup, q_rol, a_bl, d_none, d_some, d_int, u_all, u_if, g_nil, g_cons, isL_nil, isL_var, isL_int, isL_bl, isL_non, isL_str, isL_glob, isL_neg, isL_not, isL_and, isL_or, isL_ife, isL_cmp, isL_tup, isL_ix, isL_sl, isL_call, isL_bi, isL_bq, isL_meth, isL_rev, isL_step2, isL_lst, isL_bl1, isL_comp, isL_add, isL_mul, isL_sub, isL_fdiv, isL_mod, isL_pow, reduceIte, Bool.not_true, Bool.not_false, Bool.or_self, Bool.false_eq_true, isNonE, isNil, lenE, wipeM, Bool.or_true, Bool.true_or, Bool.or_false, List.getElem?_cons_succ, List.getElem?_cons_zero, List.set_cons_succ, List.set_cons_zero, List.length_cons, List.length_nil, List.length_map, rngL_length]
    refine ix_int hd (by omega) (by omega) ?_
    rw [show (0 + (j : Int) * 1 + 1).toNat = j + 1 by omega, show (0 + (j : Int) * 1).toNat = j by omega]
    simp only [e_var_v, e_var_t, e_var_q, e_var_i, e_int_v, e_int_t, e_int_q, e_int_i, e_bl_v, e_bl_t, e_bl_q, e_bl_i, e_non_v, e_non_t, e_non_q, e_non_i, e_str_v, e_str_t, e_str_q, e_str_i, e_glob_v, e_glob_t, e_glob_q, e_glob_i, e_neg_v, e_neg_t, e_neg_q, e_neg_i, e_ife_v, e_ife_t, e_ife_q, e_ife_i, e_tup_v, e_tup_t, e_tup_q, e_tup_i, e_ix_v, e_ix_t, e_ix_q, e_ix_i, e_sl_v, e_sl_t, e_sl_q, e_sl_i, e_call_v, e_call_t, e_call_q, e_call_i, e_bi_v, e_bi_t, e_bi_q, e_bi_i, e_bq_v, e_bq_t, e_bq_q, e_bq_i, e_meth_v, e_meth_t, e_meth_q, e_meth_i, e_lst_v, e_lst_q, e_lst_i, e_bl1_v, e_bl1_q, e_bl1_i, e_comp_v, e_comp_q, e_comp_i, e_sub_v, e_fdiv_v, e_mod_v, e_pow_v, e_add_v, e_mul_v, e_add_q, e_mul_q, e_add_i, e_mul_i, e_not_v, e_not_t, e_and_v, e_and_t, e_or_v, e_or_t, e_cmp_v, e_cmp_t, e_rng_i, e_enum_i, e_zip_i, e_nil_a, e_cons_a, e_var_g, e_ix_g, e_tup_g, e_nil_gs, e_cons_gs, o_add, o_sub, o_add2, o_addt, o_mul, o_fdiv, o_mod, o_pow, o_aug, o_neg, m_eq, m_ne, m_lt, m_le, m_gt, m_ge, m_eqs, m_is, m_isnot, n_non, n_ref, n_int, n_tup, b_abs, b_int, b_len, b_max, b_min, l_list, r_1, r_2, t_bl, t_int, t_non, q_tup, q_rol, a_bl, d_none, d_some, d_int, u_all, u_if, g_nil, g_cons, isL_nil, isL_var, isL_int, isL_bl, isL_non, isL_str, isL_glob, isL_neg, isL_not, isL_and, isL_or, isL_ife, isL_cmp, isL_tup, isL_ix, isL_sl, isL_call, isL_bi, isL_bq, isL_meth, isL_rev, isL_step2, isL_lst, isL_bl1, isL_comp, isL_add, isL_mul, isL_sub, isL_fdiv, isL_mod, isL_pow, reduceIte, Bool.not_true, Bool.not_false, Bool.or_self, Bool.false_eq_true, isNonE, isNil, lenE, wipeM, Bool.or_true, Bool.true_or, Bool.or_false, List.getElem?_cons_succ, List.getElem?_cons_zero, List.set_cons_succ, List.set_cons_zero, List.length_cons, List.length_nil, List.length_map, rngL_length]
    exact hR
  rw [rngL_length]
  refine ⟨trivial, trivial, trivial, trivial, by simp only [List.length_map, List.length_cons, List.length_nil, List.length_range]; have := hSZ; omega, trivial, ?_⟩
  generalize hss : (0 : Int) :: (List.range ds.length).map (fun j => p ^ (j + 1) + 1 - ds.getD j 0) = ss
  have ess : [M.int 0] ++ (List.range ds.length).map (fun j => M.int (p ^ (j + 1) + 1 - ds.getD j 0)) = ss.map M.int := by rw [← hss, List.map_cons, List.map_map]; rfl
  rw [ess]
  have lss : ss.length = ds.length + 1 := by rw [← hss]; simp
  have tss : ∀ k, 1 ≤ k → k ≤ ds.length → - ss.getD k 0 = tt p ds k := fun k k1 k2 => by
    obtain ⟨j, rfl⟩ : ∃ j, k = j + 1 := ⟨k - 1, by omega⟩
    rw [← hss]
    show - ((List.range ds.length).map (fun j => p ^ (j + 1) + 1 - ds.getD j 0)).getD j 0 = _
    rw [List.getD_eq_getElem?_getD, List.getElem?_map, List.getElem?_range (by omega)]
    show - (p ^ (j + 1) + 1 - ds.getD j 0) = ds.getD (j + 1 - 1) 0 - p ^ (j + 1) - 1
    rw [show j + 1 - 1 = j by omega]; omega
  intro q1 n1
  obtain ⟨h1, eh, s1, e1⟩ := newc n1 (.lst (ss.map M.int))
  rw [eh]
  clear eh
  have b300 : ∀ x ∈ ds, x.natAbs < 2 ^ 300 := fun x hx => Nat.lt_of_le_of_lt (bd x hx) (by decide)
  have tb : ∀ k, 1 ≤ k → (tt p ds k).natAbs ≤ (2 ^ 301) ^ k := fun k k1 => tt_bnd b300 hp k k1
  refine st_asg hΦ ?_
  simp only [e_var_v, e_var_t, e_var_q, e_var_i, e_int_v, e_int_t, e_int_q, e_int_i, e_bl_v, e_bl_t, e_bl_q, e_bl_i, e_non_v, e_non_t, e_non_q, e_non_i, e_str_v, e_str_t, e_str_q, e_str_i, e_glob_v, e_glob_t, e_glob_q, e_glob_i, e_neg_v, e_neg_t, e_neg_q, e_neg_i, e_ife_v, e_ife_t, e_ife_q, e_ife_i, e_tup_v, e_tup_t, e_tup_q, e_tup_i, e_ix_v, e_ix_t, e_ix_q, e_ix_i, e_sl_v, e_sl_t, e_sl_q, e_sl_i, e_call_v, e_call_t, e_call_q, e_call_i, e_bi_v, e_bi_t, e_bi_q, e_bi_i, e_bq_v, e_bq_t, e_bq_q, e_bq_i, e_meth_v, e_meth_t, e_meth_q, e_meth_i, e_lst_v, e_lst_q, e_lst_i, e_bl1_v, e_bl1_q, e_bl1_i, e_comp_v, e_comp_q, e_comp_i, e_sub_v, e_fdiv_v, e_mod_v, e_pow_v, e_add_v, e_mul_v, e_add_q, e_mul_q, e_add_i, e_mul_i, e_not_v, e_not_t, e_and_v, e_and_t, e_or_v, e_or_t, e_cmp_v, e_cmp_t, e_rng_i, e_enum_i, e_zip_i, e_nil_a, e_cons_a, e_var_g, e_ix_g, e_tup_g, e_nil_gs, e_cons_gs, o_add, o_sub, o_add2, o_addt, o_mul, o_fdiv, o_mod, o_pow, o_aug, o_neg, m_eq, m_ne, m_lt, m_le, m_gt, m_ge, m_eqs, m_is, m_isnot, n_non, n_ref, n_int, n_tup, b_abs, b_int, b_len, b_max, b_min, l_list, r_1, r_2, t_bl, t_int, t_non, q_tup, q_rol, a_bl, d_none, d_some, d_int, u_all, u_if, g_nil, g_cons, isL_nil, isL_var, isL_int, isL_bl, isL_non, isL_str, isL_glob, isL_neg, isL_not, isL_and, isL_or, isL_ife, isL_cmp, isL_tup, isL_ix, isL_sl, isL_call, isL_bi, isL_bq, isL_meth, isL_rev, isL_step2, isL_lst, isL_bl1, isL_comp, isL_add, isL_mul, isL_sub, isL_fdiv, isL_mod, isL_pow, reduceIte, Bool.not_true, Bool.not_false, Bool.or_self, Bool.false_eq_true, isNonE, isNil, lenE, wipeM, Bool.or_true, Bool.true_or, Bool.or_false, List.getElem?_cons_succ, List.getElem?_cons_zero, List.set_cons_succ, List.set_cons_zero, List.length_cons, List.length_nil, List.length_map, rngL_length, len_int (s1 _ _ hd)]
  rw [F.ofs]
  refine ⟨q1, ss, p, ds.length, rfl, e1, lss, by omega, fun k k1 k2 => by rw [tss k k1 k2]; exact tb k k1, p1, hp, ?_⟩
  rw [mk_congr (u := tt p ds) fun i a b => tss i a b]
  cases em : mk (tt p ds) ds.length with
  | none =>
    simp only []
    refine st_iff hΦ ?_
    simp only [e_var_v, e_var_t, e_var_q, e_var_i, e_int_v, e_int_t, e_int_q, e_int_i, e_bl_v, e_bl_t, e_bl_q, e_bl_i, e_non_v, e_non_t, e_non_q, e_non_i, e_str_v, e_str_t, e_str_q, e_str_i, e_glob_v, e_glob_t, e_glob_q, e_glob_i, e_neg_v, e_neg_t, e_neg_q, e_neg_i, e_ife_v, e_ife_t, e_ife_q, e_ife_i, e_tup_v, e_tup_t, e_tup_q, e_tup_i, e_ix_v, e_ix_t, e_ix_q, e_ix_i, e_sl_v, e_sl_t, e_sl_q, e_sl_i, e_call_v, e_call_t, e_call_q, e_call_i, e_bi_v, e_bi_t, e_bi_q, e_bi_i, e_bq_v, e_bq_t, e_bq_q, e_bq_i, e_meth_v, e_meth_t, e_meth_q, e_meth_i, e_lst_v, e_lst_q, e_lst_i, e_bl1_v, e_bl1_q, e_bl1_i, e_comp_v, e_comp_q, e_comp_i, e_sub_v, e_fdiv_v, e_mod_v, e_pow_v, e_add_v, e_mul_v, e_add_q, e_mul_q, e_add_i, e_mul_i, e_not_v, e_not_t, e_and_v, e_and_t, e_or_v, e_or_t, e_cmp_v, e_cmp_t, e_rng_i, e_enum_i, e_zip_i, e_nil_a, e_cons_a, e_var_g, e_ix_g, e_tup_g, e_nil_gs, e_cons_gs, o_add, o_sub, o_add2, o_addt, o_mul, o_fdiv, o_mod, o_pow, o_aug, o_neg, m_eq, m_ne, m_lt, m_le, m_gt, m_ge, m_eqs, m_is, m_isnot, n_non, n_ref, n_int, n_tup, b_abs, b_int, b_len, b_max, b_min, l_list, r_1, r_2, t_bl, t_int, t_non, q_tup, q_rol, a_bl, d_none, d_some, d_int, u_all, u_if, g_nil, g_cons, isL_nil, isL_var, isL_int, isL_bl, isL_non, isL_str, isL_glob, isL_neg, isL_not, isL_and, isL_or, isL_ife, isL_cmp, isL_tup, isL_ix, isL_sl, isL_call, isL_bi, isL_bq, isL_meth, isL_rev, isL_step2, isL_lst, isL_bl1, isL_comp, isL_add, isL_mul, isL_sub, isL_fdiv, isL_mod, isL_pow, reduceIte, Bool.not_true, Bool.not_false, Bool.or_self, Bool.false_eq_true, isNonE, isNil, lenE, wipeM, Bool.or_true, Bool.true_or, Bool.or_false, List.getElem?_cons_succ, List.getElem?_cons_zero, List.set_cons_succ, List.set_cons_zero, List.length_cons, List.length_nil, List.length_map, rngL_length]
    refine asQ_ref (s1 _ _ hd) ⟨⟨s1 _ _ hd, trivial⟩, trivial, ?_⟩
    intro q2 n2
    obtain ⟨h2, eh, s2, e2⟩ := newc n2 (.lst (ds.map M.int))
    rw [eh]
    clear eh
    rw [F.ofc]
    refine ⟨p, q2, ds, rfl, e2, by omega, b300, p1, hp, ?_⟩
    rw [em]
    simp only []
    rw [F.is]
    refine ⟨.non, .non, .none, rfl, .non, .non, good_non, .inr rfl, ?_⟩
    simp only [e_var_v, e_var_t, e_var_q, e_var_i, e_int_v, e_int_t, e_int_q, e_int_i, e_bl_v, e_bl_t, e_bl_q, e_bl_i, e_non_v, e_non_t, e_non_q, e_non_i, e_str_v, e_str_t, e_str_q, e_str_i, e_glob_v, e_glob_t, e_glob_q, e_glob_i, e_neg_v, e_neg_t, e_neg_q, e_neg_i, e_ife_v, e_ife_t, e_ife_q, e_ife_i, e_tup_v, e_tup_t, e_tup_q, e_tup_i, e_ix_v, e_ix_t, e_ix_q, e_ix_i, e_sl_v, e_sl_t, e_sl_q, e_sl_i, e_call_v, e_call_t, e_call_q, e_call_i, e_bi_v, e_bi_t, e_bi_q, e_bi_i, e_bq_v, e_bq_t, e_bq_q, e_bq_i, e_meth_v, e_meth_t, e_meth_q, e_meth_i, e_lst_v, e_lst_q, e_lst_i, e_bl1_v, e_bl1_q, e_bl1_i, e_comp_v, e_comp_q, e_comp_i, e_sub_v, e_fdiv_v, e_mod_v, e_pow_v, e_add_v, e_mul_v, e_add_q, e_mul_q, e_add_i, e_mul_i, e_not_v, e_not_t, e_and_v, e_and_t, e_or_v, e_or_t, e_cmp_v, e_cmp_t, e_rng_i, e_enum_i, e_zip_i, e_nil_a, e_cons_a, e_var_g, e_ix_g, e_tup_g, e_nil_gs, e_cons_gs, o_add, o_sub, o_add2, o_addt, o_mul, o_fdiv, o_mod, o_pow, o_aug, o_neg, m_eq, m_ne, m_lt, m_le, m_gt, m_ge, m_eqs, m_is, m_isnot, n_non, n_ref, n_int, n_tup, b_abs, b_int, b_len, b_max, b_min, l_list, r_1, r_2, t_bl, t_int, t_non, q_tup, q_rol, a_bl, d_none, d_some, d_int, u_all, u_if, g_nil, g_cons, isL_nil, isL_var, isL_int, isL_bl, isL_non, isL_str, isL_glob, isL_neg, isL_not, isL_and, isL_or, isL_ife, isL_cmp, isL_tup, isL_ix, isL_sl, isL_call, isL_bi, isL_bq, isL_meth, isL_rev, isL_step2, isL_lst, isL_bl1, isL_comp, isL_add, isL_mul, isL_sub, isL_fdiv, isL_mod, isL_pow, reduceIte, Bool.not_true, Bool.not_false, Bool.or_self, Bool.false_eq_true, isNonE, isNil, lenE, wipeM, Bool.or_true, Bool.true_or, Bool.or_false, List.getElem?_cons_succ, List.getElem?_cons_zero, List.set_cons_succ, List.set_cons_zero, List.length_cons, List.length_nil, List.length_map, rngL_length]
    refine st_skip ?_
    dsimp only
    refine st_ret ?_
    simp only [e_var_v, e_var_t, e_var_q, e_var_i, e_int_v, e_int_t, e_int_q, e_int_i, e_bl_v, e_bl_t, e_bl_q, e_bl_i, e_non_v, e_non_t, e_non_q, e_non_i, e_str_v, e_str_t, e_str_q, e_str_i, e_glob_v, e_glob_t, e_glob_q, e_glob_i, e_neg_v, e_neg_t, e_neg_q, e_neg_i, e_ife_v, e_ife_t, e_ife_q, e_ife_i, e_tup_v, e_tup_t, e_tup_q, e_tup_i, e_ix_v, e_ix_t, e_ix_q, e_ix_i, e_sl_v, e_sl_t, e_sl_q, e_sl_i, e_call_v, e_call_t, e_call_q, e_call_i, e_bi_v, e_bi_t, e_bi_q, e_bi_i, e_bq_v, e_bq_t, e_bq_q, e_bq_i, e_meth_v, e_meth_t, e_meth_q, e_meth_i, e_lst_v, e_lst_q, e_lst_i, e_bl1_v, e_bl1_q, e_bl1_i, e_comp_v, e_comp_q, e_comp_i, e_sub_v, e_fdiv_v, e_mod_v, e_pow_v, e_add_v, e_mul_v, e_add_q, e_mul_q, e_add_i, e_mul_i, e_not_v, e_not_t, e_and_v, e_and_t, e_or_v, e_or_t, e_cmp_v, e_cmp_t, e_rng_i, e_enum_i, e_zip_i, e_nil_a, e_cons_a, e_var_g, e_ix_g, e_tup_g, e_nil_gs, e_cons_gs, o_add, o_sub, o_add2, o_addt, o_mul, o_fdiv, o_mod, o_pow, o_aug, o_neg, m_eq, m_ne, m_lt, m_le, m_gt, m_ge, m_eqs, m_is, m_isnot, n_non, n_ref, n_int, n_tup, b_abs, b_int, b_len, b_max, b_min, l_list, r_1, r_2, t_bl, t_int, t_non, q_tup, q_rol, a_bl, d_none, d_some, d_int, u_all, u_if, g_nil, g_cons, isL_nil, isL_var, isL_int, isL_bl, isL_non, isL_str, isL_glob, isL_neg, isL_not, isL_and, isL_or, isL_ife, isL_cmp, isL_tup, isL_ix, isL_sl, isL_call, isL_bi, isL_bq, isL_meth, isL_rev, isL_step2, isL_lst, isL_bl1, isL_comp, isL_add, isL_mul, isL_sub, isL_fdiv, isL_mod, isL_pow, reduceIte, Bool.not_true, Bool.not_false, Bool.or_self, Bool.false_eq_true, isNonE, isNil, lenE, wipeM, Bool.or_true, Bool.true_or, Bool.or_false, List.getElem?_cons_succ, List.getElem?_cons_zero, List.set_cons_succ, List.set_cons_zero, List.length_cons, List.length_nil, List.length_map, rngL_length]
    exact fin _ fun b o e => s2 _ _ (s1 _ _ e)
  | some l =>
    simp only []
    have ll := mk_len em
    have lb := mk_bnd (Nat.one_le_pow _ _ (by decide)) (fun k k1 _ => tb k k1) em
    have few : Few (full p l ds.length) := by
      refine ⟨by rw [full_len ll]; omega, fun x hx => ?_⟩
      have big : x.natAbs ≤ (2 ^ 301) ^ 4 * (2 ^ 10) ^ 4 := by
        have le4 : ∀ i, i ≤ ds.length → (l.getD i 0).natAbs ≤ (2 ^ 301) ^ 4 := fun i hi => Nat.le_trans (lb i hi) (Nat.pow_le_pow_right (by decide) (by omega))
        rcases List.mem_append.mp hx with hx | hx
        · obtain ⟨j, hj, e⟩ := List.getElem_of_mem hx
          have := le4 j (by omega)
          rw [List.getD_eq_getElem?_getD, List.getElem?_eq_getElem hj] at this
          have e' : (some l[j]).getD 0 = x := e
          rw [e'] at this
          exact Nat.le_trans this (Nat.le_mul_of_pos_right _ (by decide))
        · obtain ⟨j, hj, rfl⟩ := List.mem_map.mp hx
          have hj := List.mem_range.mp hj
          rw [Int.natAbs_mul, Nat.mul_comm]
          exact Nat.mul_le_mul (le4 _ (by omega)) (Nat.le_trans (pow_small p1 (by omega) (j + 1)) (Nat.pow_le_pow_right (by decide) (by omega)))
      exact log2_pow (b := 2000) (k := 1) (Nat.le_trans big (by decide)) (by decide)
    intro q2 n2
    obtain ⟨h2, eh, s2, e2⟩ := newc n2 (LI (full p l ds.length))
    rw [eh]
    clear eh
    have d2 : h2 d = some (LI ds) := s2 _ _ (s1 _ _ hd)
    refine st_iff hΦ ?_
    simp only [e_var_v, e_var_t, e_var_q, e_var_i, e_int_v, e_int_t, e_int_q, e_int_i, e_bl_v, e_bl_t, e_bl_q, e_bl_i, e_non_v, e_non_t, e_non_q, e_non_i, e_str_v, e_str_t, e_str_q, e_str_i, e_glob_v, e_glob_t, e_glob_q, e_glob_i, e_neg_v, e_neg_t, e_neg_q, e_neg_i, e_ife_v, e_ife_t, e_ife_q, e_ife_i, e_tup_v, e_tup_t, e_tup_q, e_tup_i, e_ix_v, e_ix_t, e_ix_q, e_ix_i, e_sl_v, e_sl_t, e_sl_q, e_sl_i, e_call_v, e_call_t, e_call_q, e_call_i, e_bi_v, e_bi_t, e_bi_q, e_bi_i, e_bq_v, e_bq_t, e_bq_q, e_bq_i, e_meth_v, e_meth_t, e_meth_q, e_meth_i, e_lst_v, e_lst_q, e_lst_i, e_bl1_v, e_bl1_q, e_bl1_i, e_comp_v, e_comp_q, e_comp_i, e_sub_v, e_fdiv_v, e_mod_v, e_pow_v, e_add_v, e_mul_v, e_add_q, e_mul_q, e_add_i, e_mul_i, e_not_v, e_not_t, e_and_v, e_and_t, e_or_v, e_or_t, e_cmp_v, e_cmp_t, e_rng_i, e_enum_i, e_zip_i, e_nil_a, e_cons_a, e_var_g, e_ix_g, e_tup_g, e_nil_gs, e_cons_gs, o_add, o_sub, o_add2, o_addt, o_mul, o_fdiv, o_mod, o_pow, o_aug, o_neg, m_eq, m_ne, m_lt, m_le, m_gt, m_ge, m_eqs, m_is, m_isnot, n_non, n_ref, n_int, n_tup, b_abs, b_int, b_len, b_max, b_min, l_list, r_1, r_2, t_bl, t_int, t_non, q_tup, q_rol, a_bl, d_none, d_some, d_int, u_all, u_if, g_nil, g_cons, isL_nil, isL_var, isL_int, isL_bl, isL_non, isL_str, isL_glob, isL_neg, isL_not, isL_and, isL_or, isL_ife, isL_cmp, isL_tup, isL_ix, isL_sl, isL_call, isL_bi, isL_bq, isL_meth, isL_rev, isL_step2, isL_lst, isL_bl1, isL_comp, isL_add, isL_mul, isL_sub, isL_fdiv, isL_mod, isL_pow, reduceIte, Bool.not_true, Bool.not_false, Bool.or_self, Bool.false_eq_true, isNonE, isNil, lenE, wipeM, Bool.or_true, Bool.true_or, Bool.or_false, List.getElem?_cons_succ, List.getElem?_cons_zero, List.set_cons_succ, List.set_cons_zero, List.length_cons, List.length_nil, List.length_map, rngL_length]
    refine asQ_ref d2 ⟨⟨d2, trivial⟩, trivial, ?_⟩
    intro q3 n3
    obtain ⟨h3, eh, s3, e3⟩ := newc n3 (.lst (ds.map M.int))
    rw [eh]
    clear eh
    rw [F.ofc]
    refine ⟨p, q3, ds, rfl, e3, by omega, b300, p1, hp, ?_⟩
    rw [em]
    simp only []
    intro q4 n4
    obtain ⟨h4, eh, s4, e4⟩ := newc n4 (LI (full p l ds.length))
    rw [eh]
    clear eh
    rw [F.is]
    have m4 : h4 q2 = some (LI (full p l ds.length)) := s4 _ _ (s3 _ _ e2)
    have d4' : h4 d = some (LI ds) := s4 _ _ (s3 _ _ d2)
    refine ⟨.ref q4, .ref q2, dI (full p l ds.length), rfl, dat_dI e4, dat_dI m4, good_dI few, .inl ⟨_, rfl⟩, ?_⟩
    simp only [e_var_v, e_var_t, e_var_q, e_var_i, e_int_v, e_int_t, e_int_q, e_int_i, e_bl_v, e_bl_t, e_bl_q, e_bl_i, e_non_v, e_non_t, e_non_q, e_non_i, e_str_v, e_str_t, e_str_q, e_str_i, e_glob_v, e_glob_t, e_glob_q, e_glob_i, e_neg_v, e_neg_t, e_neg_q, e_neg_i, e_ife_v, e_ife_t, e_ife_q, e_ife_i, e_tup_v, e_tup_t, e_tup_q, e_tup_i, e_ix_v, e_ix_t, e_ix_q, e_ix_i, e_sl_v, e_sl_t, e_sl_q, e_sl_i, e_call_v, e_call_t, e_call_q, e_call_i, e_bi_v, e_bi_t, e_bi_q, e_bi_i, e_bq_v, e_bq_t, e_bq_q, e_bq_i, e_meth_v, e_meth_t, e_meth_q, e_meth_i, e_lst_v, e_lst_q, e_lst_i, e_bl1_v, e_bl1_q, e_bl1_i, e_comp_v, e_comp_q, e_comp_i, e_sub_v, e_fdiv_v, e_mod_v, e_pow_v, e_add_v, e_mul_v, e_add_q, e_mul_q, e_add_i, e_mul_i, e_not_v, e_not_t, e_and_v, e_and_t, e_or_v, e_or_t, e_cmp_v, e_cmp_t, e_rng_i, e_enum_i, e_zip_i, e_nil_a, e_cons_a, e_var_g, e_ix_g, e_tup_g, e_nil_gs, e_cons_gs, o_add, o_sub, o_add2, o_addt, o_mul, o_fdiv, o_mod, o_pow, o_aug, o_neg, m_eq, m_ne, m_lt, m_le, m_gt, m_ge, m_eqs, m_is, m_isnot, n_non, n_ref, n_int, n_tup, b_abs, b_int, b_len, b_max, b_min, l_list, r_1, r_2, t_bl, t_int, t_non, q_tup, q_rol, a_bl, d_none, d_some, d_int, u_all, u_if, g_nil, g_cons, isL_nil, isL_var, isL_int, isL_bl, isL_non, isL_str, isL_glob, isL_neg, isL_not, isL_and, isL_or, isL_ife, isL_cmp, isL_tup, isL_ix, isL_sl, isL_call, isL_bi, isL_bq, isL_meth, isL_rev, isL_step2, isL_lst, isL_bl1, isL_comp, isL_add, isL_mul, isL_sub, isL_fdiv, isL_mod, isL_pow, reduceIte, Bool.not_true, Bool.not_false, Bool.or_self, Bool.false_eq_true, isNonE, isNil, lenE, wipeM, Bool.or_true, Bool.true_or, Bool.or_false, List.getElem?_cons_succ, List.getElem?_cons_zero, List.set_cons_succ, List.set_cons_zero, List.length_cons, List.length_nil, List.length_map, rngL_length]
    refine st_skip ?_
    dsimp only
    have S4 : Sub H h4 := fun b o e => s4 _ _ (s3 _ _ (s2 _ _ (s1 _ _ e)))
    refine st_ret ?_
    simp only [e_var_v, e_var_t, e_var_q, e_var_i, e_int_v, e_int_t, e_int_q, e_int_i, e_bl_v, e_bl_t, e_bl_q, e_bl_i, e_non_v, e_non_t, e_non_q, e_non_i, e_str_v, e_str_t, e_str_q, e_str_i, e_glob_v, e_glob_t, e_glob_q, e_glob_i, e_neg_v, e_neg_t, e_neg_q, e_neg_i, e_ife_v, e_ife_t, e_ife_q, e_ife_i, e_tup_v, e_tup_t, e_tup_q, e_tup_i, e_ix_v, e_ix_t, e_ix_q, e_ix_i, e_sl_v, e_sl_t, e_sl_q, e_sl_i, e_call_v, e_call_t, e_call_q, e_call_i, e_bi_v, e_bi_t, e_bi_q, e_bi_i, e_bq_v, e_bq_t, e_bq_q, e_bq_i, e_meth_v, e_meth_t, e_meth_q, e_meth_i, e_lst_v, e_lst_q, e_lst_i, e_bl1_v, e_bl1_q, e_bl1_i, e_comp_v, e_comp_q, e_comp_i, e_sub_v, e_fdiv_v, e_mod_v, e_pow_v, e_add_v, e_mul_v, e_add_q, e_mul_q, e_add_i, e_mul_i, e_not_v, e_not_t, e_and_v, e_and_t, e_or_v, e_or_t, e_cmp_v, e_cmp_t, e_rng_i, e_enum_i, e_zip_i, e_nil_a, e_cons_a, e_var_g, e_ix_g, e_tup_g, e_nil_gs, e_cons_gs, o_add, o_sub, o_add2, o_addt, o_mul, o_fdiv, o_mod, o_pow, o_aug, o_neg, m_eq, m_ne, m_lt, m_le, m_gt, m_ge, m_eqs, m_is, m_isnot, n_non, n_ref, n_int, n_tup, b_abs, b_int, b_len, b_max, b_min, l_list, r_1, r_2, t_bl, t_int, t_non, q_tup, q_rol, a_bl, d_none, d_some, d_int, u_all, u_if, g_nil, g_cons, isL_nil, isL_var, isL_int, isL_bl, isL_non, isL_str, isL_glob, isL_neg, isL_not, isL_and, isL_or, isL_ife, isL_cmp, isL_tup, isL_ix, isL_sl, isL_call, isL_bi, isL_bq, isL_meth, isL_rev, isL_step2, isL_lst, isL_bl1, isL_comp, isL_add, isL_mul, isL_sub, isL_fdiv, isL_mod, isL_pow, reduceIte, Bool.not_true, Bool.not_false, Bool.or_self, Bool.false_eq_true, isNonE, isNil, lenE, wipeM, Bool.or_true, Bool.true_or, Bool.or_false, List.getElem?_cons_succ, List.getElem?_cons_zero, List.set_cons_succ, List.set_cons_zero, List.length_cons, List.length_nil, List.length_map, rngL_length, len_int d4']
    rw [show ((ds.length : Nat) : Int) + 1 = ((ds.length + 1 : Nat) : Int) by omega]
    refine sl_ref m4 ?_
    have etk : (full p l ds.length).take (ds.length + 1) = l := by unfold full; exact List.take_left' ll
    rw [cut_take, etk]
    intro q5 n5
    obtain ⟨h5, eh, s5, e5⟩ := newc n5 (.lst (l.map M.int))
    rw [eh]
    clear eh
    refine asQ_ref e5 ?_
    refine ⟨by rw [List.length_map]; have := hSZ; omega, ?_⟩
    refine compI_pure hΦ (fun j => .int (if l.getD j 0 < 0 then -l.getD j 0 else l.getD j 0)) ⟨e5, trivial⟩ ?_ ?_
    · intro j m R ej hR
      obtain ⟨n, en, rfl⟩ := intmap_get ej
      simp only [e_var_v, e_var_t, e_var_q, e_var_i, e_int_v, e_int_t, e_int_q, e_int_i, e_bl_v, e_bl_t, e_bl_q, e_bl_i, e_non_v, e_non_t, e_non_q, e_non_i, e_str_v, e_str_t, e_str_q, e_str_i, e_glob_v, e_glob_t, e_glob_q, e_glob_i, e_neg_v, e_neg_t, e_neg_q, e_neg_i, e_ife_v, e_ife_t, e_ife_q, e_ife_i, e_tup_v, e_tup_t, e_tup_q, e_tup_i, e_ix_v, e_ix_t, e_ix_q, e_ix_i, e_sl_v, e_sl_t, e_sl_q, e_sl_i, e_call_v, e_call_t, e_call_q, e_call_i, e_bi_v, e_bi_t, e_bi_q, e_bi_i, e_bq_v, e_bq_t, e_bq_q, e_bq_i, e_meth_v, e_meth_t, e_meth_q, e_meth_i, e_lst_v, e_lst_q, e_lst_i, e_bl1_v, e_bl1_q, e_bl1_i, e_comp_v, e_comp_q, e_comp_i, e_sub_v, e_fdiv_v, e_mod_v, e_pow_v, e_add_v, e_mul_v, e_add_q, e_mul_q, e_add_i, e_mul_i, e_not_v, e_not_t, e_and_v, e_and_t, e_or_v, e_or_t, e_cmp_v, e_cmp_t, e_rng_i, e_enum_i, e_zip_i, e_nil_a, e_cons_a, e_var_g, e_ix_g, e_tup_g, e_nil_gs, e_cons_gs, o_add, o_sub, o_add2, o_addt, o_mul, o_fdiv, o_mod, o_pow, o_aug, o_neg, m_eq, m_ne, m_lt, m_le, m_gt, m_ge, m_eqs, m_is, m_isnot, n_non, n_ref, n_int, n_tup, b_abs, b_int, b_len, b_max, b_min, l_list, r_1, r_2, t_bl, t_int, t_non, q_tup, q_rol, a_bl, d_none, d_some, d_int, u_all, u_if, g_nil, g_cons, isL_nil, isL_var, isL_int, isL_bl, isL_non, isL_str, isL_glob, isL_neg, isL_not, isL_and, isL_or, isL_ife, isL_cmp, isL_tup, isL_ix, isL_sl, isL_call, isL_bi, isL_bq, isL_meth, isL_rev, isL_step2, isL_lst, isL_bl1, isL_comp, isL_add, isL_mul, isL_sub, isL_fdiv, isL_mod, isL_pow, reduceIte, Bool.not_true, Bool.not_false, Bool.or_self, Bool.false_eq_true, isNonE, isNil, lenE, wipeM, Bool.or_true, Bool.true_or, Bool.or_false, List.getElem?_cons_succ, List.getElem?_cons_zero, List.set_cons_succ, List.set_cons_zero, List.length_cons, List.length_nil, List.length_map, rngL_length]
      have : l.getD j 0 = n := by rw [List.getD_eq_getElem?_getD, en]; rfl
      rw [this] at hR
      exact hR
    rw [List.length_map]
    refine ⟨trivial, bq_maxF rfl (by omega) fun my hmy => ?_⟩
    simp only [e_var_v, e_var_t, e_var_q, e_var_i, e_int_v, e_int_t, e_int_q, e_int_i, e_bl_v, e_bl_t, e_bl_q, e_bl_i, e_non_v, e_non_t, e_non_q, e_non_i, e_str_v, e_str_t, e_str_q, e_str_i, e_glob_v, e_glob_t, e_glob_q, e_glob_i, e_neg_v, e_neg_t, e_neg_q, e_neg_i, e_ife_v, e_ife_t, e_ife_q, e_ife_i, e_tup_v, e_tup_t, e_tup_q, e_tup_i, e_ix_v, e_ix_t, e_ix_q, e_ix_i, e_sl_v, e_sl_t, e_sl_q, e_sl_i, e_call_v, e_call_t, e_call_q, e_call_i, e_bi_v, e_bi_t, e_bi_q, e_bi_i, e_bq_v, e_bq_t, e_bq_q, e_bq_i, e_meth_v, e_meth_t, e_meth_q, e_meth_i, e_lst_v, e_lst_q, e_lst_i, e_bl1_v, e_bl1_q, e_bl1_i, e_comp_v, e_comp_q, e_comp_i, e_sub_v, e_fdiv_v, e_mod_v, e_pow_v, e_add_v, e_mul_v, e_add_q, e_mul_q, e_add_i, e_mul_i, e_not_v, e_not_t, e_and_v, e_and_t, e_or_v, e_or_t, e_cmp_v, e_cmp_t, e_rng_i, e_enum_i, e_zip_i, e_nil_a, e_cons_a, e_var_g, e_ix_g, e_tup_g, e_nil_gs, e_cons_gs, o_add, o_sub, o_add2, o_addt, o_mul, o_fdiv, o_mod, o_pow, o_aug, o_neg, m_eq, m_ne, m_lt, m_le, m_gt, m_ge, m_eqs, m_is, m_isnot, n_non, n_ref, n_int, n_tup, b_abs, b_int, b_len, b_max, b_min, l_list, r_1, r_2, t_bl, t_int, t_non, q_tup, q_rol, a_bl, d_none, d_some, d_int, u_all, u_if, g_nil, g_cons, isL_nil, isL_var, isL_int, isL_bl, isL_non, isL_str, isL_glob, isL_neg, isL_not, isL_and, isL_or, isL_ife, isL_cmp, isL_tup, isL_ix, isL_sl, isL_call, isL_bi, isL_bq, isL_meth, isL_rev, isL_step2, isL_lst, isL_bl1, isL_comp, isL_add, isL_mul, isL_sub, isL_fdiv, isL_mod, isL_pow, reduceIte, Bool.not_true, Bool.not_false, Bool.or_self, Bool.false_eq_true, isNonE, isNil, lenE, wipeM, Bool.or_true, Bool.true_or, Bool.or_false, List.getElem?_cons_succ, List.getElem?_cons_zero, List.set_cons_succ, List.set_cons_zero, List.length_cons, List.length_nil, List.length_map, rngL_length]
    refine ⟨by decide, ?_⟩
    by_cases z2 : (10 : Int) ^ (9 : Int).toNat < my
    · rw [if_pos (decide_eq_true z2), decide_eq_true z2]
      exact fin _ fun b o e => s5 _ _ (S4 b o e)
    rw [if_neg (by simpa using z2)]
    have my9 : my ≤ 1000000000 := by
      have : (10 : Int) ^ (9 : Int).toNat = 1000000000 := by decide
      omega
    have bl : ∀ x ∈ l, x.natAbs ≤ 1000000001 := fun x hx => by
      obtain ⟨j, hj, e⟩ := List.getElem_of_mem hx
      have := abs_of (hmy j (by omega))
      rw [List.getD_eq_getElem?_getD, List.getElem?_eq_getElem hj] at this
      have e' : (some l[j]).getD 0 = x := e
      rw [e'] at this; omega
    obtain ⟨l0, lk⟩ := ps_mk em
    have L := lst_of p1 p2 d4 ll l0 bl
    have ec : counts p (full p l ds.length) ds.length = ds := by
      refine List.ext_getElem? fun i => ?_
      by_cases hi : i < ds.length
      · have e1 : (counts p (full p l ds.length) ds.length)[i]? = some ((counts p (full p l ds.length) ds.length).getD i 0) := by
          rw [List.getD_eq_getElem?_getD, List.getElem?_eq_getElem (by rw [counts_len]; exact hi)]; rfl
        rw [e1, counts_get hi, List.getElem?_eq_getElem hi]
        congr 1
        rw [ps_congr (b := fun i => l.getD i 0) (m := ds.length) (fun i hi => full_get ll hi) (i + 1) (by omega), lk (i + 1) (by omega) (by omega)]
        show ds.getD (i + 1 - 1) 0 - p ^ (i + 1) - 1 + p ^ (i + 1) + 1 = _
        have : ds.getD i 0 = ds[i] := by rw [List.getD_eq_getElem?_getD, List.getElem?_eq_getElem hi]; rfl
        rw [show i + 1 - 1 = i by omega, this]; omega
      · rw [List.getElem?_eq_none (by rw [counts_len]; omega), List.getElem?_eq_none (by omega)]
    have d5 : h5 d = some (LI ds) := s5 _ _ d4'
    rw [len_int d5]
    simp only []
    rw [F.cof]
    refine ⟨p, q2, full p l ds.length, ds.length, rfl, s5 _ _ m4, by omega, by rw [L.len]; omega, L.bnd, p1, hp, ?_⟩
    rw [ec]
    intro q6 n6
    obtain ⟨h6, eh, s6, e6⟩ := newc n6 (LI ds)
    rw [eh]
    clear eh
    rw [F.is]
    refine ⟨.ref q6, .ref d, dI ds, rfl, dat_dI e6, dat_dI (s6 _ _ d5), good_dI ⟨by omega, fun x hx => Nat.lt_trans (log2_le (Nat.lt_of_le_of_lt (bd x hx) (by decide : 1000000000 < 2 ^ 60)) (by decide)) (by decide)⟩, .inl ⟨_, rfl⟩, ?_⟩
    exact fin _ fun b o e => s6 _ _ (s5 _ _ (S4 b o e))
end Mp.K39

set_option Elab.async false
set_option linter.all false
set_option maxRecDepth 100000
set_option exponentiation.threshold 500
namespace Mp.K39
open PySem Mp
def spChanged : SpM := fun ms h Q _ => ∃ (a b : Nat) (ns : List Int) (n : Nat) (p : Int) (c : Nat) (xs : List Int) (g : Nat), ms = [.ref a, .int p, .ref c, .int (g : Nat)] ∧ Deck h a b ns n ∧ ns.length ≤ 63 ∧ n < 900000000 ∧ h c = some (LI xs) ∧ c ≠ a ∧ 1 ≤ g ∧ g ≤ 4 ∧ Lst p xs g ∧ 1 ≤ p ∧ p ≤ 61 ∧
  ∀ h', Deck h' a b ns (n + 10000) → (∀ c o, c ≠ a → h c = some o → h' c = some o) → Q (.bl true) h'
theorem Deck.other {h : MH} {a b r : Nat} {ns : List Int} {n : Nat} {o : MO} (d : Deck h a b ns n) (ra : r ≠ a) (rb : r ≠ b) : Deck (Mp.put h r o) a b ns n := by
  obtain ⟨d0, d1, s, d4, h1, h2, r⟩ := d.ex
  exact ⟨d0, d1, s, d4, (put_ne ra.symm).trans h1, (put_ne rb.symm).trans h2, r⟩
theorem Deck.bt {h : MH} {a b : Nat} {ns : List Int} {n : Nat} (d : Deck h a b ns n) : h b = some (LI ns) := by
  obtain ⟨d0, d1, s, d4, h1, h2, r⟩ := d.ex
  exact h2
theorem keeps_changed (Φ : Phi) (F : Fns Φ) : Keeps Φ 11 t_law_is_changed spChanged := by
  intro ms h Q hsp
  obtain ⟨a, b, ns, n, p, c, xs, g, rfl, dk, hns, hn, hc, hca, g1, g4, L, p1, p2, post⟩ := hsp
  have hΦ := F.mono
  have hp : p.natAbs < 2 ^ 100 := Nat.lt_of_lt_of_le (m := 1000) (by omega) (by decide)
  have hb := L.bnd
  have hlen := L.len
  change wS Φ W0 _ _ [some (.ref a), some (.int p), some (.ref c), some (.int (g : Nat)), none, none, none, none, none, none, none] h
  unfold t_law_is_changed
  refine st_asg hΦ ?_
  simp only [e_var_v, e_var_t, e_var_q, e_var_i, e_int_v, e_int_t, e_int_q, e_int_i, e_bl_v, e_bl_t, e_bl_q, e_bl_i, e_non_v, e_non_t, e_non_q, e_non_i, e_str_v, e_str_t, e_str_q, e_str_i, e_glob_v, e_glob_t, e_glob_q, e_glob_i, e_neg_v, e_neg_t, e_neg_q, e_neg_i, e_ife_v, e_ife_t, e_ife_q, e_ife_i, e_tup_v, e_tup_t, e_tup_q, e_tup_i, e_ix_v, e_ix_t, e_ix_q, e_ix_i, e_sl_v, e_sl_t, e_sl_q, e_sl_i, e_call_v, e_call_t, e_call_q, e_call_i, e_bi_v, e_bi_t, e_bi_q, e_bi_i, e_bq_v, e_bq_t, e_bq_q, e_bq_i, e_meth_v, e_meth_t, e_meth_q, e_meth_i, e_lst_v, e_lst_q, e_lst_i, e_bl1_v, e_bl1_q, e_bl1_i, e_comp_v, e_comp_q, e_comp_i, e_sub_v, e_fdiv_v, e_mod_v, e_pow_v, e_add_v, e_mul_v, e_add_q, e_mul_q, e_add_i, e_mul_i, e_not_v, e_not_t, e_and_v, e_and_t, e_or_v, e_or_t, e_cmp_v, e_cmp_t, e_rng_i, e_enum_i, e_zip_i, e_nil_a, e_cons_a, e_var_g, e_ix_g, e_tup_g, e_nil_gs, e_cons_gs, o_add, o_sub, o_add2, o_addt, o_mul, o_fdiv, o_mod, o_pow, o_aug, o_neg, m_eq, m_ne, m_lt, m_le, m_gt, m_ge, m_eqs, m_is, m_isnot, n_non, n_ref, n_int, n_tup, b_abs, b_int, b_len, b_max, b_min, l_list, r_1, r_2, t_bl, t_int, t_non, q_tup, q_rol, a_bl, d_none, d_some, d_int, u_all, u_if, g_nil, g_cons, isL_nil, isL_var, isL_int, isL_bl, isL_non, isL_str, isL_glob, isL_neg, isL_not, isL_and, isL_or, isL_ife, isL_cmp, isL_tup, isL_ix, isL_sl, isL_call, isL_bi, isL_bq, isL_meth, isL_rev, isL_step2, isL_lst, isL_bl1, isL_comp, isL_add, isL_mul, isL_sub, isL_fdiv, isL_mod, isL_pow, reduceIte, Bool.not_true, Bool.not_false, Bool.or_self, Bool.false_eq_true, isNonE, isNil, lenE, wipeM, Bool.or_true, Bool.true_or, Bool.or_false, List.getElem?_cons_succ, List.getElem?_cons_zero, List.set_cons_succ, List.set_cons_zero, List.length_cons, List.length_nil, List.length_map, rngL_length]
  rw [F.counts]
  refine ⟨p, c, xs, g, rfl, hc, by omega, by omega, hb, p1, hp, ?_⟩
  intro r1 n1
  obtain ⟨h1, eh, s1, e1⟩ := newc n1 (LI (counts p xs g))
  rw [eh]
  clear eh
  have m1 : r1 ≠ a := dk.ne n1
  have dk1 := dk.sub s1
  refine st_asg hΦ ?_
  simp only [e_var_v, e_var_t, e_var_q, e_var_i, e_int_v, e_int_t, e_int_q, e_int_i, e_bl_v, e_bl_t, e_bl_q, e_bl_i, e_non_v, e_non_t, e_non_q, e_non_i, e_str_v, e_str_t, e_str_q, e_str_i, e_glob_v, e_glob_t, e_glob_q, e_glob_i, e_neg_v, e_neg_t, e_neg_q, e_neg_i, e_ife_v, e_ife_t, e_ife_q, e_ife_i, e_tup_v, e_tup_t, e_tup_q, e_tup_i, e_ix_v, e_ix_t, e_ix_q, e_ix_i, e_sl_v, e_sl_t, e_sl_q, e_sl_i, e_call_v, e_call_t, e_call_q, e_call_i, e_bi_v, e_bi_t, e_bi_q, e_bi_i, e_bq_v, e_bq_t, e_bq_q, e_bq_i, e_meth_v, e_meth_t, e_meth_q, e_meth_i, e_lst_v, e_lst_q, e_lst_i, e_bl1_v, e_bl1_q, e_bl1_i, e_comp_v, e_comp_q, e_comp_i, e_sub_v, e_fdiv_v, e_mod_v, e_pow_v, e_add_v, e_mul_v, e_add_q, e_mul_q, e_add_i, e_mul_i, e_not_v, e_not_t, e_and_v, e_and_t, e_or_v, e_or_t, e_cmp_v, e_cmp_t, e_rng_i, e_enum_i, e_zip_i, e_nil_a, e_cons_a, e_var_g, e_ix_g, e_tup_g, e_nil_gs, e_cons_gs, o_add, o_sub, o_add2, o_addt, o_mul, o_fdiv, o_mod, o_pow, o_aug, o_neg, m_eq, m_ne, m_lt, m_le, m_gt, m_ge, m_eqs, m_is, m_isnot, n_non, n_ref, n_int, n_tup, b_abs, b_int, b_len, b_max, b_min, l_list, r_1, r_2, t_bl, t_int, t_non, q_tup, q_rol, a_bl, d_none, d_some, d_int, u_all, u_if, g_nil, g_cons, isL_nil, isL_var, isL_int, isL_bl, isL_non, isL_str, isL_glob, isL_neg, isL_not, isL_and, isL_or, isL_ife, isL_cmp, isL_tup, isL_ix, isL_sl, isL_call, isL_bi, isL_bq, isL_meth, isL_rev, isL_step2, isL_lst, isL_bl1, isL_comp, isL_add, isL_mul, isL_sub, isL_fdiv, isL_mod, isL_pow, reduceIte, Bool.not_true, Bool.not_false, Bool.or_self, Bool.false_eq_true, isNonE, isNil, lenE, wipeM, Bool.or_true, Bool.true_or, Bool.or_false, List.getElem?_cons_succ, List.getElem?_cons_zero, List.set_cons_succ, List.set_cons_zero, List.length_cons, List.length_nil, List.length_map, rngL_length]
  rw [F.draw]
  refine ⟨a, b, ns, n, g, rfl, by omega, by omega, by omega, hns, dk1, fun v2 h2 v2a v2b dk2 fr2 => ?_⟩
  have t2 : ∀ c o, c ≠ a → h1 c = some o → h2 c = some o := fun c o z e => (fr2 c z).trans e
  refine st_asg hΦ ?_
  simp only [e_var_v, e_var_t, e_var_q, e_var_i, e_int_v, e_int_t, e_int_q, e_int_i, e_bl_v, e_bl_t, e_bl_q, e_bl_i, e_non_v, e_non_t, e_non_q, e_non_i, e_str_v, e_str_t, e_str_q, e_str_i, e_glob_v, e_glob_t, e_glob_q, e_glob_i, e_neg_v, e_neg_t, e_neg_q, e_neg_i, e_ife_v, e_ife_t, e_ife_q, e_ife_i, e_tup_v, e_tup_t, e_tup_q, e_tup_i, e_ix_v, e_ix_t, e_ix_q, e_ix_i, e_sl_v, e_sl_t, e_sl_q, e_sl_i, e_call_v, e_call_t, e_call_q, e_call_i, e_bi_v, e_bi_t, e_bi_q, e_bi_i, e_bq_v, e_bq_t, e_bq_q, e_bq_i, e_meth_v, e_meth_t, e_meth_q, e_meth_i, e_lst_v, e_lst_q, e_lst_i, e_bl1_v, e_bl1_q, e_bl1_i, e_comp_v, e_comp_q, e_comp_i, e_sub_v, e_fdiv_v, e_mod_v, e_pow_v, e_add_v, e_mul_v, e_add_q, e_mul_q, e_add_i, e_mul_i, e_not_v, e_not_t, e_and_v, e_and_t, e_or_v, e_or_t, e_cmp_v, e_cmp_t, e_rng_i, e_enum_i, e_zip_i, e_nil_a, e_cons_a, e_var_g, e_ix_g, e_tup_g, e_nil_gs, e_cons_gs, o_add, o_sub, o_add2, o_addt, o_mul, o_fdiv, o_mod, o_pow, o_aug, o_neg, m_eq, m_ne, m_lt, m_le, m_gt, m_ge, m_eqs, m_is, m_isnot, n_non, n_ref, n_int, n_tup, b_abs, b_int, b_len, b_max, b_min, l_list, r_1, r_2, t_bl, t_int, t_non, q_tup, q_rol, a_bl, d_none, d_some, d_int, u_all, u_if, g_nil, g_cons, isL_nil, isL_var, isL_int, isL_bl, isL_non, isL_str, isL_glob, isL_neg, isL_not, isL_and, isL_or, isL_ife, isL_cmp, isL_tup, isL_ix, isL_sl, isL_call, isL_bi, isL_bq, isL_meth, isL_rev, isL_step2, isL_lst, isL_bl1, isL_comp, isL_add, isL_mul, isL_sub, isL_fdiv, isL_mod, isL_pow, reduceIte, Bool.not_true, Bool.not_false, Bool.or_self, Bool.false_eq_true, isNonE, isNil, lenE, wipeM, Bool.or_true, Bool.true_or, Bool.or_false, List.getElem?_cons_succ, List.getElem?_cons_zero, List.set_cons_succ, List.set_cons_zero, List.length_cons, List.length_nil, List.length_map, rngL_length]
  have e12 := t2 _ _ m1 e1
  refine ix_int e12 v2a (by rw [counts_len]; omega) ?_
  refine ⟨by omega, trivial, ?_⟩
  intro q3 n3
  obtain ⟨h3, eh, s3, e3⟩ := newc n3 (.lst [.int 1, .int (-1), .int 2, .int 3, .int 6, .int 12, .int (-24)])
  rw [eh]
  clear eh
  have m3 : q3 ≠ a := dk2.ne n3
  rw [F.draw]
  refine ⟨a, b, ns, n + 1, 7, rfl, by omega, by omega, by omega, hns, dk2.sub s3, fun v4 h4 v4a v4b dk4 fr4 => ?_⟩
  have t4 : ∀ c o, c ≠ a → h3 c = some o → h4 c = some o := fun c o z e => (fr4 c z).trans e
  refine ix_int (ns := [1, -1, 2, 3, 6, 12, -24]) (t4 _ _ m3 e3) v4a (by show _ < 7; omega) ?_
  simp only [e_var_v, e_var_t, e_var_q, e_var_i, e_int_v, e_int_t, e_int_q, e_int_i, e_bl_v, e_bl_t, e_bl_q, e_bl_i, e_non_v, e_non_t, e_non_q, e_non_i, e_str_v, e_str_t, e_str_q, e_str_i, e_glob_v, e_glob_t, e_glob_q, e_glob_i, e_neg_v, e_neg_t, e_neg_q, e_neg_i, e_ife_v, e_ife_t, e_ife_q, e_ife_i, e_tup_v, e_tup_t, e_tup_q, e_tup_i, e_ix_v, e_ix_t, e_ix_q, e_ix_i, e_sl_v, e_sl_t, e_sl_q, e_sl_i, e_call_v, e_call_t, e_call_q, e_call_i, e_bi_v, e_bi_t, e_bi_q, e_bi_i, e_bq_v, e_bq_t, e_bq_q, e_bq_i, e_meth_v, e_meth_t, e_meth_q, e_meth_i, e_lst_v, e_lst_q, e_lst_i, e_bl1_v, e_bl1_q, e_bl1_i, e_comp_v, e_comp_q, e_comp_i, e_sub_v, e_fdiv_v, e_mod_v, e_pow_v, e_add_v, e_mul_v, e_add_q, e_mul_q, e_add_i, e_mul_i, e_not_v, e_not_t, e_and_v, e_and_t, e_or_v, e_or_t, e_cmp_v, e_cmp_t, e_rng_i, e_enum_i, e_zip_i, e_nil_a, e_cons_a, e_var_g, e_ix_g, e_tup_g, e_nil_gs, e_cons_gs, o_add, o_sub, o_add2, o_addt, o_mul, o_fdiv, o_mod, o_pow, o_aug, o_neg, m_eq, m_ne, m_lt, m_le, m_gt, m_ge, m_eqs, m_is, m_isnot, n_non, n_ref, n_int, n_tup, b_abs, b_int, b_len, b_max, b_min, l_list, r_1, r_2, t_bl, t_int, t_non, q_tup, q_rol, a_bl, d_none, d_some, d_int, u_all, u_if, g_nil, g_cons, isL_nil, isL_var, isL_int, isL_bl, isL_non, isL_str, isL_glob, isL_neg, isL_not, isL_and, isL_or, isL_ife, isL_cmp, isL_tup, isL_ix, isL_sl, isL_call, isL_bi, isL_bq, isL_meth, isL_rev, isL_step2, isL_lst, isL_bl1, isL_comp, isL_add, isL_mul, isL_sub, isL_fdiv, isL_mod, isL_pow, reduceIte, Bool.not_true, Bool.not_false, Bool.or_self, Bool.false_eq_true, isNonE, isNil, lenE, wipeM, Bool.or_true, Bool.true_or, Bool.or_false, List.getElem?_cons_succ, List.getElem?_cons_zero, List.set_cons_succ, List.set_cons_zero, List.length_cons, List.length_nil, List.length_map, rngL_length]
  have e14 := t4 _ _ m1 (s3 _ _ e12)
  refine set_ref (j := v2.toNat) e14 (ixN_nat rfl v2a (by rw [List.length_map, counts_len]; omega)) ?_
  generalize hx : (counts p xs g).getD v2.toNat 0 + ([1, -1, 2, 3, 6, 12, -24] : List Int).getD v4.toNat 0 = val
  have edl : (.lst (((counts p xs g).map M.int).set v2.toNat (.int val)) : MO) = LI ((counts p xs g).set v2.toNat val) := by show MO.lst _ = MO.lst _; rw [List.map_set]
  rw [edl]
  have lds : ((counts p xs g).set v2.toNat val).length = g := by rw [List.length_set, counts_len]
  generalize (counts p xs g).set v2.toNat val = ds at lds ⊢
  have rb : r1 ≠ b := (mh_ne dk.bt n1).symm
  have T5 : ∀ c o, c ≠ a → h c = some o → put h4 r1 (LI ds) c = some o := fun c o z e => (put_ne (mh_ne e n1)).trans (t4 _ _ z (s3 _ _ (t2 _ _ z (s1 _ _ e))))
  have dk5 : Deck (put h4 r1 (LI ds)) a b ns (n + 1 + 1) := dk4.other m1 rb
  have e5 : put h4 r1 (LI ds) r1 = some (LI ds) := put_same
  generalize put h4 r1 (LI ds) = h5 at T5 dk5 e5 ⊢
  clear e14 e12 t4 t2 s3 s1 e3 fr4 fr2 dk4 dk2 dk1 e1
  refine st_iff hΦ ?_
  simp only [e_var_v, e_var_t, e_var_q, e_var_i, e_int_v, e_int_t, e_int_q, e_int_i, e_bl_v, e_bl_t, e_bl_q, e_bl_i, e_non_v, e_non_t, e_non_q, e_non_i, e_str_v, e_str_t, e_str_q, e_str_i, e_glob_v, e_glob_t, e_glob_q, e_glob_i, e_neg_v, e_neg_t, e_neg_q, e_neg_i, e_ife_v, e_ife_t, e_ife_q, e_ife_i, e_tup_v, e_tup_t, e_tup_q, e_tup_i, e_ix_v, e_ix_t, e_ix_q, e_ix_i, e_sl_v, e_sl_t, e_sl_q, e_sl_i, e_call_v, e_call_t, e_call_q, e_call_i, e_bi_v, e_bi_t, e_bi_q, e_bi_i, e_bq_v, e_bq_t, e_bq_q, e_bq_i, e_meth_v, e_meth_t, e_meth_q, e_meth_i, e_lst_v, e_lst_q, e_lst_i, e_bl1_v, e_bl1_q, e_bl1_i, e_comp_v, e_comp_q, e_comp_i, e_sub_v, e_fdiv_v, e_mod_v, e_pow_v, e_add_v, e_mul_v, e_add_q, e_mul_q, e_add_i, e_mul_i, e_not_v, e_not_t, e_and_v, e_and_t, e_or_v, e_or_t, e_cmp_v, e_cmp_t, e_rng_i, e_enum_i, e_zip_i, e_nil_a, e_cons_a, e_var_g, e_ix_g, e_tup_g, e_nil_gs, e_cons_gs, o_add, o_sub, o_add2, o_addt, o_mul, o_fdiv, o_mod, o_pow, o_aug, o_neg, m_eq, m_ne, m_lt, m_le, m_gt, m_ge, m_eqs, m_is, m_isnot, n_non, n_ref, n_int, n_tup, b_abs, b_int, b_len, b_max, b_min, l_list, r_1, r_2, t_bl, t_int, t_non, q_tup, q_rol, a_bl, d_none, d_some, d_int, u_all, u_if, g_nil, g_cons, isL_nil, isL_var, isL_int, isL_bl, isL_non, isL_str, isL_glob, isL_neg, isL_not, isL_and, isL_or, isL_ife, isL_cmp, isL_tup, isL_ix, isL_sl, isL_call, isL_bi, isL_bq, isL_meth, isL_rev, isL_step2, isL_lst, isL_bl1, isL_comp, isL_add, isL_mul, isL_sub, isL_fdiv, isL_mod, isL_pow, reduceIte, Bool.not_true, Bool.not_false, Bool.or_self, Bool.false_eq_true, isNonE, isNil, lenE, wipeM, Bool.or_true, Bool.true_or, Bool.or_false, List.getElem?_cons_succ, List.getElem?_cons_zero, List.set_cons_succ, List.set_cons_zero, List.length_cons, List.length_nil, List.length_map, rngL_length]
  rw [F.draw]
  refine ⟨a, b, ns, n + 1 + 1, 3, rfl, by omega, by omega, by omega, hns, dk5, fun v6 h6 v6a v6b dk6 fr6 => ?_⟩
  have t6 : ∀ c o, c ≠ a → h5 c = some o → h6 c = some o := fun c o z e => (fr6 c z).trans e
  simp only [e_var_v, e_var_t, e_var_q, e_var_i, e_int_v, e_int_t, e_int_q, e_int_i, e_bl_v, e_bl_t, e_bl_q, e_bl_i, e_non_v, e_non_t, e_non_q, e_non_i, e_str_v, e_str_t, e_str_q, e_str_i, e_glob_v, e_glob_t, e_glob_q, e_glob_i, e_neg_v, e_neg_t, e_neg_q, e_neg_i, e_ife_v, e_ife_t, e_ife_q, e_ife_i, e_tup_v, e_tup_t, e_tup_q, e_tup_i, e_ix_v, e_ix_t, e_ix_q, e_ix_i, e_sl_v, e_sl_t, e_sl_q, e_sl_i, e_call_v, e_call_t, e_call_q, e_call_i, e_bi_v, e_bi_t, e_bi_q, e_bi_i, e_bq_v, e_bq_t, e_bq_q, e_bq_i, e_meth_v, e_meth_t, e_meth_q, e_meth_i, e_lst_v, e_lst_q, e_lst_i, e_bl1_v, e_bl1_q, e_bl1_i, e_comp_v, e_comp_q, e_comp_i, e_sub_v, e_fdiv_v, e_mod_v, e_pow_v, e_add_v, e_mul_v, e_add_q, e_mul_q, e_add_i, e_mul_i, e_not_v, e_not_t, e_and_v, e_and_t, e_or_v, e_or_t, e_cmp_v, e_cmp_t, e_rng_i, e_enum_i, e_zip_i, e_nil_a, e_cons_a, e_var_g, e_ix_g, e_tup_g, e_nil_gs, e_cons_gs, o_add, o_sub, o_add2, o_addt, o_mul, o_fdiv, o_mod, o_pow, o_aug, o_neg, m_eq, m_ne, m_lt, m_le, m_gt, m_ge, m_eqs, m_is, m_isnot, n_non, n_ref, n_int, n_tup, b_abs, b_int, b_len, b_max, b_min, l_list, r_1, r_2, t_bl, t_int, t_non, q_tup, q_rol, a_bl, d_none, d_some, d_int, u_all, u_if, g_nil, g_cons, isL_nil, isL_var, isL_int, isL_bl, isL_non, isL_str, isL_glob, isL_neg, isL_not, isL_and, isL_or, isL_ife, isL_cmp, isL_tup, isL_ix, isL_sl, isL_call, isL_bi, isL_bq, isL_meth, isL_rev, isL_step2, isL_lst, isL_bl1, isL_comp, isL_add, isL_mul, isL_sub, isL_fdiv, isL_mod, isL_pow, reduceIte, Bool.not_true, Bool.not_false, Bool.or_self, Bool.false_eq_true, isNonE, isNil, lenE, wipeM, Bool.or_true, Bool.true_or, Bool.or_false, List.getElem?_cons_succ, List.getElem?_cons_zero, List.set_cons_succ, List.set_cons_zero, List.length_cons, List.length_nil, List.length_map, rngL_length]
  by_cases z : v6 = 0
  · rw [if_pos (decide_eq_true z)]
    refine st_asg1 ?_
    simp only [e_var_v, e_var_t, e_var_q, e_var_i, e_int_v, e_int_t, e_int_q, e_int_i, e_bl_v, e_bl_t, e_bl_q, e_bl_i, e_non_v, e_non_t, e_non_q, e_non_i, e_str_v, e_str_t, e_str_q, e_str_i, e_glob_v, e_glob_t, e_glob_q, e_glob_i, e_neg_v, e_neg_t, e_neg_q, e_neg_i, e_ife_v, e_ife_t, e_ife_q, e_ife_i, e_tup_v, e_tup_t, e_tup_q, e_tup_i, e_ix_v, e_ix_t, e_ix_q, e_ix_i, e_sl_v, e_sl_t, e_sl_q, e_sl_i, e_call_v, e_call_t, e_call_q, e_call_i, e_bi_v, e_bi_t, e_bi_q, e_bi_i, e_bq_v, e_bq_t, e_bq_q, e_bq_i, e_meth_v, e_meth_t, e_meth_q, e_meth_i, e_lst_v, e_lst_q, e_lst_i, e_bl1_v, e_bl1_q, e_bl1_i, e_comp_v, e_comp_q, e_comp_i, e_sub_v, e_fdiv_v, e_mod_v, e_pow_v, e_add_v, e_mul_v, e_add_q, e_mul_q, e_add_i, e_mul_i, e_not_v, e_not_t, e_and_v, e_and_t, e_or_v, e_or_t, e_cmp_v, e_cmp_t, e_rng_i, e_enum_i, e_zip_i, e_nil_a, e_cons_a, e_var_g, e_ix_g, e_tup_g, e_nil_gs, e_cons_gs, o_add, o_sub, o_add2, o_addt, o_mul, o_fdiv, o_mod, o_pow, o_aug, o_neg, m_eq, m_ne, m_lt, m_le, m_gt, m_ge, m_eqs, m_is, m_isnot, n_non, n_ref, n_int, n_tup, b_abs, b_int, b_len, b_max, b_min, l_list, r_1, r_2, t_bl, t_int, t_non, q_tup, q_rol, a_bl, d_none, d_some, d_int, u_all, u_if, g_nil, g_cons, isL_nil, isL_var, isL_int, isL_bl, isL_non, isL_str, isL_glob, isL_neg, isL_not, isL_and, isL_or, isL_ife, isL_cmp, isL_tup, isL_ix, isL_sl, isL_call, isL_bi, isL_bq, isL_meth, isL_rev, isL_step2, isL_lst, isL_bl1, isL_comp, isL_add, isL_mul, isL_sub, isL_fdiv, isL_mod, isL_pow, reduceIte, Bool.not_true, Bool.not_false, Bool.or_self, Bool.false_eq_true, isNonE, isNil, lenE, wipeM, Bool.or_true, Bool.true_or, Bool.or_false, List.getElem?_cons_succ, List.getElem?_cons_zero, List.set_cons_succ, List.set_cons_zero, List.length_cons, List.length_nil, List.length_map, rngL_length]
    rw [F.draw]
    refine ⟨a, b, ns, n + 1 + 1 + 1, 4, rfl, by omega, by omega, by omega, hns, dk6, fun v7 h7 v7a v7b dk7 fr7 => ?_⟩
    have t7 : ∀ c o, c ≠ a → h6 c = some o → h7 c = some o := fun c o z e => (fr7 c z).trans e
    simp only [e_var_v, e_var_t, e_var_q, e_var_i, e_int_v, e_int_t, e_int_q, e_int_i, e_bl_v, e_bl_t, e_bl_q, e_bl_i, e_non_v, e_non_t, e_non_q, e_non_i, e_str_v, e_str_t, e_str_q, e_str_i, e_glob_v, e_glob_t, e_glob_q, e_glob_i, e_neg_v, e_neg_t, e_neg_q, e_neg_i, e_ife_v, e_ife_t, e_ife_q, e_ife_i, e_tup_v, e_tup_t, e_tup_q, e_tup_i, e_ix_v, e_ix_t, e_ix_q, e_ix_i, e_sl_v, e_sl_t, e_sl_q, e_sl_i, e_call_v, e_call_t, e_call_q, e_call_i, e_bi_v, e_bi_t, e_bi_q, e_bi_i, e_bq_v, e_bq_t, e_bq_q, e_bq_i, e_meth_v, e_meth_t, e_meth_q, e_meth_i, e_lst_v, e_lst_q, e_lst_i, e_bl1_v, e_bl1_q, e_bl1_i, e_comp_v, e_comp_q, e_comp_i, e_sub_v, e_fdiv_v, e_mod_v, e_pow_v, e_add_v, e_mul_v, e_add_q, e_mul_q, e_add_i, e_mul_i, e_not_v, e_not_t, e_and_v, e_and_t, e_or_v, e_or_t, e_cmp_v, e_cmp_t, e_rng_i, e_enum_i, e_zip_i, e_nil_a, e_cons_a, e_var_g, e_ix_g, e_tup_g, e_nil_gs, e_cons_gs, o_add, o_sub, o_add2, o_addt, o_mul, o_fdiv, o_mod, o_pow, o_aug, o_neg, m_eq, m_ne, m_lt, m_le, m_gt, m_ge, m_eqs, m_is, m_isnot, n_non, n_ref, n_int, n_tup, b_abs, b_int, b_len, b_max, b_min, l_list, r_1, r_2, t_bl, t_int, t_non, q_tup, q_rol, a_bl, d_none, d_some, d_int, u_all, u_if, g_nil, g_cons, isL_nil, isL_var, isL_int, isL_bl, isL_non, isL_str, isL_glob, isL_neg, isL_not, isL_and, isL_or, isL_ife, isL_cmp, isL_tup, isL_ix, isL_sl, isL_call, isL_bi, isL_bq, isL_meth, isL_rev, isL_step2, isL_lst, isL_bl1, isL_comp, isL_add, isL_mul, isL_sub, isL_fdiv, isL_mod, isL_pow, reduceIte, Bool.not_true, Bool.not_false, Bool.or_self, Bool.false_eq_true, isNonE, isNil, lenE, wipeM, Bool.or_true, Bool.true_or, Bool.or_false, List.getElem?_cons_succ, List.getElem?_cons_zero, List.set_cons_succ, List.set_cons_zero, List.length_cons, List.length_nil, List.length_map, rngL_length]
    refine ⟨by omega, by have := hSZ; omega, ?_⟩
    refine comp_inv hΦ (fun i acc h' => ∃ l : List Int, acc = l.map M.int ∧ l.length = i ∧ Deck h' a b ns (n + 1 + 1 + 1 + 1 + 3 * i) ∧ ∀ c o, c ≠ a → h7 c = some o → h' c = some o) ?_ ?_ ?_ ?_
    · exact ⟨[], rfl, rfl, dk7, fun _ _ _ e => e⟩
    · intro i acc h' _ _; trivial
    · rintro i m acc h' ei ⟨l, rfl, ll, dk', T'⟩
      obtain ⟨hi, rfl⟩ := rng_get ei
      simp only [e_var_v, e_var_t, e_var_q, e_var_i, e_int_v, e_int_t, e_int_q, e_int_i, e_bl_v, e_bl_t, e_bl_q, e_bl_i, e_non_v, e_non_t, e_non_q, e_non_i, e_str_v, e_str_t, e_str_q, e_str_i, e_glob_v, e_glob_t, e_glob_q, e_glob_i, e_neg_v, e_neg_t, e_neg_q, e_neg_i, e_ife_v, e_ife_t, e_ife_q, e_ife_i, e_tup_v, e_tup_t, e_tup_q, e_tup_i, e_ix_v, e_ix_t, e_ix_q, e_ix_i, e_sl_v, e_sl_t, e_sl_q, e_sl_i, e_call_v, e_call_t, e_call_q, e_call_i, e_bi_v, e_bi_t, e_bi_q, e_bi_i, e_bq_v, e_bq_t, e_bq_q, e_bq_i, e_meth_v, e_meth_t, e_meth_q, e_meth_i, e_lst_v, e_lst_q, e_lst_i, e_bl1_v, e_bl1_q, e_bl1_i, e_comp_v, e_comp_q, e_comp_i, e_sub_v, e_fdiv_v, e_mod_v, e_pow_v, e_add_v, e_mul_v, e_add_q, e_mul_q, e_add_i, e_mul_i, e_not_v, e_not_t, e_and_v, e_and_t, e_or_v, e_or_t, e_cmp_v, e_cmp_t, e_rng_i, e_enum_i, e_zip_i, e_nil_a, e_cons_a, e_var_g, e_ix_g, e_tup_g, e_nil_gs, e_cons_gs, o_add, o_sub, o_add2, o_addt, o_mul, o_fdiv, o_mod, o_pow, o_aug, o_neg, m_eq, m_ne, m_lt, m_le, m_gt, m_ge, m_eqs, m_is, m_isnot, n_non, n_ref, n_int, n_tup, b_abs, b_int, b_len, b_max, b_min, l_list, r_1, r_2, t_bl, t_int, t_non, q_tup, q_rol, a_bl, d_none, d_some, d_int, u_all, u_if, g_nil, g_cons, isL_nil, isL_var, isL_int, isL_bl, isL_non, isL_str, isL_glob, isL_neg, isL_not, isL_and, isL_or, isL_ife, isL_cmp, isL_tup, isL_ix, isL_sl, isL_call, isL_bi, isL_bq, isL_meth, isL_rev, isL_step2, isL_lst, isL_bl1, isL_comp, isL_add, isL_mul, isL_sub, isL_fdiv, isL_mod, isL_pow, reduceIte, Bool.not_true, Bool.not_false, Bool.or_self, Bool.false_eq_true, isNonE, isNil, lenE, wipeM, Bool.or_true, Bool.true_or, Bool.or_false, List.getElem?_cons_succ, List.getElem?_cons_zero, List.set_cons_succ, List.set_cons_zero, List.length_cons, List.length_nil, List.length_map, rngL_length]
      refine ⟨by decide, by omega, trivial, ?_⟩
      intro q8 n8
      obtain ⟨h8, eh, s8, e8⟩ := newc n8 (.lst [.int 9, .int 2000, .int ((10 : Int) ^ (9 : Int).toNat)])
      rw [eh]
      clear eh
      have m8 : q8 ≠ a := dk'.ne n8
      rw [F.draw]
      refine ⟨a, b, ns, _, 3, rfl, by omega, by omega, by omega, hns, dk'.sub s8, fun v9 h9 v9a v9b dk9 fr9 => ?_⟩
      have t9 : ∀ c o, c ≠ a → h8 c = some o → h9 c = some o := fun c o z e => (fr9 c z).trans e
      refine ix_int (ns := [9, 2000, (10 : Int) ^ (9 : Int).toNat]) (t9 _ _ m8 e8) v9a (by show _ < 3; omega) ?_
      have hk : 1 ≤ ([9, 2000, (10 : Int) ^ (9 : Int).toNat] : List Int).getD v9.toNat 0 ∧ ([9, 2000, (10 : Int) ^ (9 : Int).toNat] : List Int).getD v9.toNat 0 ≤ 1000000000 := by
        have : v9 = 0 ∨ v9 = 1 ∨ v9 = 2 := by omega
        rcases this with rfl | rfl | rfl <;> decide
      generalize ([9, 2000, (10 : Int) ^ (9 : Int).toNat] : List Int).getD v9.toNat 0 = kk at hk ⊢
      refine ⟨a, b, ns, _, kk, rfl, hk.1, by omega, by omega, hns, dk9, fun v10 h10 v10a v10b dk10 fr10 => ?_⟩
      have t10 : ∀ c o, c ≠ a → h9 c = some o → h10 c = some o := fun c o z e => (fr10 c z).trans e
      refine ⟨by omega, trivial, ?_⟩
      intro q11 n11
      obtain ⟨h11, eh, s11, e11⟩ := newc n11 (.lst [.int 1, .int (-1)])
      rw [eh]
      clear eh
      have m11 : q11 ≠ a := dk10.ne n11
      refine ⟨a, b, ns, _, 2, rfl, by omega, by omega, by omega, hns, dk10.sub s11, fun v12 h12 v12a v12b dk12 fr12 => ?_⟩
      have t12 : ∀ c o, c ≠ a → h11 c = some o → h12 c = some o := fun c o z e => (fr12 c z).trans e
      refine ix_int (ns := [1, -1]) (t12 _ _ m11 e11) v12a (by show _ < 2; omega) ?_
      have hs : ([1, -1] : List Int).getD v12.toNat 0 = 1 ∨ ([1, -1] : List Int).getD v12.toNat 0 = -1 := by
        have : v12 = 0 ∨ v12 = 1 := by omega
        rcases this with rfl | rfl
        · exact .inl rfl
        · exact .inr rfl
      generalize ([1, -1] : List Int).getD v12.toNat 0 = sgn at hs ⊢
      simp only [e_var_v, e_var_t, e_var_q, e_var_i, e_int_v, e_int_t, e_int_q, e_int_i, e_bl_v, e_bl_t, e_bl_q, e_bl_i, e_non_v, e_non_t, e_non_q, e_non_i, e_str_v, e_str_t, e_str_q, e_str_i, e_glob_v, e_glob_t, e_glob_q, e_glob_i, e_neg_v, e_neg_t, e_neg_q, e_neg_i, e_ife_v, e_ife_t, e_ife_q, e_ife_i, e_tup_v, e_tup_t, e_tup_q, e_tup_i, e_ix_v, e_ix_t, e_ix_q, e_ix_i, e_sl_v, e_sl_t, e_sl_q, e_sl_i, e_call_v, e_call_t, e_call_q, e_call_i, e_bi_v, e_bi_t, e_bi_q, e_bi_i, e_bq_v, e_bq_t, e_bq_q, e_bq_i, e_meth_v, e_meth_t, e_meth_q, e_meth_i, e_lst_v, e_lst_q, e_lst_i, e_bl1_v, e_bl1_q, e_bl1_i, e_comp_v, e_comp_q, e_comp_i, e_sub_v, e_fdiv_v, e_mod_v, e_pow_v, e_add_v, e_mul_v, e_add_q, e_mul_q, e_add_i, e_mul_i, e_not_v, e_not_t, e_and_v, e_and_t, e_or_v, e_or_t, e_cmp_v, e_cmp_t, e_rng_i, e_enum_i, e_zip_i, e_nil_a, e_cons_a, e_var_g, e_ix_g, e_tup_g, e_nil_gs, e_cons_gs, o_add, o_sub, o_add2, o_addt, o_mul, o_fdiv, o_mod, o_pow, o_aug, o_neg, m_eq, m_ne, m_lt, m_le, m_gt, m_ge, m_eqs, m_is, m_isnot, n_non, n_ref, n_int, n_tup, b_abs, b_int, b_len, b_max, b_min, l_list, r_1, r_2, t_bl, t_int, t_non, q_tup, q_rol, a_bl, d_none, d_some, d_int, u_all, u_if, g_nil, g_cons, isL_nil, isL_var, isL_int, isL_bl, isL_non, isL_str, isL_glob, isL_neg, isL_not, isL_and, isL_or, isL_ife, isL_cmp, isL_tup, isL_ix, isL_sl, isL_call, isL_bi, isL_bq, isL_meth, isL_rev, isL_step2, isL_lst, isL_bl1, isL_comp, isL_add, isL_mul, isL_sub, isL_fdiv, isL_mod, isL_pow, reduceIte, Bool.not_true, Bool.not_false, Bool.or_self, Bool.false_eq_true, isNonE, isNil, lenE, wipeM, Bool.or_true, Bool.true_or, Bool.or_false, List.getElem?_cons_succ, List.getElem?_cons_zero, List.set_cons_succ, List.set_cons_zero, List.length_cons, List.length_nil, List.length_map, rngL_length]
      refine ⟨mulOk (by omega) (by omega), _, Sub.refl _, l ++ [v10 * sgn], by simp, by simp [ll], dk12.mono (by omega), fun c o z e => t12 _ _ z (s11 _ _ (t10 _ _ z (t9 _ _ z (s8 _ _ (T' _ _ z e)))))⟩
    rintro acc h8 ⟨l, rfl, ll, dk8, T8⟩
    rw [rngL_length] at ll dk8
    refine ⟨trivial, ?_⟩
    intro q9 n9
    obtain ⟨h9, eh, s9, e9⟩ := newc n9 (.lst (l.map M.int))
    rw [eh]
    clear eh
    refine changed2 Φ F (by omega) (by omega) p1 p2 e9 fun H' S => ⟨H', Sub.refl _, post H' (((dk8.sub s9).sub S).mono (by omega)) fun c o z e => S _ _ (s9 _ _ (T8 _ _ z (t7 _ _ z (t6 _ _ z (T5 _ _ z e)))))⟩
  · rw [if_neg (by simpa using z)]
    refine st_skip ?_
    refine changed2 Φ F (by omega) (by omega) p1 p2 (t6 _ _ m1 e5) fun H' S => ⟨H', Sub.refl _, post H' ((dk6.sub S).mono (by omega)) fun c o z e => S _ _ (t6 _ _ z (T5 _ _ z e))⟩
end Mp.K39

set_option Elab.async false
set_option linter.all false
set_option maxRecDepth 100000
set_option exponentiation.threshold 500
namespace Mp.K39
open PySem Mp
structure Fns2 (Φ : Phi) : Prop extends Fns Φ where
  counted : Φ.fn "_law_is_counted" = spCounted
  changed : Φ.fn "_law_is_changed" = spChanged
  istwin : Φ.fn "_law_is_twin" = spIsTwin
  joined : Φ.fn "_law_is_joined" = spJoined
def spLaw : SpM := fun ms h Q _ => ∃ ns : List Int, ms = [.rol (ns.map M.int)] ∧ ns.length ≤ 63 ∧ ∀ h', Q (.bl true) h'
theorem prime_at {v : Int} (h0 : 0 ≤ v) (h1 : v < 17) : 1 ≤ primes.getD v.toNat 0 ∧ primes.getD v.toNat 0 ≤ 61 := by
  have all : ∀ j, j < 17 → 1 ≤ primes.getD j 0 ∧ primes.getD j 0 ≤ 61 := by decide
  exact all _ (by omega)
/-- the first that is kept -/
def Kept (a kp : Nat) (h : MH) : List M → Prop
  | [] => True
  | m :: _ => ∃ (p : Int) (c : Nat) (l : List Int) (g : Nat), m = .tup [.int p, .ref c, .int (g : Nat)] ∧ h c = some (LI (full p l g)) ∧ c ≠ a ∧ c ≠ kp ∧ l.length = g + 1 ∧ l.getD 0 0 = 1 ∧ (∀ x ∈ l, x.natAbs ≤ 1000000001) ∧ 1 ≤ g ∧ g ≤ 4 ∧ 1 ≤ p ∧ p ≤ 61
theorem Kept.step {a kp : Nat} {h h' : MH} {ms : List M} (k : Kept a kp h ms) (t : ∀ c o, c ≠ a → c ≠ kp → h c = some o → h' c = some o) : Kept a kp h' ms := by
  cases ms with
  | nil => trivial
  | cons m r =>
    obtain ⟨p, c, l, g, e, hc, ca, ck, rest⟩ := k
    exact ⟨p, c, l, g, e, t _ _ ca ck hc, ca, ck, rest⟩
theorem keeps_law (Φ : Phi) (F : Fns2 Φ) : Keeps Φ 11 t_law spLaw := by
  intro ms h Q hsp
  obtain ⟨ns, rfl, hns, post⟩ := hsp
  have hΦ := F.mono
  change wS Φ W0 _ _ [some (.rol (ns.map M.int)), none, none, none, none, none, none, none, none, none, none] h
  unfold t_law
  refine st_asg hΦ ?_
  simp only [e_var_v, e_var_t, e_var_q, e_var_i, e_int_v, e_int_t, e_int_q, e_int_i, e_bl_v, e_bl_t, e_bl_q, e_bl_i, e_non_v, e_non_t, e_non_q, e_non_i, e_str_v, e_str_t, e_str_q, e_str_i, e_glob_v, e_glob_t, e_glob_q, e_glob_i, e_neg_v, e_neg_t, e_neg_q, e_neg_i, e_ife_v, e_ife_t, e_ife_q, e_ife_i, e_tup_v, e_tup_t, e_tup_q, e_tup_i, e_ix_v, e_ix_t, e_ix_q, e_ix_i, e_sl_v, e_sl_t, e_sl_q, e_sl_i, e_call_v, e_call_t, e_call_q, e_call_i, e_bi_v, e_bi_t, e_bi_q, e_bi_i, e_bq_v, e_bq_t, e_bq_q, e_bq_i, e_meth_v, e_meth_t, e_meth_q, e_meth_i, e_lst_v, e_lst_q, e_lst_i, e_bl1_v, e_bl1_q, e_bl1_i, e_comp_v, e_comp_q, e_comp_i, e_sub_v, e_fdiv_v, e_mod_v, e_pow_v, e_add_v, e_mul_v, e_add_q, e_mul_q, e_add_i, e_mul_i, e_not_v, e_not_t, e_and_v, e_and_t, e_or_v, e_or_t, e_cmp_v, e_cmp_t, e_rng_i, e_enum_i, e_zip_i, e_nil_a, e_cons_a, e_var_g, e_ix_g, e_tup_g, e_nil_gs, e_cons_gs, o_add, o_sub, o_add2, o_addt, o_mul, o_fdiv, o_mod, o_pow, o_aug, o_neg, m_eq, m_ne, m_lt, m_le, m_gt, m_ge, m_eqs, m_is, m_isnot, n_non, n_ref, n_int, n_tup, b_abs, b_int, b_len, b_max, b_min, l_list, r_1, r_2, t_bl, t_int, t_non, q_tup, q_rol, a_bl, d_none, d_some, d_int, u_all, u_if, g_nil, g_cons, isL_nil, isL_var, isL_int, isL_bl, isL_non, isL_str, isL_glob, isL_neg, isL_not, isL_and, isL_or, isL_ife, isL_cmp, isL_tup, isL_ix, isL_sl, isL_call, isL_bi, isL_bq, isL_meth, isL_rev, isL_step2, isL_lst, isL_bl1, isL_comp, isL_add, isL_mul, isL_sub, isL_fdiv, isL_mod, isL_pow, reduceIte, Bool.not_true, Bool.not_false, Bool.or_self, Bool.false_eq_true, isNonE, isNil, lenE, wipeM, Bool.or_true, Bool.true_or, Bool.or_false, List.getElem?_cons_succ, List.getElem?_cons_zero, List.set_cons_succ, List.set_cons_zero, List.length_cons, List.length_nil, List.length_map, rngL_length]
  rw [F.deck]
  refine ⟨ns, rfl, hns, fun a b h1 S1 na nb dk1 => ?_⟩
  refine st_asg hΦ ?_
  simp only [e_var_v, e_var_t, e_var_q, e_var_i, e_int_v, e_int_t, e_int_q, e_int_i, e_bl_v, e_bl_t, e_bl_q, e_bl_i, e_non_v, e_non_t, e_non_q, e_non_i, e_str_v, e_str_t, e_str_q, e_str_i, e_glob_v, e_glob_t, e_glob_q, e_glob_i, e_neg_v, e_neg_t, e_neg_q, e_neg_i, e_ife_v, e_ife_t, e_ife_q, e_ife_i, e_tup_v, e_tup_t, e_tup_q, e_tup_i, e_ix_v, e_ix_t, e_ix_q, e_ix_i, e_sl_v, e_sl_t, e_sl_q, e_sl_i, e_call_v, e_call_t, e_call_q, e_call_i, e_bi_v, e_bi_t, e_bi_q, e_bi_i, e_bq_v, e_bq_t, e_bq_q, e_bq_i, e_meth_v, e_meth_t, e_meth_q, e_meth_i, e_lst_v, e_lst_q, e_lst_i, e_bl1_v, e_bl1_q, e_bl1_i, e_comp_v, e_comp_q, e_comp_i, e_sub_v, e_fdiv_v, e_mod_v, e_pow_v, e_add_v, e_mul_v, e_add_q, e_mul_q, e_add_i, e_mul_i, e_not_v, e_not_t, e_and_v, e_and_t, e_or_v, e_or_t, e_cmp_v, e_cmp_t, e_rng_i, e_enum_i, e_zip_i, e_nil_a, e_cons_a, e_var_g, e_ix_g, e_tup_g, e_nil_gs, e_cons_gs, o_add, o_sub, o_add2, o_addt, o_mul, o_fdiv, o_mod, o_pow, o_aug, o_neg, m_eq, m_ne, m_lt, m_le, m_gt, m_ge, m_eqs, m_is, m_isnot, n_non, n_ref, n_int, n_tup, b_abs, b_int, b_len, b_max, b_min, l_list, r_1, r_2, t_bl, t_int, t_non, q_tup, q_rol, a_bl, d_none, d_some, d_int, u_all, u_if, g_nil, g_cons, isL_nil, isL_var, isL_int, isL_bl, isL_non, isL_str, isL_glob, isL_neg, isL_not, isL_and, isL_or, isL_ife, isL_cmp, isL_tup, isL_ix, isL_sl, isL_call, isL_bi, isL_bq, isL_meth, isL_rev, isL_step2, isL_lst, isL_bl1, isL_comp, isL_add, isL_mul, isL_sub, isL_fdiv, isL_mod, isL_pow, reduceIte, Bool.not_true, Bool.not_false, Bool.or_self, Bool.false_eq_true, isNonE, isNil, lenE, wipeM, Bool.or_true, Bool.true_or, Bool.or_false, List.getElem?_cons_succ, List.getElem?_cons_zero, List.set_cons_succ, List.set_cons_zero, List.length_cons, List.length_nil, List.length_map, rngL_length]
  refine ⟨by omega, trivial, ?_⟩
  intro kp n2
  obtain ⟨h2, eh, s2, e2⟩ := newc n2 (.lst [])
  rw [eh]
  clear eh
  have mk' : kp ≠ a := dk1.ne n2
  have kb : kp ≠ b := (mh_ne dk1.bt n2).symm
  refine st_for hΦ ?_
  simp only [e_var_v, e_var_t, e_var_q, e_var_i, e_int_v, e_int_t, e_int_q, e_int_i, e_bl_v, e_bl_t, e_bl_q, e_bl_i, e_non_v, e_non_t, e_non_q, e_non_i, e_str_v, e_str_t, e_str_q, e_str_i, e_glob_v, e_glob_t, e_glob_q, e_glob_i, e_neg_v, e_neg_t, e_neg_q, e_neg_i, e_ife_v, e_ife_t, e_ife_q, e_ife_i, e_tup_v, e_tup_t, e_tup_q, e_tup_i, e_ix_v, e_ix_t, e_ix_q, e_ix_i, e_sl_v, e_sl_t, e_sl_q, e_sl_i, e_call_v, e_call_t, e_call_q, e_call_i, e_bi_v, e_bi_t, e_bi_q, e_bi_i, e_bq_v, e_bq_t, e_bq_q, e_bq_i, e_meth_v, e_meth_t, e_meth_q, e_meth_i, e_lst_v, e_lst_q, e_lst_i, e_bl1_v, e_bl1_q, e_bl1_i, e_comp_v, e_comp_q, e_comp_i, e_sub_v, e_fdiv_v, e_mod_v, e_pow_v, e_add_v, e_mul_v, e_add_q, e_mul_q, e_add_i, e_mul_i, e_not_v, e_not_t, e_and_v, e_and_t, e_or_v, e_or_t, e_cmp_v, e_cmp_t, e_rng_i, e_enum_i, e_zip_i, e_nil_a, e_cons_a, e_var_g, e_ix_g, e_tup_g, e_nil_gs, e_cons_gs, o_add, o_sub, o_add2, o_addt, o_mul, o_fdiv, o_mod, o_pow, o_aug, o_neg, m_eq, m_ne, m_lt, m_le, m_gt, m_ge, m_eqs, m_is, m_isnot, n_non, n_ref, n_int, n_tup, b_abs, b_int, b_len, b_max, b_min, l_list, r_1, r_2, t_bl, t_int, t_non, q_tup, q_rol, a_bl, d_none, d_some, d_int, u_all, u_if, g_nil, g_cons, isL_nil, isL_var, isL_int, isL_bl, isL_non, isL_str, isL_glob, isL_neg, isL_not, isL_and, isL_or, isL_ife, isL_cmp, isL_tup, isL_ix, isL_sl, isL_call, isL_bi, isL_bq, isL_meth, isL_rev, isL_step2, isL_lst, isL_bl1, isL_comp, isL_add, isL_mul, isL_sub, isL_fdiv, isL_mod, isL_pow, reduceIte, Bool.not_true, Bool.not_false, Bool.or_self, Bool.false_eq_true, isNonE, isNil, lenE, wipeM, Bool.or_true, Bool.true_or, Bool.or_false, List.getElem?_cons_succ, List.getElem?_cons_zero, List.set_cons_succ, List.set_cons_zero, List.length_cons, List.length_nil, List.length_map, rngL_length]
  refine ⟨by omega, ?_⟩
  refine ⟨fun i σ h' => ∃ x3 x7 x8 x9 ks, σ = [some (.rol (ns.map M.int)), some (.ref a), some (.ref kp), x3, none, none, none, x7, x8, x9, none] ∧ Deck h' a b ns (100000 * i) ∧ h' kp = some (.lst ks) ∧ ks.length = i ∧ Kept a kp h' ks, ?_, ?_, ?_, ?_⟩
  · exact ⟨none, none, none, none, [], rfl, dk1.sub s2, e2, rfl, trivial⟩
  · intro i σ h' _ _; trivial
  · rintro i m σ h' em ⟨x3, x7, x8, x9, ks, rfl, dk, ek, lk, kept⟩
    obtain ⟨hi, rfl⟩ := rng_get em
    have hi : i < 3 := by omega
    simp only [e_var_v, e_var_t, e_var_q, e_var_i, e_int_v, e_int_t, e_int_q, e_int_i, e_bl_v, e_bl_t, e_bl_q, e_bl_i, e_non_v, e_non_t, e_non_q, e_non_i, e_str_v, e_str_t, e_str_q, e_str_i, e_glob_v, e_glob_t, e_glob_q, e_glob_i, e_neg_v, e_neg_t, e_neg_q, e_neg_i, e_ife_v, e_ife_t, e_ife_q, e_ife_i, e_tup_v, e_tup_t, e_tup_q, e_tup_i, e_ix_v, e_ix_t, e_ix_q, e_ix_i, e_sl_v, e_sl_t, e_sl_q, e_sl_i, e_call_v, e_call_t, e_call_q, e_call_i, e_bi_v, e_bi_t, e_bi_q, e_bi_i, e_bq_v, e_bq_t, e_bq_q, e_bq_i, e_meth_v, e_meth_t, e_meth_q, e_meth_i, e_lst_v, e_lst_q, e_lst_i, e_bl1_v, e_bl1_q, e_bl1_i, e_comp_v, e_comp_q, e_comp_i, e_sub_v, e_fdiv_v, e_mod_v, e_pow_v, e_add_v, e_mul_v, e_add_q, e_mul_q, e_add_i, e_mul_i, e_not_v, e_not_t, e_and_v, e_and_t, e_or_v, e_or_t, e_cmp_v, e_cmp_t, e_rng_i, e_enum_i, e_zip_i, e_nil_a, e_cons_a, e_var_g, e_ix_g, e_tup_g, e_nil_gs, e_cons_gs, o_add, o_sub, o_add2, o_addt, o_mul, o_fdiv, o_mod, o_pow, o_aug, o_neg, m_eq, m_ne, m_lt, m_le, m_gt, m_ge, m_eqs, m_is, m_isnot, n_non, n_ref, n_int, n_tup, b_abs, b_int, b_len, b_max, b_min, l_list, r_1, r_2, t_bl, t_int, t_non, q_tup, q_rol, a_bl, d_none, d_some, d_int, u_all, u_if, g_nil, g_cons, isL_nil, isL_var, isL_int, isL_bl, isL_non, isL_str, isL_glob, isL_neg, isL_not, isL_and, isL_or, isL_ife, isL_cmp, isL_tup, isL_ix, isL_sl, isL_call, isL_bi, isL_bq, isL_meth, isL_rev, isL_step2, isL_lst, isL_bl1, isL_comp, isL_add, isL_mul, isL_sub, isL_fdiv, isL_mod, isL_pow, reduceIte, Bool.not_true, Bool.not_false, Bool.or_self, Bool.false_eq_true, isNonE, isNil, lenE, wipeM, Bool.or_true, Bool.true_or, Bool.or_false, List.getElem?_cons_succ, List.getElem?_cons_zero, List.set_cons_succ, List.set_cons_zero, List.length_cons, List.length_nil, List.length_map, rngL_length]
    refine st_asg hΦ ?_
    simp only [e_var_v, e_var_t, e_var_q, e_var_i, e_int_v, e_int_t, e_int_q, e_int_i, e_bl_v, e_bl_t, e_bl_q, e_bl_i, e_non_v, e_non_t, e_non_q, e_non_i, e_str_v, e_str_t, e_str_q, e_str_i, e_glob_v, e_glob_t, e_glob_q, e_glob_i, e_neg_v, e_neg_t, e_neg_q, e_neg_i, e_ife_v, e_ife_t, e_ife_q, e_ife_i, e_tup_v, e_tup_t, e_tup_q, e_tup_i, e_ix_v, e_ix_t, e_ix_q, e_ix_i, e_sl_v, e_sl_t, e_sl_q, e_sl_i, e_call_v, e_call_t, e_call_q, e_call_i, e_bi_v, e_bi_t, e_bi_q, e_bi_i, e_bq_v, e_bq_t, e_bq_q, e_bq_i, e_meth_v, e_meth_t, e_meth_q, e_meth_i, e_lst_v, e_lst_q, e_lst_i, e_bl1_v, e_bl1_q, e_bl1_i, e_comp_v, e_comp_q, e_comp_i, e_sub_v, e_fdiv_v, e_mod_v, e_pow_v, e_add_v, e_mul_v, e_add_q, e_mul_q, e_add_i, e_mul_i, e_not_v, e_not_t, e_and_v, e_and_t, e_or_v, e_or_t, e_cmp_v, e_cmp_t, e_rng_i, e_enum_i, e_zip_i, e_nil_a, e_cons_a, e_var_g, e_ix_g, e_tup_g, e_nil_gs, e_cons_gs, o_add, o_sub, o_add2, o_addt, o_mul, o_fdiv, o_mod, o_pow, o_aug, o_neg, m_eq, m_ne, m_lt, m_le, m_gt, m_ge, m_eqs, m_is, m_isnot, n_non, n_ref, n_int, n_tup, b_abs, b_int, b_len, b_max, b_min, l_list, r_1, r_2, t_bl, t_int, t_non, q_tup, q_rol, a_bl, d_none, d_some, d_int, u_all, u_if, g_nil, g_cons, isL_nil, isL_var, isL_int, isL_bl, isL_non, isL_str, isL_glob, isL_neg, isL_not, isL_and, isL_or, isL_ife, isL_cmp, isL_tup, isL_ix, isL_sl, isL_call, isL_bi, isL_bq, isL_meth, isL_rev, isL_step2, isL_lst, isL_bl1, isL_comp, isL_add, isL_mul, isL_sub, isL_fdiv, isL_mod, isL_pow, reduceIte, Bool.not_true, Bool.not_false, Bool.or_self, Bool.false_eq_true, isNonE, isNil, lenE, wipeM, Bool.or_true, Bool.true_or, Bool.or_false, List.getElem?_cons_succ, List.getElem?_cons_zero, List.set_cons_succ, List.set_cons_zero, List.length_cons, List.length_nil, List.length_map, rngL_length]
    rw [F.primes]
    refine ⟨rfl, ?_⟩
    intro q3 n3
    obtain ⟨h3, eh, s3, e3⟩ := newc n3 (LI primes)
    rw [eh]
    clear eh
    have m3 : q3 ≠ a := dk.ne n3
    rw [F.draw]
    refine ⟨a, b, ns, _, 17, rfl, by omega, by omega, by omega, hns, dk.sub s3, fun v4 h4 v4a v4b dk4 fr4 => ?_⟩
    have t4 : ∀ c o, c ≠ a → h3 c = some o → h4 c = some o := fun c o z e => (fr4 c z).trans e
    refine ix_int (t4 _ _ m3 e3) v4a (by show _ < 17; omega) ?_
    obtain ⟨p1, p2⟩ := prime_at v4a v4b
    generalize primes.getD v4.toNat 0 = p at p1 p2 ⊢
    refine ⟨a, b, ns, _, 4, rfl, by omega, by omega, by omega, hns, dk4, fun v5 h5 v5a v5b dk5 fr5 => ?_⟩
    have t5 : ∀ c o, c ≠ a → h4 c = some o → h5 c = some o := fun c o z e => (fr5 c z).trans e
    obtain ⟨g, eg⟩ : ∃ g : Nat, (1 : Int) + v5 = g := ⟨(1 + v5).toNat, by omega⟩
    have g1 : 1 ≤ g := by omega
    have g4 : g ≤ 4 := by omega
    simp only [e_var_v, e_var_t, e_var_q, e_var_i, e_int_v, e_int_t, e_int_q, e_int_i, e_bl_v, e_bl_t, e_bl_q, e_bl_i, e_non_v, e_non_t, e_non_q, e_non_i, e_str_v, e_str_t, e_str_q, e_str_i, e_glob_v, e_glob_t, e_glob_q, e_glob_i, e_neg_v, e_neg_t, e_neg_q, e_neg_i, e_ife_v, e_ife_t, e_ife_q, e_ife_i, e_tup_v, e_tup_t, e_tup_q, e_tup_i, e_ix_v, e_ix_t, e_ix_q, e_ix_i, e_sl_v, e_sl_t, e_sl_q, e_sl_i, e_call_v, e_call_t, e_call_q, e_call_i, e_bi_v, e_bi_t, e_bi_q, e_bi_i, e_bq_v, e_bq_t, e_bq_q, e_bq_i, e_meth_v, e_meth_t, e_meth_q, e_meth_i, e_lst_v, e_lst_q, e_lst_i, e_bl1_v, e_bl1_q, e_bl1_i, e_comp_v, e_comp_q, e_comp_i, e_sub_v, e_fdiv_v, e_mod_v, e_pow_v, e_add_v, e_mul_v, e_add_q, e_mul_q, e_add_i, e_mul_i, e_not_v, e_not_t, e_and_v, e_and_t, e_or_v, e_or_t, e_cmp_v, e_cmp_t, e_rng_i, e_enum_i, e_zip_i, e_nil_a, e_cons_a, e_var_g, e_ix_g, e_tup_g, e_nil_gs, e_cons_gs, o_add, o_sub, o_add2, o_addt, o_mul, o_fdiv, o_mod, o_pow, o_aug, o_neg, m_eq, m_ne, m_lt, m_le, m_gt, m_ge, m_eqs, m_is, m_isnot, n_non, n_ref, n_int, n_tup, b_abs, b_int, b_len, b_max, b_min, l_list, r_1, r_2, t_bl, t_int, t_non, q_tup, q_rol, a_bl, d_none, d_some, d_int, u_all, u_if, g_nil, g_cons, isL_nil, isL_var, isL_int, isL_bl, isL_non, isL_str, isL_glob, isL_neg, isL_not, isL_and, isL_or, isL_ife, isL_cmp, isL_tup, isL_ix, isL_sl, isL_call, isL_bi, isL_bq, isL_meth, isL_rev, isL_step2, isL_lst, isL_bl1, isL_comp, isL_add, isL_mul, isL_sub, isL_fdiv, isL_mod, isL_pow, reduceIte, Bool.not_true, Bool.not_false, Bool.or_self, Bool.false_eq_true, isNonE, isNil, lenE, wipeM, Bool.or_true, Bool.true_or, Bool.or_false, List.getElem?_cons_succ, List.getElem?_cons_zero, List.set_cons_succ, List.set_cons_zero, List.length_cons, List.length_nil, List.length_map, rngL_length]
    rw [eg]
    refine ⟨by omega, trivial, ?_⟩
    refine st_asg hΦ ?_
    simp only [e_var_v, e_var_t, e_var_q, e_var_i, e_int_v, e_int_t, e_int_q, e_int_i, e_bl_v, e_bl_t, e_bl_q, e_bl_i, e_non_v, e_non_t, e_non_q, e_non_i, e_str_v, e_str_t, e_str_q, e_str_i, e_glob_v, e_glob_t, e_glob_q, e_glob_i, e_neg_v, e_neg_t, e_neg_q, e_neg_i, e_ife_v, e_ife_t, e_ife_q, e_ife_i, e_tup_v, e_tup_t, e_tup_q, e_tup_i, e_ix_v, e_ix_t, e_ix_q, e_ix_i, e_sl_v, e_sl_t, e_sl_q, e_sl_i, e_call_v, e_call_t, e_call_q, e_call_i, e_bi_v, e_bi_t, e_bi_q, e_bi_i, e_bq_v, e_bq_t, e_bq_q, e_bq_i, e_meth_v, e_meth_t, e_meth_q, e_meth_i, e_lst_v, e_lst_q, e_lst_i, e_bl1_v, e_bl1_q, e_bl1_i, e_comp_v, e_comp_q, e_comp_i, e_sub_v, e_fdiv_v, e_mod_v, e_pow_v, e_add_v, e_mul_v, e_add_q, e_mul_q, e_add_i, e_mul_i, e_not_v, e_not_t, e_and_v, e_and_t, e_or_v, e_or_t, e_cmp_v, e_cmp_t, e_rng_i, e_enum_i, e_zip_i, e_nil_a, e_cons_a, e_var_g, e_ix_g, e_tup_g, e_nil_gs, e_cons_gs, o_add, o_sub, o_add2, o_addt, o_mul, o_fdiv, o_mod, o_pow, o_aug, o_neg, m_eq, m_ne, m_lt, m_le, m_gt, m_ge, m_eqs, m_is, m_isnot, n_non, n_ref, n_int, n_tup, b_abs, b_int, b_len, b_max, b_min, l_list, r_1, r_2, t_bl, t_int, t_non, q_tup, q_rol, a_bl, d_none, d_some, d_int, u_all, u_if, g_nil, g_cons, isL_nil, isL_var, isL_int, isL_bl, isL_non, isL_str, isL_glob, isL_neg, isL_not, isL_and, isL_or, isL_ife, isL_cmp, isL_tup, isL_ix, isL_sl, isL_call, isL_bi, isL_bq, isL_meth, isL_rev, isL_step2, isL_lst, isL_bl1, isL_comp, isL_add, isL_mul, isL_sub, isL_fdiv, isL_mod, isL_pow, reduceIte, Bool.not_true, Bool.not_false, Bool.or_self, Bool.false_eq_true, isNonE, isNil, lenE, wipeM, Bool.or_true, Bool.true_or, Bool.or_false, List.getElem?_cons_succ, List.getElem?_cons_zero, List.set_cons_succ, List.set_cons_zero, List.length_cons, List.length_nil, List.length_map, rngL_length]
    refine ⟨by decide, by omega, trivial, ?_⟩
    intro q6 n6
    obtain ⟨h6, eh, s6, e6⟩ := newc n6 (.lst [.int 3, .int 40, .int 3000, .int ((10 : Int) ^ (9 : Int).toNat)])
    rw [eh]
    clear eh
    have m6 : q6 ≠ a := dk5.ne n6
    rw [F.draw]
    refine ⟨a, b, ns, _, 4, rfl, by omega, by omega, by omega, hns, dk5.sub s6, fun v7 h7 v7a v7b dk7 fr7 => ?_⟩
    have t7 : ∀ c o, c ≠ a → h6 c = some o → h7 c = some o := fun c o z e => (fr7 c z).trans e
    refine ix_int (ns := [3, 40, 3000, (10 : Int) ^ (9 : Int).toNat]) (t7 _ _ m6 e6) v7a (by show _ < 4; omega) ?_
    have hm : 0 ≤ ([3, 40, 3000, (10 : Int) ^ (9 : Int).toNat] : List Int).getD v7.toNat 0 ∧ ([3, 40, 3000, (10 : Int) ^ (9 : Int).toNat] : List Int).getD v7.toNat 0 ≤ 1000000000 := by
      have : v7 = 0 ∨ v7 = 1 ∨ v7 = 2 ∨ v7 = 3 := by omega
      rcases this with rfl | rfl | rfl | rfl <;> decide
    generalize ([3, 40, 3000, (10 : Int) ^ (9 : Int).toNat] : List Int).getD v7.toNat 0 = most at hm ⊢
    rw [F.list]
    refine ⟨a, b, ns, _, p, g, most, rfl, dk7, hns, by omega, p1, by omega, g4, hm.1, hm.2, fun r8 h8 l hl l0 lb nr8 hr8 dk8 fr8 => ?_⟩
    have m8 : r8 ≠ a := dk7.ne nr8
    have t8 : ∀ c o, c ≠ a → h7 c = some o → h8 c = some o := fun c o z e => (fr8 c z (mh_ne e nr8)).trans e
    have T8 : ∀ c o, c ≠ a → h' c = some o → h8 c = some o := fun c o z e => t8 _ _ z (t7 _ _ z (s6 _ _ (t5 _ _ z (t4 _ _ z (s3 _ _ e)))))
    have lb' : ∀ x ∈ l, x.natAbs ≤ 1000000001 := fun x hx => Nat.le_trans (lb x hx) (by omega)
    have L := lst_of p1 p2 g4 hl l0 lb'
    have k8 : h8 kp = some (.lst ks) := T8 _ _ mk' ek
    have k7 : h7 kp = some (.lst ks) := t7 _ _ mk' (s6 _ _ (t5 _ _ mk' (t4 _ _ mk' (s3 _ _ ek))))
    have rk : r8 ≠ kp := (mh_ne k7 nr8).symm
    refine st_expr hΦ ?_
    simp only [e_var_v, e_var_t, e_var_q, e_var_i, e_int_v, e_int_t, e_int_q, e_int_i, e_bl_v, e_bl_t, e_bl_q, e_bl_i, e_non_v, e_non_t, e_non_q, e_non_i, e_str_v, e_str_t, e_str_q, e_str_i, e_glob_v, e_glob_t, e_glob_q, e_glob_i, e_neg_v, e_neg_t, e_neg_q, e_neg_i, e_ife_v, e_ife_t, e_ife_q, e_ife_i, e_tup_v, e_tup_t, e_tup_q, e_tup_i, e_ix_v, e_ix_t, e_ix_q, e_ix_i, e_sl_v, e_sl_t, e_sl_q, e_sl_i, e_call_v, e_call_t, e_call_q, e_call_i, e_bi_v, e_bi_t, e_bi_q, e_bi_i, e_bq_v, e_bq_t, e_bq_q, e_bq_i, e_meth_v, e_meth_t, e_meth_q, e_meth_i, e_lst_v, e_lst_q, e_lst_i, e_bl1_v, e_bl1_q, e_bl1_i, e_comp_v, e_comp_q, e_comp_i, e_sub_v, e_fdiv_v, e_mod_v, e_pow_v, e_add_v, e_mul_v, e_add_q, e_mul_q, e_add_i, e_mul_i, e_not_v, e_not_t, e_and_v, e_and_t, e_or_v, e_or_t, e_cmp_v, e_cmp_t, e_rng_i, e_enum_i, e_zip_i, e_nil_a, e_cons_a, e_var_g, e_ix_g, e_tup_g, e_nil_gs, e_cons_gs, o_add, o_sub, o_add2, o_addt, o_mul, o_fdiv, o_mod, o_pow, o_aug, o_neg, m_eq, m_ne, m_lt, m_le, m_gt, m_ge, m_eqs, m_is, m_isnot, n_non, n_ref, n_int, n_tup, b_abs, b_int, b_len, b_max, b_min, l_list, r_1, r_2, t_bl, t_int, t_non, q_tup, q_rol, a_bl, d_none, d_some, d_int, u_all, u_if, g_nil, g_cons, isL_nil, isL_var, isL_int, isL_bl, isL_non, isL_str, isL_glob, isL_neg, isL_not, isL_and, isL_or, isL_ife, isL_cmp, isL_tup, isL_ix, isL_sl, isL_call, isL_bi, isL_bq, isL_meth, isL_rev, isL_step2, isL_lst, isL_bl1, isL_comp, isL_add, isL_mul, isL_sub, isL_fdiv, isL_mod, isL_pow, reduceIte, Bool.not_true, Bool.not_false, Bool.or_self, Bool.false_eq_true, isNonE, isNil, lenE, wipeM, Bool.or_true, Bool.true_or, Bool.or_false, List.getElem?_cons_succ, List.getElem?_cons_zero, List.set_cons_succ, List.set_cons_zero, List.length_cons, List.length_nil, List.length_map, rngL_length]
    refine ⟨lst_ok k8, by omega, ?_⟩
    refine (append_ref k8 (by have := hSZ; omega) ?_).2
    have T9 : ∀ c o, c ≠ a → c ≠ kp → h' c = some o → put h8 kp (.lst (ks ++ [.tup [.int p, .ref r8, .int (g : Nat)]])) c = some o := fun c o z z2 e => (put_ne z2).trans (T8 _ _ z e)
    have x9' : put h8 kp (.lst (ks ++ [.tup [.int p, .ref r8, .int (g : Nat)]])) r8 = some (LI (full p l g)) := (put_ne rk).trans hr8
    have dk9 := dk8.other (o := .lst (ks ++ [.tup [.int p, .ref r8, .int (g : Nat)]])) mk' kb
    have e9 : put h8 kp (.lst (ks ++ [.tup [.int p, .ref r8, .int (g : Nat)]])) kp = some (.lst (ks ++ [.tup [.int p, .ref r8, .int (g : Nat)]])) := put_same
    generalize put h8 kp (.lst (ks ++ [.tup [.int p, .ref r8, .int (g : Nat)]])) = h9 at T9 x9' dk9 e9 ⊢
    have kept9 : Kept a kp h9 (ks ++ [.tup [.int p, .ref r8, .int (g : Nat)]]) := by
      cases ks with
      | nil => exact ⟨p, r8, l, g, rfl, x9', m8, rk, hl, l0, lb', g1, g4, p1, p2⟩
      | cons m r => exact Kept.step (ms := m :: r) kept T9
    clear T9 T8 t8 t7 s6 t5 t4 s3 kept k8 k7 hr8 fr8 fr7 fr5 fr4 dk8 dk7 dk5 dk4 e3 e6 nr8 n6 n3
    refine st_iff hΦ ?_
    simp only [e_var_v, e_var_t, e_var_q, e_var_i, e_int_v, e_int_t, e_int_q, e_int_i, e_bl_v, e_bl_t, e_bl_q, e_bl_i, e_non_v, e_non_t, e_non_q, e_non_i, e_str_v, e_str_t, e_str_q, e_str_i, e_glob_v, e_glob_t, e_glob_q, e_glob_i, e_neg_v, e_neg_t, e_neg_q, e_neg_i, e_ife_v, e_ife_t, e_ife_q, e_ife_i, e_tup_v, e_tup_t, e_tup_q, e_tup_i, e_ix_v, e_ix_t, e_ix_q, e_ix_i, e_sl_v, e_sl_t, e_sl_q, e_sl_i, e_call_v, e_call_t, e_call_q, e_call_i, e_bi_v, e_bi_t, e_bi_q, e_bi_i, e_bq_v, e_bq_t, e_bq_q, e_bq_i, e_meth_v, e_meth_t, e_meth_q, e_meth_i, e_lst_v, e_lst_q, e_lst_i, e_bl1_v, e_bl1_q, e_bl1_i, e_comp_v, e_comp_q, e_comp_i, e_sub_v, e_fdiv_v, e_mod_v, e_pow_v, e_add_v, e_mul_v, e_add_q, e_mul_q, e_add_i, e_mul_i, e_not_v, e_not_t, e_and_v, e_and_t, e_or_v, e_or_t, e_cmp_v, e_cmp_t, e_rng_i, e_enum_i, e_zip_i, e_nil_a, e_cons_a, e_var_g, e_ix_g, e_tup_g, e_nil_gs, e_cons_gs, o_add, o_sub, o_add2, o_addt, o_mul, o_fdiv, o_mod, o_pow, o_aug, o_neg, m_eq, m_ne, m_lt, m_le, m_gt, m_ge, m_eqs, m_is, m_isnot, n_non, n_ref, n_int, n_tup, b_abs, b_int, b_len, b_max, b_min, l_list, r_1, r_2, t_bl, t_int, t_non, q_tup, q_rol, a_bl, d_none, d_some, d_int, u_all, u_if, g_nil, g_cons, isL_nil, isL_var, isL_int, isL_bl, isL_non, isL_str, isL_glob, isL_neg, isL_not, isL_and, isL_or, isL_ife, isL_cmp, isL_tup, isL_ix, isL_sl, isL_call, isL_bi, isL_bq, isL_meth, isL_rev, isL_step2, isL_lst, isL_bl1, isL_comp, isL_add, isL_mul, isL_sub, isL_fdiv, isL_mod, isL_pow, reduceIte, Bool.not_true, Bool.not_false, Bool.or_self, Bool.false_eq_true, isNonE, isNil, lenE, wipeM, Bool.or_true, Bool.true_or, Bool.or_false, List.getElem?_cons_succ, List.getElem?_cons_zero, List.set_cons_succ, List.set_cons_zero, List.length_cons, List.length_nil, List.length_map, rngL_length]
    rw [F.counted]
    refine ⟨p, r8, full p l g, g, rfl, x9', g1, g4, L, p1, p2, ?_⟩
    simp only [e_var_v, e_var_t, e_var_q, e_var_i, e_int_v, e_int_t, e_int_q, e_int_i, e_bl_v, e_bl_t, e_bl_q, e_bl_i, e_non_v, e_non_t, e_non_q, e_non_i, e_str_v, e_str_t, e_str_q, e_str_i, e_glob_v, e_glob_t, e_glob_q, e_glob_i, e_neg_v, e_neg_t, e_neg_q, e_neg_i, e_ife_v, e_ife_t, e_ife_q, e_ife_i, e_tup_v, e_tup_t, e_tup_q, e_tup_i, e_ix_v, e_ix_t, e_ix_q, e_ix_i, e_sl_v, e_sl_t, e_sl_q, e_sl_i, e_call_v, e_call_t, e_call_q, e_call_i, e_bi_v, e_bi_t, e_bi_q, e_bi_i, e_bq_v, e_bq_t, e_bq_q, e_bq_i, e_meth_v, e_meth_t, e_meth_q, e_meth_i, e_lst_v, e_lst_q, e_lst_i, e_bl1_v, e_bl1_q, e_bl1_i, e_comp_v, e_comp_q, e_comp_i, e_sub_v, e_fdiv_v, e_mod_v, e_pow_v, e_add_v, e_mul_v, e_add_q, e_mul_q, e_add_i, e_mul_i, e_not_v, e_not_t, e_and_v, e_and_t, e_or_v, e_or_t, e_cmp_v, e_cmp_t, e_rng_i, e_enum_i, e_zip_i, e_nil_a, e_cons_a, e_var_g, e_ix_g, e_tup_g, e_nil_gs, e_cons_gs, o_add, o_sub, o_add2, o_addt, o_mul, o_fdiv, o_mod, o_pow, o_aug, o_neg, m_eq, m_ne, m_lt, m_le, m_gt, m_ge, m_eqs, m_is, m_isnot, n_non, n_ref, n_int, n_tup, b_abs, b_int, b_len, b_max, b_min, l_list, r_1, r_2, t_bl, t_int, t_non, q_tup, q_rol, a_bl, d_none, d_some, d_int, u_all, u_if, g_nil, g_cons, isL_nil, isL_var, isL_int, isL_bl, isL_non, isL_str, isL_glob, isL_neg, isL_not, isL_and, isL_or, isL_ife, isL_cmp, isL_tup, isL_ix, isL_sl, isL_call, isL_bi, isL_bq, isL_meth, isL_rev, isL_step2, isL_lst, isL_bl1, isL_comp, isL_add, isL_mul, isL_sub, isL_fdiv, isL_mod, isL_pow, reduceIte, Bool.not_true, Bool.not_false, Bool.or_self, Bool.false_eq_true, isNonE, isNil, lenE, wipeM, Bool.or_true, Bool.true_or, Bool.or_false, List.getElem?_cons_succ, List.getElem?_cons_zero, List.set_cons_succ, List.set_cons_zero, List.length_cons, List.length_nil, List.length_map, rngL_length]
    rw [F.changed]
    refine ⟨a, b, ns, _, p, r8, full p l g, g, rfl, dk9, hns, by omega, x9', m8, g1, g4, L, p1, p2, fun h10 dk10 t10 => ?_⟩
    simp only [e_var_v, e_var_t, e_var_q, e_var_i, e_int_v, e_int_t, e_int_q, e_int_i, e_bl_v, e_bl_t, e_bl_q, e_bl_i, e_non_v, e_non_t, e_non_q, e_non_i, e_str_v, e_str_t, e_str_q, e_str_i, e_glob_v, e_glob_t, e_glob_q, e_glob_i, e_neg_v, e_neg_t, e_neg_q, e_neg_i, e_ife_v, e_ife_t, e_ife_q, e_ife_i, e_tup_v, e_tup_t, e_tup_q, e_tup_i, e_ix_v, e_ix_t, e_ix_q, e_ix_i, e_sl_v, e_sl_t, e_sl_q, e_sl_i, e_call_v, e_call_t, e_call_q, e_call_i, e_bi_v, e_bi_t, e_bi_q, e_bi_i, e_bq_v, e_bq_t, e_bq_q, e_bq_i, e_meth_v, e_meth_t, e_meth_q, e_meth_i, e_lst_v, e_lst_q, e_lst_i, e_bl1_v, e_bl1_q, e_bl1_i, e_comp_v, e_comp_q, e_comp_i, e_sub_v, e_fdiv_v, e_mod_v, e_pow_v, e_add_v, e_mul_v, e_add_q, e_mul_q, e_add_i, e_mul_i, e_not_v, e_not_t, e_and_v, e_and_t, e_or_v, e_or_t, e_cmp_v, e_cmp_t, e_rng_i, e_enum_i, e_zip_i, e_nil_a, e_cons_a, e_var_g, e_ix_g, e_tup_g, e_nil_gs, e_cons_gs, o_add, o_sub, o_add2, o_addt, o_mul, o_fdiv, o_mod, o_pow, o_aug, o_neg, m_eq, m_ne, m_lt, m_le, m_gt, m_ge, m_eqs, m_is, m_isnot, n_non, n_ref, n_int, n_tup, b_abs, b_int, b_len, b_max, b_min, l_list, r_1, r_2, t_bl, t_int, t_non, q_tup, q_rol, a_bl, d_none, d_some, d_int, u_all, u_if, g_nil, g_cons, isL_nil, isL_var, isL_int, isL_bl, isL_non, isL_str, isL_glob, isL_neg, isL_not, isL_and, isL_or, isL_ife, isL_cmp, isL_tup, isL_ix, isL_sl, isL_call, isL_bi, isL_bq, isL_meth, isL_rev, isL_step2, isL_lst, isL_bl1, isL_comp, isL_add, isL_mul, isL_sub, isL_fdiv, isL_mod, isL_pow, reduceIte, Bool.not_true, Bool.not_false, Bool.or_self, Bool.false_eq_true, isNonE, isNil, lenE, wipeM, Bool.or_true, Bool.true_or, Bool.or_false, List.getElem?_cons_succ, List.getElem?_cons_zero, List.set_cons_succ, List.set_cons_zero, List.length_cons, List.length_nil, List.length_map, rngL_length]
    rw [F.istwin]
    refine ⟨p, r8, full p l g, g, rfl, t10 _ _ m8 x9', g4, L, p1, p2, ?_⟩
    simp only [e_var_v, e_var_t, e_var_q, e_var_i, e_int_v, e_int_t, e_int_q, e_int_i, e_bl_v, e_bl_t, e_bl_q, e_bl_i, e_non_v, e_non_t, e_non_q, e_non_i, e_str_v, e_str_t, e_str_q, e_str_i, e_glob_v, e_glob_t, e_glob_q, e_glob_i, e_neg_v, e_neg_t, e_neg_q, e_neg_i, e_ife_v, e_ife_t, e_ife_q, e_ife_i, e_tup_v, e_tup_t, e_tup_q, e_tup_i, e_ix_v, e_ix_t, e_ix_q, e_ix_i, e_sl_v, e_sl_t, e_sl_q, e_sl_i, e_call_v, e_call_t, e_call_q, e_call_i, e_bi_v, e_bi_t, e_bi_q, e_bi_i, e_bq_v, e_bq_t, e_bq_q, e_bq_i, e_meth_v, e_meth_t, e_meth_q, e_meth_i, e_lst_v, e_lst_q, e_lst_i, e_bl1_v, e_bl1_q, e_bl1_i, e_comp_v, e_comp_q, e_comp_i, e_sub_v, e_fdiv_v, e_mod_v, e_pow_v, e_add_v, e_mul_v, e_add_q, e_mul_q, e_add_i, e_mul_i, e_not_v, e_not_t, e_and_v, e_and_t, e_or_v, e_or_t, e_cmp_v, e_cmp_t, e_rng_i, e_enum_i, e_zip_i, e_nil_a, e_cons_a, e_var_g, e_ix_g, e_tup_g, e_nil_gs, e_cons_gs, o_add, o_sub, o_add2, o_addt, o_mul, o_fdiv, o_mod, o_pow, o_aug, o_neg, m_eq, m_ne, m_lt, m_le, m_gt, m_ge, m_eqs, m_is, m_isnot, n_non, n_ref, n_int, n_tup, b_abs, b_int, b_len, b_max, b_min, l_list, r_1, r_2, t_bl, t_int, t_non, q_tup, q_rol, a_bl, d_none, d_some, d_int, u_all, u_if, g_nil, g_cons, isL_nil, isL_var, isL_int, isL_bl, isL_non, isL_str, isL_glob, isL_neg, isL_not, isL_and, isL_or, isL_ife, isL_cmp, isL_tup, isL_ix, isL_sl, isL_call, isL_bi, isL_bq, isL_meth, isL_rev, isL_step2, isL_lst, isL_bl1, isL_comp, isL_add, isL_mul, isL_sub, isL_fdiv, isL_mod, isL_pow, reduceIte, Bool.not_true, Bool.not_false, Bool.or_self, Bool.false_eq_true, isNonE, isNil, lenE, wipeM, Bool.or_true, Bool.true_or, Bool.or_false, List.getElem?_cons_succ, List.getElem?_cons_zero, List.set_cons_succ, List.set_cons_zero, List.length_cons, List.length_nil, List.length_map, rngL_length]
    refine st_skip ?_
    dsimp only
    refine st_if1 ?_
    simp only [e_var_v, e_var_t, e_var_q, e_var_i, e_int_v, e_int_t, e_int_q, e_int_i, e_bl_v, e_bl_t, e_bl_q, e_bl_i, e_non_v, e_non_t, e_non_q, e_non_i, e_str_v, e_str_t, e_str_q, e_str_i, e_glob_v, e_glob_t, e_glob_q, e_glob_i, e_neg_v, e_neg_t, e_neg_q, e_neg_i, e_ife_v, e_ife_t, e_ife_q, e_ife_i, e_tup_v, e_tup_t, e_tup_q, e_tup_i, e_ix_v, e_ix_t, e_ix_q, e_ix_i, e_sl_v, e_sl_t, e_sl_q, e_sl_i, e_call_v, e_call_t, e_call_q, e_call_i, e_bi_v, e_bi_t, e_bi_q, e_bi_i, e_bq_v, e_bq_t, e_bq_q, e_bq_i, e_meth_v, e_meth_t, e_meth_q, e_meth_i, e_lst_v, e_lst_q, e_lst_i, e_bl1_v, e_bl1_q, e_bl1_i, e_comp_v, e_comp_q, e_comp_i, e_sub_v, e_fdiv_v, e_mod_v, e_pow_v, e_add_v, e_mul_v, e_add_q, e_mul_q, e_add_i, e_mul_i, e_not_v, e_not_t, e_and_v, e_and_t, e_or_v, e_or_t, e_cmp_v, e_cmp_t, e_rng_i, e_enum_i, e_zip_i, e_nil_a, e_cons_a, e_var_g, e_ix_g, e_tup_g, e_nil_gs, e_cons_gs, o_add, o_sub, o_add2, o_addt, o_mul, o_fdiv, o_mod, o_pow, o_aug, o_neg, m_eq, m_ne, m_lt, m_le, m_gt, m_ge, m_eqs, m_is, m_isnot, n_non, n_ref, n_int, n_tup, b_abs, b_int, b_len, b_max, b_min, l_list, r_1, r_2, t_bl, t_int, t_non, q_tup, q_rol, a_bl, d_none, d_some, d_int, u_all, u_if, g_nil, g_cons, isL_nil, isL_var, isL_int, isL_bl, isL_non, isL_str, isL_glob, isL_neg, isL_not, isL_and, isL_or, isL_ife, isL_cmp, isL_tup, isL_ix, isL_sl, isL_call, isL_bi, isL_bq, isL_meth, isL_rev, isL_step2, isL_lst, isL_bl1, isL_comp, isL_add, isL_mul, isL_sub, isL_fdiv, isL_mod, isL_pow, reduceIte, Bool.not_true, Bool.not_false, Bool.or_self, Bool.false_eq_true, isNonE, isNil, lenE, wipeM, Bool.or_true, Bool.true_or, Bool.or_false, List.getElem?_cons_succ, List.getElem?_cons_zero, List.set_cons_succ, List.set_cons_zero, List.length_cons, List.length_nil, List.length_map, rngL_length]
    rw [F.joined]
    refine ⟨a, b, ns, _, p, rfl, dk10, hns, by omega, p1, p2, fun h11 dk11 t11 => ?_⟩
    simp only [e_var_v, e_var_t, e_var_q, e_var_i, e_int_v, e_int_t, e_int_q, e_int_i, e_bl_v, e_bl_t, e_bl_q, e_bl_i, e_non_v, e_non_t, e_non_q, e_non_i, e_str_v, e_str_t, e_str_q, e_str_i, e_glob_v, e_glob_t, e_glob_q, e_glob_i, e_neg_v, e_neg_t, e_neg_q, e_neg_i, e_ife_v, e_ife_t, e_ife_q, e_ife_i, e_tup_v, e_tup_t, e_tup_q, e_tup_i, e_ix_v, e_ix_t, e_ix_q, e_ix_i, e_sl_v, e_sl_t, e_sl_q, e_sl_i, e_call_v, e_call_t, e_call_q, e_call_i, e_bi_v, e_bi_t, e_bi_q, e_bi_i, e_bq_v, e_bq_t, e_bq_q, e_bq_i, e_meth_v, e_meth_t, e_meth_q, e_meth_i, e_lst_v, e_lst_q, e_lst_i, e_bl1_v, e_bl1_q, e_bl1_i, e_comp_v, e_comp_q, e_comp_i, e_sub_v, e_fdiv_v, e_mod_v, e_pow_v, e_add_v, e_mul_v, e_add_q, e_mul_q, e_add_i, e_mul_i, e_not_v, e_not_t, e_and_v, e_and_t, e_or_v, e_or_t, e_cmp_v, e_cmp_t, e_rng_i, e_enum_i, e_zip_i, e_nil_a, e_cons_a, e_var_g, e_ix_g, e_tup_g, e_nil_gs, e_cons_gs, o_add, o_sub, o_add2, o_addt, o_mul, o_fdiv, o_mod, o_pow, o_aug, o_neg, m_eq, m_ne, m_lt, m_le, m_gt, m_ge, m_eqs, m_is, m_isnot, n_non, n_ref, n_int, n_tup, b_abs, b_int, b_len, b_max, b_min, l_list, r_1, r_2, t_bl, t_int, t_non, q_tup, q_rol, a_bl, d_none, d_some, d_int, u_all, u_if, g_nil, g_cons, isL_nil, isL_var, isL_int, isL_bl, isL_non, isL_str, isL_glob, isL_neg, isL_not, isL_and, isL_or, isL_ife, isL_cmp, isL_tup, isL_ix, isL_sl, isL_call, isL_bi, isL_bq, isL_meth, isL_rev, isL_step2, isL_lst, isL_bl1, isL_comp, isL_add, isL_mul, isL_sub, isL_fdiv, isL_mod, isL_pow, reduceIte, Bool.not_true, Bool.not_false, Bool.or_self, Bool.false_eq_true, isNonE, isNil, lenE, wipeM, Bool.or_true, Bool.true_or, Bool.or_false, List.getElem?_cons_succ, List.getElem?_cons_zero, List.set_cons_succ, List.set_cons_zero, List.length_cons, List.length_nil, List.length_map, rngL_length]
    refine st_skip ?_
    exact ⟨h11, Sub.refl _, _, _, _, _, _, rfl, dk11.mono (by omega), t11 _ _ mk' (t10 _ _ mk' e9), by simp [lk], kept9.step fun c o z _ e => t11 _ _ z (t10 _ _ z e)⟩
  · rintro σ h' ⟨x3, x7, x8, x9, ks, rfl, dk, ek, lk, kept⟩
    rw [show (3 : Int).toNat = 3 from rfl] at lk dk
    cases ks with
    | nil => cases lk
    | cons m rest =>
      obtain ⟨p, c, l, g, rfl, hc, ca, ck, hl, l0, lb, g1, g4, p1, p2⟩ := kept
      have L := lst_of p1 p2 g4 hl l0 lb
      have lx := L.len
      have hp : p.natAbs < 2 ^ 100 := Nat.lt_of_lt_of_le (m := 1000) (by omega) (by decide)
      refine st_asg hΦ ?_
      simp only [e_var_v, e_var_t, e_var_q, e_var_i, e_int_v, e_int_t, e_int_q, e_int_i, e_bl_v, e_bl_t, e_bl_q, e_bl_i, e_non_v, e_non_t, e_non_q, e_non_i, e_str_v, e_str_t, e_str_q, e_str_i, e_glob_v, e_glob_t, e_glob_q, e_glob_i, e_neg_v, e_neg_t, e_neg_q, e_neg_i, e_ife_v, e_ife_t, e_ife_q, e_ife_i, e_tup_v, e_tup_t, e_tup_q, e_tup_i, e_ix_v, e_ix_t, e_ix_q, e_ix_i, e_sl_v, e_sl_t, e_sl_q, e_sl_i, e_call_v, e_call_t, e_call_q, e_call_i, e_bi_v, e_bi_t, e_bi_q, e_bi_i, e_bq_v, e_bq_t, e_bq_q, e_bq_i, e_meth_v, e_meth_t, e_meth_q, e_meth_i, e_lst_v, e_lst_q, e_lst_i, e_bl1_v, e_bl1_q, e_bl1_i, e_comp_v, e_comp_q, e_comp_i, e_sub_v, e_fdiv_v, e_mod_v, e_pow_v, e_add_v, e_mul_v, e_add_q, e_mul_q, e_add_i, e_mul_i, e_not_v, e_not_t, e_and_v, e_and_t, e_or_v, e_or_t, e_cmp_v, e_cmp_t, e_rng_i, e_enum_i, e_zip_i, e_nil_a, e_cons_a, e_var_g, e_ix_g, e_tup_g, e_nil_gs, e_cons_gs, o_add, o_sub, o_add2, o_addt, o_mul, o_fdiv, o_mod, o_pow, o_aug, o_neg, m_eq, m_ne, m_lt, m_le, m_gt, m_ge, m_eqs, m_is, m_isnot, n_non, n_ref, n_int, n_tup, b_abs, b_int, b_len, b_max, b_min, l_list, r_1, r_2, t_bl, t_int, t_non, q_tup, q_rol, a_bl, d_none, d_some, d_int, u_all, u_if, g_nil, g_cons, isL_nil, isL_var, isL_int, isL_bl, isL_non, isL_str, isL_glob, isL_neg, isL_not, isL_and, isL_or, isL_ife, isL_cmp, isL_tup, isL_ix, isL_sl, isL_call, isL_bi, isL_bq, isL_meth, isL_rev, isL_step2, isL_lst, isL_bl1, isL_comp, isL_add, isL_mul, isL_sub, isL_fdiv, isL_mod, isL_pow, reduceIte, Bool.not_true, Bool.not_false, Bool.or_self, Bool.false_eq_true, isNonE, isNil, lenE, wipeM, Bool.or_true, Bool.true_or, Bool.or_false, List.getElem?_cons_succ, List.getElem?_cons_zero, List.set_cons_succ, List.set_cons_zero, List.length_cons, List.length_nil, List.length_map, rngL_length]
      refine ix_ref ek (v := .tup [.int p, .ref c, .int (g : Nat)]) (at_nat (Int.le_refl 0) rfl) ?_
      simp only [e_var_v, e_var_t, e_var_q, e_var_i, e_int_v, e_int_t, e_int_q, e_int_i, e_bl_v, e_bl_t, e_bl_q, e_bl_i, e_non_v, e_non_t, e_non_q, e_non_i, e_str_v, e_str_t, e_str_q, e_str_i, e_glob_v, e_glob_t, e_glob_q, e_glob_i, e_neg_v, e_neg_t, e_neg_q, e_neg_i, e_ife_v, e_ife_t, e_ife_q, e_ife_i, e_tup_v, e_tup_t, e_tup_q, e_tup_i, e_ix_v, e_ix_t, e_ix_q, e_ix_i, e_sl_v, e_sl_t, e_sl_q, e_sl_i, e_call_v, e_call_t, e_call_q, e_call_i, e_bi_v, e_bi_t, e_bi_q, e_bi_i, e_bq_v, e_bq_t, e_bq_q, e_bq_i, e_meth_v, e_meth_t, e_meth_q, e_meth_i, e_lst_v, e_lst_q, e_lst_i, e_bl1_v, e_bl1_q, e_bl1_i, e_comp_v, e_comp_q, e_comp_i, e_sub_v, e_fdiv_v, e_mod_v, e_pow_v, e_add_v, e_mul_v, e_add_q, e_mul_q, e_add_i, e_mul_i, e_not_v, e_not_t, e_and_v, e_and_t, e_or_v, e_or_t, e_cmp_v, e_cmp_t, e_rng_i, e_enum_i, e_zip_i, e_nil_a, e_cons_a, e_var_g, e_ix_g, e_tup_g, e_nil_gs, e_cons_gs, o_add, o_sub, o_add2, o_addt, o_mul, o_fdiv, o_mod, o_pow, o_aug, o_neg, m_eq, m_ne, m_lt, m_le, m_gt, m_ge, m_eqs, m_is, m_isnot, n_non, n_ref, n_int, n_tup, b_abs, b_int, b_len, b_max, b_min, l_list, r_1, r_2, t_bl, t_int, t_non, q_tup, q_rol, a_bl, d_none, d_some, d_int, u_all, u_if, g_nil, g_cons, isL_nil, isL_var, isL_int, isL_bl, isL_non, isL_str, isL_glob, isL_neg, isL_not, isL_and, isL_or, isL_ife, isL_cmp, isL_tup, isL_ix, isL_sl, isL_call, isL_bi, isL_bq, isL_meth, isL_rev, isL_step2, isL_lst, isL_bl1, isL_comp, isL_add, isL_mul, isL_sub, isL_fdiv, isL_mod, isL_pow, reduceIte, Bool.not_true, Bool.not_false, Bool.or_self, Bool.false_eq_true, isNonE, isNil, lenE, wipeM, Bool.or_true, Bool.true_or, Bool.or_false, List.getElem?_cons_succ, List.getElem?_cons_zero, List.set_cons_succ, List.set_cons_zero, List.length_cons, List.length_nil, List.length_map, rngL_length]
      refine ⟨trivial, ?_⟩
      refine st_asg hΦ ?_
      simp only [e_var_v, e_var_t, e_var_q, e_var_i, e_int_v, e_int_t, e_int_q, e_int_i, e_bl_v, e_bl_t, e_bl_q, e_bl_i, e_non_v, e_non_t, e_non_q, e_non_i, e_str_v, e_str_t, e_str_q, e_str_i, e_glob_v, e_glob_t, e_glob_q, e_glob_i, e_neg_v, e_neg_t, e_neg_q, e_neg_i, e_ife_v, e_ife_t, e_ife_q, e_ife_i, e_tup_v, e_tup_t, e_tup_q, e_tup_i, e_ix_v, e_ix_t, e_ix_q, e_ix_i, e_sl_v, e_sl_t, e_sl_q, e_sl_i, e_call_v, e_call_t, e_call_q, e_call_i, e_bi_v, e_bi_t, e_bi_q, e_bi_i, e_bq_v, e_bq_t, e_bq_q, e_bq_i, e_meth_v, e_meth_t, e_meth_q, e_meth_i, e_lst_v, e_lst_q, e_lst_i, e_bl1_v, e_bl1_q, e_bl1_i, e_comp_v, e_comp_q, e_comp_i, e_sub_v, e_fdiv_v, e_mod_v, e_pow_v, e_add_v, e_mul_v, e_add_q, e_mul_q, e_add_i, e_mul_i, e_not_v, e_not_t, e_and_v, e_and_t, e_or_v, e_or_t, e_cmp_v, e_cmp_t, e_rng_i, e_enum_i, e_zip_i, e_nil_a, e_cons_a, e_var_g, e_ix_g, e_tup_g, e_nil_gs, e_cons_gs, o_add, o_sub, o_add2, o_addt, o_mul, o_fdiv, o_mod, o_pow, o_aug, o_neg, m_eq, m_ne, m_lt, m_le, m_gt, m_ge, m_eqs, m_is, m_isnot, n_non, n_ref, n_int, n_tup, b_abs, b_int, b_len, b_max, b_min, l_list, r_1, r_2, t_bl, t_int, t_non, q_tup, q_rol, a_bl, d_none, d_some, d_int, u_all, u_if, g_nil, g_cons, isL_nil, isL_var, isL_int, isL_bl, isL_non, isL_str, isL_glob, isL_neg, isL_not, isL_and, isL_or, isL_ife, isL_cmp, isL_tup, isL_ix, isL_sl, isL_call, isL_bi, isL_bq, isL_meth, isL_rev, isL_step2, isL_lst, isL_bl1, isL_comp, isL_add, isL_mul, isL_sub, isL_fdiv, isL_mod, isL_pow, reduceIte, Bool.not_true, Bool.not_false, Bool.or_self, Bool.false_eq_true, isNonE, isNil, lenE, wipeM, Bool.or_true, Bool.true_or, Bool.or_false, List.getElem?_cons_succ, List.getElem?_cons_zero, List.set_cons_succ, List.set_cons_zero, List.length_cons, List.length_nil, List.length_map, rngL_length]
      rw [F.primes]
      refine ⟨rfl, ?_⟩
      intro q3 n3
      obtain ⟨h3, eh, s3, e3⟩ := newc n3 (LI primes)
      rw [eh]
      clear eh
      have m3 : q3 ≠ a := dk.ne n3
      rw [F.draw]
      refine ⟨a, b, ns, _, 17, rfl, by omega, by omega, by omega, hns, dk.sub s3, fun v4 h4 v4a v4b dk4 fr4 => ?_⟩
      have t4 : ∀ c o, c ≠ a → h3 c = some o → h4 c = some o := fun c o z e => (fr4 c z).trans e
      refine ix_int (t4 _ _ m3 e3) v4a (by show _ < 17; omega) ?_
      obtain ⟨q1, q2⟩ := prime_at v4a v4b
      generalize primes.getD v4.toNat 0 = q at q1 q2 ⊢
      have hq : q.natAbs < 2 ^ 100 := Nat.lt_of_lt_of_le (m := 1000) (by omega) (by decide)
      have c4 : h4 c = some (LI (full p l g)) := t4 _ _ ca (s3 _ _ hc)
      have L' := lst_of q1 q2 g4 hl l0 lb
      refine st_asg hΦ ?_
      simp only [e_var_v, e_var_t, e_var_q, e_var_i, e_int_v, e_int_t, e_int_q, e_int_i, e_bl_v, e_bl_t, e_bl_q, e_bl_i, e_non_v, e_non_t, e_non_q, e_non_i, e_str_v, e_str_t, e_str_q, e_str_i, e_glob_v, e_glob_t, e_glob_q, e_glob_i, e_neg_v, e_neg_t, e_neg_q, e_neg_i, e_ife_v, e_ife_t, e_ife_q, e_ife_i, e_tup_v, e_tup_t, e_tup_q, e_tup_i, e_ix_v, e_ix_t, e_ix_q, e_ix_i, e_sl_v, e_sl_t, e_sl_q, e_sl_i, e_call_v, e_call_t, e_call_q, e_call_i, e_bi_v, e_bi_t, e_bi_q, e_bi_i, e_bq_v, e_bq_t, e_bq_q, e_bq_i, e_meth_v, e_meth_t, e_meth_q, e_meth_i, e_lst_v, e_lst_q, e_lst_i, e_bl1_v, e_bl1_q, e_bl1_i, e_comp_v, e_comp_q, e_comp_i, e_sub_v, e_fdiv_v, e_mod_v, e_pow_v, e_add_v, e_mul_v, e_add_q, e_mul_q, e_add_i, e_mul_i, e_not_v, e_not_t, e_and_v, e_and_t, e_or_v, e_or_t, e_cmp_v, e_cmp_t, e_rng_i, e_enum_i, e_zip_i, e_nil_a, e_cons_a, e_var_g, e_ix_g, e_tup_g, e_nil_gs, e_cons_gs, o_add, o_sub, o_add2, o_addt, o_mul, o_fdiv, o_mod, o_pow, o_aug, o_neg, m_eq, m_ne, m_lt, m_le, m_gt, m_ge, m_eqs, m_is, m_isnot, n_non, n_ref, n_int, n_tup, b_abs, b_int, b_len, b_max, b_min, l_list, r_1, r_2, t_bl, t_int, t_non, q_tup, q_rol, a_bl, d_none, d_some, d_int, u_all, u_if, g_nil, g_cons, isL_nil, isL_var, isL_int, isL_bl, isL_non, isL_str, isL_glob, isL_neg, isL_not, isL_and, isL_or, isL_ife, isL_cmp, isL_tup, isL_ix, isL_sl, isL_call, isL_bi, isL_bq, isL_meth, isL_rev, isL_step2, isL_lst, isL_bl1, isL_comp, isL_add, isL_mul, isL_sub, isL_fdiv, isL_mod, isL_pow, reduceIte, Bool.not_true, Bool.not_false, Bool.or_self, Bool.false_eq_true, isNonE, isNil, lenE, wipeM, Bool.or_true, Bool.true_or, Bool.or_false, List.getElem?_cons_succ, List.getElem?_cons_zero, List.set_cons_succ, List.set_cons_zero, List.length_cons, List.length_nil, List.length_map, rngL_length]
      rw [show ((g : Nat) : Int) + 1 = ((g + 1 : Nat) : Int) by omega]
      refine sl_ref c4 ?_
      have etk : (full p l g).take (g + 1) = l := by unfold full; exact List.take_left' hl
      rw [cut_take, etk]
      intro q5 n5
      obtain ⟨h5, eh, s5, e5⟩ := newc n5 (.lst (l.map M.int))
      rw [eh]
      clear eh
      have c5 := s5 _ _ c4
      refine asQ_ref e5 ?_
      refine r_down ⟨by omega, ?_⟩
      refine ⟨by rw [rngL_length]; have := hSZ; omega, ?_⟩
      rw [show ((g : Int) - 1 - -1).toNat = g by omega]
      refine compI_pure hΦ (fun j => .int (q ^ (j + 1) * l.getD (g - 1 - j) 0)) trivial ?_ ?_
      · intro j m R ej hR
        obtain ⟨hj, rfl⟩ := rng_get ej
        simp only [e_var_v, e_var_t, e_var_q, e_var_i, e_int_v, e_int_t, e_int_q, e_int_i, e_bl_v, e_bl_t, e_bl_q, e_bl_i, e_non_v, e_non_t, e_non_q, e_non_i, e_str_v, e_str_t, e_str_q, e_str_i, e_glob_v, e_glob_t, e_glob_q, e_glob_i, e_neg_v, e_neg_t, e_neg_q, e_neg_i, e_ife_v, e_ife_t, e_ife_q, e_ife_i, e_tup_v, e_tup_t, e_tup_q, e_tup_i, e_ix_v, e_ix_t, e_ix_q, e_ix_i, e_sl_v, e_sl_t, e_sl_q, e_sl_i, e_call_v, e_call_t, e_call_q, e_call_i, e_bi_v, e_bi_t, e_bi_q, e_bi_i, e_bq_v, e_bq_t, e_bq_q, e_bq_i, e_meth_v, e_meth_t, e_meth_q, e_meth_i, e_lst_v, e_lst_q, e_lst_i, e_bl1_v, e_bl1_q, e_bl1_i, e_comp_v, e_comp_q, e_comp_i, e_sub_v, e_fdiv_v, e_mod_v, e_pow_v, e_add_v, e_mul_v, e_add_q, e_mul_q, e_add_i, e_mul_i, e_not_v, e_not_t, e_and_v, e_and_t, e_or_v, e_or_t, e_cmp_v, e_cmp_t, e_rng_i, e_enum_i, e_zip_i, e_nil_a, e_cons_a, e_var_g, e_ix_g, e_tup_g, e_nil_gs, e_cons_gs, o_add, o_sub, o_add2, o_addt, o_mul, o_fdiv, o_mod, o_pow, o_aug, o_neg, m_eq, m_ne, m_lt, m_le, m_gt, m_ge, m_eqs, m_is, m_isnot, n_non, n_ref, n_int, n_tup, b_abs, b_int, b_len, b_max, b_min, l_list, r_1, r_2, t_bl, t_int, t_non, q_tup, q_rol, a_bl, d_none, d_some, d_int, u_all, u_if, g_nil, g_cons, isL_nil, isL_var, isL_int, isL_bl, isL_non, isL_str, isL_glob, isL_neg, isL_not, isL_and, isL_or, isL_ife, isL_cmp, isL_tup, isL_ix, isL_sl, isL_call, isL_bi, isL_bq, isL_meth, isL_rev, isL_step2, isL_lst, isL_bl1, isL_comp, isL_add, isL_mul, isL_sub, isL_fdiv, isL_mod, isL_pow, reduceIte, Bool.not_true, Bool.not_false, Bool.or_self, Bool.false_eq_true, isNonE, isNil, lenE, wipeM, Bool.or_true, Bool.true_or, Bool.or_false, List.getElem?_cons_succ, List.getElem?_cons_zero, List.set_cons_succ, List.set_cons_zero, List.length_cons, List.length_nil, List.length_map, rngL_length]
        rw [F.lraised]
        refine ⟨q, _, rfl, by omega, by omega, q1, hq, ?_⟩
        simp only [e_var_v, e_var_t, e_var_q, e_var_i, e_int_v, e_int_t, e_int_q, e_int_i, e_bl_v, e_bl_t, e_bl_q, e_bl_i, e_non_v, e_non_t, e_non_q, e_non_i, e_str_v, e_str_t, e_str_q, e_str_i, e_glob_v, e_glob_t, e_glob_q, e_glob_i, e_neg_v, e_neg_t, e_neg_q, e_neg_i, e_ife_v, e_ife_t, e_ife_q, e_ife_i, e_tup_v, e_tup_t, e_tup_q, e_tup_i, e_ix_v, e_ix_t, e_ix_q, e_ix_i, e_sl_v, e_sl_t, e_sl_q, e_sl_i, e_call_v, e_call_t, e_call_q, e_call_i, e_bi_v, e_bi_t, e_bi_q, e_bi_i, e_bq_v, e_bq_t, e_bq_q, e_bq_i, e_meth_v, e_meth_t, e_meth_q, e_meth_i, e_lst_v, e_lst_q, e_lst_i, e_bl1_v, e_bl1_q, e_bl1_i, e_comp_v, e_comp_q, e_comp_i, e_sub_v, e_fdiv_v, e_mod_v, e_pow_v, e_add_v, e_mul_v, e_add_q, e_mul_q, e_add_i, e_mul_i, e_not_v, e_not_t, e_and_v, e_and_t, e_or_v, e_or_t, e_cmp_v, e_cmp_t, e_rng_i, e_enum_i, e_zip_i, e_nil_a, e_cons_a, e_var_g, e_ix_g, e_tup_g, e_nil_gs, e_cons_gs, o_add, o_sub, o_add2, o_addt, o_mul, o_fdiv, o_mod, o_pow, o_aug, o_neg, m_eq, m_ne, m_lt, m_le, m_gt, m_ge, m_eqs, m_is, m_isnot, n_non, n_ref, n_int, n_tup, b_abs, b_int, b_len, b_max, b_min, l_list, r_1, r_2, t_bl, t_int, t_non, q_tup, q_rol, a_bl, d_none, d_some, d_int, u_all, u_if, g_nil, g_cons, isL_nil, isL_var, isL_int, isL_bl, isL_non, isL_str, isL_glob, isL_neg, isL_not, isL_and, isL_or, isL_ife, isL_cmp, isL_tup, isL_ix, isL_sl, isL_call, isL_bi, isL_bq, isL_meth, isL_rev, isL_step2, isL_lst, isL_bl1, isL_comp, isL_add, isL_mul, isL_sub, isL_fdiv, isL_mod, isL_pow, reduceIte, Bool.not_true, Bool.not_false, Bool.or_self, Bool.false_eq_true, isNonE, isNil, lenE, wipeM, Bool.or_true, Bool.true_or, Bool.or_false, List.getElem?_cons_succ, List.getElem?_cons_zero, List.set_cons_succ, List.set_cons_zero, List.length_cons, List.length_nil, List.length_map, rngL_length]
        refine ix_int c5 (by omega) (by omega) ?_
        rw [show ((g : Int) - ((g : Int) - 1 + (j : Int) * -1)).toNat = j + 1 by omega, show ((g : Int) - 1 + (j : Int) * -1).toNat = g - 1 - j by omega, full_get hl (by omega)]
        simp only [e_var_v, e_var_t, e_var_q, e_var_i, e_int_v, e_int_t, e_int_q, e_int_i, e_bl_v, e_bl_t, e_bl_q, e_bl_i, e_non_v, e_non_t, e_non_q, e_non_i, e_str_v, e_str_t, e_str_q, e_str_i, e_glob_v, e_glob_t, e_glob_q, e_glob_i, e_neg_v, e_neg_t, e_neg_q, e_neg_i, e_ife_v, e_ife_t, e_ife_q, e_ife_i, e_tup_v, e_tup_t, e_tup_q, e_tup_i, e_ix_v, e_ix_t, e_ix_q, e_ix_i, e_sl_v, e_sl_t, e_sl_q, e_sl_i, e_call_v, e_call_t, e_call_q, e_call_i, e_bi_v, e_bi_t, e_bi_q, e_bi_i, e_bq_v, e_bq_t, e_bq_q, e_bq_i, e_meth_v, e_meth_t, e_meth_q, e_meth_i, e_lst_v, e_lst_q, e_lst_i, e_bl1_v, e_bl1_q, e_bl1_i, e_comp_v, e_comp_q, e_comp_i, e_sub_v, e_fdiv_v, e_mod_v, e_pow_v, e_add_v, e_mul_v, e_add_q, e_mul_q, e_add_i, e_mul_i, e_not_v, e_not_t, e_and_v, e_and_t, e_or_v, e_or_t, e_cmp_v, e_cmp_t, e_rng_i, e_enum_i, e_zip_i, e_nil_a, e_cons_a, e_var_g, e_ix_g, e_tup_g, e_nil_gs, e_cons_gs, o_add, o_sub, o_add2, o_addt, o_mul, o_fdiv, o_mod, o_pow, o_aug, o_neg, m_eq, m_ne, m_lt, m_le, m_gt, m_ge, m_eqs, m_is, m_isnot, n_non, n_ref, n_int, n_tup, b_abs, b_int, b_len, b_max, b_min, l_list, r_1, r_2, t_bl, t_int, t_non, q_tup, q_rol, a_bl, d_none, d_some, d_int, u_all, u_if, g_nil, g_cons, isL_nil, isL_var, isL_int, isL_bl, isL_non, isL_str, isL_glob, isL_neg, isL_not, isL_and, isL_or, isL_ife, isL_cmp, isL_tup, isL_ix, isL_sl, isL_call, isL_bi, isL_bq, isL_meth, isL_rev, isL_step2, isL_lst, isL_bl1, isL_comp, isL_add, isL_mul, isL_sub, isL_fdiv, isL_mod, isL_pow, reduceIte, Bool.not_true, Bool.not_false, Bool.or_self, Bool.false_eq_true, isNonE, isNil, lenE, wipeM, Bool.or_true, Bool.true_or, Bool.or_false, List.getElem?_cons_succ, List.getElem?_cons_zero, List.set_cons_succ, List.set_cons_zero, List.length_cons, List.length_nil, List.length_map, rngL_length]
        refine ⟨mulOk ?_ ?_, hR⟩
        · exact Nat.lt_of_le_of_lt (Nat.le_trans (pow_small q1 (by omega) (j + 1)) (Nat.pow_le_pow_right (by decide) (show j + 1 ≤ 4 by omega))) (by decide)
        · exact Nat.lt_of_le_of_lt (cf_bnd lb (g - 1 - j)) (by decide)
      rw [rngL_length]
      have el : l.map M.int ++ (List.range g).map (fun j => M.int (q ^ (j + 1) * l.getD (g - 1 - j) 0)) = (full q l g).map M.int := by
        unfold full; rw [List.map_append, List.map_map]; rfl
      refine ⟨rfl, trivial, ⟨e5, trivial⟩, trivial, by rw [List.length_map, List.length_map, List.length_range]; have := hSZ; omega, trivial, ?_⟩
      rw [el]
      intro o6 n6
      obtain ⟨h6, eh, s6, e6⟩ := newc n6 (.lst ((full q l g).map M.int))
      rw [eh]
      clear eh
      have lo := L'.len
      have c6 := s6 _ _ c5
      refine st_asg hΦ ?_
      simp only [e_var_v, e_var_t, e_var_q, e_var_i, e_int_v, e_int_t, e_int_q, e_int_i, e_bl_v, e_bl_t, e_bl_q, e_bl_i, e_non_v, e_non_t, e_non_q, e_non_i, e_str_v, e_str_t, e_str_q, e_str_i, e_glob_v, e_glob_t, e_glob_q, e_glob_i, e_neg_v, e_neg_t, e_neg_q, e_neg_i, e_ife_v, e_ife_t, e_ife_q, e_ife_i, e_tup_v, e_tup_t, e_tup_q, e_tup_i, e_ix_v, e_ix_t, e_ix_q, e_ix_i, e_sl_v, e_sl_t, e_sl_q, e_sl_i, e_call_v, e_call_t, e_call_q, e_call_i, e_bi_v, e_bi_t, e_bi_q, e_bi_i, e_bq_v, e_bq_t, e_bq_q, e_bq_i, e_meth_v, e_meth_t, e_meth_q, e_meth_i, e_lst_v, e_lst_q, e_lst_i, e_bl1_v, e_bl1_q, e_bl1_i, e_comp_v, e_comp_q, e_comp_i, e_sub_v, e_fdiv_v, e_mod_v, e_pow_v, e_add_v, e_mul_v, e_add_q, e_mul_q, e_add_i, e_mul_i, e_not_v, e_not_t, e_and_v, e_and_t, e_or_v, e_or_t, e_cmp_v, e_cmp_t, e_rng_i, e_enum_i, e_zip_i, e_nil_a, e_cons_a, e_var_g, e_ix_g, e_tup_g, e_nil_gs, e_cons_gs, o_add, o_sub, o_add2, o_addt, o_mul, o_fdiv, o_mod, o_pow, o_aug, o_neg, m_eq, m_ne, m_lt, m_le, m_gt, m_ge, m_eqs, m_is, m_isnot, n_non, n_ref, n_int, n_tup, b_abs, b_int, b_len, b_max, b_min, l_list, r_1, r_2, t_bl, t_int, t_non, q_tup, q_rol, a_bl, d_none, d_some, d_int, u_all, u_if, g_nil, g_cons, isL_nil, isL_var, isL_int, isL_bl, isL_non, isL_str, isL_glob, isL_neg, isL_not, isL_and, isL_or, isL_ife, isL_cmp, isL_tup, isL_ix, isL_sl, isL_call, isL_bi, isL_bq, isL_meth, isL_rev, isL_step2, isL_lst, isL_bl1, isL_comp, isL_add, isL_mul, isL_sub, isL_fdiv, isL_mod, isL_pow, reduceIte, Bool.not_true, Bool.not_false, Bool.or_self, Bool.false_eq_true, isNonE, isNil, lenE, wipeM, Bool.or_true, Bool.true_or, Bool.or_false, List.getElem?_cons_succ, List.getElem?_cons_zero, List.set_cons_succ, List.set_cons_zero, List.length_cons, List.length_nil, List.length_map, rngL_length]
      rw [F.cof]
      refine ⟨p, c, full p l g, 3, rfl, c6, by omega, by omega, L.bnd, p1, hp, ?_⟩
      intro r7 n7
      obtain ⟨h7, eh, s7, e7⟩ := newc n7 (LI (counts p (full p l g) 3))
      rw [eh]
      clear eh
      refine ⟨q, o6, full q l g, 3, rfl, s7 _ _ e6, by omega, by omega, L'.bnd, q1, hq, ?_⟩
      intro r8 n8
      obtain ⟨h8, eh, s8, e8⟩ := newc n8 (LI (counts q (full q l g) 3))
      rw [eh]
      clear eh
      refine ⟨p, c, full p l g, 3, rfl, s8 _ _ (s7 _ _ c6), by omega, by omega, L.bnd, p1, hp, ?_⟩
      intro r9 n9
      obtain ⟨h9, eh, s9, e9⟩ := newc n9 (LI (counts p (full p l g) 3))
      rw [eh]
      clear eh
      refine ⟨by omega, trivial, ?_⟩
      intro t10 n10
      obtain ⟨h10, eh, s10, e10⟩ := newc n10 (.lst [.ref r7, .ref r8, .ref r9])
      rw [eh]
      clear eh
      have c10 : h10 c = some (LI (full p l g)) := s10 _ _ (s9 _ _ (s8 _ _ (s7 _ _ c6)))
      have o10 : h10 o6 = some (LI (full q l g)) := s10 _ _ (s9 _ _ (s8 _ _ (s7 _ _ e6)))
      refine st_ret ?_
      simp only [e_var_v, e_var_t, e_var_q, e_var_i, e_int_v, e_int_t, e_int_q, e_int_i, e_bl_v, e_bl_t, e_bl_q, e_bl_i, e_non_v, e_non_t, e_non_q, e_non_i, e_str_v, e_str_t, e_str_q, e_str_i, e_glob_v, e_glob_t, e_glob_q, e_glob_i, e_neg_v, e_neg_t, e_neg_q, e_neg_i, e_ife_v, e_ife_t, e_ife_q, e_ife_i, e_tup_v, e_tup_t, e_tup_q, e_tup_i, e_ix_v, e_ix_t, e_ix_q, e_ix_i, e_sl_v, e_sl_t, e_sl_q, e_sl_i, e_call_v, e_call_t, e_call_q, e_call_i, e_bi_v, e_bi_t, e_bi_q, e_bi_i, e_bq_v, e_bq_t, e_bq_q, e_bq_i, e_meth_v, e_meth_t, e_meth_q, e_meth_i, e_lst_v, e_lst_q, e_lst_i, e_bl1_v, e_bl1_q, e_bl1_i, e_comp_v, e_comp_q, e_comp_i, e_sub_v, e_fdiv_v, e_mod_v, e_pow_v, e_add_v, e_mul_v, e_add_q, e_mul_q, e_add_i, e_mul_i, e_not_v, e_not_t, e_and_v, e_and_t, e_or_v, e_or_t, e_cmp_v, e_cmp_t, e_rng_i, e_enum_i, e_zip_i, e_nil_a, e_cons_a, e_var_g, e_ix_g, e_tup_g, e_nil_gs, e_cons_gs, o_add, o_sub, o_add2, o_addt, o_mul, o_fdiv, o_mod, o_pow, o_aug, o_neg, m_eq, m_ne, m_lt, m_le, m_gt, m_ge, m_eqs, m_is, m_isnot, n_non, n_ref, n_int, n_tup, b_abs, b_int, b_len, b_max, b_min, l_list, r_1, r_2, t_bl, t_int, t_non, q_tup, q_rol, a_bl, d_none, d_some, d_int, u_all, u_if, g_nil, g_cons, isL_nil, isL_var, isL_int, isL_bl, isL_non, isL_str, isL_glob, isL_neg, isL_not, isL_and, isL_or, isL_ife, isL_cmp, isL_tup, isL_ix, isL_sl, isL_call, isL_bi, isL_bq, isL_meth, isL_rev, isL_step2, isL_lst, isL_bl1, isL_comp, isL_add, isL_mul, isL_sub, isL_fdiv, isL_mod, isL_pow, reduceIte, Bool.not_true, Bool.not_false, Bool.or_self, Bool.false_eq_true, isNonE, isNil, lenE, wipeM, Bool.or_true, Bool.true_or, Bool.or_false, List.getElem?_cons_succ, List.getElem?_cons_zero, List.set_cons_succ, List.set_cons_zero, List.length_cons, List.length_nil, List.length_map, rngL_length]
      rw [F.counts]
      refine ⟨p, c, full p l g, 3, rfl, c10, by omega, by omega, L.bnd, p1, hp, ?_⟩
      intro r11 n11
      obtain ⟨h11, eh, s11, e11⟩ := newc n11 (LI (counts p (full p l g) 3))
      rw [eh]
      clear eh
      refine ⟨q, o6, full q l g, 3, rfl, s11 _ _ o10, by omega, by omega, L'.bnd, q1, hq, ?_⟩
      intro r12 n12
      obtain ⟨h12, eh, s12, e12⟩ := newc n12 (LI (counts q (full q l g) 3))
      rw [eh]
      clear eh
      refine ⟨p, c, full p l g, 3, rfl, s12 _ _ (s11 _ _ c10), by omega, by omega, L.bnd, p1, hp, ?_⟩
      intro r13 n13
      obtain ⟨h13, eh, s13, e13⟩ := newc n13 (LI (counts p (full p l g) 3))
      rw [eh]
      clear eh
      refine ⟨by omega, trivial, ?_⟩
      intro t14 n14
      obtain ⟨h14, eh, s14, e14⟩ := newc n14 (.lst [.ref r11, .ref r12, .ref r13])
      rw [eh]
      clear eh
      rw [F.is]
      have f1 := few_counts L.bnd p1 (by omega) (show 3 ≤ 40 by omega)
      have f2 := few_counts L'.bnd q1 (by omega) (show 3 ≤ 40 by omega)
      have up : ∀ b o, h10 b = some o → h14 b = some o := fun b o e => s14 _ _ (s13 _ _ (s12 _ _ (s11 _ _ e)))
      refine ⟨.ref t10, .ref t14, dLL [counts p (full p l g) 3, counts q (full q l g) 3, counts p (full p l g) 3], rfl, ?_, ?_, good_dLL (by simp) (mem3 f1 f2 f1), .inl ⟨_, rfl⟩, ?_⟩
      · exact dat_dLL [(r7, counts p (full p l g) 3), (r8, counts q (full q l g) 3), (r9, counts p (full p l g) 3)] (up _ _ e10) (mem3 (up _ _ (s10 _ _ (s9 _ _ (s8 _ _ e7)))) (up _ _ (s10 _ _ (s9 _ _ e8))) (up _ _ (s10 _ _ e9)))
      · exact dat_dLL [(r11, counts p (full p l g) 3), (r12, counts q (full q l g) 3), (r13, counts p (full p l g) 3)] e14 (mem3 (s14 _ _ (s13 _ _ (s12 _ _ e11))) (s14 _ _ (s13 _ _ e12)) (s14 _ _ e13))
      exact ⟨_, Sub.refl _, post _⟩
end Mp.K39

set_option Elab.async false
set_option linter.all false
set_option maxRecDepth 100000
set_option exponentiation.threshold 500
namespace Mp.K39
open PySem Mp
def SpMono (sp : SpM) : Prop := ∀ ms h K K' W, (∀ m h, K m h → K' m h) → sp ms h K W → sp ms h K' W
theorem mono_spRaised : SpMono spRaised := fun ms h K K' W f w => by
  obtain ⟨a, e, x1, x2, x3, x4, x5, q⟩ := w
  exact ⟨a, e, x1, x2, x3, x4, x5, f _ _ q⟩
theorem mono_spMade : SpMono spMade := fun ms h K K' W f w => by
  obtain ⟨q, a, cs, x1, x2, x3, x4, x5, x6, w⟩ := w
  refine ⟨q, a, cs, x1, x2, x3, x4, x5, x6, ?_⟩
  cases e : mk (tt q cs) cs.length with
  | none => rw [e] at w; exact f _ _ w
  | some l => rw [e] at w; exact fun p n => f _ _ (w p n)
theorem mono_spCounts : SpMono spCounts := fun ms h K K' W f w => by
  obtain ⟨q, a, xs, n, x1, x2, x3, x4, x5, x6, x7, w⟩ := w
  exact ⟨q, a, xs, n, x1, x2, x3, x4, x5, x6, x7, fun p n => f _ _ (w p n)⟩
theorem mono_spOver : SpMono spOver := fun ms h K K' W f w => by
  obtain ⟨p, a, xs, x1, x2, x3, x4, x5, x6, w⟩ := w
  refine ⟨p, a, xs, x1, x2, x3, x4, x5, x6, ?_⟩
  cases e : mk (tt p (counts p xs (xs.length / 2))) (xs.length / 2) with
  | none => rw [e] at w; exact f _ _ w
  | some l => rw [e] at w; exact fun p n => f _ _ (w p n)
theorem mono_spDeck : SpMono spDeck := fun ms h K K' W f w => by
  obtain ⟨ns, x1, x2, w⟩ := w
  exact ⟨ns, x1, x2, fun a b h' y1 y2 y3 y4 => f _ _ (w a b h' y1 y2 y3 y4)⟩
theorem mono_spDraw : SpMono spDraw := fun ms h K K' W f w => by
  obtain ⟨a, b, ns, n, k, x1, x2, x3, x4, x5, x6, w⟩ := w
  exact ⟨a, b, ns, n, k, x1, x2, x3, x4, x5, x6, fun v h' y1 y2 y3 y4 => f _ _ (w v h' y1 y2 y3 y4)⟩
theorem mono_spIs : SpMono spIs := fun ms h K K' W f w => by
  obtain ⟨x, y, d, x1, x2, x3, x4, x5, w⟩ := w
  exact ⟨x, y, d, x1, x2, x3, x4, x5, f _ _ w⟩
theorem mono_spPrimes : SpMono spPrimes := fun ms h K K' W f w => ⟨w.1, fun r n => f _ _ (w.2 r n)⟩
theorem mono_spSums : SpMono spSums := fun ms h K K' W f w => by
  obtain ⟨a, xs, n, x1, x2, x3, x4, x5, w⟩ := w
  exact ⟨a, xs, n, x1, x2, x3, x4, x5, fun p n => f _ _ (w p n)⟩
theorem mono_spOfSums : SpMono spOfSums := fun ms h K K' W f w => by
  obtain ⟨a, ss, q, g, x1, x2, x3, x4, x5, x6, x7, w⟩ := w
  refine ⟨a, ss, q, g, x1, x2, x3, x4, x5, x6, x7, ?_⟩
  cases e : mk (fun k => - ss.getD k 0) g with
  | none => rw [e] at w; exact f _ _ w
  | some l => rw [e] at w; exact fun p n => f _ _ (w p n)
theorem mono_spProd : SpMono spProd := fun ms h K K' W f w => by
  obtain ⟨a, b, xs, ys, x1, x2, x3, x4, x5, x6, x7, x8, x9, w⟩ := w
  exact ⟨a, b, xs, ys, x1, x2, x3, x4, x5, x6, x7, x8, x9, fun p n => f _ _ (w p n)⟩
theorem mono_spList : SpMono spList := fun ms h K K' W f w => by
  obtain ⟨a, b, ns, n, p, g, m, x1, x2, x3, x4, x5, x6, x7, x8, x9, w⟩ := w
  exact ⟨a, b, ns, n, p, g, m, x1, x2, x3, x4, x5, x6, x7, x8, x9, fun r h' l y1 y2 y3 y4 y5 y6 y7 => f _ _ (w r h' l y1 y2 y3 y4 y5 y6 y7)⟩
theorem mono_spTwin : SpMono spTwin := fun ms h K K' W f w => by
  obtain ⟨a, xs, x1, x2, x3, x4, w⟩ := w
  exact ⟨a, xs, x1, x2, x3, x4, fun p n => f _ _ (w p n)⟩
theorem mono_spCounted : SpMono spCounted := fun ms h K K' W f w => by
  obtain ⟨p, a, xs, g, x1, x2, x3, x4, x5, x6, x7, w⟩ := w
  exact ⟨p, a, xs, g, x1, x2, x3, x4, x5, x6, x7, f _ _ w⟩
theorem mono_spIsTwin : SpMono spIsTwin := fun ms h K K' W f w => by
  obtain ⟨p, a, xs, g, x1, x2, x3, x4, x5, x6, w⟩ := w
  exact ⟨p, a, xs, g, x1, x2, x3, x4, x5, x6, f _ _ w⟩
theorem mono_spJoined : SpMono spJoined := fun ms h K K' W f w => by
  obtain ⟨a, b, ns, n, p, x1, x2, x3, x4, x5, x6, w⟩ := w
  exact ⟨a, b, ns, n, p, x1, x2, x3, x4, x5, x6, fun h' y1 y2 => f _ _ (w h' y1 y2)⟩
theorem mono_spChanged : SpMono spChanged := fun ms h K K' W f w => by
  obtain ⟨a, b, ns, n, p, c, xs, g, x1, x2, x3, x4, x5, x6, x7, x8, x9, x10, x11, w⟩ := w
  exact ⟨a, b, ns, n, p, c, xs, g, x1, x2, x3, x4, x5, x6, x7, x8, x9, x10, x11, fun h' y1 y2 => f _ _ (w h' y1 y2)⟩
theorem mono_spLaw : SpMono spLaw := fun ms h K K' W f w => by
  obtain ⟨ns, x1, x2, w⟩ := w
  exact ⟨ns, x1, x2, fun h' => f _ _ (w h')⟩
end Mp.K39

set_option Elab.async false
set_option linter.all false
set_option maxRecDepth 100000
set_option exponentiation.threshold 500
namespace Mp.K39
open PySem PySem.Spec PyProof.Rows L2 Mp
def table : List (String × SpM) := [("raised", spRaised), ("list_made", spMade), ("list_of_counts", spMade), ("counts_of", spCounts), ("list_over", spOver), ("_law_deck", spDeck), ("_law_draw", spDraw), ("_law_is", spIs), ("_law_primes", spPrimes), ("_law_raised", spRaised), ("_law_sums", spSums), ("_law_of_sums", spOfSums), ("_law_counts", spCounts), ("_law_product", spProd), ("_law_list", spList), ("_law_twin", spTwin), ("_law_is_counted", spCounted), ("_law_is_changed", spChanged), ("_law_is_joined", spJoined), ("_law_is_twin", spIsTwin), ("law", spLaw)]
def phi : Phi := ⟨fun f => (table.lookup f).getD fun _ _ _ _ => False, fun _ => none⟩
theorem phi_raised : phi.fn "raised" = spRaised := by simp [phi, table, List.lookup]
theorem phi_list_made : phi.fn "list_made" = spMade := by simp [phi, table, List.lookup]
theorem phi_list_of_counts : phi.fn "list_of_counts" = spMade := by simp [phi, table, List.lookup]
theorem phi_counts_of : phi.fn "counts_of" = spCounts := by simp [phi, table, List.lookup]
theorem phi_list_over : phi.fn "list_over" = spOver := by simp [phi, table, List.lookup]
theorem phi_law_deck : phi.fn "_law_deck" = spDeck := by simp [phi, table, List.lookup]
theorem phi_law_draw : phi.fn "_law_draw" = spDraw := by simp [phi, table, List.lookup]
theorem phi_law_is : phi.fn "_law_is" = spIs := by simp [phi, table, List.lookup]
theorem phi_law_primes : phi.fn "_law_primes" = spPrimes := by simp [phi, table, List.lookup]
theorem phi_law_raised : phi.fn "_law_raised" = spRaised := by simp [phi, table, List.lookup]
theorem phi_law_sums : phi.fn "_law_sums" = spSums := by simp [phi, table, List.lookup]
theorem phi_law_of_sums : phi.fn "_law_of_sums" = spOfSums := by simp [phi, table, List.lookup]
theorem phi_law_counts : phi.fn "_law_counts" = spCounts := by simp [phi, table, List.lookup]
theorem phi_law_product : phi.fn "_law_product" = spProd := by simp [phi, table, List.lookup]
theorem phi_law_list : phi.fn "_law_list" = spList := by simp [phi, table, List.lookup]
theorem phi_law_twin : phi.fn "_law_twin" = spTwin := by simp [phi, table, List.lookup]
theorem phi_law_is_counted : phi.fn "_law_is_counted" = spCounted := by simp [phi, table, List.lookup]
theorem phi_law_is_changed : phi.fn "_law_is_changed" = spChanged := by simp [phi, table, List.lookup]
theorem phi_law_is_joined : phi.fn "_law_is_joined" = spJoined := by simp [phi, table, List.lookup]
theorem phi_law_is_twin : phi.fn "_law_is_twin" = spIsTwin := by simp [phi, table, List.lookup]
theorem phi_law : phi.fn "law" = spLaw := by simp [phi, table, List.lookup]
theorem table_mono : ∀ p ∈ table, SpMono p.2 := by
  unfold table
  simp only [List.forall_mem_cons]
  exact ⟨mono_spRaised, mono_spMade, mono_spMade, mono_spCounts, mono_spOver, mono_spDeck, mono_spDraw, mono_spIs, mono_spPrimes, mono_spRaised, mono_spSums, mono_spOfSums, mono_spCounts, mono_spProd, mono_spList, mono_spTwin, mono_spCounted, mono_spChanged, mono_spJoined, mono_spIsTwin, mono_spLaw, by simp⟩
theorem lookup_mem {α : Type} {f : String} : ∀ {l : List (String × α)} {s : α}, l.lookup f = some s → ∃ p ∈ l, p.2 = s
  | [], _, h => by cases h
  | (k, v) :: r, s, h => by
    rw [List.lookup_cons] at h
    split at h
    · cases h; exact ⟨_, List.mem_cons_self, rfl⟩
    · obtain ⟨p, m, e⟩ := lookup_mem h
      exact ⟨p, List.mem_cons_of_mem _ m, e⟩
theorem phi_mono : phi.Mono := fun f ms h K K' W g w => by
  have w' : ((table.lookup f).getD fun _ _ _ _ => False) ms h K W := w
  show ((table.lookup f).getD fun _ _ _ _ => False) ms h K' W
  cases e : table.lookup f with
  | none => rw [e] at w'; exact w'
  | some s =>
    rw [e] at w'
    obtain ⟨p, m, rfl⟩ := lookup_mem e
    exact table_mono p m ms h K K' W g w'
theorem F : Fns2 phi where
  mono := phi_mono
  raised := phi_raised
  made := phi_list_made
  ofc := phi_list_of_counts
  cof := phi_counts_of
  over := phi_list_over
  is := phi_law_is
  lraised := phi_law_raised
  sums := phi_law_sums
  ofs := phi_law_of_sums
  counts := phi_law_counts
  product := phi_law_product
  list := phi_law_list
  twin := phi_law_twin
  draw := phi_law_draw
  deck := phi_law_deck
  primes := phi_law_primes
  counted := phi_law_is_counted
  changed := phi_law_is_changed
  istwin := phi_law_is_twin
  joined := phi_law_is_joined
theorem len_raised : ∀ ms h Q W, phi.fn "raised" ms h Q W → ms.length = 2 := by
  intro ms h Q W w
  rw [phi_raised] at w
  obtain ⟨_, _, rfl, _⟩ := w
  rfl
theorem kp_raised : Keeps phi n_raised.length t_raised (phi.fn "raised") := by rw [phi_raised]; exact keeps_raised phi phi_mono
theorem len_list_made : ∀ ms h Q W, phi.fn "list_made" ms h Q W → ms.length = 2 := by
  intro ms h Q W w
  rw [phi_list_made] at w
  obtain ⟨_, _, _, rfl, _⟩ := w
  rfl
theorem kp_list_made : Keeps phi n_list_made.length t_list_made (phi.fn "list_made") := by rw [phi_list_made]; exact keeps_list_made phi phi_mono F.raised
theorem len_list_of_counts : ∀ ms h Q W, phi.fn "list_of_counts" ms h Q W → ms.length = 2 := by
  intro ms h Q W w
  rw [phi_list_of_counts] at w
  obtain ⟨_, _, _, rfl, _⟩ := w
  rfl
theorem kp_list_of_counts : Keeps phi n_list_of_counts.length t_list_of_counts (phi.fn "list_of_counts") := by rw [phi_list_of_counts]; exact keeps_list_of_counts phi phi_mono F.made
theorem len_counts_of : ∀ ms h Q W, phi.fn "counts_of" ms h Q W → ms.length = 3 := by
  intro ms h Q W w
  rw [phi_counts_of] at w
  obtain ⟨_, _, _, _, rfl, _⟩ := w
  rfl
theorem kp_counts_of : Keeps phi n_counts_of.length t_counts_of (phi.fn "counts_of") := by rw [phi_counts_of]; exact keeps_counts_of phi phi_mono F.raised
theorem len_list_over : ∀ ms h Q W, phi.fn "list_over" ms h Q W → ms.length = 3 := by
  intro ms h Q W w
  rw [phi_list_over] at w
  obtain ⟨_, _, _, rfl, _⟩ := w
  rfl
theorem kp_list_over : Keeps phi n_list_over.length t_list_over (phi.fn "list_over") := by rw [phi_list_over]; exact keeps_list_over phi phi_mono F.raised F.made F.cof
theorem len_law_deck : ∀ ms h Q W, phi.fn "_law_deck" ms h Q W → ms.length = 1 := by
  intro ms h Q W w
  rw [phi_law_deck] at w
  obtain ⟨_, rfl, _⟩ := w
  rfl
theorem kp_law_deck : Keeps phi n_law_deck.length t_law_deck (phi.fn "_law_deck") := by rw [phi_law_deck]; exact keeps_deck phi phi_mono
theorem len_law_draw : ∀ ms h Q W, phi.fn "_law_draw" ms h Q W → ms.length = 2 := by
  intro ms h Q W w
  rw [phi_law_draw] at w
  obtain ⟨_, _, _, _, _, rfl, _⟩ := w
  rfl
theorem kp_law_draw : Keeps phi n_law_draw.length t_law_draw (phi.fn "_law_draw") := by rw [phi_law_draw]; exact keeps_draw phi phi_mono
theorem len_law_is : ∀ ms h Q W, phi.fn "_law_is" ms h Q W → ms.length = 2 := by
  intro ms h Q W w
  rw [phi_law_is] at w
  obtain ⟨_, _, _, rfl, _⟩ := w
  rfl
theorem kp_law_is : Keeps phi n_law_is.length t_law_is (phi.fn "_law_is") := by rw [phi_law_is]; exact keeps_is phi phi_mono
theorem len_law_primes : ∀ ms h Q W, phi.fn "_law_primes" ms h Q W → ms.length = 0 := by
  intro ms h Q W w
  rw [phi_law_primes] at w
  obtain ⟨rfl, _⟩ := w
  rfl
theorem kp_law_primes : Keeps phi n_law_primes.length t_law_primes (phi.fn "_law_primes") := by rw [phi_law_primes]; exact keeps_primes phi phi_mono
theorem len_law_raised : ∀ ms h Q W, phi.fn "_law_raised" ms h Q W → ms.length = 2 := by
  intro ms h Q W w
  rw [phi_law_raised] at w
  obtain ⟨_, _, rfl, _⟩ := w
  rfl
theorem kp_law_raised : Keeps phi n_law_raised.length t_law_raised (phi.fn "_law_raised") := by rw [phi_law_raised]; exact keeps_law_raised phi phi_mono
theorem len_law_sums : ∀ ms h Q W, phi.fn "_law_sums" ms h Q W → ms.length = 2 := by
  intro ms h Q W w
  rw [phi_law_sums] at w
  obtain ⟨_, _, _, rfl, _⟩ := w
  rfl
theorem kp_law_sums : Keeps phi n_law_sums.length t_law_sums (phi.fn "_law_sums") := by rw [phi_law_sums]; exact keeps_sums phi phi_mono
theorem len_law_of_sums : ∀ ms h Q W, phi.fn "_law_of_sums" ms h Q W → ms.length = 3 := by
  intro ms h Q W w
  rw [phi_law_of_sums] at w
  obtain ⟨_, _, _, _, rfl, _⟩ := w
  rfl
theorem kp_law_of_sums : Keeps phi n_law_of_sums.length t_law_of_sums (phi.fn "_law_of_sums") := by rw [phi_law_of_sums]; exact keeps_of_sums phi phi_mono F.lraised
theorem len_law_counts : ∀ ms h Q W, phi.fn "_law_counts" ms h Q W → ms.length = 3 := by
  intro ms h Q W w
  rw [phi_law_counts] at w
  obtain ⟨_, _, _, _, rfl, _⟩ := w
  rfl
theorem kp_law_counts : Keeps phi n_law_counts.length t_law_counts (phi.fn "_law_counts") := by rw [phi_law_counts]; exact keeps_law_counts phi phi_mono F.lraised F.sums
theorem len_law_product : ∀ ms h Q W, phi.fn "_law_product" ms h Q W → ms.length = 2 := by
  intro ms h Q W w
  rw [phi_law_product] at w
  obtain ⟨_, _, _, _, rfl, _⟩ := w
  rfl
theorem kp_law_product : Keeps phi n_law_product.length t_law_product (phi.fn "_law_product") := by rw [phi_law_product]; exact keeps_product phi phi_mono
theorem len_law_list : ∀ ms h Q W, phi.fn "_law_list" ms h Q W → ms.length = 4 := by
  intro ms h Q W w
  rw [phi_law_list] at w
  obtain ⟨_, _, _, _, _, _, _, rfl, _⟩ := w
  rfl
theorem kp_law_list : Keeps phi n_law_list.length t_law_list (phi.fn "_law_list") := by rw [phi_law_list]; exact keeps_list phi phi_mono F.lraised F.draw
theorem len_law_twin : ∀ ms h Q W, phi.fn "_law_twin" ms h Q W → ms.length = 1 := by
  intro ms h Q W w
  rw [phi_law_twin] at w
  obtain ⟨_, _, rfl, _⟩ := w
  rfl
theorem kp_law_twin : Keeps phi n_law_twin.length t_law_twin (phi.fn "_law_twin") := by rw [phi_law_twin]; exact keeps_twin phi phi_mono
theorem len_law_is_counted : ∀ ms h Q W, phi.fn "_law_is_counted" ms h Q W → ms.length = 3 := by
  intro ms h Q W w
  rw [phi_law_is_counted] at w
  obtain ⟨_, _, _, _, rfl, _⟩ := w
  rfl
theorem kp_law_is_counted : Keeps phi n_law_is_counted.length t_law_is_counted (phi.fn "_law_is_counted") := by rw [phi_law_is_counted]; exact keeps_counted phi F.toFns
theorem len_law_is_changed : ∀ ms h Q W, phi.fn "_law_is_changed" ms h Q W → ms.length = 4 := by
  intro ms h Q W w
  rw [phi_law_is_changed] at w
  obtain ⟨_, _, _, _, _, _, _, _, rfl, _⟩ := w
  rfl
theorem kp_law_is_changed : Keeps phi n_law_is_changed.length t_law_is_changed (phi.fn "_law_is_changed") := by rw [phi_law_is_changed]; exact keeps_changed phi F.toFns
theorem len_law_is_joined : ∀ ms h Q W, phi.fn "_law_is_joined" ms h Q W → ms.length = 2 := by
  intro ms h Q W w
  rw [phi_law_is_joined] at w
  obtain ⟨_, _, _, _, _, rfl, _⟩ := w
  rfl
theorem kp_law_is_joined : Keeps phi n_law_is_joined.length t_law_is_joined (phi.fn "_law_is_joined") := by rw [phi_law_is_joined]; exact keeps_joined phi F.toFns
theorem len_law_is_twin : ∀ ms h Q W, phi.fn "_law_is_twin" ms h Q W → ms.length = 2 := by
  intro ms h Q W w
  rw [phi_law_is_twin] at w
  obtain ⟨_, _, _, _, rfl, _⟩ := w
  rfl
theorem kp_law_is_twin : Keeps phi n_law_is_twin.length t_law_is_twin (phi.fn "_law_is_twin") := by rw [phi_law_is_twin]; exact keeps_is_twin phi F.toFns
theorem len_law : ∀ ms h Q W, phi.fn "law" ms h Q W → ms.length = 1 := by
  intro ms h Q W w
  rw [phi_law] at w
  obtain ⟨_, rfl, _⟩ := w
  rfl
theorem kp_law : Keeps phi n_law.length t_law (phi.fn "law") := by rw [phi_law]; exact keeps_law phi F
section
variable {K : PySem.W.Frag}
theorem bi_mk {h : Heap} {mg : Str → Option Value} (X : K.In h) (G : h.Ns mainGlobals mg) (z0 : PySem.W.nsIn K mainGlobals "abs" = some none) (z1 : PySem.W.nsIn K mainGlobals "int" = some none) (z2 : PySem.W.nsIn K mainGlobals "len" = some none) (z3 : PySem.W.nsIn K mainGlobals "repr" = some none) (z4 : PySem.W.nsIn K mainGlobals "max" = some none) (z5 : PySem.W.nsIn K mainGlobals "min" = some none) (z6 : PySem.W.nsIn K mainGlobals "sum" = some none) (z7 : PySem.W.nsIn K mainGlobals "all" = some none) (z8 : PySem.W.nsIn K mainGlobals "any" = some none) (z9 : PySem.W.nsIn K mainGlobals "tuple" = some none) (z10 : PySem.W.nsIn K mainGlobals "list" = some none) (z11 : PySem.W.nsIn K mainGlobals "sorted" = some none) (z12 : PySem.W.nsIn K mainGlobals "range" = some none) (z13 : PySem.W.nsIn K mainGlobals "enumerate" = some none) (z14 : PySem.W.nsIn K mainGlobals "zip" = some none) : GlOk phi K mg := by
  refine ⟨?_, fun y m e => by cases e⟩
  unfold biNames
  simp only [List.map_cons, List.map_nil, List.forall_mem_cons]
  exact ⟨PySem.W.mg_none_of X G z0, PySem.W.mg_none_of X G z1, PySem.W.mg_none_of X G z2, PySem.W.mg_none_of X G z3, PySem.W.mg_none_of X G z4, PySem.W.mg_none_of X G z5, PySem.W.mg_none_of X G z6, PySem.W.mg_none_of X G z7, PySem.W.mg_none_of X G z8, PySem.W.mg_none_of X G z9, PySem.W.mg_none_of X G z10, PySem.W.mg_none_of X G z11, PySem.W.mg_none_of X G z12, PySem.W.mg_none_of X G z13, PySem.W.mg_none_of X G z14, by simp⟩
theorem all_mk {l : PySem.W.OpenLaw} {w : World} {h : Heap} {mg : Str → Option Value} {fa : Addr} (X : K.In h) (G : h.Ns mainGlobals mg) (hfa : mg "law" = some (.ref fa)) (B : GlOk phi K mg)
    {f0 : Addr} {od0 an0 : Option Addr} {sl0 : Array (Option Value)} {oc0 kV0 dc0 pm0 cd0 ct0 : Value}
    (a0 : PySem.W.nsIn K mainGlobals "raised" = some (some (.ref f0))) (l0 : K.lookup f0 = some ⟨oc0, od0, .func (PySem.W.fnOf "raised" "raised" (defArgs s_raised) (defBody s_raised) (defScope s_raised) .none kV0 dc0 pm0 an0 cd0 ct0), sl0⟩) (c0 : PySem.W.codeIn K cd0 "raised" = true) (k0 : PySem.W.keepIn K (.ref f0) = true)
    {f1 : Addr} {od1 an1 : Option Addr} {sl1 : Array (Option Value)} {oc1 kV1 dc1 pm1 cd1 ct1 : Value}
    (a1 : PySem.W.nsIn K mainGlobals "list_made" = some (some (.ref f1))) (l1 : K.lookup f1 = some ⟨oc1, od1, .func (PySem.W.fnOf "list_made" "list_made" (defArgs s_list_made) (defBody s_list_made) (defScope s_list_made) .none kV1 dc1 pm1 an1 cd1 ct1), sl1⟩) (c1 : PySem.W.codeIn K cd1 "list_made" = true) (k1 : PySem.W.keepIn K (.ref f1) = true)
    {f2 : Addr} {od2 an2 : Option Addr} {sl2 : Array (Option Value)} {oc2 kV2 dc2 pm2 cd2 ct2 : Value}
    (a2 : PySem.W.nsIn K mainGlobals "list_of_counts" = some (some (.ref f2))) (l2 : K.lookup f2 = some ⟨oc2, od2, .func (PySem.W.fnOf "list_of_counts" "list_of_counts" (defArgs s_list_of_counts) (defBody s_list_of_counts) (defScope s_list_of_counts) .none kV2 dc2 pm2 an2 cd2 ct2), sl2⟩) (c2 : PySem.W.codeIn K cd2 "list_of_counts" = true) (k2 : PySem.W.keepIn K (.ref f2) = true)
    {f3 : Addr} {od3 an3 : Option Addr} {sl3 : Array (Option Value)} {oc3 kV3 dc3 pm3 cd3 ct3 : Value}
    (a3 : PySem.W.nsIn K mainGlobals "counts_of" = some (some (.ref f3))) (l3 : K.lookup f3 = some ⟨oc3, od3, .func (PySem.W.fnOf "counts_of" "counts_of" (defArgs s_counts_of) (defBody s_counts_of) (defScope s_counts_of) .none kV3 dc3 pm3 an3 cd3 ct3), sl3⟩) (c3 : PySem.W.codeIn K cd3 "counts_of" = true) (k3 : PySem.W.keepIn K (.ref f3) = true)
    {f4 : Addr} {od4 an4 : Option Addr} {sl4 : Array (Option Value)} {oc4 kV4 dc4 pm4 cd4 ct4 : Value}
    (a4 : PySem.W.nsIn K mainGlobals "list_over" = some (some (.ref f4))) (l4 : K.lookup f4 = some ⟨oc4, od4, .func (PySem.W.fnOf "list_over" "list_over" (defArgs s_list_over) (defBody s_list_over) (defScope s_list_over) .none kV4 dc4 pm4 an4 cd4 ct4), sl4⟩) (c4 : PySem.W.codeIn K cd4 "list_over" = true) (k4 : PySem.W.keepIn K (.ref f4) = true)
    {f5 : Addr} {od5 an5 : Option Addr} {sl5 : Array (Option Value)} {oc5 kV5 dc5 pm5 cd5 ct5 : Value}
    (a5 : PySem.W.nsIn K mainGlobals "_law_deck" = some (some (.ref f5))) (l5 : K.lookup f5 = some ⟨oc5, od5, .func (PySem.W.fnOf "_law_deck" "_law_deck" (defArgs s_law_deck) (defBody s_law_deck) (defScope s_law_deck) .none kV5 dc5 pm5 an5 cd5 ct5), sl5⟩) (c5 : PySem.W.codeIn K cd5 "_law_deck" = true) (k5 : PySem.W.keepIn K (.ref f5) = true)
    {f6 : Addr} {od6 an6 : Option Addr} {sl6 : Array (Option Value)} {oc6 kV6 dc6 pm6 cd6 ct6 : Value}
    (a6 : PySem.W.nsIn K mainGlobals "_law_draw" = some (some (.ref f6))) (l6 : K.lookup f6 = some ⟨oc6, od6, .func (PySem.W.fnOf "_law_draw" "_law_draw" (defArgs s_law_draw) (defBody s_law_draw) (defScope s_law_draw) .none kV6 dc6 pm6 an6 cd6 ct6), sl6⟩) (c6 : PySem.W.codeIn K cd6 "_law_draw" = true) (k6 : PySem.W.keepIn K (.ref f6) = true)
    {f7 : Addr} {od7 an7 : Option Addr} {sl7 : Array (Option Value)} {oc7 kV7 dc7 pm7 cd7 ct7 : Value}
    (a7 : PySem.W.nsIn K mainGlobals "_law_is" = some (some (.ref f7))) (l7 : K.lookup f7 = some ⟨oc7, od7, .func (PySem.W.fnOf "_law_is" "_law_is" (defArgs s_law_is) (defBody s_law_is) (defScope s_law_is) .none kV7 dc7 pm7 an7 cd7 ct7), sl7⟩) (c7 : PySem.W.codeIn K cd7 "_law_is" = true) (k7 : PySem.W.keepIn K (.ref f7) = true)
    {f8 : Addr} {od8 an8 : Option Addr} {sl8 : Array (Option Value)} {oc8 kV8 dc8 pm8 cd8 ct8 : Value}
    (a8 : PySem.W.nsIn K mainGlobals "_law_primes" = some (some (.ref f8))) (l8 : K.lookup f8 = some ⟨oc8, od8, .func (PySem.W.fnOf "_law_primes" "_law_primes" (defArgs s_law_primes) (defBody s_law_primes) (defScope s_law_primes) .none kV8 dc8 pm8 an8 cd8 ct8), sl8⟩) (c8 : PySem.W.codeIn K cd8 "_law_primes" = true) (k8 : PySem.W.keepIn K (.ref f8) = true)
    {f9 : Addr} {od9 an9 : Option Addr} {sl9 : Array (Option Value)} {oc9 kV9 dc9 pm9 cd9 ct9 : Value}
    (a9 : PySem.W.nsIn K mainGlobals "_law_raised" = some (some (.ref f9))) (l9 : K.lookup f9 = some ⟨oc9, od9, .func (PySem.W.fnOf "_law_raised" "_law_raised" (defArgs s_law_raised) (defBody s_law_raised) (defScope s_law_raised) .none kV9 dc9 pm9 an9 cd9 ct9), sl9⟩) (c9 : PySem.W.codeIn K cd9 "_law_raised" = true) (k9 : PySem.W.keepIn K (.ref f9) = true)
    {f10 : Addr} {od10 an10 : Option Addr} {sl10 : Array (Option Value)} {oc10 kV10 dc10 pm10 cd10 ct10 : Value}
    (a10 : PySem.W.nsIn K mainGlobals "_law_sums" = some (some (.ref f10))) (l10 : K.lookup f10 = some ⟨oc10, od10, .func (PySem.W.fnOf "_law_sums" "_law_sums" (defArgs s_law_sums) (defBody s_law_sums) (defScope s_law_sums) .none kV10 dc10 pm10 an10 cd10 ct10), sl10⟩) (c10 : PySem.W.codeIn K cd10 "_law_sums" = true) (k10 : PySem.W.keepIn K (.ref f10) = true)
    {f11 : Addr} {od11 an11 : Option Addr} {sl11 : Array (Option Value)} {oc11 kV11 dc11 pm11 cd11 ct11 : Value}
    (a11 : PySem.W.nsIn K mainGlobals "_law_of_sums" = some (some (.ref f11))) (l11 : K.lookup f11 = some ⟨oc11, od11, .func (PySem.W.fnOf "_law_of_sums" "_law_of_sums" (defArgs s_law_of_sums) (defBody s_law_of_sums) (defScope s_law_of_sums) .none kV11 dc11 pm11 an11 cd11 ct11), sl11⟩) (c11 : PySem.W.codeIn K cd11 "_law_of_sums" = true) (k11 : PySem.W.keepIn K (.ref f11) = true)
    {f12 : Addr} {od12 an12 : Option Addr} {sl12 : Array (Option Value)} {oc12 kV12 dc12 pm12 cd12 ct12 : Value}
    (a12 : PySem.W.nsIn K mainGlobals "_law_counts" = some (some (.ref f12))) (l12 : K.lookup f12 = some ⟨oc12, od12, .func (PySem.W.fnOf "_law_counts" "_law_counts" (defArgs s_law_counts) (defBody s_law_counts) (defScope s_law_counts) .none kV12 dc12 pm12 an12 cd12 ct12), sl12⟩) (c12 : PySem.W.codeIn K cd12 "_law_counts" = true) (k12 : PySem.W.keepIn K (.ref f12) = true)
    {f13 : Addr} {od13 an13 : Option Addr} {sl13 : Array (Option Value)} {oc13 kV13 dc13 pm13 cd13 ct13 : Value}
    (a13 : PySem.W.nsIn K mainGlobals "_law_product" = some (some (.ref f13))) (l13 : K.lookup f13 = some ⟨oc13, od13, .func (PySem.W.fnOf "_law_product" "_law_product" (defArgs s_law_product) (defBody s_law_product) (defScope s_law_product) .none kV13 dc13 pm13 an13 cd13 ct13), sl13⟩) (c13 : PySem.W.codeIn K cd13 "_law_product" = true) (k13 : PySem.W.keepIn K (.ref f13) = true)
    {f14 : Addr} {od14 an14 : Option Addr} {sl14 : Array (Option Value)} {oc14 kV14 dc14 pm14 cd14 ct14 : Value}
    (a14 : PySem.W.nsIn K mainGlobals "_law_list" = some (some (.ref f14))) (l14 : K.lookup f14 = some ⟨oc14, od14, .func (PySem.W.fnOf "_law_list" "_law_list" (defArgs s_law_list) (defBody s_law_list) (defScope s_law_list) .none kV14 dc14 pm14 an14 cd14 ct14), sl14⟩) (c14 : PySem.W.codeIn K cd14 "_law_list" = true) (k14 : PySem.W.keepIn K (.ref f14) = true)
    {f15 : Addr} {od15 an15 : Option Addr} {sl15 : Array (Option Value)} {oc15 kV15 dc15 pm15 cd15 ct15 : Value}
    (a15 : PySem.W.nsIn K mainGlobals "_law_twin" = some (some (.ref f15))) (l15 : K.lookup f15 = some ⟨oc15, od15, .func (PySem.W.fnOf "_law_twin" "_law_twin" (defArgs s_law_twin) (defBody s_law_twin) (defScope s_law_twin) .none kV15 dc15 pm15 an15 cd15 ct15), sl15⟩) (c15 : PySem.W.codeIn K cd15 "_law_twin" = true) (k15 : PySem.W.keepIn K (.ref f15) = true)
    {f16 : Addr} {od16 an16 : Option Addr} {sl16 : Array (Option Value)} {oc16 kV16 dc16 pm16 cd16 ct16 : Value}
    (a16 : PySem.W.nsIn K mainGlobals "_law_is_counted" = some (some (.ref f16))) (l16 : K.lookup f16 = some ⟨oc16, od16, .func (PySem.W.fnOf "_law_is_counted" "_law_is_counted" (defArgs s_law_is_counted) (defBody s_law_is_counted) (defScope s_law_is_counted) .none kV16 dc16 pm16 an16 cd16 ct16), sl16⟩) (c16 : PySem.W.codeIn K cd16 "_law_is_counted" = true) (k16 : PySem.W.keepIn K (.ref f16) = true)
    {f17 : Addr} {od17 an17 : Option Addr} {sl17 : Array (Option Value)} {oc17 kV17 dc17 pm17 cd17 ct17 : Value}
    (a17 : PySem.W.nsIn K mainGlobals "_law_is_changed" = some (some (.ref f17))) (l17 : K.lookup f17 = some ⟨oc17, od17, .func (PySem.W.fnOf "_law_is_changed" "_law_is_changed" (defArgs s_law_is_changed) (defBody s_law_is_changed) (defScope s_law_is_changed) .none kV17 dc17 pm17 an17 cd17 ct17), sl17⟩) (c17 : PySem.W.codeIn K cd17 "_law_is_changed" = true) (k17 : PySem.W.keepIn K (.ref f17) = true)
    {f18 : Addr} {od18 an18 : Option Addr} {sl18 : Array (Option Value)} {oc18 kV18 dc18 pm18 cd18 ct18 : Value}
    (a18 : PySem.W.nsIn K mainGlobals "_law_is_joined" = some (some (.ref f18))) (l18 : K.lookup f18 = some ⟨oc18, od18, .func (PySem.W.fnOf "_law_is_joined" "_law_is_joined" (defArgs s_law_is_joined) (defBody s_law_is_joined) (defScope s_law_is_joined) .none kV18 dc18 pm18 an18 cd18 ct18), sl18⟩) (c18 : PySem.W.codeIn K cd18 "_law_is_joined" = true) (k18 : PySem.W.keepIn K (.ref f18) = true)
    {f19 : Addr} {od19 an19 : Option Addr} {sl19 : Array (Option Value)} {oc19 kV19 dc19 pm19 cd19 ct19 : Value}
    (a19 : PySem.W.nsIn K mainGlobals "_law_is_twin" = some (some (.ref f19))) (l19 : K.lookup f19 = some ⟨oc19, od19, .func (PySem.W.fnOf "_law_is_twin" "_law_is_twin" (defArgs s_law_is_twin) (defBody s_law_is_twin) (defScope s_law_is_twin) .none kV19 dc19 pm19 an19 cd19 ct19), sl19⟩) (c19 : PySem.W.codeIn K cd19 "_law_is_twin" = true) (k19 : PySem.W.keepIn K (.ref f19) = true)
    {f20 : Addr} {od20 an20 : Option Addr} {sl20 : Array (Option Value)} {oc20 kV20 dc20 pm20 cd20 ct20 : Value}
    (a20 : PySem.W.nsIn K mainGlobals "law" = some (some (.ref f20))) (l20 : K.lookup f20 = some ⟨oc20, od20, .func (PySem.W.fnOf "law" "law" (defArgs s_law) (defBody s_law) (defScope s_law) .none kV20 dc20 pm20 an20 cd20 ct20), sl20⟩) (c20 : PySem.W.codeIn K cd20 "law" = true) (k20 : PySem.W.keepIn K (.ref f20) = true) :
    ∃ fd : FuncData, (∀ (s : Shared) (u : Value), BindsTo s fd ⟨[u], []⟩ [("script", u)]) ∧ ∀ base : Heap, base.NoDigits → FnG l.prog w K mg base CX0 5 fa fd ["script"] (liftSp K spLaw) := by
  have e := hfa.symm.trans (PySem.W.mg_of X G a20)
  cases e
  have F0 := fun_mk (st := s_raised) l0 c0 k0
  have b0 := F0.binds (ps := ["a", "e"]) fun _ _ _ _ _ _ us hl => match us, hl with | [_, _], _ => rfl
  have F1 := fun_mk (st := s_list_made) l1 c1 k1
  have b1 := F1.binds (ps := ["q", "counts"]) fun _ _ _ _ _ _ us hl => match us, hl with | [_, _], _ => rfl
  have F2 := fun_mk (st := s_list_of_counts) l2 c2 k2
  have b2 := F2.binds (ps := ["p", "counts"]) fun _ _ _ _ _ _ us hl => match us, hl with | [_, _], _ => rfl
  have F3 := fun_mk (st := s_counts_of) l3 c3 k3
  have b3 := F3.binds (ps := ["p", "items", "most"]) fun _ _ _ _ _ _ us hl => match us, hl with | [_, _, _], _ => rfl
  have F4 := fun_mk (st := s_list_over) l4 c4 k4
  have b4 := F4.binds (ps := ["p", "items", "n"]) fun _ _ _ _ _ _ us hl => match us, hl with | [_, _, _], _ => rfl
  have F5 := fun_mk (st := s_law_deck) l5 c5 k5
  have b5 := F5.binds (ps := ["script"]) fun _ _ _ _ _ _ us hl => match us, hl with | [_], _ => rfl
  have F6 := fun_mk (st := s_law_draw) l6 c6 k6
  have b6 := F6.binds (ps := ["deck", "bound"]) fun _ _ _ _ _ _ us hl => match us, hl with | [_, _], _ => rfl
  have F7 := fun_mk (st := s_law_is) l7 c7 k7
  have b7 := F7.binds (ps := ["value", "due"]) fun _ _ _ _ _ _ us hl => match us, hl with | [_, _], _ => rfl
  have F8 := fun_mk (st := s_law_primes) l8 c8 k8
  have b8 := F8.binds (ps := []) fun _ _ _ _ _ _ us hl => match us, hl with | [], _ => rfl
  have F9 := fun_mk (st := s_law_raised) l9 c9 k9
  have b9 := F9.binds (ps := ["a", "e"]) fun _ _ _ _ _ _ us hl => match us, hl with | [_, _], _ => rfl
  have F10 := fun_mk (st := s_law_sums) l10 c10 k10
  have b10 := F10.binds (ps := ["items", "most"]) fun _ _ _ _ _ _ us hl => match us, hl with | [_, _], _ => rfl
  have F11 := fun_mk (st := s_law_of_sums) l11 c11 k11
  have b11 := F11.binds (ps := ["sums", "q", "g"]) fun _ _ _ _ _ _ us hl => match us, hl with | [_, _, _], _ => rfl
  have F12 := fun_mk (st := s_law_counts) l12 c12 k12
  have b12 := F12.binds (ps := ["p", "items", "most"]) fun _ _ _ _ _ _ us hl => match us, hl with | [_, _, _], _ => rfl
  have F13 := fun_mk (st := s_law_product) l13 c13 k13
  have b13 := F13.binds (ps := ["a", "b"]) fun _ _ _ _ _ _ us hl => match us, hl with | [_, _], _ => rfl
  have F14 := fun_mk (st := s_law_list) l14 c14 k14
  have b14 := F14.binds (ps := ["deck", "p", "g", "most"]) fun _ _ _ _ _ _ us hl => match us, hl with | [_, _, _, _], _ => rfl
  have F15 := fun_mk (st := s_law_twin) l15 c15 k15
  have b15 := F15.binds (ps := ["items"]) fun _ _ _ _ _ _ us hl => match us, hl with | [_], _ => rfl
  have F16 := fun_mk (st := s_law_is_counted) l16 c16 k16
  have b16 := F16.binds (ps := ["p", "items", "g"]) fun _ _ _ _ _ _ us hl => match us, hl with | [_, _, _], _ => rfl
  have F17 := fun_mk (st := s_law_is_changed) l17 c17 k17
  have b17 := F17.binds (ps := ["deck", "p", "items", "g"]) fun _ _ _ _ _ _ us hl => match us, hl with | [_, _, _, _], _ => rfl
  have F18 := fun_mk (st := s_law_is_joined) l18 c18 k18
  have b18 := F18.binds (ps := ["deck", "p"]) fun _ _ _ _ _ _ us hl => match us, hl with | [_, _], _ => rfl
  have F19 := fun_mk (st := s_law_is_twin) l19 c19 k19
  have b19 := F19.binds (ps := ["p", "items"]) fun _ _ _ _ _ _ us hl => match us, hl with | [_, _], _ => rfl
  have F20 := fun_mk (st := s_law) l20 c20 k20
  refine ⟨PySem.W.fnOf "law" "law" (defArgs s_law) (defBody s_law) (defScope s_law) .none kV20 dc20 pm20 an20 cd20 ct20, fun s v => .of_eq rfl, fun base dg => ?_⟩
  have E0 : FnG l.prog w K mg base CX0 1 f0 _ ["a", "e"] (liftSp K (phi.fn "raised")) := def_ok (fns := c_raised) phi_mono F0 f_raised k_raised kp_raised len_raised (by unfold c_raised; simp) B dg
  have D0 : DefM phi l.prog w K mg base 1 "raised" 2 := ⟨f0, _, _, E0, PySem.W.mg_of X G a0, k0, b0⟩
  have E5 : FnG l.prog w K mg base CX0 1 f5 _ ["script"] (liftSp K (phi.fn "_law_deck")) := def_ok (fns := c_law_deck) phi_mono F5 f_law_deck k_law_deck kp_law_deck len_law_deck (by unfold c_law_deck; simp) B dg
  have D5 : DefM phi l.prog w K mg base 1 "_law_deck" 1 := ⟨f5, _, _, E5, PySem.W.mg_of X G a5, k5, b5⟩
  have E6 : FnG l.prog w K mg base CX0 1 f6 _ ["deck", "bound"] (liftSp K (phi.fn "_law_draw")) := def_ok (fns := c_law_draw) phi_mono F6 f_law_draw k_law_draw kp_law_draw len_law_draw (by unfold c_law_draw; simp) B dg
  have D6 : DefM phi l.prog w K mg base 1 "_law_draw" 2 := ⟨f6, _, _, E6, PySem.W.mg_of X G a6, k6, b6⟩
  have E7 : FnG l.prog w K mg base CX0 1 f7 _ ["value", "due"] (liftSp K (phi.fn "_law_is")) := def_ok (fns := c_law_is) phi_mono F7 f_law_is k_law_is kp_law_is len_law_is (by unfold c_law_is; simp) B dg
  have D7 : DefM phi l.prog w K mg base 1 "_law_is" 2 := ⟨f7, _, _, E7, PySem.W.mg_of X G a7, k7, b7⟩
  have E8 : FnG l.prog w K mg base CX0 1 f8 _ [] (liftSp K (phi.fn "_law_primes")) := def_ok (fns := c_law_primes) phi_mono F8 f_law_primes k_law_primes kp_law_primes len_law_primes (by unfold c_law_primes; simp) B dg
  have D8 : DefM phi l.prog w K mg base 1 "_law_primes" 0 := ⟨f8, _, _, E8, PySem.W.mg_of X G a8, k8, b8⟩
  have E9 : FnG l.prog w K mg base CX0 1 f9 _ ["a", "e"] (liftSp K (phi.fn "_law_raised")) := def_ok (fns := c_law_raised) phi_mono F9 f_law_raised k_law_raised kp_law_raised len_law_raised (by unfold c_law_raised; simp) B dg
  have D9 : DefM phi l.prog w K mg base 1 "_law_raised" 2 := ⟨f9, _, _, E9, PySem.W.mg_of X G a9, k9, b9⟩
  have E10 : FnG l.prog w K mg base CX0 1 f10 _ ["items", "most"] (liftSp K (phi.fn "_law_sums")) := def_ok (fns := c_law_sums) phi_mono F10 f_law_sums k_law_sums kp_law_sums len_law_sums (by unfold c_law_sums; simp) B dg
  have D10 : DefM phi l.prog w K mg base 1 "_law_sums" 2 := ⟨f10, _, _, E10, PySem.W.mg_of X G a10, k10, b10⟩
  have E13 : FnG l.prog w K mg base CX0 1 f13 _ ["a", "b"] (liftSp K (phi.fn "_law_product")) := def_ok (fns := c_law_product) phi_mono F13 f_law_product k_law_product kp_law_product len_law_product (by unfold c_law_product; simp) B dg
  have D13 : DefM phi l.prog w K mg base 1 "_law_product" 2 := ⟨f13, _, _, E13, PySem.W.mg_of X G a13, k13, b13⟩
  have E15 : FnG l.prog w K mg base CX0 1 f15 _ ["items"] (liftSp K (phi.fn "_law_twin")) := def_ok (fns := c_law_twin) phi_mono F15 f_law_twin k_law_twin kp_law_twin len_law_twin (by unfold c_law_twin; simp) B dg
  have D15 : DefM phi l.prog w K mg base 1 "_law_twin" 1 := ⟨f15, _, _, E15, PySem.W.mg_of X G a15, k15, b15⟩
  have E1 : FnG l.prog w K mg base CX0 2 f1 _ ["q", "counts"] (liftSp K (phi.fn "list_made")) := def_ok (fns := c_list_made) phi_mono F1 f_list_made k_list_made kp_list_made len_list_made (by unfold c_list_made; simp only [List.forall_mem_cons]; exact ⟨D0.mono (k := 1) (by decide), by simp⟩) B dg
  have D1 : DefM phi l.prog w K mg base 2 "list_made" 2 := ⟨f1, _, _, E1, PySem.W.mg_of X G a1, k1, b1⟩
  have E3 : FnG l.prog w K mg base CX0 2 f3 _ ["p", "items", "most"] (liftSp K (phi.fn "counts_of")) := def_ok (fns := c_counts_of) phi_mono F3 f_counts_of k_counts_of kp_counts_of len_counts_of (by unfold c_counts_of; simp only [List.forall_mem_cons]; exact ⟨D0.mono (k := 1) (by decide), by simp⟩) B dg
  have D3 : DefM phi l.prog w K mg base 2 "counts_of" 3 := ⟨f3, _, _, E3, PySem.W.mg_of X G a3, k3, b3⟩
  have E11 : FnG l.prog w K mg base CX0 2 f11 _ ["sums", "q", "g"] (liftSp K (phi.fn "_law_of_sums")) := def_ok (fns := c_law_of_sums) phi_mono F11 f_law_of_sums k_law_of_sums kp_law_of_sums len_law_of_sums (by unfold c_law_of_sums; simp only [List.forall_mem_cons]; exact ⟨D9.mono (k := 1) (by decide), by simp⟩) B dg
  have D11 : DefM phi l.prog w K mg base 2 "_law_of_sums" 3 := ⟨f11, _, _, E11, PySem.W.mg_of X G a11, k11, b11⟩
  have E12 : FnG l.prog w K mg base CX0 2 f12 _ ["p", "items", "most"] (liftSp K (phi.fn "_law_counts")) := def_ok (fns := c_law_counts) phi_mono F12 f_law_counts k_law_counts kp_law_counts len_law_counts (by unfold c_law_counts; simp only [List.forall_mem_cons]; exact ⟨D9.mono (k := 1) (by decide), D10.mono (k := 1) (by decide), by simp⟩) B dg
  have D12 : DefM phi l.prog w K mg base 2 "_law_counts" 3 := ⟨f12, _, _, E12, PySem.W.mg_of X G a12, k12, b12⟩
  have E14 : FnG l.prog w K mg base CX0 2 f14 _ ["deck", "p", "g", "most"] (liftSp K (phi.fn "_law_list")) := def_ok (fns := c_law_list) phi_mono F14 f_law_list k_law_list kp_law_list len_law_list (by unfold c_law_list; simp only [List.forall_mem_cons]; exact ⟨D9.mono (k := 1) (by decide), D6.mono (k := 1) (by decide), by simp⟩) B dg
  have D14 : DefM phi l.prog w K mg base 2 "_law_list" 4 := ⟨f14, _, _, E14, PySem.W.mg_of X G a14, k14, b14⟩
  have E2 : FnG l.prog w K mg base CX0 3 f2 _ ["p", "counts"] (liftSp K (phi.fn "list_of_counts")) := def_ok (fns := c_list_of_counts) phi_mono F2 f_list_of_counts k_list_of_counts kp_list_of_counts len_list_of_counts (by unfold c_list_of_counts; simp only [List.forall_mem_cons]; exact ⟨D1.mono (k := 2) (by decide), by simp⟩) B dg
  have D2 : DefM phi l.prog w K mg base 3 "list_of_counts" 2 := ⟨f2, _, _, E2, PySem.W.mg_of X G a2, k2, b2⟩
  have E4 : FnG l.prog w K mg base CX0 3 f4 _ ["p", "items", "n"] (liftSp K (phi.fn "list_over")) := def_ok (fns := c_list_over) phi_mono F4 f_list_over k_list_over kp_list_over len_list_over (by unfold c_list_over; simp only [List.forall_mem_cons]; exact ⟨D1.mono (k := 2) (by decide), D0.mono (k := 2) (by decide), D3.mono (k := 2) (by decide), by simp⟩) B dg
  have D4 : DefM phi l.prog w K mg base 3 "list_over" 3 := ⟨f4, _, _, E4, PySem.W.mg_of X G a4, k4, b4⟩
  have E19 : FnG l.prog w K mg base CX0 3 f19 _ ["p", "items"] (liftSp K (phi.fn "_law_is_twin")) := def_ok (fns := c_law_is_twin) phi_mono F19 f_law_is_twin k_law_is_twin kp_law_is_twin len_law_is_twin (by unfold c_law_is_twin; simp only [List.forall_mem_cons]; exact ⟨D7.mono (k := 2) (by decide), D9.mono (k := 2) (by decide), D3.mono (k := 2) (by decide), D15.mono (k := 2) (by decide), by simp⟩) B dg
  have D19 : DefM phi l.prog w K mg base 3 "_law_is_twin" 2 := ⟨f19, _, _, E19, PySem.W.mg_of X G a19, k19, b19⟩
  have E16 : FnG l.prog w K mg base CX0 4 f16 _ ["p", "items", "g"] (liftSp K (phi.fn "_law_is_counted")) := def_ok (fns := c_law_is_counted) phi_mono F16 f_law_is_counted k_law_is_counted kp_law_is_counted len_law_is_counted (by unfold c_law_is_counted; simp only [List.forall_mem_cons]; exact ⟨D7.mono (k := 3) (by decide), D2.mono (k := 3) (by decide), D3.mono (k := 3) (by decide), D4.mono (k := 3) (by decide), D12.mono (k := 3) (by decide), by simp⟩) B dg
  have D16 : DefM phi l.prog w K mg base 4 "_law_is_counted" 3 := ⟨f16, _, _, E16, PySem.W.mg_of X G a16, k16, b16⟩
  have E17 : FnG l.prog w K mg base CX0 4 f17 _ ["deck", "p", "items", "g"] (liftSp K (phi.fn "_law_is_changed")) := def_ok (fns := c_law_is_changed) phi_mono F17 f_law_is_changed k_law_is_changed kp_law_is_changed len_law_is_changed (by unfold c_law_is_changed; simp only [List.forall_mem_cons]; exact ⟨D7.mono (k := 3) (by decide), D3.mono (k := 3) (by decide), D2.mono (k := 3) (by decide), D11.mono (k := 3) (by decide), D9.mono (k := 3) (by decide), D6.mono (k := 3) (by decide), D12.mono (k := 3) (by decide), by simp⟩) B dg
  have D17 : DefM phi l.prog w K mg base 4 "_law_is_changed" 4 := ⟨f17, _, _, E17, PySem.W.mg_of X G a17, k17, b17⟩
  have E18 : FnG l.prog w K mg base CX0 4 f18 _ ["deck", "p"] (liftSp K (phi.fn "_law_is_joined")) := def_ok (fns := c_law_is_joined) phi_mono F18 f_law_is_joined k_law_is_joined kp_law_is_joined len_law_is_joined (by unfold c_law_is_joined; simp only [List.forall_mem_cons]; exact ⟨D7.mono (k := 3) (by decide), D2.mono (k := 3) (by decide), D12.mono (k := 3) (by decide), D9.mono (k := 3) (by decide), D3.mono (k := 3) (by decide), D13.mono (k := 3) (by decide), D6.mono (k := 3) (by decide), D14.mono (k := 3) (by decide), by simp⟩) B dg
  have D18 : DefM phi l.prog w K mg base 4 "_law_is_joined" 2 := ⟨f18, _, _, E18, PySem.W.mg_of X G a18, k18, b18⟩
  have E20 : FnG l.prog w K mg base CX0 5 fa _ ["script"] (liftSp K (phi.fn "law")) := def_ok (fns := c_law) phi_mono F20 f_law k_law kp_law len_law (by unfold c_law; simp only [List.forall_mem_cons]; exact ⟨D7.mono (k := 4) (by decide), D12.mono (k := 4) (by decide), D3.mono (k := 4) (by decide), D9.mono (k := 4) (by decide), D8.mono (k := 4) (by decide), D6.mono (k := 4) (by decide), D18.mono (k := 4) (by decide), D19.mono (k := 4) (by decide), D17.mono (k := 4) (by decide), D16.mono (k := 4) (by decide), D14.mono (k := 4) (by decide), D5.mono (k := 4) (by decide), by simp⟩) B dg
  rw [phi_law] at E20
  exact E20
end
end Mp.K39
open PySem PySem.W PyProof.Rows
set_option maxHeartbeats 0 in
theorem PySem.Challenge.cw_poleheaps_k39_count_lists_by_sums_holds : PySem.Challenge.rw_poleheaps_k39_count_lists_by_sums.Holds := by
  w_on; o_law; k_head; (case hw => w_witness2)
  k_fill
  refine Mp.walk_M (l := PySem.Challenge.rw_poleheaps_k39_count_lists_by_sums) (n := 63) (k := 5) (x := "script") (spL := Mp.K39.spLaw) rfl (by decide) rfl ⟨rfl, by decide, by decide⟩ (fun w h Y => PySem.W.kIn_of Y) ?F (fun ns hl => ⟨ns, rfl, hl, fun _ => rfl⟩) Mp.K39.mono_spLaw
  case F =>
    intro w mg fa h KX G hmg
    refine' Mp.K39.all_mk KX G hmg (Mp.K39.bi_mk KX G ?z0 ?z1 ?z2 ?z3 ?z4 ?z5 ?z6 ?z7 ?z8 ?z9 ?z10 ?z11 ?z12 ?z13 ?z14) ?a0 ?l0 ?c0 ?k0 ?a1 ?l1 ?c1 ?k1 ?a2 ?l2 ?c2 ?k2 ?a3 ?l3 ?c3 ?k3 ?a4 ?l4 ?c4 ?k4 ?a5 ?l5 ?c5 ?k5 ?a6 ?l6 ?c6 ?k6 ?a7 ?l7 ?c7 ?k7 ?a8 ?l8 ?c8 ?k8 ?a9 ?l9 ?c9 ?k9 ?a10 ?l10 ?c10 ?k10 ?a11 ?l11 ?c11 ?k11 ?a12 ?l12 ?c12 ?k12 ?a13 ?l13 ?c13 ?k13 ?a14 ?l14 ?c14 ?k14 ?a15 ?l15 ?c15 ?k15 ?a16 ?l16 ?c16 ?k16 ?a17 ?l17 ?c17 ?k17 ?a18 ?l18 ?c18 ?k18 ?a19 ?l19 ?c19 ?k19 ?a20 ?l20 ?c20 ?k20
    (case z0 => k_is)
    (case z1 => k_is)
    (case z2 => k_is)
    (case z3 => k_is)
    (case z4 => k_is)
    (case z5 => k_is)
    (case z6 => k_is)
    (case z7 => k_is)
    (case z8 => k_is)
    (case z9 => k_is)
    (case z10 => k_is)
    (case z11 => k_is)
    (case z12 => k_is)
    (case z13 => k_is)
    (case z14 => k_is)
    (case a0 => k_is); (case l0 => k_is); (case c0 => k_is); (case k0 => k_is)
    (case a1 => k_is); (case l1 => k_is); (case c1 => k_is); (case k1 => k_is)
    (case a2 => k_is); (case l2 => k_is); (case c2 => k_is); (case k2 => k_is)
    (case a3 => k_is); (case l3 => k_is); (case c3 => k_is); (case k3 => k_is)
    (case a4 => k_is); (case l4 => k_is); (case c4 => k_is); (case k4 => k_is)
    (case a5 => k_is); (case l5 => k_is); (case c5 => k_is); (case k5 => k_is)
    (case a6 => k_is); (case l6 => k_is); (case c6 => k_is); (case k6 => k_is)
    (case a7 => k_is); (case l7 => k_is); (case c7 => k_is); (case k7 => k_is)
    (case a8 => k_is); (case l8 => k_is); (case c8 => k_is); (case k8 => k_is)
    (case a9 => k_is); (case l9 => k_is); (case c9 => k_is); (case k9 => k_is)
    (case a10 => k_is); (case l10 => k_is); (case c10 => k_is); (case k10 => k_is)
    (case a11 => k_is); (case l11 => k_is); (case c11 => k_is); (case k11 => k_is)
    (case a12 => k_is); (case l12 => k_is); (case c12 => k_is); (case k12 => k_is)
    (case a13 => k_is); (case l13 => k_is); (case c13 => k_is); (case k13 => k_is)
    (case a14 => k_is); (case l14 => k_is); (case c14 => k_is); (case k14 => k_is)
    (case a15 => k_is); (case l15 => k_is); (case c15 => k_is); (case k15 => k_is)
    (case a16 => k_is); (case l16 => k_is); (case c16 => k_is); (case k16 => k_is)
    (case a17 => k_is); (case l17 => k_is); (case c17 => k_is); (case k17 => k_is)
    (case a18 => k_is); (case l18 => k_is); (case c18 => k_is); (case k18 => k_is)
    (case a19 => k_is); (case l19 => k_is); (case c19 => k_is); (case k19 => k_is)
    (case a20 => k_is); (case l20 => k_is); (case c20 => k_is); (case k20 => k_is)
