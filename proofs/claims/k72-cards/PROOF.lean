import PyProof.Rows.All
import Wide.All
import OpenK.AllK
import Wide.FinOn
import HandS.ForMost
import HandS.Deep
import HandS.ForExc
import HandS.Zip
import HandS.DictComp
import HandS.TupAny
import HandS.IsInst
import HandS.Style
import HandS.SortInts
import HandS.Codes
import HandS.TupLen
import HandS.Replace
import HandS.TupMul
import KE.DataMinMax
import HandS.Exc
import HandS.ExcOwn
import HandS.ExcIs
import HandS.TryOnly
import HandS.WordsExc
import KE.DatumIndex
import PyProof.ReprLen
import HandS.Text
import HandS.StrMore
import HandS.Conv
import PyProof.Rows.StrPadFill
import PyProof.Rows.StrCase
import HandS.Iter
import HandS.DictTup
import HandS.RevRange
import HandS.Steps
import KE.KDictDisplayH
import HandS.SetFor
import HandS.Sort
import PySem.Challenge.RW_lettersacross_k72_cards_groups_and_confl
set_option Elab.async false
set_option linter.all false
set_option maxRecDepth 100000
set_option maxHeartbeats 4000000
/-! PL0: data without a heap: what a value bears (Rp), the environment of a def by slots (Rel), own cells -/
namespace PL
open PySem PySem.Spec PyProof.Rows L2

abbrev D := PyData
/-- by cases, as a goal of two -/
structure Cif (c : Bool) (A B : Prop) : Prop where
  t : c = true → A
  f : c = false → B

def keyD : Key → D
  | .inl i => .int i
  | .inr x => .str x

/-! ### a value bears data, in the frozen heap F -/
mutual
inductive Rp (F : Hp) : V → D → Prop
  | non : Rp F .non .none
  | bl (b : Bool) : Rp F (.bl b) (.bool b)
  | int (i : Int) : Rp F (.int i) (.int i)
  | str (x : Str) (h : PyData.strOk x = true) : Rp F (.str x) (.str x)
  | lst {a : Addr} {xs : List V} {ds : List D} : F a = some (.lst xs) → RpA F xs ds → Rp F (.ref a) (.list ds)
  /-- the script: a list that is known to the object -/
  | fz {a : Addr} {o : Obj} {xs : List V} {ds : List D} : F a = some (.frz o (.lst xs)) → RpA F xs ds → Rp F (.ref a) (.dict [(.none, .list ds)])
  /-- a range object -/
  | rg {a : Addr} {i j : Int} : F a = some (.rng i j) → Rp F (.ref a) (.dict [(.none, .tuple [.int i, .int j])])
  | tup {a : Addr} {xs : List V} {ds : List D} : F a = some (.tup xs) → RpA F xs ds → Rp F (.ref a) (.tuple ds)
  | dk {a : Addr} {kvs : List (Key × V)} {ds : List (D × D)} : F a = some (.dK kvs) → RpK F kvs ds → Rp F (.ref a) (.dict ds)
  | dt {a : Addr} {kvs : List (List Key × V)} {ds : List (D × D)} : F a = some (.dT kvs) → RpT F kvs ds → Rp F (.ref a) (.dict ds)
inductive RpA (F : Hp) : List V → List D → Prop
  | nil : RpA F [] []
  | cons {v : V} {vs : List V} {d : D} {ds : List D} : Rp F v d → RpA F vs ds → RpA F (v :: vs) (d :: ds)
inductive RpK (F : Hp) : List (Key × V) → List (D × D) → Prop
  | nil : RpK F [] []
  | cons {k : Key} {v : V} {r : List (Key × V)} {d : D} {ds : List (D × D)} : Rp F v d → RpK F r ds → RpK F ((k, v) :: r) ((keyD k, d) :: ds)
inductive RpT (F : Hp) : List (List Key × V) → List (D × D) → Prop
  | nil : RpT F [] []
  | cons {k : List Key} {v : V} {r : List (List Key × V)} {d : D} {ds : List (D × D)} : Rp F v d → RpT F r ds → RpT F ((k, v) :: r) ((.tuple (k.map keyD), d) :: ds)
end

theorem rd_same {H H' : Hp} {a : Addr} {u : HO} (e : Same H H') (h : Rd H a u) : Rd H' a u := by
  rcases h with h | ⟨o, h⟩
  · exact Or.inl (e a _ h)
  · exact Or.inr ⟨o, e a _ h⟩

mutual
theorem Rp.mono {F F' : Hp} (e : Same F F') : ∀ {v : V} {d : D}, Rp F v d → Rp F' v d
  | _, _, .non => .non
  | _, _, .bl b => .bl b
  | _, _, .int i => .int i
  | _, _, .str x h => .str x h
  | _, _, .lst h r => .lst (e _ _ h) (RpA.mono e r)
  | _, _, .fz h r => .fz (e _ _ h) (RpA.mono e r)
  | _, _, .rg h => .rg (e _ _ h)
  | _, _, .tup h r => .tup (e _ _ h) (RpA.mono e r)
  | _, _, .dk h r => .dk (e _ _ h) (RpK.mono e r)
  | _, _, .dt h r => .dt (e _ _ h) (RpT.mono e r)
theorem RpA.mono {F F' : Hp} (e : Same F F') : ∀ {vs : List V} {ds : List D}, RpA F vs ds → RpA F' vs ds
  | _, _, .nil => .nil
  | _, _, .cons h r => .cons (Rp.mono e h) (RpA.mono e r)
theorem RpK.mono {F F' : Hp} (e : Same F F') : ∀ {vs : List (Key × V)} {ds : List (D × D)}, RpK F vs ds → RpK F' vs ds
  | _, _, .nil => .nil
  | _, _, .cons h r => .cons (Rp.mono e h) (RpK.mono e r)
theorem RpT.mono {F F' : Hp} (e : Same F F') : ∀ {vs : List (List Key × V)} {ds : List (D × D)}, RpT F vs ds → RpT F' vs ds
  | _, _, .nil => .nil
  | _, _, .cons h r => .cons (Rp.mono e h) (RpT.mono e r)
end

theorem RpA.length {F : Hp} : ∀ {vs : List V} {ds : List D}, RpA F vs ds → vs.length = ds.length
  | _, _, .nil => rfl
  | _, _, .cons _ r => congrArg (· + 1) (RpA.length r)
theorem RpA.get {F : Hp} : ∀ {vs : List V} {ds : List D} {i : Nat} {d : D}, RpA F vs ds → ds[i]? = some d → ∃ v, vs[i]? = some v ∧ Rp F v d
  | _, _, _, _, .nil, e => by simp at e
  | _, _, 0, _, .cons h _, e => by
    simp at e
    subst e
    exact ⟨_, rfl, h⟩
  | _, _, i + 1, d, .cons _ r, e => by
    obtain ⟨v, h1, h2⟩ := RpA.get (i := i) (d := d) r (by simpa using e)
    exact ⟨v, by simpa using h1, h2⟩
theorem RpA.getV {F : Hp} : ∀ {vs : List V} {ds : List D} {i : Nat} {v : V}, RpA F vs ds → vs[i]? = some v → ∃ d, ds[i]? = some d ∧ Rp F v d
  | _, _, _, _, .nil, e => by simp at e
  | _, _, 0, _, .cons h _, e => by
    simp at e
    subst e
    exact ⟨_, rfl, h⟩
  | _, _, i + 1, v, .cons _ r, e => by
    obtain ⟨d, h1, h2⟩ := RpA.getV (i := i) (v := v) r (by simpa using e)
    exact ⟨d, by simpa using h1, h2⟩
theorem RpA.append {F : Hp} : ∀ {vs us : List V} {ds es : List D}, RpA F vs ds → RpA F us es → RpA F (vs ++ us) (ds ++ es)
  | _, _, _, _, .nil, s => s
  | _, _, _, _, .cons h r, s => .cons h (RpA.append r s)
theorem RpA.take {F : Hp} : ∀ {vs : List V} {ds : List D} (n : Nat), RpA F vs ds → RpA F (vs.take n) (ds.take n)
  | _, _, 0, _ => .nil
  | _, _, _ + 1, .nil => .nil
  | _, _, n + 1, .cons h r => .cons h (RpA.take n r)
theorem RpA.drop {F : Hp} : ∀ {vs : List V} {ds : List D} (n : Nat), RpA F vs ds → RpA F (vs.drop n) (ds.drop n)
  | _, _, 0, r => r
  | _, _, _ + 1, .nil => .nil
  | _, _, n + 1, .cons _ r => RpA.drop n r
theorem RpA.set {F : Hp} {v : V} {d : D} (h0 : Rp F v d) : ∀ {vs : List V} {ds : List D} (n : Nat), RpA F vs ds → RpA F (vs.set n v) (ds.set n d)
  | _, _, _, .nil => .nil
  | _, _, 0, .cons _ r => .cons h0 r
  | _, _, n + 1, .cons h r => .cons h (RpA.set h0 n r)
theorem RpA.rep {F : Hp} {vs : List V} {ds : List D} (h : RpA F vs ds) : ∀ n : Nat, RpA F (List.replicate n vs).flatten (List.replicate n ds).flatten
  | 0 => .nil
  | n + 1 => by
    simp only [List.replicate_succ, List.flatten_cons]
    exact h.append (RpA.rep h n)
theorem RpA.reverse {F : Hp} : ∀ {vs : List V} {ds : List D}, RpA F vs ds → RpA F vs.reverse ds.reverse
  | _, _, .nil => .nil
  | _, _, .cons h r => by
    rw [List.reverse_cons, List.reverse_cons]
    exact (RpA.reverse r).append (.cons h .nil)
theorem RpA.map {F : Hp} {α : Type} (f : α → V) (g : α → D) : ∀ (xs : List α), (∀ x ∈ xs, Rp F (f x) (g x)) → RpA F (xs.map f) (xs.map g)
  | [], _ => .nil
  | x :: xs, h => .cons (h x List.mem_cons_self) (RpA.map f g xs fun y hy => h y (List.mem_cons_of_mem _ hy))

/-! ### data without dicts are the hand layer's -/
mutual
theorem Rp.dp {K : PySem.W.Frag} {F : Hp} : ∀ {v : V} {d : D}, Rp F v d → d.hasDict = false → Dp K F v d
  | _, _, .non, _ => .non
  | _, _, .bl b, _ => .bl b
  | _, _, .int i, _ => .int i
  | _, _, .str x _, _ => .str x
  | _, _, .lst h r, e => .lst (.inl (.inl h)) (RpA.dp r (by simpa [PyData.hasDict] using e))
  | _, _, .tup h r, e => .tup (.inl (.inl h)) (RpA.dp r (by simpa [PyData.hasDict] using e))
  | _, _, .dk _ _, e => by simp [PyData.hasDict] at e
  | _, _, .fz _ _, e => by simp [PyData.hasDict] at e
  | _, _, .rg _, e => by simp [PyData.hasDict] at e
  | _, _, .dt _ _, e => by simp [PyData.hasDict] at e
theorem RpA.dp {K : PySem.W.Frag} {F : Hp} : ∀ {vs : List V} {ds : List D}, RpA F vs ds → PyData.hasDictAll ds = false → DpAll K F vs ds
  | _, _, .nil, _ => .nil
  | _, _, .cons h r, e => by
    simp only [PyData.hasDictAll, Bool.or_eq_false_iff] at e
    exact .cons (Rp.dp h e.1) (RpA.dp r e.2)
end
mutual
theorem Rp.lay {F : Hp} : ∀ {v : V} {d : D}, Rp F v d → d.hasDict = false → d.canLay0 = true
  | _, _, .non, _ => by simp [PyData.canLay0]
  | _, _, .bl b, _ => by simp [PyData.canLay0]
  | _, _, .int i, _ => by simp [PyData.canLay0]
  | _, _, .str x h, _ => by simp [PyData.canLay0, h]
  | _, _, .lst _ r, e => by
    simp only [PyData.canLay0]
    exact RpA.lay r (by simpa [PyData.hasDict] using e)
  | _, _, .tup _ r, e => by
    simp only [PyData.canLay0]
    exact RpA.lay r (by simpa [PyData.hasDict] using e)
  | _, _, .dk _ _, e => by simp [PyData.hasDict] at e
  | _, _, .fz _ _, e => by simp [PyData.hasDict] at e
  | _, _, .rg _, e => by simp [PyData.hasDict] at e
  | _, _, .dt _ _, e => by simp [PyData.hasDict] at e
theorem RpA.lay {F : Hp} : ∀ {vs : List V} {ds : List D}, RpA F vs ds → PyData.hasDictAll ds = false → PyData.canLayAll0 ds = true
  | _, _, .nil, _ => by simp [PyData.canLayAll0]
  | _, _, .cons h r, e => by
    simp only [PyData.hasDictAll, Bool.or_eq_false_iff] at e
    simp only [PyData.canLayAll0, Bool.and_eq_true]
    exact ⟨Rp.lay h e.1, RpA.lay r e.2⟩
end
/-- without dicts and not too deep -/
def flat (n : Nat) (d : D) : Bool := !d.hasDict && decide (d.depth ≤ n)
theorem Rp.shaped {F : Hp} {v : V} {d : D} (h : Rp F v d) (e : flat 60 d = true) : SeqAt.shaped d = true := by
  simp only [flat, Bool.and_eq_true, Bool.not_eq_true', decide_eq_true_eq] at e
  show (d.canLay0 && decide (d.depth ≤ 64)) = true
  rw [Bool.and_eq_true]
  exact ⟨h.lay e.1, decide_eq_true (by omega)⟩
theorem Rp.dpf {K : PySem.W.Frag} {F : Hp} {v : V} {d : D} (h : Rp F v d) (e : flat 60 d = true) : Dp K F v d := by
  simp only [flat, Bool.and_eq_true, Bool.not_eq_true'] at e
  exact h.dp e.1

/-- the frozen heap with some cells of H -/
def frz (F H : Hp) (f : List Addr) : Hp := fun a => if a ∈ f then H a else F a
/-! ### own objects: what only a slot (or a value just made) holds -/
inductive O where
  | l (ds : List D)
  /-- a dict whose keys are ints and texts; one whose keys are tuples of such -/
  | k (kvs : List (D × D))
  | t (kvs : List (D × D))
  /-- data all of whose lists are own -/
  | dp (d : D)
def O.toD : O → D
  | .l ds => .list ds
  | .k kvs => .dict kvs
  | .t kvs => .dict kvs
  | .dp d => d

/-- the tuples of a heap -/
def tups (F : Hp) : Hp := fun a => match F a with
  | some (.tup xs) => some (.tup xs)
  | _ => none
theorem tups_sub {F : Hp} : Same (tups F) F := fun a o h => by
  unfold tups at h
  split at h
  · rename_i xs e
    cases h
    exact e
  · cases h
theorem tups_of {F : Hp} {a : Addr} {xs : List V} (h : F a = some (.tup xs)) : tups F a = some (.tup xs) := by
  unfold tups
  rw [h]
theorem tups_is {F : Hp} {a : Addr} {o : HO} (h : tups F a = some o) : ∃ xs, o = .tup xs := by
  unfold tups at h
  split at h
  · rename_i xs e
    cases h
    exact ⟨xs, rfl⟩
  · cases h
theorem tups_mono {F F' : Hp} (e : Same F F') : Same (tups F) (tups F') := fun a o h => by
  obtain ⟨xs, rfl⟩ := tups_is h
  exact tups_of (e a _ (tups_sub a _ h))
inductive RO (F H : Hp) : V → O → List Addr → Prop
  | l {a : Addr} {xs : List V} {ds : List D} : H a = some (.lst xs) → RpA F xs ds → RO F H (.ref a) (.l ds) [a]
  | k {a : Addr} {kvs : List (Key × V)} {ds : List (D × D)} : H a = some (.dK kvs) → RpK F kvs ds → RO F H (.ref a) (.k ds) [a]
  | t {a : Addr} {kvs : List (List Key × V)} {ds : List (D × D)} : H a = some (.dT kvs) → RpT F kvs ds → RO F H (.ref a) (.t ds) [a]
  | dp {v : V} {d : D} {f : List Addr} : Rp (frz (tups F) H f) v d → (∀ a ∈ f, ∃ xs, H a = some (.lst xs)) → RO F H v (.dp d) f

theorem RO.mem {F H : Hp} {v : V} {o : O} {f : List Addr} (r : RO F H v o f) : ∀ a ∈ f, H a ≠ none := by
  cases r with
  | l h _ => intro a ha; simp at ha; subst ha; rw [h]; exact fun z => nomatch z
  | k h _ => intro a ha; simp at ha; subst ha; rw [h]; exact fun z => nomatch z
  | t h _ => intro a ha; simp at ha; subst ha; rw [h]; exact fun z => nomatch z
  | dp _ h => intro a ha; obtain ⟨xs, e⟩ := h a ha; rw [e]; exact fun z => nomatch z
theorem RO.no_tup {F H : Hp} {v : V} {o : O} {f : List Addr} (r : RO F H v o f) : ∀ a ∈ f, ∀ xs, H a ≠ some (.tup xs) := by
  cases r with
  | l h _ => intro a ha xs e; simp at ha; subst ha; rw [h] at e; cases e
  | k h _ => intro a ha xs e; simp at ha; subst ha; rw [h] at e; cases e
  | t h _ => intro a ha xs e; simp at ha; subst ha; rw [h] at e; cases e
  | dp _ h => intro a ha xs e; obtain ⟨ys, e'⟩ := h a ha; rw [e'] at e; cases e
/-- the cells stay, the frozen heap grows -/
theorem RO.mono {F F' H H' : Hp} {v : V} {o : O} {f : List Addr} (r : RO F H v o f) (e : Same F F') (hc : ∀ a ∈ f, H' a = H a) : RO F' H' v o f := by
  cases r with
  | l h r => exact .l (by rw [hc _ (by simp)]; exact h) (r.mono e)
  | k h r => exact .k (by rw [hc _ (by simp)]; exact h) (r.mono e)
  | t h r => exact .t (by rw [hc _ (by simp)]; exact h) (r.mono e)
  | dp r h =>
    exact .dp (r.mono fun a o q => by
      unfold frz at q ⊢
      split at q
      · rename_i m
        rw [if_pos m, hc a m]
        exact q
      · rename_i m
        rw [if_neg m]
        exact tups_mono e a o q) fun a ha => by rw [hc a ha]; exact h a ha
/-- read in the heap that is -/
theorem RO.rp {F H : Hp} {v : V} {o : O} {f : List Addr} (r : RO F H v o f) (e : Same F H) : Rp H v o.toD := by
  cases r with
  | l h r => exact .lst h (r.mono e)
  | k h r => exact .dk h (r.mono e)
  | t h r => exact .dt h (r.mono e)
  | dp r h =>
    exact r.mono fun a o q => by
      unfold frz at q
      split at q
      · exact q
      · exact e a o (tups_sub a o q)

/-! ### slots, values -/
inductive Sl where
  | un
  | sh (d : D)
  | ow (o : O)
  /-- an exception that a clause names -/
  | ex (a : Addr)
abbrev Ev := List Sl
theorem ex_ne {Γ : Ev} {i j : Nat} {a : Addr} {s : Sl} (hs : ∀ a, s ≠ Sl.ex a) (q : (Γ.set i s)[j]? = some (.ex a)) : i ≠ j ∧ Γ[j]? = some (.ex a) := by
  by_cases hj : i = j
  · subst hj
    rw [List.getElem?_set] at q
    split at q
    · split at q
      · cases q
        exact absurd rfl (hs a)
      · cases q
    · rename_i hn
      exact absurd rfl hn
  · rw [List.getElem?_set_ne hj] at q
    exact ⟨hj, q⟩
inductive Wv where
  | sh (d : D)
  | ow (o : O)
  | at (i : Nat)

structure Ext (B F F' : Hp) : Prop where
  same : Same F F'
  new : ∀ a, F' a ≠ none → F a = none → B a = none ∨ ∃ xs, F' a = some (.tup xs)
theorem Ext.refl {B F : Hp} : Ext B F F := ⟨Same.refl F, fun _ h e => absurd e h⟩
theorem Ext.trans {B F F1 F2 : Hp} (a : Ext B F F1) (b : Ext B F1 F2) : Ext B F F2 := ⟨a.same.trans b.same, fun x h e => by
  cases q : F1 x with
  | none => exact b.new x h q
  | some o => exact (a.new x (by rw [q]; exact fun z => nomatch z) e).imp id fun ⟨xs, z⟩ => ⟨xs, b.same x _ z⟩⟩

structure Rel (B F : Hp) (Γ : Ev) (σ : L2.St) (H : Hp) (fp : Nat → List Addr) : Prop where
  bx : Same B H
  fx : Same F H
  len : Γ.length = σ.length
  sh : ∀ (i : Nat) (d : D), Γ[i]? = some (Sl.sh d) → ∃ v, σ[i]? = some (some v) ∧ Rp F v d
  ow : ∀ (i : Nat) (o : O), Γ[i]? = some (Sl.ow o) → ∃ v, σ[i]? = some (some v) ∧ RO F H v o (fp i)
  nb : ∀ i a, a ∈ fp i → B a = none ∧ F a = none ∧ H a ≠ none
  dj : ∀ i j a, a ∈ fp i → a ∈ fp j → i = j
  ex : ∀ (i : Nat) (a : Addr), Γ[i]? = some (Sl.ex a) → σ[i]? = some (some (.ref a))

inductive RW (B F : Hp) (Γ : Ev) (σ : L2.St) (H : Hp) (fp : Nat → List Addr) (v : V) : Wv → Prop
  | sh {d : D} : Rp F v d → RW B F Γ σ H fp v (.sh d)
  | ow {o : O} {f : List Addr} : RO F H v o f → (∀ a ∈ f, B a = none ∧ F a = none ∧ ∀ i, a ∉ fp i) → RW B F Γ σ H fp v (.ow o)
  | at {i : Nat} : σ[i]? = some (some v) → RW B F Γ σ H fp v (.at i)

theorem frz_same {F H : Hp} {f : List Addr} (h : ∀ a ∈ f, F a = none) : Same F (frz F H f) := fun a o e => by
  unfold frz
  split
  · rename_i hm
    rw [h a hm] at e
    cases e
  · exact e
theorem frz_sub {F H : Hp} {f : List Addr} (e : Same F H) : Same (frz F H f) H := fun a o h => by
  unfold frz at h
  split at h
  · exact h
  · exact e a o h
theorem frz_ext {B F H : Hp} {f : List Addr} (h : ∀ a ∈ f, F a = none) (hb : ∀ a ∈ f, B a = none) : Ext B F (frz F H f) := ⟨frz_same h, fun a q e => by
  unfold frz at q
  split at q
  · rename_i hm
    exact .inl (hb a hm)
  · exact absurd e q⟩
theorem frz_ro {F H : Hp} {v : V} {o : O} {f : List Addr} (r : RO F H v o f) (h : ∀ a ∈ f, F a = none) : Rp (frz F H f) v o.toD := by
  have s := frz_same (H := H) h
  have at_ : ∀ a, a ∈ f → frz F H f a = H a := fun a ha => if_pos ha
  cases r with
  | l e r => exact .lst (by rw [at_ _ (by simp)]; exact e) (r.mono s)
  | k e r => exact .dk (by rw [at_ _ (by simp)]; exact e) (r.mono s)
  | t e r => exact .dt (by rw [at_ _ (by simp)]; exact e) (r.mono s)
  | dp r _ =>
    exact r.mono fun a o q => by
      unfold frz at q ⊢
      split
      · rename_i m
        rw [if_pos m] at q
        exact q
      · rename_i m
        rw [if_neg m] at q
        exact tups_sub a o q

section
variable {B F : Hp} {Γ : Ev} {σ : L2.St} {H : Hp} {fp : Nat → List Addr} {v : V} {w : Wv}

/-- a freed place of the own cells -/
def dropF (fp : Nat → List Addr) (i : Nat) : Nat → List Addr := fun j => if j = i then [] else fp j
def putF (fp : Nat → List Addr) (i : Nat) (f : List Addr) : Nat → List Addr := fun j => if j = i then f else fp j
theorem mem_dropF {i j : Nat} {a : Addr} (h : a ∈ dropF fp i j) : j ≠ i ∧ a ∈ fp j := by
  unfold dropF at h
  split at h
  · simp at h
  · rename_i q
    exact ⟨q, h⟩
theorem dropF_ne {i j : Nat} (h : j ≠ i) : dropF fp i j = fp j := if_neg h
theorem putF_same {i : Nat} {f : List Addr} : putF fp i f i = f := if_pos rfl
theorem putF_ne {i j : Nat} {f : List Addr} (h : j ≠ i) : putF fp i f j = fp j := if_neg h

/-- cells become frozen that no slot holds -/
theorem Rel.freeze (r : Rel B F Γ σ H fp) {f : List Addr} (h : ∀ a ∈ f, F a = none ∧ ∀ i, a ∉ fp i) : Rel B (frz F H f) Γ σ H fp := by
  have s := frz_same (H := H) fun a ha => (h a ha).1
  refine ⟨r.bx, frz_sub r.fx, r.len, fun i d e => ?_, fun i o e => ?_, fun i a ha => ?_, r.dj, r.ex⟩
  · obtain ⟨v, h1, h2⟩ := r.sh i d e
    exact ⟨v, h1, h2.mono s⟩
  · obtain ⟨v, h1, h2⟩ := r.ow i o e
    exact ⟨v, h1, h2.mono s fun _ _ => rfl⟩
  · obtain ⟨b, c, d⟩ := r.nb i a ha
    refine ⟨b, ?_, d⟩
    unfold frz
    split
    · rename_i hm
      exact absurd ha ((h a hm).2 i)
    · exact c
/-- slot i's own object is frozen -/
theorem Rel.freezeAt (r : Rel B F Γ σ H fp) {i : Nat} {o : O} (e : Γ[i]? = some (Sl.ow o)) :
    ∃ v, σ[i]? = some (some v) ∧ Ext B F (frz F H (fp i)) ∧ Rel B (frz F H (fp i)) (Γ.set i (.sh o.toD)) σ H (dropF fp i) ∧ Rp (frz F H (fp i)) v o.toD := by
  obtain ⟨v, h1, h2⟩ := r.ow i o e
  have nF : ∀ a ∈ fp i, F a = none := fun a ha => (r.nb i a ha).2.1
  have s := frz_same (H := H) nF
  have il : i < Γ.length := (List.getElem?_eq_some_iff.mp e).1
  refine ⟨v, h1, frz_ext nF fun a ha => (r.nb i a ha).1, ⟨r.bx, frz_sub r.fx, by rw [List.length_set]; exact r.len, fun j d q => ?_, fun j u q => ?_, fun j a ha => ?_, fun j k a ha hb => ?_, fun j a q => ?_⟩, frz_ro h2 nF⟩
  · by_cases hj : i = j
    · subst hj
      rw [List.getElem?_set_self il] at q
      cases q
      exact ⟨v, h1, frz_ro h2 nF⟩
    · rw [List.getElem?_set_ne hj] at q
      obtain ⟨u, g1, g2⟩ := r.sh j d q
      exact ⟨u, g1, g2.mono s⟩
  · by_cases hj : i = j
    · subst hj
      rw [List.getElem?_set_self il] at q
      cases q
    · rw [List.getElem?_set_ne hj] at q
      obtain ⟨u, g1, g2⟩ := r.ow j _ q
      refine ⟨u, g1, ?_⟩
      rw [dropF_ne (Ne.symm hj)]
      exact g2.mono s fun _ _ => rfl
  · obtain ⟨hj, ha⟩ := mem_dropF ha
    obtain ⟨b, c, d⟩ := r.nb j a ha
    refine ⟨b, ?_, d⟩
    unfold frz
    split
    · rename_i hm
      exact absurd (r.dj j i a ha hm) hj
    · exact c
  · exact r.dj j k a (mem_dropF ha).2 (mem_dropF hb).2
  · exact r.ex j a (ex_ne (fun _ => Sl.noConfusion) q).2

/-- a value taken for good: what is own becomes frozen -/
def shr (w : Wv) (Γ : Ev) (k : D → Ev → Prop) : Prop :=
  match w with
  | .sh d => k d Γ
  | .ow o => k o.toD Γ
  | .at i => match Γ[i]? with
    | some (.sh d) => k d Γ
    | some (.ow o) => k o.toD (Γ.set i (.sh o.toD))
    | _ => False
theorem shr_ok {k : D → Ev → Prop} (r : Rel B F Γ σ H fp) (h : RW B F Γ σ H fp v w) (q : shr w Γ k) : ∃ d Γ' F' fp', Ext B F F' ∧ Rel B F' Γ' σ H fp' ∧ Rp F' v d ∧ k d Γ' := by
  cases h with
  | sh h => exact ⟨_, Γ, F, fp, .refl, r, h, q⟩
  | @ow o f h hf =>
    have nF : ∀ a ∈ f, F a = none := fun a ha => (hf a ha).2.1
    exact ⟨_, Γ, _, fp, frz_ext nF fun a ha => (hf a ha).1, r.freeze fun a ha => ⟨(hf a ha).2.1, (hf a ha).2.2⟩, frz_ro h nF, q⟩
  | @«at» i h =>
    unfold shr at q
    simp only at q
    split at q
    · rename_i d e
      obtain ⟨u, h1, h2⟩ := r.sh i d e
      rw [h] at h1
      cases h1
      exact ⟨d, Γ, F, fp, .refl, r, h2, q⟩
    · rename_i o e
      obtain ⟨u, h1, x, r', h2⟩ := r.freezeAt e
      rw [h] at h1
      cases h1
      exact ⟨_, _, _, _, x, r', h2, q⟩
    · exact q.elim

/-- the data of a value that is looked at -/
def borO (o : O) (k : D → Prop) : Prop := match o with
  | .l ds => k (.list ds)
  | .k kvs => k (.dict kvs)
  | .t kvs => k (.dict kvs)
  | .dp _ => False
theorem borO_to {o : O} {k : D → Prop} (h : borO o k) : k o.toD := by
  cases o with
  | dp _ => exact h.elim
  | _ => exact h
def bor (w : Wv) (Γ : Ev) (k : D → Prop) : Prop :=
  match w with
  | .sh d => k d
  | .ow o => borO o k
  | .at i => match Γ[i]? with
    | some (.sh d) => k d
    | some (.ow o) => borO o k
    | _ => False
theorem bor_ok {k : D → Prop} (r : Rel B F Γ σ H fp) (h : RW B F Γ σ H fp v w) (q : bor w Γ k) : ∃ d, Rp H v d ∧ k d := by
  cases h with
  | sh h => exact ⟨_, h.mono r.fx, q⟩
  | ow h hf => exact ⟨_, h.rp r.fx, borO_to q⟩
  | @«at» i h =>
    unfold bor at q
    simp only at q
    split at q
    · rename_i d e
      obtain ⟨u, h1, h2⟩ := r.sh i d e
      rw [h] at h1
      cases h1
      exact ⟨d, h2.mono r.fx, q⟩
    · rename_i o e
      obtain ⟨u, h1, h2⟩ := r.ow i o e
      rw [h] at h1
      cases h1
      exact ⟨_, h2.rp r.fx, borO_to q⟩
    · exact q.elim
end
end PL

namespace PL
open PySem PySem.Spec PyProof.Rows L2

/-! ### looked at: the top in H, what is within in F -/
inductive Rb (F H : Hp) : V → D → Prop
  | non : Rb F H .non .none
  | bl (b : Bool) : Rb F H (.bl b) (.bool b)
  | int (i : Int) : Rb F H (.int i) (.int i)
  | str (x : Str) (h : PyData.strOk x = true) : Rb F H (.str x) (.str x)
  | lst {a : Addr} {xs : List V} {ds : List D} : H a = some (.lst xs) → RpA F xs ds → Rb F H (.ref a) (.list ds)
  | fz {a : Addr} {o : Obj} {xs : List V} {ds : List D} : H a = some (.frz o (.lst xs)) → RpA F xs ds → Rb F H (.ref a) (.dict [(.none, .list ds)])
  | rg {a : Addr} {i j : Int} : F a = some (.rng i j) → H a = some (.rng i j) → Rb F H (.ref a) (.dict [(.none, .tuple [.int i, .int j])])
  | tup {a : Addr} {xs : List V} {ds : List D} : F a = some (.tup xs) → H a = some (.tup xs) → RpA F xs ds → Rb F H (.ref a) (.tuple ds)
  | dk {a : Addr} {kvs : List (Key × V)} {ds : List (D × D)} : H a = some (.dK kvs) → RpK F kvs ds → Rb F H (.ref a) (.dict ds)
  | dt {a : Addr} {kvs : List (List Key × V)} {ds : List (D × D)} : H a = some (.dT kvs) → RpT F kvs ds → Rb F H (.ref a) (.dict ds)
theorem Rp.rb {F H : Hp} {v : V} {d : D} (h : Rp F v d) (e : Same F H) : Rb F H v d := by
  cases h with
  | non => exact .non
  | bl b => exact .bl b
  | int i => exact .int i
  | str x h => exact .str x h
  | lst h r => exact .lst (e _ _ h) r
  | fz h r => exact .fz (e _ _ h) r
  | rg h => exact .rg h (e _ _ h)
  | tup h r => exact .tup h (e _ _ h) r
  | dk h r => exact .dk (e _ _ h) r
  | dt h r => exact .dt (e _ _ h) r
theorem RO.rb {F H : Hp} {v : V} {o : O} {f : List Addr} {k : D → Prop} (r : RO F H v o f) (z : borO o k) : Rb F H v o.toD := by
  cases r with
  | dp _ _ => exact z.elim
  | l h r => exact .lst h r
  | k h r => exact .dk h r
  | t h r => exact .dt h r
theorem Rb.rp {F H : Hp} {v : V} {d : D} (h : Rb F H v d) (e : Same F H) : Rp H v d := by
  cases h with
  | non => exact .non
  | bl b => exact .bl b
  | int i => exact .int i
  | str x h => exact .str x h
  | lst h r => exact .lst h (r.mono e)
  | fz h r => exact .fz h (r.mono e)
  | rg _ h => exact .rg h
  | tup _ h r => exact .tup h (r.mono e)
  | dk h r => exact .dk h (r.mono e)
  | dt h r => exact .dt h (r.mono e)

section
variable {B F : Hp} {Γ : Ev} {σ : L2.St} {H : Hp} {fp : Nat → List Addr} {v : V} {w : Wv}
theorem bor_rb {k : D → Prop} (r : Rel B F Γ σ H fp) (h : RW B F Γ σ H fp v w) (q : bor w Γ k) : ∃ d, Rb F H v d ∧ k d := by
  cases h with
  | sh h => exact ⟨_, h.rb r.fx, q⟩
  | ow h hf => exact ⟨_, h.rb q, borO_to q⟩
  | @«at» i h =>
    unfold bor at q
    simp only at q
    split at q
    · rename_i d e
      obtain ⟨u, h1, h2⟩ := r.sh i d e
      rw [h] at h1
      cases h1
      exact ⟨d, h2.rb r.fx, q⟩
    · rename_i o e
      obtain ⟨u, h1, h2⟩ := r.ow i o e
      rw [h] at h1
      cases h1
      exact ⟨_, h2.rb q, borO_to q⟩
    · exact q.elim
/-- a new cell -/
theorem Rel.new {p : Addr} {o : HO} (r : Rel B F Γ σ H fp) (hp : H p = none) : Rel B F Γ σ (upd H p o) fp :=
  ⟨fun a u e => by
    rw [upd_ne (ne_of_none (r.bx a u e) hp)]
    exact r.bx a u e, fun a u e => by
    rw [upd_ne (ne_of_none (r.fx a u e) hp)]
    exact r.fx a u e, r.len, r.sh, fun i o e => by
    obtain ⟨v, h1, h2⟩ := r.ow i o e
    refine ⟨v, h1, h2.mono (Same.refl F) fun a ha => upd_ne fun z => h2.mem a ha ?_⟩
    rw [z]
    exact hp, fun i a ha => by
    obtain ⟨b, c, d⟩ := r.nb i a ha
    refine ⟨b, c, ?_⟩
    rw [upd_ne fun z => d (by rw [z]; exact hp)]
    exact d, r.dj, r.ex⟩
theorem free_of {p : Addr} (r : Rel B F Γ σ H fp) (hp : H p = none) : B p = none ∧ F p = none ∧ ∀ i, p ∉ fp i := by
  refine ⟨r.bx.free hp, r.fx.free hp, fun i h => (r.nb i p h).2.2 hp⟩
/-- a new cell, frozen at once -/
theorem Rel.newF {p : Addr} {o : HO} (r : Rel B F Γ σ H fp) (hp : H p = none) : Ext B F (upd F p o) ∧ Rel B (upd F p o) Γ σ (upd H p o) fp := by
  obtain ⟨b, c, d⟩ := free_of r hp
  have r' : Rel B F Γ σ (upd H p o) fp := r.new hp
  have e : frz F (upd H p o) [p] = upd F p o := by
    funext a
    unfold frz upd
    by_cases h : a = p
    · simp [h]
    · simp [h]
  have x := r'.freeze (f := [p]) fun a ha => by
    simp only [List.mem_singleton] at ha
    subst ha
    exact ⟨c, d⟩
  have y : Ext B F (frz F (upd H p o) [p]) := frz_ext (fun a ha => by
    simp only [List.mem_singleton] at ha
    subst ha
    exact c) fun a ha => by
    simp only [List.mem_singleton] at ha
    subst ha
    exact b
  rw [e] at x y
  exact ⟨y, x⟩
/-- a value is held while something else is worked out -/
theorem Rel.guard (r : Rel B F Γ σ H fp) (h : RW B F Γ σ H fp v w) :
    ∃ B', Rel B' F Γ σ H fp ∧ ∀ F2 Γ2 H2 fp2, Ext B' F F2 → Rel B' F2 Γ2 σ H2 fp2 → Ext B F F2 ∧ Rel B F2 Γ2 σ H2 fp2 ∧ RW B F2 Γ2 σ H2 fp2 v w ∧ ∀ v2 w2, RW B' F2 Γ2 σ H2 fp2 v2 w2 → RW B F2 Γ2 σ H2 fp2 v2 w2 := by
  cases h with
  | sh h => exact ⟨B, r, fun F2 Γ2 H2 fp2 x r2 => ⟨x, r2, .sh (h.mono x.same), fun _ _ q => q⟩⟩
  | «at» h => exact ⟨B, r, fun F2 Γ2 H2 fp2 x r2 => ⟨x, r2, .at h, fun _ _ q => q⟩⟩
  | @ow o f h hf =>
    have nB : ∀ a ∈ f, B a = none := fun a ha => (hf a ha).1
    have bb : Same B (frz B H f) := frz_same nB
    have bn : ∀ a, frz B H f a = none → a ∉ f ∧ B a = none := fun a e => by
      have nf : a ∉ f := fun z => by
        unfold frz at e
        rw [if_pos z] at e
        exact h.mem a z e
      refine ⟨nf, ?_⟩
      unfold frz at e
      rw [if_neg nf] at e
      exact e
    refine ⟨frz B H f, ⟨frz_sub r.bx, r.fx, r.len, r.sh, r.ow, fun i a ha => ?_, r.dj, r.ex⟩, fun F2 Γ2 H2 fp2 x r2 => ⟨⟨x.same, fun a q e => (x.new a q e).imp (fun z => (bn a z).2) id⟩, ⟨bb.trans r2.bx, r2.fx, r2.len, r2.sh, r2.ow, fun i a ha => ?_, r2.dj, r2.ex⟩, ?_, fun v2 w2 q => ?_⟩⟩
    · obtain ⟨b, c, d⟩ := r.nb i a ha
      refine ⟨?_, c, d⟩
      unfold frz
      rw [if_neg fun z => (hf a z).2.2 i ha]
      exact b
    · obtain ⟨b, c, d⟩ := r2.nb i a ha
      exact ⟨(bn a b).2, c, d⟩
    · refine .ow (f := f) (h.mono x.same fun a ha => ?_) fun a ha => ⟨nB a ha, ?_, fun i hi => ?_⟩
      · cases q : H a with
        | none => exact absurd q (h.mem a ha)
        | some u => exact r2.bx a u (by unfold frz; rw [if_pos ha]; exact q)
      · cases q : F2 a with
        | none => rfl
        | some u =>
          rcases x.new a (by rw [q]; exact fun z => nomatch z) (hf a ha).2.1 with z | ⟨xs, z⟩
          · exact absurd ha (bn a z).1
          · cases q2 : H a with
            | none => exact absurd q2 (h.mem a ha)
            | some u2 =>
              have e1 := r2.bx a u2 (by unfold frz; rw [if_pos ha]; exact q2)
              rw [r2.fx a _ z] at e1
              cases e1
              exact absurd q2 (h.no_tup a ha xs)
      · exact (bn a (r2.nb i a hi).1).1 ha
    · cases q with
      | sh q => exact .sh q
      | «at» q => exact .at q
      | ow q hq => exact .ow q fun a ha => ⟨(bn a (hq a ha).1).2, (hq a ha).2⟩
end

/-! ### transformers of pure environments -/
abbrev EXP := Value → Ev → Prop
abbrev QE := Ev → (Wv → Ev → Prop) → EXP → Prop
abbrev QT := Ev → (Bool → Ev → Prop) → EXP → Prop
abbrev QA := Ev → (List D → Ev → Prop) → EXP → Prop
structure PEnds where
  nx : Ev → Prop
  rt : Wv → Ev → Prop
  bk : Ev → Prop
  ct : Ev → Prop
  ex : EXP
abbrev QS := PEnds → Ev → Prop

def AfE (W : WX) (B F : Hp) (σ : L2.St) (EX : EXP) : Prop := ∀ c Γ' F' H' fp', Ext B F F' → Rel B F' Γ' σ H' fp' → EX c Γ' → W c none σ H'
theorem AfE.mono {W : WX} {B F F1 : Hp} {σ : L2.St} {EX : EXP} (a : AfE W B F σ EX) (x : Ext B F F1) : AfE W B F1 σ EX := fun c Γ' F' H' fp' y r q => a c Γ' F' H' fp' (x.trans y) r q
def SE (W : WX) (te : TE) (p : QE) : Prop := ∀ {B F : Hp} {Γ : Ev} {σ : L2.St} {H : Hp} {fp : Nat → List Addr} (R : Wv → Ev → Prop) (EX : EXP) (Q : VK), Rel B F Γ σ H fp → p Γ R EX →
  (∀ w Γ' v F' H' fp', Ext B F F' → Rel B F' Γ' σ H' fp' → RW B F' Γ' σ H' fp' v w → R w Γ' → Q v H') → AfE W B F σ EX → te σ H Q
def ST (W : WX) (tt : TT) (p : QT) : Prop := ∀ {B F : Hp} {Γ : Ev} {σ : L2.St} {H : Hp} {fp : Nat → List Addr} (R : Bool → Ev → Prop) (EX : EXP) (Q : Bool → Hp → Prop), Rel B F Γ σ H fp → p Γ R EX →
  (∀ b Γ' F' H' fp', Ext B F F' → Rel B F' Γ' σ H' fp' → R b Γ' → Q b H') → AfE W B F σ EX → tt σ H Q
def SA (W : WX) (ta : TA) (p : QA) : Prop := ∀ {B F : Hp} {Γ : Ev} {σ : L2.St} {H : Hp} {fp : Nat → List Addr} (R : List D → Ev → Prop) (EX : EXP) (Q : List V → Hp → Prop), Rel B F Γ σ H fp → p Γ R EX →
  (∀ ds Γ' vs F' H' fp', Ext B F F' → Rel B F' Γ' σ H' fp' → RpA F' vs ds → R ds Γ' → Q vs H') → AfE W B F σ EX → ta σ H Q
structure AfS (W : WX) (B F : Hp) (P : PEnds) (D : Ends) : Prop where
  nx : ∀ Γ' F' σ' H' fp', Ext B F F' → Rel B F' Γ' σ' H' fp' → P.nx Γ' → D.nx σ' H'
  rt : ∀ w Γ' v F' σ' H' fp', Ext B F F' → Rel B F' Γ' σ' H' fp' → RW B F' Γ' σ' H' fp' v w → P.rt w Γ' → D.rt v H'
  bk : ∀ Γ' F' σ' H' fp', Ext B F F' → Rel B F' Γ' σ' H' fp' → P.bk Γ' → D.bk σ' H'
  ct : ∀ Γ' F' σ' H' fp', Ext B F F' → Rel B F' Γ' σ' H' fp' → P.ct Γ' → D.ct σ' H'
  ex : ∀ c Γ' F' σ' H' fp', Ext B F F' → Rel B F' Γ' σ' H' fp' → P.ex c Γ' → W c none σ' H'
theorem AfS.mono {W : WX} {B F F1 : Hp} {P : PEnds} {D : Ends} (a : AfS W B F P D) (x : Ext B F F1) : AfS W B F1 P D :=
  ⟨fun Γ' F' σ' H' fp' y => a.nx Γ' F' σ' H' fp' (x.trans y), fun w Γ' v F' σ' H' fp' y => a.rt w Γ' v F' σ' H' fp' (x.trans y), fun Γ' F' σ' H' fp' y => a.bk Γ' F' σ' H' fp' (x.trans y), fun Γ' F' σ' H' fp' y => a.ct Γ' F' σ' H' fp' (x.trans y), fun c Γ' F' σ' H' fp' y => a.ex c Γ' F' σ' H' fp' (x.trans y)⟩
theorem AfS.afe {W : WX} {B F : Hp} {P : PEnds} {D : Ends} {σ : L2.St} (a : AfS W B F P D) : AfE W B F σ P.ex := fun c Γ' F' H' fp' x r q => a.ex c Γ' F' σ H' fp' x r q
def SS (W : WX) (ts : TS) (p : QS) : Prop := ∀ {B F : Hp} {Γ : Ev} {σ : L2.St} {H : Hp} {fp : Nat → List Addr} (P : PEnds) (D : Ends), Rel B F Γ σ H fp → p P Γ → AfS W B F P D → ts D σ H

structure DE (X : Cx) (W : WX) (e : Expr) (te : TE) (p : QE) : Prop where
  pe : PE X e te
  se : SE W te p
structure DT (X : Cx) (W : WX) (e : Expr) (tt : TT) (p : QT) : Prop where
  pt : PT X e tt
  st : ST W tt p
structure DA (X : Cx) (W : WX) (es : List Expr) (ta : TA) (p : QA) : Prop where
  pa : PA X es ta
  sa : SA W ta p
structure DS (X : Cx) (W : WX) (s : Stmt) (ts : TS) (p : QS) : Prop where
  ps : PS X s ts
  ss : SS W ts p
structure DSs (X : Cx) (W : WX) (s : List Stmt) (ts : TS) (p : QS) : Prop where
  ps : PSs X s ts
  ss : SS W ts p

section
variable {X : Cx} {W : WX} {pos : Pos} {a b c : Expr} {ta tb tc : TE} {pa pb pc : QE}

/-! ### names, constants -/
def qVar (i : Nat) : QE := fun Γ R _ => match Γ[i]? with
  | some (.sh d) => R (.sh d) Γ
  | some (.ow _) => R (.at i) Γ
  | _ => False
theorem se_var {i : Nat} : SE W (tVar i) (qVar i) := fun {B F Γ σ H fp} R EX Q r h k _ => by
  unfold qVar at h
  split at h
  · rename_i d e
    obtain ⟨v, h1, h2⟩ := r.sh i d e
    exact ⟨v, h1, k _ _ _ _ _ _ .refl r (.sh h2) h⟩
  · rename_i o e
    obtain ⟨v, h1, h2⟩ := r.ow i o e
    exact ⟨v, h1, k _ _ _ _ _ _ .refl r (.at h1) h⟩
  · exact h.elim
theorem d_var (i : Nat) {x : Str} (hN : X.N[i]? = some x := by rfl) (hv : Vis X.env.scope x := by first | exact Or.inl rfl | exact Or.inr (Or.inl rfl) | exact Or.inr (Or.inr rfl)) (hd : (x == ("__debug__" : Str)) = false := by decide)
    (hcd : (x == ("__classdict__" : Str)) = false := by decide) : DE X W (.Name x pos) (tVar i) (qVar i) := ⟨pe_var hN hv hd hcd, se_var⟩
def qC (d : D) : QE := fun Γ R _ => R (.sh d) Γ
theorem se_c {v : V} {d : D} (h : ∀ F, Rp F v d) : SE W (tC v) (qC d) := fun {B F Γ σ H fp} R EX Q r q k _ => k _ _ _ _ _ _ .refl r (.sh (h F)) q
theorem d_int {i j} : DE X W (.Constant (.int i) j pos) (tC (.int i)) (qC (.int i)) := ⟨pe_int, se_c fun _ => .int i⟩
theorem d_bl {i j} : DE X W (.Constant (.bool i) j pos) (tC (.bl i)) (qC (.bool i)) := ⟨pe_bl, se_c fun _ => .bl i⟩
theorem d_non {j} : DE X W (.Constant .none j pos) (tC .non) (qC .none) := ⟨pe_non, se_c fun _ => .non⟩
theorem d_str {x j} (h : PyData.strOk x = true := by decide +kernel) : DE X W (.Constant (.str x) j pos) (tC (.str x)) (qC (.str x)) := ⟨pe_str, se_c fun _ => .str x h⟩
/-- a constant of the module: a text, an int -/
theorem d_gs {x y : Str} {t : Tok} (hm : X.mg x = some (.str y t)) (h : PyData.strOk y = true) (hg : Gl X x := by rfl) (hd : (x == ("__debug__" : Str)) = false := by decide) : DE X W (.Name x pos) (tC (.str y)) (qC (.str y)) := ⟨pe_glob hg hm ⟨_, rfl⟩ hd, se_c fun _ => .str y h⟩
theorem d_gi {x : Str} {i : Int} {t : Tok} (hm : X.mg x = some (.int i t)) (hg : Gl X x := by rfl) (hd : (x == ("__debug__" : Str)) = false := by decide) : DE X W (.Name x pos) (tC (.int i)) (qC (.int i)) := ⟨pe_glob hg hm ⟨_, rfl⟩ hd, se_c fun _ => .int i⟩

/-! ### operations on two values that are looked at -/
abbrev OP2 := D → D → (Wv → Prop) → Prop
def OpS (r : R2) (o : OP2) : Prop := ∀ {B F : Hp} {Γ : Ev} {σ : L2.St} {H : Hp} {fp : Nat → List Addr} {x y : V} {d1 d2 : D} (k : Wv → Prop) (Q : VK), Rel B F Γ σ H fp → Rb F H x d1 → Rb F H y d2 → o d1 d2 k →
  (∀ w v F' H', Ext B F F' → Rel B F' Γ σ H' fp → RW B F' Γ σ H' fp v w → k w → Q v H') → r x y H Q
def qOp (o : OP2) (pa pb : QE) : QE := fun Γ R E => pa Γ (fun w1 Γ1 => pb Γ1 (fun w2 Γ2 => bor w1 Γ2 fun d1 => bor w2 Γ2 fun d2 => o d1 d2 fun w => R w Γ2) E) E
theorem se_two (ha : SE W ta pa) (hb : SE W tb pb) {Z : Wv → Wv → Ev → Prop} {EX : EXP} {B F : Hp} {Γ : Ev} {σ : L2.St} {H : Hp} {fp : Nat → List Addr} (r : Rel B F Γ σ H fp)
    (h : pa Γ (fun w1 Γ1 => pb Γ1 (fun w2 Γ2 => Z w1 w2 Γ2) EX) EX) {T : V → V → Hp → Prop}
    (k : ∀ w1 w2 Γ' x y F' H' fp', Ext B F F' → Rel B F' Γ' σ H' fp' → RW B F' Γ' σ H' fp' x w1 → RW B F' Γ' σ H' fp' y w2 → Z w1 w2 Γ' → T x y H') (e : AfE W B F σ EX) : ta σ H fun x H1 => tb σ H1 fun y H2 => T x y H2 := by
  refine ha _ EX _ r h (fun w1 Γ1 x F1 H1 fp1 x1 r1 v1 h1 => ?_) e
  obtain ⟨B', r1', g⟩ := r1.guard v1
  refine hb _ EX _ r1' h1 (fun w2 Γ2 y F2 H2 fp2 x2 r2 v2 h2 => ?_) fun c Γ' F' H' fp' x2 r2 q => ?_
  · obtain ⟨x3, r3, v3, g2⟩ := g F2 Γ2 H2 fp2 x2 r2
    exact k w1 w2 Γ2 x y F2 H2 fp2 (x1.trans x3) r3 v3 (g2 _ _ v2) h2
  · obtain ⟨x3, r3, _, _⟩ := g F' Γ' H' fp' x2 r2
    exact e c Γ' F' H' fp' (x1.trans x3) r3 q
theorem se_op {r : R2} {o : OP2} (hs : OpS r o) (ha : SE W ta pa) (hb : SE W tb pb) : SE W (tOp r ta tb) (qOp o pa pb) := fun {B F Γ σ H fp} R EX Q rr h k e => by
  refine se_two ha hb rr h (Z := fun w1 w2 Γ2 => bor w1 Γ2 fun d1 => bor w2 Γ2 fun d2 => o d1 d2 fun w => R w Γ2) (fun w1 w2 Γ' x y F' H' fp' x1 r1 v1 v2 z => ?_) e
  obtain ⟨d1, b1, z⟩ := bor_rb r1 v1 z
  obtain ⟨d2, b2, z⟩ := bor_rb r1 v2 z
  exact hs _ Q r1 b1 b2 z fun w v F2 H2 x2 r2 q2 kk => k w Γ' v F2 H2 fp' (x1.trans x2) r2 q2 kk
theorem d_op {op : Operator} {r : R2} {o : OP2} (ho : OpR X (binaryOp op) r) (hs : OpS r o) (ha : DE X W a ta pa) (hb : DE X W b tb pb) : DE X W (.BinOp a op b pos) (tOp r ta tb) (qOp o pa pb) := ⟨pe_op ho ha.pe hb.pe, se_op hs ha.se hb.se⟩
theorem d_cmp {op : CmpOp} {r : R2} {o : OP2} (ho : OpR X (compareOp op) r) (hs : OpS r o) (ha : DE X W a ta pa) (hb : DE X W b tb pb) (hm : behindInMarks op b = false := by first | exact nomark _ | with_unfolding_all rfl) :
    DE X W (.Compare a [op] [b] pos) (tOp r ta tb) (qOp o pa pb) := ⟨pe_cmpR ho ha.pe hb.pe hm, se_op hs ha.se hb.se⟩
theorem d_ix {r : R2} {o : OP2} (ho : IxR X r) (hs : OpS r o) (ha : DE X W a ta pa) (hb : DE X W b tb pb) (hx : PlainIx b := by exact fun _ _ => rfl) : DE X W (.Subscript a b pos) (tOp r ta tb) (qOp o pa pb) := ⟨pe_ix ho ha.pe hb.pe hx, se_op hs ha.se hb.se⟩
abbrev OP1 := D → (Wv → Prop) → Prop
def UnS (r : V → Hp → VK → Prop) (o : OP1) : Prop := ∀ {B F : Hp} {Γ : Ev} {σ : L2.St} {H : Hp} {fp : Nat → List Addr} {x : V} {d : D} (k : Wv → Prop) (Q : VK), Rel B F Γ σ H fp → Rb F H x d → o d k →
  (∀ w v F' H', Ext B F F' → Rel B F' Γ σ H' fp → RW B F' Γ σ H' fp v w → k w → Q v H') → r x H Q
def qUn (o : OP1) (pa : QE) : QE := fun Γ R E => pa Γ (fun w1 Γ1 => bor w1 Γ1 fun d => o d fun w => R w Γ1) E
theorem se_un {r : V → Hp → VK → Prop} {o : OP1} (hs : UnS r o) (ha : SE W ta pa) : SE W (tUn r ta) (qUn o pa) := fun {B F Γ σ H fp} R EX Q rr h k e => by
  refine ha _ EX _ rr h (fun w1 Γ1 x F1 H1 fp1 x1 r1 v1 h1 => ?_) e
  obtain ⟨d, b, z⟩ := bor_rb r1 v1 h1
  exact hs _ Q r1 b z fun w v F2 H2 x2 r2 q2 kk => k w Γ1 v F2 H2 fp1 (x1.trans x2) r2 q2 kk
theorem d_un {op : UnaryOp} {r : V → Hp → VK → Prop} {o : OP1} (ho : UnR X (unaryOp op) r) (hs : UnS r o) (ha : DE X W a ta pa) : DE X W (.UnaryOp op a pos) (tUn r ta) (qUn o pa) := ⟨pe_un ho ha.pe, se_un hs ha.se⟩

/-! ### tests -/
/-- a value that is a bool, as a test -/
def qB (p : QE) : QT := fun Γ R E => p Γ (fun w Γ1 => match w with
  | .sh (.bool b) => R b Γ1
  | _ => False) E
theorem st_tt (ha : SE W ta pa) : ST W (tTest ta) (qB pa) := fun {B F Γ σ H fp} R EX Q r h k e => by
  refine ha _ EX _ r h (fun w Γ1 v F1 H1 fp1 x1 r1 v1 h1 => ?_) e
  split at h1
  · rename_i b
    cases v1 with
    | sh q =>
      cases q
      exact ⟨b, rfl, k b Γ1 F1 H1 fp1 x1 r1 h1⟩
  · exact h1.elim
theorem d_tcmp {op : CmpOp} {r : R2} {o : OP2} (ho : OpR X (compareOp op) r) (hs : OpS r o) (ha : DE X W a ta pa) (hb : DE X W b tb pb) (hm : behindInMarks op b = false := by first | exact nomark _ | with_unfolding_all rfl) :
    DT X W (.Compare a [op] [b] pos) (tTest (tOp r ta tb)) (qB (qOp o pa pb)) := ⟨pt_cmpR ho ha.pe hb.pe hm, st_tt (se_op hs ha.se hb.se)⟩
/-- the truth of any value -/
def truD : D → Option Bool
  | .none => some false
  | .bool b => some b
  | .int i => some (i != 0)
  | .str x => some ((x.length : Int) != 0)
  | .list xs => some (!xs.isEmpty)
  | .tuple xs => some (!xs.isEmpty)
  | .dict _ => Option.none
def truOk : D → Prop
  | .str x => x.length ≤ sizeLine
  | _ => True
def qTru (p : QE) : QT := fun Γ R E => p Γ (fun w Γ1 => bor w Γ1 fun d => truOk d ∧ match truD d with
  | some b => R b Γ1
  | none => False) E
theorem tru_rb {K : PySem.W.Frag} {F H : Hp} {v : V} {d : D} {b : Bool} (h : Rb F H v d) (e : truD d = some b) (hs : truOk d) : TruV K v H b := by
  cases h with
  | non => exact (Option.some.inj e).symm
  | bl b => exact (Option.some.inj e).symm
  | int i => exact (Option.some.inj e).symm
  | str x _ => exact ⟨hs, (Option.some.inj e).symm⟩
  | lst h r =>
    refine .inl ⟨_, .inl (.inl h), ?_⟩
    rw [← Option.some.inj e]
    cases r <;> rfl
  | tup _ h r =>
    refine .inr (.inl ⟨_, .inl (.inl h), ?_⟩)
    rw [← Option.some.inj e]
    cases r <;> rfl
  | dk h r => cases e
  | dt h r => cases e
  | fz h r => cases e
  | rg _ h => cases e
theorem st_tru {K : PySem.W.Frag} (ha : SE W ta pa) : ST W (fun σ H Q => ta σ H fun x H' => ∃ k, TruV K x H' k ∧ Q k H') (qTru pa) := fun {B F Γ σ H fp} R EX Q r h k e => by
  refine ha _ EX _ r h (fun w Γ1 v F1 H1 fp1 x1 r1 v1 h1 => ?_) e
  obtain ⟨d, b, hs, h2⟩ := bor_rb r1 v1 h1
  split at h2
  · rename_i c hc
    exact ⟨c, tru_rb b hc hs, k c Γ1 F1 H1 fp1 x1 r1 h2⟩
  · exact h2.elim
theorem d_tru (ha : DE X W a ta pa) (he : ∀ whole, isTrue a X.env whole = (do let v ← whole; standAt a.pos; holding [v] (truthy v)) := by intro _; rfl) :
    DT X W a (fun σ H Q => ta σ H fun x H' => ∃ k, TruV X.K x H' k ∧ Q k H') (qTru pa) := ⟨pt_truth ha.pe he, st_tru ha.se⟩
/-- a call or name that gives a bool -/
theorem d_tb (ha : DE X W a ta pa) (he : ∀ whole, isTrue a X.env whole = (do let v ← whole; standAt a.pos; holding [v] (truthy v)) := by intro _; rfl) : DT X W a (tB ta) (qB pa) := ⟨pt_val ha.pe he, st_tt ha.se⟩

variable {tA tB' : TT} {qa qb : QT} {rest : List Expr}
structure DW (X : Cx) (W : WX) (e : Expr) (tt : TT) (p : QT) : Prop where
  pw : PW X e tt
  st : ST W tt p
def qAnd (p q : QT) : QT := fun Γ R E => p Γ (fun c Γ1 => Cif c (q Γ1 R E) (R false Γ1)) E
def qOr (p q : QT) : QT := fun Γ R E => p Γ (fun c Γ1 => Cif c (R true Γ1) (q Γ1 R E)) E
def qNot (p : QT) : QT := fun Γ R E => p Γ (fun c Γ1 => R (!c) Γ1) E
theorem st_and (ha : ST W tA qa) (hb : ST W tB' qb) : ST W (tAnd tA tB') (qAnd qa qb) := fun {B F Γ σ H fp} R EX Q r h k e => by
  refine ha _ EX _ r h (fun c Γ1 F1 H1 fp1 x1 r1 h1 => ?_) e
  cases c with
  | true => exact hb _ EX _ r1 (h1.t rfl) (fun c Γ2 F2 H2 fp2 x2 r2 h2 => k c Γ2 F2 H2 fp2 (x1.trans x2) r2 h2) (e.mono x1)
  | false => exact k false Γ1 F1 H1 fp1 x1 r1 (h1.f rfl)
theorem st_or (ha : ST W tA qa) (hb : ST W tB' qb) : ST W (tOr tA tB') (qOr qa qb) := fun {B F Γ σ H fp} R EX Q r h k e => by
  refine ha _ EX _ r h (fun c Γ1 F1 H1 fp1 x1 r1 h1 => ?_) e
  cases c with
  | false => exact hb _ EX _ r1 (h1.f rfl) (fun c Γ2 F2 H2 fp2 x2 r2 h2 => k c Γ2 F2 H2 fp2 (x1.trans x2) r2 h2) (e.mono x1)
  | true => exact k true Γ1 F1 H1 fp1 x1 r1 (h1.t rfl)
theorem dw_and1 (ha : DT X W a tA qa) : DW X W (.BoolOp .And [a] pos) tA qa := ⟨pw_and1 ha.pt, ha.st⟩
theorem dw_or1 (ha : DT X W a tA qa) : DW X W (.BoolOp .Or [a] pos) tA qa := ⟨pw_or1 ha.pt, ha.st⟩
theorem dw_and (ha : DT X W a tA qa) (hb : DW X W (.BoolOp .And (b :: rest) pos) tB' qb) : DW X W (.BoolOp .And (a :: b :: rest) pos) (tAnd tA tB') (qAnd qa qb) := ⟨pw_and ha.pt hb.pw, st_and ha.st hb.st⟩
theorem dw_or (ha : DT X W a tA qa) (hb : DW X W (.BoolOp .Or (b :: rest) pos) tB' qb) : DW X W (.BoolOp .Or (a :: b :: rest) pos) (tOr tA tB') (qOr qa qb) := ⟨pw_or ha.pt hb.pw, st_or ha.st hb.st⟩
theorem DW.dt {e : Expr} (h : DW X W e tA qa) : DT X W e tA qa := ⟨h.pw.pt, h.st⟩
theorem dt_not (ha : DT X W a tA qa) : DT X W (.UnaryOp .Not a pos) (tNot tA) (qNot qa) := ⟨pt_not ha.pt, fun {B F Γ σ H fp} R EX Q r h k e => ha.st _ EX _ r h (fun c Γ1 F1 H1 fp1 x1 r1 h1 => k (!c) Γ1 F1 H1 fp1 x1 r1 h1) e⟩
/-- .. as values (bools) -/
def qAndV (p q : QE) : QE := fun Γ R E => p Γ (fun w Γ1 => match w with
  | .sh (.bool c) => Cif c (q Γ1 R E) (R (.sh (.bool false)) Γ1)
  | _ => False) E
def qOrV (p q : QE) : QE := fun Γ R E => p Γ (fun w Γ1 => match w with
  | .sh (.bool c) => Cif c (R (.sh (.bool true)) Γ1) (q Γ1 R E)
  | _ => False) E
def qNotV (p : QE) : QE := fun Γ R E => p Γ (fun w Γ1 => match w with
  | .sh (.bool c) => R (.sh (.bool (!c))) Γ1
  | _ => False) E
theorem d_one {op} (ha : DE X W a ta pa) : DE X W (.BoolOp op [a] pos) ta pa := ⟨pe_one ha.pe, ha.se⟩
theorem d_and (ha : DE X W a ta pa) (hb : DE X W (.BoolOp .And (b :: rest) pos) tb pb) : DE X W (.BoolOp .And (a :: b :: rest) pos) (tAndV ta tb) (qAndV pa pb) := ⟨pe_and ha.pe hb.pe, fun {B F Γ σ H fp} R EX Q r h k e => by
  refine ha.se _ EX _ r h (fun w Γ1 v F1 H1 fp1 x1 r1 v1 h1 => ?_) e
  split at h1
  · rename_i c
    cases v1 with
    | sh q =>
      cases q
      refine ⟨c, rfl, ?_⟩
      cases c with
      | true => exact hb.se _ EX _ r1 (h1.t rfl) (fun w Γ2 v F2 H2 fp2 x2 r2 v2 h2 => k w Γ2 v F2 H2 fp2 (x1.trans x2) r2 v2 h2) (e.mono x1)
      | false => exact k _ Γ1 _ F1 H1 fp1 x1 r1 (.sh (.bl false)) (h1.f rfl)
  · exact h1.elim⟩
theorem d_or (ha : DE X W a ta pa) (hb : DE X W (.BoolOp .Or (b :: rest) pos) tb pb) : DE X W (.BoolOp .Or (a :: b :: rest) pos) (tOrV ta tb) (qOrV pa pb) := ⟨pe_or ha.pe hb.pe, fun {B F Γ σ H fp} R EX Q r h k e => by
  refine ha.se _ EX _ r h (fun w Γ1 v F1 H1 fp1 x1 r1 v1 h1 => ?_) e
  split at h1
  · rename_i c
    cases v1 with
    | sh q =>
      cases q
      refine ⟨c, rfl, ?_⟩
      cases c with
      | false => exact hb.se _ EX _ r1 (h1.f rfl) (fun w Γ2 v F2 H2 fp2 x2 r2 v2 h2 => k w Γ2 v F2 H2 fp2 (x1.trans x2) r2 v2 h2) (e.mono x1)
      | true => exact k _ Γ1 _ F1 H1 fp1 x1 r1 (.sh (.bl true)) (h1.t rfl)
  · exact h1.elim⟩
theorem d_not (ha : DE X W a ta pa) : DE X W (.UnaryOp .Not a pos) (tNotV ta) (qNotV pa) := ⟨pe_not ha.pe, fun {B F Γ σ H fp} R EX Q r h k e => by
  refine ha.se _ EX _ r h (fun w Γ1 v F1 H1 fp1 x1 r1 v1 h1 => ?_) e
  split at h1
  · rename_i c
    cases v1 with
    | sh q =>
      cases q
      exact ⟨c, rfl, k _ Γ1 _ F1 H1 fp1 x1 r1 (.sh (.bl (!c))) h1⟩
  · exact h1.elim⟩
def qIf (t : QT) (p q : QE) : QE := fun Γ R E => t Γ (fun c Γ1 => Cif c (p Γ1 R E) (q Γ1 R E)) E
theorem d_if {cc : Expr} (hc : DT X W cc tA qa) (ha : DE X W a ta pa) (hb : DE X W b tb pb) : DE X W (.IfExp cc a b pos) (tIf tA ta tb) (qIf qa pa pb) := ⟨pe_ifExp hc.pt ha.pe hb.pe, fun {B F Γ σ H fp} R EX Q r h k e => by
  refine hc.st _ EX _ r h (fun c Γ1 F1 H1 fp1 x1 r1 h1 => ?_) e
  cases c with
  | true => exact ha.se _ EX _ r1 (h1.t rfl) (fun w Γ2 v F2 H2 fp2 x2 r2 v2 h2 => k w Γ2 v F2 H2 fp2 (x1.trans x2) r2 v2 h2) (e.mono x1)
  | false => exact hb.se _ EX _ r1 (h1.f rfl) (fun w Γ2 v F2 H2 fp2 x2 r2 v2 h2 => k w Γ2 v F2 H2 fp2 (x1.trans x2) r2 v2 h2) (e.mono x1)⟩
/-- a op1 b op2 c, all looked at -/
def qChain (o o' : OP2) (pa pb pc : QE) : QE := fun Γ R E => pa Γ (fun w1 Γ1 => pb Γ1 (fun w2 Γ2 => bor w1 Γ2 fun d1 => bor w2 Γ2 fun d2 => o d1 d2 fun w => match w with
  | .sh (.bool k) => Cif k (pc Γ2 (fun w3 Γ3 => bor w2 Γ3 fun d2' => bor w3 Γ3 fun d3 => o' d2' d3 fun w => R w Γ3) E) (R (.sh (.bool false)) Γ2)
  | _ => False) E) E
theorem se_chain {r r' : R2} {o o' : OP2} (hs : OpS r o) (hs' : OpS r' o') (ha : SE W ta pa) (hb : SE W tb pb) (hc : SE W tc pc) : SE W (tChain r r' ta tb tc) (qChain o o' pa pb pc) := fun {B F Γ σ H fp} R EX Q rr h k e => by
  refine se_two ha hb rr h (Z := fun w1 w2 Γ2 => bor w1 Γ2 fun d1 => bor w2 Γ2 fun d2 => o d1 d2 fun w => match w with
    | .sh (.bool k) => Cif k (pc Γ2 (fun w3 Γ3 => bor w2 Γ3 fun d2' => bor w3 Γ3 fun d3 => o' d2' d3 fun w => R w Γ3) EX) (R (.sh (.bool false)) Γ2)
    | _ => False) (fun w1 w2 Γ' x y F' H' fp' x1 r1 v1 v2 z => ?_) e
  obtain ⟨B', r1', g⟩ := r1.guard v2
  obtain ⟨d1, b1, z⟩ := bor_rb r1 v1 z
  obtain ⟨d2, b2, z⟩ := bor_rb r1 v2 z
  refine hs _ _ r1' b1 b2 z fun w v F2 H2 x2 r2 q2 kk => ?_
  split at kk
  · rename_i c
    cases q2 with
    | sh q =>
      cases q
      refine ⟨c, rfl, ?_⟩
      obtain ⟨x3, r3, v3, _⟩ := g F2 Γ' H2 fp' x2 r2
      cases c with
      | true =>
        obtain ⟨B'', r3', g'⟩ := r3.guard v3
        refine hc _ EX _ r3' (kk.t rfl) (fun w3 Γ3 y3 F4 H4 fp4 x4 r4 v4 h4 => ?_) fun c Γ' F' H' fp' x2 r2 q => ?_
        · obtain ⟨x5, r5, v5, g5⟩ := g' F4 Γ3 H4 fp4 x4 r4
          obtain ⟨e1, c1, z1⟩ := bor_rb r5 v5 h4
          obtain ⟨e2, c2, z2⟩ := bor_rb r5 (g5 _ _ v4) z1
          exact hs' _ Q r5 c1 c2 z2 fun w v F6 H6 x6 r6 q6 kk => k w Γ3 v F6 H6 fp4 (((x1.trans x3).trans x5).trans x6) r6 q6 kk
        · obtain ⟨x5, r5, _, _⟩ := g' F' Γ' H' fp' x2 r2
          exact e c Γ' F' H' fp' ((x1.trans x3).trans x5) r5 q
      | false => exact k _ Γ' _ F2 H2 fp' (x1.trans x3) r3 (.sh (.bl false)) (kk.f rfl)
  · exact kk.elim
theorem d_chain {op op' : CmpOp} {r r' : R2} {o o' : OP2} (ho : OpR X (compareOp op) r) (ho' : OpR X (compareOp op') r') (hs : OpS r o) (hs' : OpS r' o') (ha : DE X W a ta pa) (hb : DE X W b tb pb) (hc : DE X W c tc pc)
    (hm : lastMarks [op, op'] [b, c] = false := by with_unfolding_all rfl) : DE X W (.Compare a [op, op'] [b, c] pos) (tChain r r' ta tb tc) (qChain o o' pa pb pc) := ⟨pe_chain ho ho' ha.pe hb.pe hc.pe hm, se_chain hs hs' ha.se hb.se hc.se⟩
theorem d_tchain {op op' : CmpOp} {r r' : R2} {o o' : OP2} (ho : OpR X (compareOp op) r) (ho' : OpR X (compareOp op') r') (hs : OpS r o) (hs' : OpS r' o') (ha : DE X W a ta pa) (hb : DE X W b tb pb) (hc : DE X W c tc pc)
    (hm : lastMarks [op, op'] [b, c] = false := by with_unfolding_all rfl) : DT X W (.Compare a [op, op'] [b, c] pos) (tTest (tChain r r' ta tb tc)) (qB (qChain o o' pa pb pc)) := ⟨pt_chain ho ho' ha.pe hb.pe hc.pe hm, st_tt (se_chain hs hs' ha.se hb.se hc.se)⟩

/-! ### argument lists, taken for good; displays -/
variable {es : List Expr} {tr : TA} {pr : QA} {e : Expr}
def qNil : QA := fun Γ R _ => R [] Γ
def qCons (p : QE) (q : QA) : QA := fun Γ R E => p Γ (fun w Γ1 => shr w Γ1 fun d Γ2 => q Γ2 (fun ds Γ3 => R (d :: ds) Γ3) E) E
theorem da_nil : DA X W [] tNil qNil := ⟨pa_nil, fun {B F Γ σ H fp} R EX Q r h k _ => k [] Γ [] F H fp .refl r .nil h⟩
theorem sa_cons (ha : SE W ta pa) (hr : SA W tr pr) : SA W (tCons ta tr) (qCons pa pr) := fun {B F Γ σ H fp} R EX Q r h k e => by
  refine ha _ EX _ r h (fun w Γ1 v F1 H1 fp1 x1 r1 v1 h1 => ?_) e
  obtain ⟨d, Γ2, F2, fp2, x2, r2, b2, h2⟩ := shr_ok r1 v1 h1
  refine hr _ EX _ r2 h2 (fun ds Γ3 vs F3 H3 fp3 x3 r3 b3 h3 => ?_) (e.mono (x1.trans x2))
  exact k _ Γ3 _ F3 H3 fp3 ((x1.trans x2).trans x3) r3 (.cons (b2.mono x3.same) b3) h3
theorem da_cons (ha : DE X W e ta pa) (hr : DA X W es tr pr) (hs : starEach (e :: es) X.env = (false, eval e X.env) :: starEach es X.env := by rfl) : DA X W (e :: es) (tCons ta tr) (qCons pa pr) := ⟨pa_cons ha.pe hr.pa hs, sa_cons ha.se hr.sa⟩
def qTup (p : QA) : QE := fun Γ R E => p Γ (fun ds Γ1 => ds.length ≤ sizeLine ∧ R (.sh (.tuple ds)) Γ1) E
def qLst (p : QA) : QE := fun Γ R E => p Γ (fun ds Γ1 => ds.length ≤ sizeLine ∧ R (.ow (.l ds)) Γ1) E
theorem new_tup {B F : Hp} {Γ : Ev} {σ : L2.St} {H : Hp} {fp : Nat → List Addr} {p : Addr} {vs : List V} {ds : List D} (r : Rel B F Γ σ H fp) (h : RpA F vs ds) (hp : H p = none) :
    Ext B F (upd F p (.tup vs)) ∧ Rel B (upd F p (.tup vs)) Γ σ (upd H p (.tup vs)) fp ∧ RW B (upd F p (.tup vs)) Γ σ (upd H p (.tup vs)) fp (.ref p) (.sh (.tuple ds)) := by
  obtain ⟨x, r'⟩ := r.newF (o := .tup vs) hp
  exact ⟨x, r', .sh (.tup upd_same (h.mono x.same))⟩
theorem new_lst {B F : Hp} {Γ : Ev} {σ : L2.St} {H : Hp} {fp : Nat → List Addr} {p : Addr} {vs : List V} {ds : List D} (r : Rel B F Γ σ H fp) (h : RpA F vs ds) (hp : H p = none) :
    Rel B F Γ σ (upd H p (.lst vs)) fp ∧ RW B F Γ σ (upd H p (.lst vs)) fp (.ref p) (.ow (.l ds)) := by
  refine ⟨r.new hp, .ow (.l upd_same h) fun a ha => ?_⟩
  simp only [List.mem_singleton] at ha
  subst ha
  exact free_of r hp
theorem d_tup {x1} (h : DA X W es tr pr) : DE X W (.Tuple es x1 pos) (tTup tr) (qTup pr) := ⟨pe_tup h.pa, fun {B F Γ σ H fp} R EX Q r q k e => h.sa _ EX _ r q (fun ds Γ1 vs F1 H1 fp1 x1 r1 b1 h1 => ⟨by rw [b1.length]; exact h1.1, fun p hp => by
  obtain ⟨x2, r2, v2⟩ := new_tup r1 b1 hp
  exact k _ Γ1 _ _ _ fp1 (x1.trans x2) r2 v2 h1.2⟩) e⟩
theorem d_lst (h : DA X W es tr pr) : DE X W (.List es pos) (tLst tr) (qLst pr) := ⟨pe_lst h.pa, fun {B F Γ σ H fp} R EX Q r q k e => h.sa _ EX _ r q (fun ds Γ1 vs F1 H1 fp1 x1 r1 b1 h1 => ⟨by rw [b1.length]; exact h1.1, fun p hp => by
  obtain ⟨r2, v2⟩ := new_lst r1 b1 hp
  exact k _ Γ1 _ _ _ fp1 x1 r2 v2 h1.2⟩) e⟩
end
end PL

namespace PL
open PySem PySem.Spec PyProof.Rows L2

section
variable {B F : Hp} {Γ : Ev} {σ : L2.St} {H : Hp} {fp : Nat → List Addr} {v : V} {w : Wv}

/-! ### slots stored -/
/-- slot i holds a datum -/
theorem Rel.setSh (r : Rel B F Γ σ H fp) {d : D} (h : Rp F v d) (i : Nat) : Rel B F (Γ.set i (.sh d)) (σ.set i (some v)) H (dropF fp i) := by
  refine ⟨r.bx, r.fx, by rw [List.length_set, List.length_set]; exact r.len, fun j d' q => ?_, fun j u q => ?_, fun j a ha => r.nb j a (mem_dropF ha).2, fun j k a ha hb => r.dj j k a (mem_dropF ha).2 (mem_dropF hb).2, fun j a q => by
    obtain ⟨hj, q⟩ := ex_ne (fun _ => Sl.noConfusion) q
    rw [List.getElem?_set_ne hj]
    exact r.ex j a q⟩
  · by_cases hj : i = j
    · subst hj
      rw [List.getElem?_set] at q
      split at q
      · split at q
        · rename_i hl
          cases q
          exact ⟨v, by rw [List.getElem?_set_self (by rw [← r.len]; exact hl)], h⟩
        · cases q
      · rename_i hn
        exact absurd rfl hn
    · rw [List.getElem?_set_ne hj] at q
      obtain ⟨u, g1, g2⟩ := r.sh j d' q
      exact ⟨u, by rw [List.getElem?_set_ne hj]; exact g1, g2⟩
  · by_cases hj : i = j
    · subst hj
      rw [List.getElem?_set] at q
      split at q
      · split at q <;> cases q
      · rename_i hn
        exact absurd rfl hn
    · rw [List.getElem?_set_ne hj] at q
      obtain ⟨u, g1, g2⟩ := r.ow j _ q
      refine ⟨u, by rw [List.getElem?_set_ne hj]; exact g1, ?_⟩
      rw [dropF_ne (Ne.symm hj)]
      exact g2
/-- slot i holds an own object that nothing else holds -/
theorem Rel.setOw (r : Rel B F Γ σ H fp) {o : O} {f : List Addr} (h : RO F H v o f) (hf : ∀ a ∈ f, B a = none ∧ F a = none ∧ ∀ j, j ≠ i → a ∉ fp j) (i : Nat) (hi : ∀ a ∈ f, B a = none ∧ F a = none ∧ ∀ j, j ≠ i → a ∉ fp j) :
    Rel B F (Γ.set i (.ow o)) (σ.set i (some v)) H (putF fp i f) := by
  refine ⟨r.bx, r.fx, by rw [List.length_set, List.length_set]; exact r.len, fun j d' q => ?_, fun j u q => ?_, fun j a ha => ?_, fun j k a ha hb => ?_, fun j a q => by
    obtain ⟨hj, q⟩ := ex_ne (fun _ => Sl.noConfusion) q
    rw [List.getElem?_set_ne hj]
    exact r.ex j a q⟩
  · by_cases hj : i = j
    · subst hj
      rw [List.getElem?_set] at q
      split at q
      · split at q <;> cases q
      · rename_i hn
        exact absurd rfl hn
    · rw [List.getElem?_set_ne hj] at q
      obtain ⟨u, g1, g2⟩ := r.sh j d' q
      exact ⟨u, by rw [List.getElem?_set_ne hj]; exact g1, g2⟩
  · by_cases hj : i = j
    · subst hj
      rw [List.getElem?_set] at q
      split at q
      · split at q
        · rename_i hl
          cases q
          refine ⟨v, by rw [List.getElem?_set_self (by rw [← r.len]; exact hl)], ?_⟩
          rw [putF_same]
          exact h
        · cases q
      · rename_i hn
        exact absurd rfl hn
    · rw [List.getElem?_set_ne hj] at q
      obtain ⟨u, g1, g2⟩ := r.ow j _ q
      refine ⟨u, by rw [List.getElem?_set_ne hj]; exact g1, ?_⟩
      rw [putF_ne (Ne.symm hj)]
      exact g2
  · by_cases hj : j = i
    · subst hj
      rw [putF_same] at ha
      exact ⟨(hi a ha).1, (hi a ha).2.1, h.mem a ha⟩
    · rw [putF_ne hj] at ha
      exact r.nb j a ha
  · by_cases hj : j = i
    · subst hj
      by_cases hk : k = j
      · exact hk.symm
      · rw [putF_same] at ha
        rw [putF_ne hk] at hb
        exact absurd hb ((hi a ha).2.2 k hk)
    · by_cases hk : k = i
      · subst hk
        rw [putF_same] at hb
        rw [putF_ne hj] at ha
        exact absurd ha ((hi a hb).2.2 j hj)
      · rw [putF_ne hj] at ha
        rw [putF_ne hk] at hb
        exact r.dj j k a ha hb
def setSl (i : Nat) (w : Wv) (Γ : Ev) (k : Ev → Prop) : Prop :=
  match w with
  | .sh d => k (Γ.set i (.sh d))
  | .ow o => k (Γ.set i (.ow o))
  | .at j => match Γ[j]? with
    | some (.sh d) => k (Γ.set i (.sh d))
    | some (.ow o) => k ((Γ.set j (.sh o.toD)).set i (.sh o.toD))
    | _ => False
theorem setSl_ok {k : Ev → Prop} {i : Nat} (r : Rel B F Γ σ H fp) (h : RW B F Γ σ H fp v w) (q : setSl i w Γ k) : ∃ Γ' F' fp', Ext B F F' ∧ Rel B F' Γ' (σ.set i (some v)) H fp' ∧ k Γ' := by
  cases h with
  | sh h => exact ⟨_, F, _, .refl, r.setSh h i, q⟩
  | @ow o f h hf => exact ⟨_, F, _, .refl, r.setOw (i := i) h (fun a ha => ⟨(hf a ha).1, (hf a ha).2.1, fun j _ => (hf a ha).2.2 j⟩) i fun a ha => ⟨(hf a ha).1, (hf a ha).2.1, fun j _ => (hf a ha).2.2 j⟩, q⟩
  | @«at» j h =>
    unfold setSl at q
    simp only at q
    split at q
    · rename_i d e
      obtain ⟨u, h1, h2⟩ := r.sh j d e
      rw [h] at h1
      cases h1
      exact ⟨_, F, _, .refl, r.setSh h2 i, q⟩
    · rename_i o e
      obtain ⟨u, h1, x, r', h2⟩ := r.freezeAt e
      rw [h] at h1
      cases h1
      exact ⟨_, _, _, x, r'.setSh h2 i, q⟩
    · exact q.elim
end

/-! ### targets -/
/-- only the slots js change -/
def Chg (js : List Nat) (σ σ' : L2.St) : Prop := σ'.length = σ.length ∧ ∀ i, i ∉ js → σ'[i]? = σ[i]?
theorem Chg.trans {js ks : List Nat} {σ σ1 σ2 : L2.St} (a : Chg js σ σ1) (b : Chg ks σ1 σ2) : Chg (js ++ ks) σ σ2 :=
  ⟨b.1.trans a.1, fun i h => (b.2 i fun z => h (List.mem_append_right _ z)).trans (a.2 i fun z => h (List.mem_append_left _ z))⟩
abbrev QG := Wv → Ev → (Ev → Prop) → Prop
abbrev QGs := List D → Ev → (Ev → Prop) → Prop
def SG (g : TG) (q : QG) (js : List Nat) : Prop := ∀ {B F : Hp} {Γ : Ev} {σ : L2.St} {H : Hp} {fp : Nat → List Addr} {v : V} {w : Wv} (k : Ev → Prop) (Q : L2.St → Hp → Prop), Rel B F Γ σ H fp → RW B F Γ σ H fp v w → q w Γ k →
  (∀ Γ' F' σ' fp', Ext B F F' → Rel B F' Γ' σ' H fp' → Chg js σ σ' → k Γ' → Q σ' H) → g v σ H Q
def SGs (g : TGs) (q : QGs) (js : List Nat) : Prop := ∀ {B F : Hp} {Γ : Ev} {σ : L2.St} {H : Hp} {fp : Nat → List Addr} {vs : List V} {ds : List D} (k : Ev → Prop) (Q : L2.St → Hp → Prop), Rel B F Γ σ H fp → RpA F vs ds → q ds Γ k →
  (∀ Γ' F' σ' fp', Ext B F F' → Rel B F' Γ' σ' H fp' → Chg js σ σ' → k Γ' → Q σ' H) → g vs σ H Q
structure DG (X : Cx) (tg : Expr) (g : TG) (q : QG) (js : List Nat) : Prop where
  pg : PG X tg g
  sg : SG g q js
structure DGs (X : Cx) (tgs : List Expr) (g : TGs) (q : QGs) (js : List Nat) : Prop where
  pg : PGs X tgs g
  sg : SGs g q js
section
variable {X : Cx} {pos : Pos}
def qgN (i : Nat) : QG := fun w Γ k => setSl i w Γ k
theorem sg_name {i : Nat} : SG (gName i) (qgN i) [i] := fun {B F Γ σ H fp v w} k Q r h q c => by
  obtain ⟨Γ', F', fp', x, r', z⟩ := setSl_ok r h q
  exact c Γ' F' _ fp' x r' ⟨by rw [List.length_set], fun j hj => List.getElem?_set_ne fun e => hj (by simp [e])⟩ z
theorem dg_name {i : Nat} {x : Str} (hN : X.N.Nodup) (hi : X.N[i]? = some x := by rfl) (hx : Loc X.env.scope x := by first | exact Or.inl rfl | exact Or.inr rfl) (hf : X.fn x = true ∨ X.env.scope.names.lookup x = some .local := by first | exact .inl rfl | exact .inr rfl | assumption) :
    DG X (.Name x pos) (gName i) (qgN i) [i] := ⟨pg_name hN hi hx hf, sg_name⟩
def qgNil : QGs := fun ds Γ k => ds = [] ∧ k Γ
def qgCons (p : QG) (q : QGs) : QGs := fun ds Γ k => match ds with
  | d :: r => p (.sh d) Γ fun Γ' => q r Γ' k
  | [] => False
theorem dgs_nil : DGs X [] gNil qgNil [] := ⟨pgs_nil, fun {B F Γ σ H fp vs ds} k Q r h q c => by
  obtain ⟨rfl, q⟩ := q
  cases h
  exact ⟨rfl, c Γ F σ fp .refl r ⟨rfl, fun _ _ => rfl⟩ q⟩⟩
theorem dgs_cons {e : Expr} {es : List Expr} {g : TG} {u : TGs} {p : QG} {q : QGs} {js ks : List Nat} (h1 : DG X e g p js) (h2 : DGs X es u q ks)
    (hs : (assignEach (e :: es) X.env).map (·.2) = assign e X.env :: (assignEach es X.env).map (·.2) := by rfl) : DGs X (e :: es) (gCons g u) (qgCons p q) (js ++ ks) := ⟨pgs_cons h1.pg h2.pg hs, fun {B F Γ σ H fp vs ds} k Q r h z c => by
  cases h with
  | nil => exact z.elim
  | @cons v vs d ds h t =>
    refine ⟨v, vs, rfl, h1.sg _ _ r (.sh h) z fun Γ1 F1 σ1 fp1 x1 r1 c1 z1 => ?_⟩
    exact h2.sg _ _ r1 (t.mono x1.same) z1 fun Γ2 F2 σ2 fp2 x2 r2 c2 z2 => c Γ2 F2 σ2 fp2 (x1.trans x2) r2 (c1.trans c2) z2⟩
def qgTup (n : Nat) (q : QGs) : QG := fun w Γ k => bor w Γ fun d => match d with
  | .tuple ds => ds.length = n ∧ q ds Γ k
  | _ => False
theorem dg_tup {es : List Expr} {kk : Nat} {g : TGs} {q : QGs} {js : List Nat} {n : Nat} (hc : X.calm = true) (h : DGs X es g q js)
    (hn : (assignEach es X.env).length = n := by rfl) (hst : (assignEach es X.env).findIdx? (·.1) = none := by rfl) : DG X (.Tuple es kk pos) (gTup X.K n g) (qgTup n q) js := ⟨pg_tup hc h.pg hn hst, fun {B F Γ σ H fp v w} k Q r hw z c => by
  obtain ⟨d, b, z⟩ := bor_rb r hw z
  cases b with
  | tup _ e t => exact ⟨_, _, rfl, .inl (.inl e), by rw [t.length]; exact z.1, h.sg _ _ r t z.2 c⟩
  | _ => exact z.elim⟩
/-- a list of that length -/
def qgLst (n : Nat) (q : QGs) : QG := fun w Γ k => bor w Γ fun d => match d with
  | .list ds => ds.length = n ∧ q ds Γ k
  | _ => False
theorem dg_lst {es : List Expr} {kk : Nat} {g : TGs} {q : QGs} {js : List Nat} {n : Nat} (hc : X.calm = true) (h : DGs X es g q js)
    (hn : (assignEach es X.env).length = n := by rfl) (hst : (assignEach es X.env).findIdx? (·.1) = none := by rfl) : DG X (.Tuple es kk pos) (gLst X.K n g) (qgLst n q) js := ⟨pg_lst hc h.pg hn hst, fun {B F Γ σ H fp v w} k Q r hw z c => by
  obtain ⟨d, b, z⟩ := bor_rb r hw z
  cases b with
  | lst e t => exact ⟨_, _, rfl, .inl (.inl e), by rw [t.length]; exact z.1, h.sg _ _ r t z.2 c⟩
  | _ => exact z.elim⟩
end

/-! ### statements -/
section
variable {X : Cx} {W : WX} {pos : Pos} {e : Expr} {te : TE} {p : QE} {st : Stmt} {rest : List Stmt} {ts tu : TS} {ps pu : QS} {tt : TT} {pt : QT}
def qNext : QS := fun P Γ => P.nx Γ
def qSeq (p q : QS) : QS := fun P Γ => p { P with nx := q P } Γ
theorem ss_next : SS W tNext qNext := fun {B F Γ σ H fp} P D r h a => a.nx Γ F σ H fp .refl r h
theorem ss_seq (h1 : SS W ts ps) (h2 : SS W tu pu) : SS W (tSeq ts tu) (qSeq ps pu) := fun {B F Γ σ H fp} P D r h a =>
  h1 { P with nx := pu P } { D with nx := tu D } r h ⟨fun Γ' F' σ' H' fp' x r' q => h2 P D r' q (a.mono x), a.rt, a.bk, a.ct, a.ex⟩
theorem dss_nil : DSs X W [] tNext qNext := ⟨pss_nil, ss_next⟩
theorem dss_cons (h1 : DS X W st ts ps) (h2 : DSs X W rest tu pu) : DSs X W (st :: rest) (tSeq ts tu) (qSeq ps pu) := ⟨pss_cons h1.ps h2.ps, ss_seq h1.ss h2.ss⟩
theorem dss_one (h1 : DS X W st ts ps) : DSs X W [st] ts ps := ⟨pss_one h1.ps, h1.ss⟩
/-- slot i's own object is frozen ahead of a block -/
def qFrz (i : Nat) (p : QS) : QS := fun P Γ => match Γ[i]? with
  | some (.ow o) => p P (Γ.set i (.sh o.toD))
  | _ => p P Γ
theorem dss_frz (i : Nat) (h : DSs X W rest tu pu) : DSs X W rest tu (qFrz i pu) := ⟨h.ps, fun {B F Γ σ H fp} P D r q a => by
  unfold qFrz at q
  split at q
  · rename_i o e
    obtain ⟨v, h1, x, r', h2⟩ := r.freezeAt e
    exact h.ss P D r' q (a.mono x)
  · exact h.ss P D r q a⟩
theorem ds_pass : DS X W (.Pass pos) tNext qNext := ⟨ps_pass, ss_next⟩
def qBreak : QS := fun P Γ => P.bk Γ
def qCont : QS := fun P Γ => P.ct Γ
theorem ds_break : DS X W (.Break pos) tBreak qBreak := ⟨ps_break, fun {B F Γ σ H fp} P D r h a => a.bk Γ F σ H fp .refl r h⟩
theorem ds_continue : DS X W (.Continue pos) tCont qCont := ⟨ps_continue, fun {B F Γ σ H fp} P D r h a => a.ct Γ F σ H fp .refl r h⟩
def qDrop (p : QE) : QS := fun P Γ => p Γ (fun _ Γ1 => P.nx Γ1) P.ex
theorem ss_drop (h : SE W te p) : SS W (tDrop te) (qDrop p) := fun {B F Γ σ H fp} P D r q a => h _ _ _ r q (fun w Γ1 v F1 H1 fp1 x1 r1 _ h1 => a.nx Γ1 F1 σ H1 fp1 x1 r1 h1) a.afe
theorem ds_expr (he : DE X W e te p) (hs : swapsWith e none pos.line X.env = pure false := by rfl) : DS X W (.Expr e pos) (tDrop te) (qDrop p) := ⟨ps_expr he.pe hs, ss_drop he.se⟩
theorem ds_doc {x j pos pos'} : DS X W (.Expr (.Constant (.str x) j pos) pos') tNext qNext := ⟨ps_doc, ss_next⟩
def qRet (p : QE) : QS := fun P Γ => p Γ P.rt P.ex
theorem ds_ret (he : DE X W e te p) : DS X W (.Return (some e) pos) (tRet te) (qRet p) := ⟨ps_ret he.pe, fun {B F Γ σ H fp} P D r q a => he.se _ _ _ r q (fun w Γ1 v F1 H1 fp1 x1 r1 v1 h1 => a.rt w Γ1 v F1 σ H1 fp1 x1 r1 v1 h1) a.afe⟩
def qRetN : QS := fun P Γ => P.rt (.sh .none) Γ
theorem ds_retN : DS X W (.Return none pos) tRetN qRetN := ⟨ps_retN, fun {B F Γ σ H fp} P D r q a => a.rt _ Γ _ F σ H fp .refl r (.sh .non) q⟩
def qIfS (c : QT) (t u : QS) : QS := fun P Γ => c Γ (fun b Γ1 => Cif b (t P Γ1) (u P Γ1)) P.ex
theorem ds_if {c : Expr} {a b : List Stmt} (hc : DT X W c tt pt) (ha : DSs X W a ts ps) (hb : DSs X W b tu pu) : DS X W (.If c a b pos) (tIfS tt ts tu) (qIfS pt ps pu) := ⟨ps_if hc.pt ha.ps hb.ps, fun {B F Γ σ H fp} P D r q a => by
  refine hc.st _ _ _ r q (fun b Γ1 F1 H1 fp1 x1 r1 h1 => ?_) a.afe
  cases b with
  | true => exact ha.ss P D r1 (h1.t rfl) (a.mono x1)
  | false => exact hb.ss P D r1 (h1.f rfl) (a.mono x1)⟩
/-- target = value -/
def qAsg (p : QE) (g : QG) : QS := fun P Γ => p Γ (fun w Γ1 => g w Γ1 P.nx) P.ex
theorem ss_asg {tg : TG} {g : QG} {js : List Nat} (he : SE W te p) (hg : SG tg g js) : SS W (tAsg te tg) (qAsg p g) := fun {B F Γ σ H fp} P D r q a =>
  he _ _ _ r q (fun w Γ1 v F1 H1 fp1 x1 r1 v1 h1 => hg _ _ r1 v1 h1 fun Γ2 F2 σ2 fp2 x2 r2 _ h2 => a.nx Γ2 F2 σ2 H1 fp2 (x1.trans x2) r2 h2) a.afe
theorem ds_asg {tg : Expr} {g : TG} {q : QG} {js : List Nat} (he : DE X W e te p) (hg : DG X tg g q js) (hs : swapsWithSole [tg] e pos.line X.env = pure false := by rfl) (hw : swappedStores [tg] e X.env = pure none := by rfl)
    (h1 : (assignEach [tg] X.env).map (·.2) = [assign tg X.env] := by rfl) : DS X W (.Assign [tg] e pos) (tAsg te g) (qAsg p q) := ⟨ps_asg he.pe hg.pg hs hw h1, ss_asg he.se hg.sg⟩
theorem ds_set {i : Nat} {x : Str} {pos' : Pos} (hN : X.N.Nodup) (he : DE X W e te p) (hi : X.N[i]? = some x := by rfl) (hx : Loc X.env.scope x := by first | exact Or.inl rfl | exact Or.inr rfl) (hs : swapsWith e (some (.Name x pos')) pos.line X.env = pure false := by rfl)
    (hf : X.fn x = true ∨ X.env.scope.names.lookup x = some .local := by first | exact .inl rfl | exact .inr rfl | assumption) : DS X W (.Assign [.Name x pos'] e pos) (tAsg te (gName i)) (qAsg p (qgN i)) := ⟨ps_set hN hi hx he.pe hs hf, ss_asg he.se sg_name⟩
/-- name op= e, the name's value a datum -/
def qAug (i : Nat) (o : OP2) (p : QE) : QS := fun P Γ => match Γ[i]? with
  | some (.sh d1) => p Γ (fun w2 Γ1 => bor w2 Γ1 fun d2 => o d1 d2 fun w => setSl i w Γ1 P.nx) P.ex
  | _ => False
theorem ds_aug {i : Nat} {x : Str} {op : Operator} {r : R2} {o : OP2} {pos' : Pos} (hN : X.N.Nodup) (ho : OpR X (inplaceOp op) r) (hs : OpS r o) (he : DE X W e te p) (hi : X.N[i]? = some x := by rfl) (hx : Loc X.env.scope x := by first | exact Or.inl rfl | exact Or.inr rfl)
    (hf : X.fn x = true ∨ X.env.scope.names.lookup x = some .local := by first | exact .inl rfl | exact .inr rfl | assumption) : DS X W (.AugAssign (.Name x pos') op e pos) (tAug i te r) (qAug i o p) :=
  ⟨ps_aug hN hi hx he.pe (fun pins s σ H x y v u Q I rx ry h => ho pins s σ H x y v u Q I rx ry h) hf, fun {B F Γ σ H fp} P D rr q a => by
  unfold qAug at q
  split at q
  · rename_i d1 e1
    obtain ⟨v, h1, h2⟩ := rr.sh i d1 e1
    refine ⟨v, h1, he.se _ _ _ rr q (fun w2 Γ1 y F1 H1 fp1 x1 r1 v1 h3 => ?_) a.afe⟩
    obtain ⟨d2, b2, z⟩ := bor_rb r1 v1 h3
    refine hs _ _ r1 ((h2.mono x1.same).rb r1.fx) b2 z fun w v F2 H2 x2 r2 q2 kk => ?_
    obtain ⟨Γ3, F3, fp3, x3, r3, z3⟩ := setSl_ok r2 q2 kk
    exact a.nx Γ3 F3 _ H2 fp3 ((x1.trans x2).trans x3) r3 z3
  · exact q.elim⟩
/-- while, by an invariant with a measure -/
def qWhile (c : QT) (t : QS) : QS := fun P Γ => ∃ I : Nat → Ev → Prop, (∃ m, I m Γ) ∧ ∀ m Γ, I m Γ → c Γ (fun b Γ1 => Cif b (t { P with nx := fun Γ' => ∃ m', m' < m ∧ I m' Γ', ct := fun Γ' => ∃ m', m' < m ∧ I m' Γ', bk := P.nx } Γ1) (P.nx Γ1)) P.ex
theorem ds_while {c : Expr} {body : List Stmt} (hp : PassesOwn (model X.prog X.w) X.A X.env X.xe) (hc : DT X W c tt pt) (hb : DSs X W body ts ps) : DS X W (.While c body [] pos) (tWhile tt ts) (qWhile pt ps) := ⟨ps_while hp hc.pt hb.ps, fun {B F Γ σ H fp} P D r q a => by
  obtain ⟨I, ⟨m0, h0⟩, hs⟩ := q
  refine ⟨fun m σ' H' => ∃ Γ' F' fp', Ext B F F' ∧ Rel B F' Γ' σ' H' fp' ∧ I m Γ', ⟨m0, Γ, F, fp, .refl, r, h0⟩, ?_⟩
  rintro m σ' H' ⟨Γ', F', fp', x, r', hi⟩
  refine hc.st _ _ _ r' (hs m Γ' hi) (fun b Γ1 F1 H1 fp1 x1 r1 h1 => ?_) (a.mono x).afe
  cases b with
  | true =>
    refine ⟨fun σ2 H2 => ∃ m', m' < m ∧ ∃ Γ2 F2 fp2, Ext B F F2 ∧ Rel B F2 Γ2 σ2 H2 fp2 ∧ I m' Γ2, fun σ2 H2 h => h, hb.ss _ _ r1 (h1.t rfl) ?_⟩
    have am := a.mono (x.trans x1)
    exact ⟨fun Γ2 F2 σ2 H2 fp2 x2 r2 ⟨m', hm, q⟩ => ⟨m', hm, Γ2, F2, fp2, (x.trans x1).trans x2, r2, q⟩, am.rt, am.nx, fun Γ2 F2 σ2 H2 fp2 x2 r2 ⟨m', hm, q⟩ => ⟨m', hm, Γ2, F2, fp2, (x.trans x1).trans x2, r2, q⟩, am.ex⟩
  | false => exact (a.mono x).nx Γ1 F1 σ' H1 fp1 x1 r1 (h1.f rfl)⟩
end

/-! ### what is walked -/
abbrev QI := QA
/-- the iterator goes through the data ds -/
def ItOk (J : It) (F : Hp) (ds : List D) : Prop := ∀ (B F2 : Hp) (Γ2 : Ev) (σ2 : L2.St) (H2 : Hp) (fp2 : Nat → List Addr), Same F F2 → Rel B F2 Γ2 σ2 H2 fp2 → ∀ i,
  (∀ d, ds[i]? = some d → J.go i H2 ∧ ∀ x H3, J.yld i H2 x H3 → ∃ F3, Ext B F2 F3 ∧ Rel B F3 Γ2 σ2 H3 fp2 ∧ Rp F3 x d) ∧ (ds.length ≤ i → J.stop i H2)
def SI (W : WX) (wi : TI) (p : QI) : Prop := ∀ {B F : Hp} {Γ : Ev} {σ : L2.St} {H : Hp} {fp : Nat → List Addr} (R : List D → Ev → Prop) (EX : EXP) (Q : It → Hp → Prop), Rel B F Γ σ H fp → p Γ R EX →
  (∀ ds Γ' J F' H' fp', Ext B F F' → Rel B F' Γ' σ H' fp' → ItOk J F' ds → R ds Γ' → Q J H') → AfE W B F σ EX → wi σ H Q
structure DI (X : Cx) (W : WX) (tg iter : Expr) (wi : TI) (p : QI) : Prop where
  pi : PI X tg iter wi
  si : SI W wi p
section
variable {X : Cx} {W : WX} {pos : Pos} {e tg : Expr} {te : TE} {p : QE}
/-- over a list (taken for good) -/
def qiL (p : QE) : QI := fun Γ R E => p Γ (fun w Γ1 => shr w Γ1 fun d Γ2 => match d with
  | .list ds => R ds Γ2
  | _ => False) E
def qiT (p : QE) : QI := fun Γ R E => p Γ (fun w Γ1 => shr w Γ1 fun d Γ2 => match d with
  | .tuple ds => R ds Γ2
  | _ => False) E
def signD (c : Nat) : D := .str ⟨#[c]⟩
def qiS (p : QE) : QI := fun Γ R E => p Γ (fun w Γ1 => shr w Γ1 fun d Γ2 => match d with
  | .str x => R (x.cps.toList.map signD) Γ2
  | _ => False) E
theorem di_list (h : DE X W e te p) : DI X W tg e (iList X.K te) (qiL p) := ⟨pi_list h.pe, fun {B F Γ σ H fp} R EX Q r q k a => by
  refine h.se _ _ _ r q (fun w Γ1 v F1 H1 fp1 x1 r1 v1 h1 => ?_) a
  obtain ⟨d, Γ2, F2, fp2, x2, r2, b2, h2⟩ := shr_ok r1 v1 h1
  cases b2 with
  | @lst aa xs ds e2 t =>
    refine ⟨aa, rfl, ⟨xs, .inl (.inl (r2.fx _ _ e2))⟩, k ds Γ2 _ F2 H1 fp2 (x1.trans x2) r2 ?_ h2⟩
    intro B3 F3 Γ3 σ3 H3 fp3 s3 r3 i
    have hl : SqL X.K H3 aa xs := .inl (.inl ((s3.trans r3.fx) _ _ e2))
    refine ⟨fun d hd => ?_, fun hi => ⟨xs, hl, by rw [t.length]; exact hi⟩⟩
    obtain ⟨u, g1, g2⟩ := t.get hd
    exact ⟨⟨xs, u, hl, g1⟩, fun x H4 ⟨e4, f4⟩ => by
      subst e4
      have := f4 xs hl
      rw [g1] at this
      cases this
      exact ⟨F3, .refl, r3, g2.mono s3⟩⟩
  | _ => exact h2.elim⟩
theorem di_tup (h : DE X W e te p) : DI X W tg e (iTup X.K te) (qiT p) := ⟨pi_tup h.pe, fun {B F Γ σ H fp} R EX Q r q k a => by
  refine h.se _ _ _ r q (fun w Γ1 v F1 H1 fp1 x1 r1 v1 h1 => ?_) a
  obtain ⟨d, Γ2, F2, fp2, x2, r2, b2, h2⟩ := shr_ok r1 v1 h1
  cases b2 with
  | @tup aa xs ds e2 t =>
    refine ⟨aa, rfl, ⟨xs, .inl (.inl (r2.fx _ _ e2))⟩, k ds Γ2 _ F2 H1 fp2 (x1.trans x2) r2 ?_ h2⟩
    intro B3 F3 Γ3 σ3 H3 fp3 s3 r3 i
    have hl : SqT X.K H3 aa xs := .inl (.inl ((s3.trans r3.fx) _ _ e2))
    refine ⟨fun d hd => ?_, fun hi => ⟨xs, hl, by rw [t.length]; exact hi⟩⟩
    obtain ⟨u, g1, g2⟩ := t.get hd
    exact ⟨⟨xs, u, hl, g1⟩, fun x H4 ⟨e4, f4⟩ => by
      subst e4
      have := f4 xs hl
      rw [g1] at this
      cases this
      exact ⟨F3, .refl, r3, g2.mono s3⟩⟩
  | _ => exact h2.elim⟩
theorem strOk_sign {x : Str} (h : PyData.strOk x = true) {i c : Nat} (e : x.cps[i]? = some c) : PyData.strOk ⟨#[c]⟩ = true := by
  have h' : x.cps.all (· < 0x110000) = true := h
  rw [Array.all_eq_true] at h'
  obtain ⟨hi, he⟩ := Array.getElem?_eq_some_iff.mp e
  have := h' i hi
  rw [he] at this
  show (#[c] : Array Nat).all (· < 0x110000) = true
  simpa using this
theorem di_str (h : DE X W e te p) : DI X W tg e (iStr te) (qiS p) := ⟨pi_str h.pe, fun {B F Γ σ H fp} R EX Q r q k a => by
  refine h.se _ _ _ r q (fun w Γ1 v F1 H1 fp1 x1 r1 v1 h1 => ?_) a
  obtain ⟨d, Γ2, F2, fp2, x2, r2, b2, h2⟩ := shr_ok r1 v1 h1
  cases b2 with
  | str x ok =>
    refine ⟨x, rfl, k _ Γ2 _ F2 H1 fp2 (x1.trans x2) r2 ?_ h2⟩
    intro B3 F3 Γ3 σ3 H3 fp3 s3 r3 i
    refine ⟨fun d hd => ?_, fun hi => ?_⟩
    · rw [List.getElem?_map] at hd
      have hi : i < x.cps.size := by
        cases z : x.cps.toList[i]? with
        | none =>
          rw [z] at hd
          cases hd
        | some c =>
          have := (List.getElem?_eq_some_iff.mp z).1
          simpa using this
      refine ⟨hi, fun y H4 ⟨e4, c, hc, ey⟩ => ?_⟩
      subst e4 ey
      have hc' : x.cps.toList[i]? = some c := by rw [Array.getElem?_toList]; exact hc
      rw [hc'] at hd
      cases hd
      exact ⟨F3, .refl, r3, .str _ (strOk_sign ok hc)⟩
    · show x.cps.size ≤ i
      simpa using hi
  | _ => exact h2.elim⟩
/-- range(n), range(a, b) -/
def qiR1 (p : QA) : QI := fun Γ R E => p Γ (fun ds Γ1 => match ds with
  | [.int n] => -(2 ^ 62) ≤ n ∧ n < 2 ^ 62 ∧ R ((List.range n.toNat).map fun (i : Nat) => .int (i : Int)) Γ1
  | _ => False) E
def qiR2 (p : QA) : QI := fun Γ R E => p Γ (fun ds Γ1 => match ds with
  | [.int m, .int n] => (-(2 ^ 62) ≤ m ∧ m < 2 ^ 62 ∧ -(2 ^ 62) ≤ n ∧ n < 2 ^ 62) ∧ R ((List.range (n - m).toNat).map fun (i : Nat) => .int (m + (i : Int))) Γ1
  | _ => False) E
theorem it_range {F : Hp} (lo : Int) (n : Nat) (f : Nat → D) (hf : ∀ i, f i = .int (lo + (i : Int))) : ItOk (Itr lo n) F ((List.range n).map f) := fun B3 F3 Γ3 σ3 H3 fp3 s3 r3 i => by
  refine ⟨fun d hd => ?_, fun hi => show n ≤ i by simpa using hi⟩
  rw [List.getElem?_map] at hd
  have hi : i < n := by
    cases z : (List.range n)[i]? with
    | none =>
      rw [z] at hd
      cases hd
    | some c => simpa using (List.getElem?_eq_some_iff.mp z).1
  rw [List.getElem?_range hi] at hd
  refine ⟨hi, fun y H4 ⟨e4, ey⟩ => ?_⟩
  subst e4 ey
  have hd' : f i = d := Option.some.inj hd
  rw [← hd', hf]
  exact ⟨F3, .refl, r3, .int _⟩
theorem di_range1 {a : Expr} {ta : TA} {pa : QA} {p : Pos} (hm : X.mg "range" = none) (ha : DA X W [a] ta pa) (hg : Gl X "range" := by rfl) (hs : starEach [a] X.env = [(false, eval a X.env)] := by rfl) :
    DI X W tg (.Call (.Name "range" p) [a] [] pos) (iRng1 ta) (qiR1 pa) := ⟨pi_range1 hg hm ha.pa hs, fun {B F Γ σ H fp} R EX Q r q k e => by
  refine ha.sa _ _ _ r q (fun ds Γ1 vs F1 H1 fp1 x1 r1 b1 h1 => ?_) e
  split at h1
  · rename_i n
    cases b1 with
    | cons h t =>
      cases t
      cases h
      refine ⟨n, rfl, h1.1, h1.2.1, k _ Γ1 _ F1 H1 fp1 x1 r1 (it_range 0 _ _ fun i => by simp) h1.2.2⟩
  · exact h1.elim⟩
theorem di_range2 {a b : Expr} {ta : TA} {pa : QA} {p : Pos} (hm : X.mg "range" = none) (ha : DA X W [a, b] ta pa) (hg : Gl X "range" := by rfl) (hs : starEach [a, b] X.env = [(false, eval a X.env), (false, eval b X.env)] := by rfl) (hs2 : starEach [b] X.env = [(false, eval b X.env)] := by rfl) :
    DI X W tg (.Call (.Name "range" p) [a, b] [] pos) (iRng2 ta) (qiR2 pa) := ⟨pi_range2 hg hm ha.pa hs hs2, fun {B F Γ σ H fp} R EX Q r q k e => by
  refine ha.sa _ _ _ r q (fun ds Γ1 vs F1 H1 fp1 x1 r1 b1 h1 => ?_) e
  split at h1
  · rename_i m n
    cases b1 with
    | cons h t =>
      cases t with
      | cons h' t' =>
        cases t'
        cases h
        cases h'
        exact ⟨m, n, rfl, h1.1, k _ Γ1 _ F1 H1 fp1 x1 r1 (it_range m _ _ fun _ => rfl) h1.2⟩
  · exact h1.elim⟩
/-- enumerate(list) -/
def enumD (n : Nat) : List D → List D
  | [] => []
  | d :: r => .tuple [.int n, d] :: enumD (n + 1) r
theorem enumD_get : ∀ (ds : List D) (n i : Nat), (enumD n ds)[i]? = ds[i]?.map fun d => .tuple [.int ((n + i : Nat) : Int), d]
  | [], n, i => by simp [enumD]
  | d :: r, n, 0 => by simp [enumD]
  | d :: r, n, i + 1 => by
    simp only [enumD, List.getElem?_cons_succ]
    rw [enumD_get r (n + 1) i]
    have e : n + 1 + i = n + (i + 1) := by omega
    rw [e]
theorem enumD_length : ∀ (ds : List D) (n : Nat), (enumD n ds).length = ds.length
  | [], _ => rfl
  | _ :: r, n => congrArg (· + 1) (enumD_length r (n + 1))
def qiE (p : QA) : QI := fun Γ R E => p Γ (fun ds Γ1 => match ds with
  | [.list xs] => R (enumD 0 xs) Γ1
  | _ => False) E
theorem di_enum {ta : TA} {pa : QA} {p tpos : Pos} {elts : List Expr} {kk : Nat} (hm : X.mg "enumerate" = none) (ha : DA X W [e] ta pa) (hg : Gl X "enumerate" := by rfl) (hs : starEach [e] X.env = [(false, eval e X.env)] := by rfl) :
    DI X W (.Tuple elts kk tpos) (.Call (.Name "enumerate" p) [e] [] pos) (iEnum X.K ta) (qiE pa) := ⟨pi_enum hg hm ha.pa hs, fun {B F Γ σ H fp} R EX Q r q k e => by
  refine ha.sa _ _ _ r q (fun ds Γ1 vs F1 H1 fp1 x1 r1 b1 h1 => ?_) e
  split at h1
  · rename_i xs
    cases b1 with
    | cons h t =>
      cases t
      cases h with
      | @lst aa vs ds e2 t =>
        refine ⟨aa, vs, rfl, .inl (.inl (r1.fx _ _ e2)), k _ Γ1 _ F1 H1 fp1 x1 r1 ?_ h1⟩
        intro B3 F3 Γ3 σ3 H3 fp3 s3 r3 i
        have hl : SqL X.K H3 aa vs := .inl (.inl ((s3.trans r3.fx) _ _ e2))
        refine ⟨fun d hd => ?_, fun hi => ⟨vs, hl, by rw [t.length, ← enumD_length xs 0]; exact hi⟩⟩
        rw [enumD_get] at hd
        cases z : xs[i]? with
        | none =>
          rw [z] at hd
          cases hd
        | some c =>
          rw [z] at hd
          obtain ⟨u, g1, g2⟩ := t.get z
          refine ⟨⟨vs, u, hl, g1⟩, fun y H4 ⟨T, x, ey, nT, e4, f4⟩ => ?_⟩
          have := f4 vs hl
          rw [g1] at this
          cases this
          subst ey e4
          obtain ⟨x5, r5⟩ := r3.newF (o := .tup [.int (i : Nat), u]) nT
          have hd' : PyData.tuple [.int ((0 + i : Nat) : Int), c] = d := Option.some.inj hd
          rw [← hd', Nat.zero_add]
          exact ⟨_, x5, r5, .tup upd_same (.cons (.int _) (.cons ((g2.mono s3).mono x5.same) .nil))⟩
  · exact h1.elim⟩
/-- zip(list, list) -/
def zipD : List D → List D → List D
  | a :: r, b :: s => .tuple [a, b] :: zipD r s
  | _, _ => []
theorem zipD_get : ∀ (xs ys : List D) (i : Nat), (zipD xs ys)[i]? = (xs[i]?.bind fun a => ys[i]?.map fun b => .tuple [a, b])
  | [], ys, i => by simp [zipD]
  | a :: r, [], i => by simp [zipD]
  | a :: r, b :: s, 0 => by simp [zipD]
  | a :: r, b :: s, i + 1 => by
    simp only [zipD, List.getElem?_cons_succ]
    exact zipD_get r s i
theorem zipD_length : ∀ (xs ys : List D), (zipD xs ys).length = min xs.length ys.length
  | [], ys => by simp [zipD]
  | a :: r, [] => by simp [zipD]
  | a :: r, b :: s => by
    simp only [zipD, List.length_cons, zipD_length r s]
    omega
def qiZ (p : QA) : QI := fun Γ R E => p Γ (fun ds Γ1 => match ds with
  | [.list xs, .list ys] => R (zipD xs ys) Γ1
  | [.tuple xs, .tuple ys] => R (zipD xs ys) Γ1
  | _ => False) E
theorem di_zip {e2 : Expr} {ta : TA} {pa : QA} {p tpos : Pos} {elts : List Expr} {kk : Nat} (hm : X.mg "zip" = none) (ha : DA X W [e, e2] ta pa) (hg : Gl X "zip" := by rfl)
    (hs : starEach [e, e2] X.env = (false, eval e X.env) :: starEach [e2] X.env := by rfl) (hpl : (backTo pos (starEach [e2] X.env)).any (·.1) = false := by rfl) :
    DI X W (.Tuple elts kk tpos) (.Call (.Name "zip" p) [e, e2] [] pos) (RZ.iZipA X.K ta) (qiZ pa) := ⟨RZ.pi_zipA hg hm ha.pa hs hpl, fun {B F Γ σ H fp} R EX Q r q k e => by
  refine ha.sa _ _ _ r q (fun ds Γ1 vs F1 H1 fp1 x1 r1 b1 h1 => ?_) e
  split at h1
  · rename_i xs ys
    cases b1 with
    | cons h t =>
      cases t with
      | cons h' t' =>
        cases t'
        cases h with
        | @lst aa vs ds e2 t =>
          cases h' with
          | @lst ba ws ds' e3 t3 =>
            refine ⟨aa, ba, vs, ws, rfl, .inl ⟨.inl (.inl (r1.fx _ _ e2)), .inl (.inl (r1.fx _ _ e3)), k _ Γ1 _ F1 H1 fp1 x1 r1 ?_ h1⟩⟩
            intro B3 F3 Γ3 σ3 H3 fp3 s3 r3 i
            have hl : SqL X.K H3 aa vs := .inl (.inl ((s3.trans r3.fx) _ _ e2))
            have hl2 : SqL X.K H3 ba ws := .inl (.inl ((s3.trans r3.fx) _ _ e3))
            refine ⟨fun d hd => ?_, fun hi => ⟨vs, ws, hl, hl2, by rw [zipD_length] at hi; rw [t.length, t3.length]; omega⟩⟩
            rw [zipD_get] at hd
            cases z : xs[i]? with
            | none =>
              rw [z] at hd
              cases hd
            | some c =>
              rw [z] at hd
              cases z2 : ys[i]? with
              | none =>
                rw [z2] at hd
                cases hd
              | some c2 =>
                rw [z2] at hd
                obtain ⟨u, g1, g2⟩ := t.get z
                obtain ⟨u2, g3, g4⟩ := t3.get z2
                refine ⟨⟨vs, ws, u, u2, hl, hl2, g1, g3⟩, fun y H4 ⟨T, x, x', ey, nT, e4, f4, f5⟩ => ?_⟩
                have := f4 vs hl
                rw [g1] at this
                cases this
                have := f5 ws hl2
                rw [g3] at this
                cases this
                subst ey e4
                obtain ⟨x5, r5⟩ := r3.newF (o := .tup [u, u2]) nT
                have hd' : PyData.tuple [c, c2] = d := Option.some.inj hd
                rw [← hd']
                exact ⟨_, x5, r5, .tup upd_same (.cons ((g2.mono s3).mono x5.same) (.cons ((g4.mono s3).mono x5.same) .nil))⟩
  · rename_i xs ys
    cases b1 with
    | cons h t =>
      cases t with
      | cons h' t' =>
        cases t'
        cases h with
        | @tup aa vs ds e2 t =>
          cases h' with
          | @tup ba ws ds' e3 t3 =>
            refine ⟨aa, ba, vs, ws, rfl, .inr ⟨.inl (.inl (r1.fx _ _ e2)), .inl (.inl (r1.fx _ _ e3)), k _ Γ1 _ F1 H1 fp1 x1 r1 ?_ h1⟩⟩
            intro B3 F3 Γ3 σ3 H3 fp3 s3 r3 i
            have hl : SqT X.K H3 aa vs := .inl (.inl ((s3.trans r3.fx) _ _ e2))
            have hl2 : SqT X.K H3 ba ws := .inl (.inl ((s3.trans r3.fx) _ _ e3))
            refine ⟨fun d hd => ?_, fun hi => ⟨vs, ws, hl, hl2, by rw [zipD_length] at hi; rw [t.length, t3.length]; omega⟩⟩
            rw [zipD_get] at hd
            cases z : xs[i]? with
            | none =>
              rw [z] at hd
              cases hd
            | some c =>
              rw [z] at hd
              cases z2 : ys[i]? with
              | none =>
                rw [z2] at hd
                cases hd
              | some c2 =>
                rw [z2] at hd
                obtain ⟨u, g1, g2⟩ := t.get z
                obtain ⟨u2, g3, g4⟩ := t3.get z2
                refine ⟨⟨vs, ws, u, u2, hl, hl2, g1, g3⟩, fun y H4 ⟨T, x, x', ey, nT, e4, f4, f5⟩ => ?_⟩
                have := f4 vs hl
                rw [g1] at this
                cases this
                have := f5 ws hl2
                rw [g3] at this
                cases this
                subst ey e4
                obtain ⟨x5, r5⟩ := r3.newF (o := .tup [u, u2]) nT
                have hd' : PyData.tuple [c, c2] = d := Option.some.inj hd
                rw [← hd']
                exact ⟨_, x5, r5, .tup upd_same (.cons ((g2.mono s3).mono x5.same) (.cons ((g4.mono s3).mono x5.same) .nil))⟩
  · exact h1.elim⟩
end

/-! ### for -/
def forGo (g : QG) (t : QS) (P : PEnds) : List D → Ev → Prop
  | [], Γ => P.nx Γ
  | d :: r, Γ => g (.sh d) Γ fun Γ1 => t { P with nx := forGo g t P r, ct := forGo g t P r, bk := P.nx } Γ1
def qFor (i : QI) (g : QG) (t : QS) : QS := fun P Γ => i Γ (fun ds Γ1 => forGo g t P ds Γ1) P.ex
section
variable {X : Cx} {W : WX} {pos : Pos} {ts : TS} {ps : QS}
theorem ds_for {tg iter : Expr} {body : List Stmt} {wi : TI} {qi : QI} {g : TG} {qg : QG} {js : List Nat} (hp : PassesOwn (model X.prog X.w) X.A X.env X.xe) (hc : X.calm = true) (hi : DI X W tg iter wi qi) (hg : DG X tg g qg js) (hb : DSs X W body ts ps)
    (hs : ∀ x, foldedSetIterable iter X.env x = pure x := by intro _; rfl) : DS X W (.For tg iter body [] pos) (tFor wi g ts) (qFor qi qg ps) := ⟨ps_for hp hc hi.pi hg.pg hb.ps hs, fun {B F Γ σ H fp} P D r q a => by
  refine hi.si _ _ _ r q (fun ds Γ1 J F1 H1 fp1 x1 r1 ok h1 => ?_) a.afe
  refine ⟨fun i m σ' H' => m + i = ds.length ∧ ∃ Γ' F' fp', Ext B F1 F' ∧ Rel B F' Γ' σ' H' fp' ∧ forGo qg ps P (ds.drop i) Γ', ⟨ds.length, rfl, Γ1, F1, fp1, .refl, r1, h1⟩, ?_⟩
  rintro i m σ' H' ⟨hm, Γ', F', fp', x, r', hf⟩
  obtain ⟨o1, o2⟩ := ok B F' Γ' σ' H' fp' x.same r' i
  by_cases hlt : i < ds.length
  · obtain ⟨go, yld⟩ := o1 ds[i] (List.getElem?_eq_getElem hlt)
    refine .inr ⟨go, fun σ2 H2 => ∃ m', m' < m ∧ (m' + (i + 1) = ds.length ∧ ∃ Γ' F' fp', Ext B F1 F' ∧ Rel B F' Γ' σ2 H2 fp' ∧ forGo qg ps P (ds.drop (i + 1)) Γ'), fun σ2 H2 h => h, fun y H2 hy => ?_⟩
    obtain ⟨F2, x2, r2, b2⟩ := yld y H2 hy
    rw [List.drop_eq_getElem_cons hlt] at hf
    refine hg.sg _ _ r2 (.sh b2) hf fun Γ3 F3 σ3 fp3 x3 r3 _ h3 => ?_
    have xx := (x.trans x2).trans x3
    have am := a.mono (x1.trans xx)
    refine hb.ss _ _ r3 h3 ⟨fun Γ4 F4 σ4 H4 fp4 x4 r4 h4 => ⟨m - 1, by omega, by omega, Γ4, F4, fp4, xx.trans x4, r4, h4⟩, am.rt, am.nx, fun Γ4 F4 σ4 H4 fp4 x4 r4 h4 => ⟨m - 1, by omega, by omega, Γ4, F4, fp4, xx.trans x4, r4, h4⟩, am.ex⟩
  · refine .inl ⟨o2 (by omega), ?_⟩
    rw [List.drop_of_length_le (by omega)] at hf
    exact a.nx Γ' F' σ' H' fp' (x1.trans x) r' hf⟩
end
end PL

namespace PL
open PySem PySem.Spec PyProof.Rows L2

/-! ### comprehensions -/
/-- the slots vs forgotten; put back as they were in Γ0 -/
def wipEv (vs : List Nat) : Ev → Ev := fun Γ => vs.foldr (fun i Γ => Γ.set i .un) Γ
def backEv (Γ0 : Ev) (vs : List Nat) : Ev → Ev := fun Γ => vs.foldr (fun i Γ => Γ.set i ((Γ0[i]?).getD .un)) Γ
def isOw : Option Sl → Bool
  | some (.ow _) => true
  | _ => false
def noOw (Γ : Ev) (vs : List Nat) : Bool := vs.all fun i => !isOw Γ[i]?
theorem wipEv_length (Γ : Ev) : ∀ vs : List Nat, (wipEv vs Γ).length = Γ.length
  | [] => rfl
  | v :: vs => by
    show ((wipEv vs Γ).set v .un).length = _
    rw [List.length_set, wipEv_length Γ vs]
theorem backEv_length (Γ0 Γ : Ev) : ∀ vs : List Nat, (backEv Γ0 vs Γ).length = Γ.length
  | [] => rfl
  | v :: vs => by
    show ((backEv Γ0 vs Γ).set v _).length = _
    rw [List.length_set, backEv_length Γ0 Γ vs]
theorem wipEv_get (Γ : Ev) : ∀ (vs : List Nat) (i : Nat), (i ∈ vs ∧ ((wipEv vs Γ)[i]? = some .un ∨ (wipEv vs Γ)[i]? = none)) ∨ (i ∉ vs ∧ (wipEv vs Γ)[i]? = Γ[i]?)
  | [], i => .inr ⟨by simp, rfl⟩
  | v :: vs, i => by
    show (i ∈ v :: vs ∧ (((wipEv vs Γ).set v .un)[i]? = some .un ∨ ((wipEv vs Γ).set v .un)[i]? = none)) ∨ (i ∉ v :: vs ∧ ((wipEv vs Γ).set v .un)[i]? = Γ[i]?)
    by_cases e : v = i
    · subst e
      refine .inl ⟨List.mem_cons_self, ?_⟩
      rw [List.getElem?_set]
      simp only [if_true]
      split
      · exact .inl rfl
      · exact .inr rfl
    · rw [List.getElem?_set_ne e]
      rcases wipEv_get Γ vs i with ⟨h, q⟩ | ⟨h, q⟩
      · exact .inl ⟨List.mem_cons_of_mem _ h, q⟩
      · exact .inr ⟨fun z => by
          rcases List.mem_cons.mp z with z | z
          · exact e z.symm
          · exact h z, q⟩
theorem backEv_get (Γ0 Γ : Ev) (hl : Γ0.length = Γ.length) : ∀ (vs : List Nat) (i : Nat), (i ∈ vs ∧ (backEv Γ0 vs Γ)[i]? = Γ0[i]?) ∨ (i ∉ vs ∧ (backEv Γ0 vs Γ)[i]? = Γ[i]?)
  | [], i => .inr ⟨by simp, rfl⟩
  | v :: vs, i => by
    show (i ∈ v :: vs ∧ ((backEv Γ0 vs Γ).set v ((Γ0[v]?).getD .un))[i]? = Γ0[i]?) ∨ (i ∉ v :: vs ∧ ((backEv Γ0 vs Γ).set v ((Γ0[v]?).getD .un))[i]? = Γ[i]?)
    by_cases e : v = i
    · subst e
      refine .inl ⟨List.mem_cons_self, ?_⟩
      rw [List.getElem?_set]
      simp only [if_true]
      rw [backEv_length]
      split
      · rename_i h
        rw [← hl] at h
        rw [List.getElem?_eq_getElem h]
        rfl
      · rename_i h
        rw [← hl] at h
        rw [List.getElem?_eq_none (by omega)]
    · rw [List.getElem?_set_ne e]
      rcases backEv_get Γ0 Γ hl vs i with ⟨h, q⟩ | ⟨h, q⟩
      · exact .inl ⟨List.mem_cons_of_mem _ h, q⟩
      · exact .inr ⟨fun z => by
          rcases List.mem_cons.mp z with z | z
          · exact e z.symm
          · exact h z, q⟩
theorem wipe_get (σ : L2.St) : ∀ (vs : List Nat) (i : Nat), (i ∈ vs ∧ ((wipe σ vs)[i]? = some none ∨ (wipe σ vs)[i]? = none)) ∨ (i ∉ vs ∧ (wipe σ vs)[i]? = σ[i]?)
  | [], i => .inr ⟨by simp, rfl⟩
  | v :: vs, i => by
    show (i ∈ v :: vs ∧ (((wipe σ vs).set v none)[i]? = some none ∨ ((wipe σ vs).set v none)[i]? = none)) ∨ (i ∉ v :: vs ∧ ((wipe σ vs).set v none)[i]? = σ[i]?)
    by_cases e : v = i
    · subst e
      refine .inl ⟨List.mem_cons_self, ?_⟩
      rw [List.getElem?_set]
      simp only [if_true]
      split
      · exact .inl rfl
      · exact .inr rfl
    · rw [List.getElem?_set_ne e]
      rcases wipe_get σ vs i with ⟨h, q⟩ | ⟨h, q⟩
      · exact .inl ⟨List.mem_cons_of_mem _ h, q⟩
      · exact .inr ⟨fun z => by
          rcases List.mem_cons.mp z with z | z
          · exact e z.symm
          · exact h z, q⟩
/-- what the block's targets do is forgotten by wiping -/
theorem wipe_chg {σ σ2 : L2.St} {js vs : List Nat} (c : Chg js (wipe σ vs) σ2) (hj : ∀ j ∈ js, j ∈ vs) : wipe σ2 vs = wipe σ vs := by
  apply List.ext_getElem?
  intro i
  have hl : σ2.length = σ.length := by rw [c.1, wipe_length]
  rcases wipe_get σ2 vs i with ⟨h, q⟩ | ⟨h, q⟩
  · rcases wipe_get σ vs i with ⟨h', q'⟩ | ⟨h', q'⟩
    · by_cases hi : i < σ.length
      · have e1 : (wipe σ2 vs)[i]? ≠ none := by
          rw [List.getElem?_eq_getElem (by rw [wipe_length]; omega)]
          exact fun z => nomatch z
        have e2 : (wipe σ vs)[i]? ≠ none := by
          rw [List.getElem?_eq_getElem (by rw [wipe_length]; omega)]
          exact fun z => nomatch z
        rcases q with q | q
        · rcases q' with q' | q'
          · rw [q, q']
          · exact absurd q' e2
        · exact absurd q e1
      · rw [List.getElem?_eq_none (by rw [wipe_length]; omega), List.getElem?_eq_none (by rw [wipe_length]; omega)]
    · exact absurd h h'
  · rw [q]
    exact c.2 i fun z => h (hj i z)
section
variable {B F : Hp} {Γ Γ' : Ev} {σ σ' : L2.St} {H : Hp} {fp : Nat → List Addr}
/-- fewer slots are known -/
theorem Rel.sub (r : Rel B F Γ σ H fp) (hl : Γ'.length = σ'.length) (h : ∀ (i : Nat) (s : Sl), Γ'[i]? = some s → s = .un ∨ (Γ[i]? = some s ∧ σ'[i]? = σ[i]?)) : Rel B F Γ' σ' H fp := by
  refine ⟨r.bx, r.fx, hl, fun i d e => ?_, fun i o e => ?_, r.nb, r.dj, fun i a e => ?_⟩
  · rcases h i _ e with q | ⟨q, z⟩
    · cases q
    · rw [z]
      exact r.sh i d q
  · rcases h i _ e with q | ⟨q, z⟩
    · cases q
    · rw [z]
      exact r.ow i o q
  · rcases h i _ e with q | ⟨q, z⟩
    · cases q
    · rw [z]
      exact r.ex i a q
theorem Rel.wip (r : Rel B F Γ σ H fp) (vs : List Nat) : Rel B F (wipEv vs Γ) (wipe σ vs) H fp := by
  refine r.sub (by rw [wipEv_length, wipe_length]; exact r.len) fun i s e => ?_
  rcases wipEv_get Γ vs i with ⟨h, q⟩ | ⟨h, q⟩
  · rcases q with q | q
    · rw [q] at e
      exact .inl (Option.some.inj e).symm
    · rw [q] at e
      cases e
  · rw [q] at e
    rcases wipe_get σ vs i with ⟨h', _⟩ | ⟨_, q'⟩
    · exact absurd h' h
    · exact .inr ⟨e, q'⟩
/-- behind the block: its slots as they were -/
theorem Rel.back {Γ2 : Ev} {F2 H2 : Hp} {fp2 : Nat → List Addr} {vs : List Nat} (r : Rel B F Γ σ H fp) (ho : noOw Γ vs = true) (x : Same F F2) (r2 : Rel B F2 Γ2 (wipe σ vs) H2 fp2) : Rel B F2 (backEv Γ vs Γ2) σ H2 fp2 := by
  have hl : Γ.length = Γ2.length := by rw [r.len, r2.len, wipe_length]
  refine ⟨r2.bx, r2.fx, by rw [backEv_length, r2.len, wipe_length], fun i d e => ?_, fun i o e => ?_, r2.nb, r2.dj, fun i a e => ?_⟩
  · rcases backEv_get Γ Γ2 hl vs i with ⟨h, q⟩ | ⟨h, q⟩
    · rw [q] at e
      obtain ⟨v, h1, h2⟩ := r.sh i d e
      exact ⟨v, h1, h2.mono x⟩
    · rw [q] at e
      obtain ⟨v, h1, h2⟩ := r2.sh i d e
      rcases wipe_get σ vs i with ⟨h', _⟩ | ⟨_, q'⟩
      · exact absurd h' h
      · exact ⟨v, by rw [← q']; exact h1, h2⟩
  · rcases backEv_get Γ Γ2 hl vs i with ⟨h, q⟩ | ⟨h, q⟩
    · rw [q] at e
      unfold noOw at ho
      rw [List.all_eq_true] at ho
      have := ho i h
      rw [e] at this
      cases this
    · rw [q] at e
      obtain ⟨v, h1, h2⟩ := r2.ow i o e
      rcases wipe_get σ vs i with ⟨h', _⟩ | ⟨_, q'⟩
      · exact absurd h' h
      · exact ⟨v, by rw [← q']; exact h1, h2⟩
  · rcases backEv_get Γ Γ2 hl vs i with ⟨h, q⟩ | ⟨h, q⟩
    · rw [q] at e
      exact r.ex i a e
    · rw [q] at e
      have h1 := r2.ex i a e
      rcases wipe_get σ vs i with ⟨h', _⟩ | ⟨_, q'⟩
      · exact absurd h' h
      · rw [← q']
        exact h1
/-- an own object that no slot holds -/
def OwnV (B F H : Hp) (fp : Nat → List Addr) (v : V) (o : O) : Prop := ∃ f, RO F H v o f ∧ ∀ a ∈ f, B a = none ∧ F a = none ∧ ∀ i, a ∉ fp i
theorem OwnV.rw {v : V} {o : O} (h : OwnV B F H fp v o) : RW B F Γ σ H fp v (.ow o) := by
  obtain ⟨f, h1, h2⟩ := h
  exact .ow h1 h2
theorem RW.own {v : V} {o : O} (h : RW B F Γ σ H fp v (.ow o)) : OwnV B F H fp v o := by
  cases h with
  | ow h1 h2 => exact ⟨_, h1, h2⟩
/-- it is held while something else is worked out -/
theorem Rel.hold {v : V} {o : O} (r : Rel B F Γ σ H fp) (h : OwnV B F H fp v o) :
    ∃ B', Rel B' F Γ σ H fp ∧ ∀ F2 Γ2 σ2 H2 fp2, Ext B' F F2 → Rel B' F2 Γ2 σ2 H2 fp2 → Ext B F F2 ∧ Rel B F2 Γ2 σ2 H2 fp2 ∧ OwnV B F2 H2 fp2 v o := by
  obtain ⟨f, h, hf⟩ := h
  have nB : ∀ a ∈ f, B a = none := fun a ha => (hf a ha).1
  have bb : Same B (frz B H f) := frz_same nB
  have bn : ∀ a, frz B H f a = none → a ∉ f ∧ B a = none := fun a e => by
    have nf : a ∉ f := fun z => by
      unfold frz at e
      rw [if_pos z] at e
      exact h.mem a z e
    refine ⟨nf, ?_⟩
    unfold frz at e
    rw [if_neg nf] at e
    exact e
  refine ⟨frz B H f, ⟨frz_sub r.bx, r.fx, r.len, r.sh, r.ow, fun i a ha => ?_, r.dj, r.ex⟩, fun F2 Γ2 σ2 H2 fp2 x r2 => ⟨⟨x.same, fun a q e => (x.new a q e).imp (fun z => (bn a z).2) id⟩, ⟨bb.trans r2.bx, r2.fx, r2.len, r2.sh, r2.ow, fun i a ha => ?_, r2.dj, r2.ex⟩, f, ?_, fun a ha => ⟨nB a ha, ?_, fun i hi => ?_⟩⟩⟩
  · obtain ⟨b, c, d⟩ := r.nb i a ha
    refine ⟨?_, c, d⟩
    unfold frz
    rw [if_neg fun z => (hf a z).2.2 i ha]
    exact b
  · obtain ⟨b, c, d⟩ := r2.nb i a ha
    exact ⟨(bn a b).2, c, d⟩
  · refine h.mono x.same fun a ha => ?_
    cases q : H a with
    | none => exact absurd q (h.mem a ha)
    | some u => exact r2.bx a u (by unfold frz; rw [if_pos ha]; exact q)
  · cases q : F2 a with
    | none => rfl
    | some u =>
      rcases x.new a (by rw [q]; exact fun z => nomatch z) (hf a ha).2.1 with z | ⟨xs, z⟩
      · exact absurd ha (bn a z).1
      · cases q2 : H a with
        | none => exact absurd q2 (h.mem a ha)
        | some u2 =>
          have e1 := r2.bx a u2 (by unfold frz; rw [if_pos ha]; exact q2)
          rw [r2.fx a _ z] at e1
          cases e1
          exact absurd q2 (h.no_tup a ha xs)
  · exact (bn a (r2.nb i a hi).1).1 ha
/-- an item appended to a list that only this value holds -/
theorem own_app {Dl : Addr} {acc : List D} {y : V} {d : D} (r : Rel B F Γ σ H fp) (h : OwnV B F H fp (.ref Dl) (.l acc)) (hy : Rp F y d) :
    ∃ xs, H Dl = some (.lst xs) ∧ xs.length = acc.length ∧ Rel B F Γ σ (upd H Dl (.lst (xs ++ [y]))) fp ∧ OwnV B F (upd H Dl (.lst (xs ++ [y]))) fp (.ref Dl) (.l (acc ++ [d])) := by
  obtain ⟨f, h, hf⟩ := h
  cases h with
  | @l a xs ds e t =>
    obtain ⟨b1, b2, b3⟩ := hf Dl (by simp)
    refine ⟨xs, e, t.length, ⟨fun a u q => ?_, fun a u q => ?_, r.len, r.sh, fun i o q => ?_, fun i a ha => ?_, r.dj, r.ex⟩, [Dl], .l upd_same (t.append (.cons hy .nil)), hf⟩
    · rw [upd_ne fun z => by subst z; rw [b1] at q; cases q]
      exact r.bx a u q
    · rw [upd_ne fun z => by subst z; rw [b2] at q; cases q]
      exact r.fx a u q
    · obtain ⟨v, h1, h2⟩ := r.ow i o q
      exact ⟨v, h1, h2.mono (Same.refl F) fun a ha => upd_ne fun z => b3 i (by rw [← z]; exact ha)⟩
    · obtain ⟨c1, c2, c3⟩ := r.nb i a ha
      refine ⟨c1, c2, ?_⟩
      rw [upd_ne fun z => b3 i (by rw [← z]; exact ha)]
      exact c3
end

def noEX : EXP := fun _ _ => False
/-- the turns of a list comprehension -/
def lcGo (vs : List Nat) (g : QG) (t : QT) (p : QE) (k : List D → Ev → Prop) : List D → List D → Ev → Prop
  | [], acc, Γ => k acc Γ
  | d :: r, acc, Γ => g (.sh d) Γ fun Γ1 => t Γ1 (fun b Γ2 => Cif b (p Γ2 (fun w Γ3 => shr w Γ3 fun y Γ4 => acc.length < sizeLine ∧ lcGo vs g t p k r (acc ++ [y]) (wipEv vs Γ4)) noEX) (lcGo vs g t p k r acc (wipEv vs Γ2))) noEX
def qLc (vs : List Nat) (i : QI) (g : QG) (t : QT) (p : QE) : QE := fun Γ R E => i Γ (fun ds Γ1 => noOw Γ1 vs = true ∧ lcGo vs g t p (fun acc Γ2 => R (.ow (.l acc)) (backEv Γ1 vs Γ2)) ds [] (wipEv vs Γ1)) E
section
variable {W : WX} {wi : TI} {qi : QI} {g : TG} {qg : QG} {js : List Nat} {tt : TT} {qt : QT} {te : TE} {qe : QE} {vs : List Nat}
theorem afe_no {W : WX} {B F : Hp} {σ : L2.St} : AfE W B F σ noEX := fun _ _ _ _ _ _ _ h => h.elim
theorem se_lc (hi : SI W wi qi) (hg : SG g qg js) (ht : ST (fun _ _ _ _ => False) tt qt) (he : SE (fun _ _ _ _ => False) te qe) (hj : ∀ j ∈ js, j ∈ vs) : SE W (tLc wi g tt te vs) (qLc vs qi qg qt qe) := fun {B F Γ σ H fp} R EX Q r q k e => by
  refine hi _ _ _ r q (fun ds Γ1 J F1 H1 fp1 x1 r1 ok h1 => ?_) e
  obtain ⟨ho, h1⟩ := h1
  intro Dl hD
  have r2 : Rel B F1 (wipEv vs Γ1) (wipe σ vs) H1 fp1 := r1.wip vs
  obtain ⟨r3, v3⟩ := new_lst r2 (.nil) hD
  refine ⟨fun i m H' => m + i = ds.length ∧ ∃ Γ' F' fp' acc, Ext B F1 F' ∧ Rel B F' Γ' (wipe σ vs) H' fp' ∧ OwnV B F' H' fp' (.ref Dl) (.l acc) ∧
    lcGo vs qg qt qe (fun acc Γ2 => R (.ow (.l acc)) (backEv Γ1 vs Γ2)) (ds.drop i) acc Γ', ⟨ds.length, rfl, _, F1, fp1, [], .refl, r3, v3.own, h1⟩, ?_⟩
  rintro i m H' ⟨hm, Γ', F', fp', acc, x, r', v', hf⟩
  obtain ⟨o1, o2⟩ := ok B F' Γ' _ H' fp' x.same r' i
  by_cases hlt : i < ds.length
  · obtain ⟨B', rB, gd⟩ := r'.hold v'
    obtain ⟨go, yld⟩ := (ok B' F' Γ' _ H' fp' x.same rB i).1 ds[i] (List.getElem?_eq_getElem hlt)
    refine .inr ⟨go, fun H2 => ∃ m', m' < m ∧ (m' + (i + 1) = ds.length ∧ ∃ Γ' F' fp' acc, Ext B F1 F' ∧ Rel B F' Γ' (wipe σ vs) H2 fp' ∧ OwnV B F' H2 fp' (.ref Dl) (.l acc) ∧
      lcGo vs qg qt qe (fun acc Γ2 => R (.ow (.l acc)) (backEv Γ1 vs Γ2)) (ds.drop (i + 1)) acc Γ'), fun H2 h => h, fun y H2 hy => ?_⟩
    obtain ⟨F2, x2, r2, b2⟩ := yld y H2 hy
    rw [List.drop_eq_getElem_cons hlt] at hf
    refine hg _ _ r2 (.sh b2) hf fun Γ3 F3 σ3 fp3 x3 r3 c3 h3 => ?_
    have hw : wipe σ3 vs = wipe σ vs := wipe_chg c3 hj
    refine ⟨hw, ht _ noEX _ r3 h3 (fun b Γ4 F4 H4 fp4 x4 r4 h4 => ?_) afe_no⟩
    have x24 := (x2.trans x3).trans x4
    cases b with
    | true =>
      refine he _ noEX _ r4 (h4.t rfl) (fun w5 Γ5 z F5 H5 fp5 x5 r5 v5 h5 => ?_) afe_no
      obtain ⟨d6, Γ6, F6, fp6, x6, r6, b6, hsz, h6⟩ := shr_ok r5 v5 h5
      have r7 := r6.wip vs
      rw [hw] at r7
      obtain ⟨y8, r8, v8⟩ := gd F6 _ _ H5 fp6 ((x24.trans x5).trans x6) r7
      obtain ⟨xs, e9, l9, r9, v9⟩ := own_app r8 v8 b6
      exact ⟨xs, e9, by rw [l9]; exact hsz, m - 1, by omega, by omega, _, F6, fp6, _, x.trans y8, r9, v9, h6⟩
    | false =>
      have r7 := r4.wip vs
      rw [hw] at r7
      obtain ⟨y8, r8, v8⟩ := gd F4 _ _ H4 fp4 x24 r7
      exact ⟨m - 1, by omega, by omega, _, F4, fp4, acc, x.trans y8, r8, v8, h4.f rfl⟩
  · refine .inl ⟨o2 (by omega), ?_⟩
    rw [List.drop_of_length_le (by omega)] at hf
    exact k _ _ _ F' H' fp' (x1.trans x) (r1.back ho x.same r') v'.rw hf
end

section
variable {X : Cx} {W : WX} {pos : Pos} {e tg iter elt : Expr} {wi : TI} {qi : QI} {g : TG} {qg : QG} {js : List Nat} {tt : TT} {qt : QT} {te : TE} {qe : QE} {ifs : List Expr} {scope : Scope} {own : List (Str × Nat)}
abbrev W0 : WX := fun _ _ _ _ => False
structure DTs (X : Cx) (W : WX) (ifs : List Expr) (tt : TT) (p : QT) : Prop where
  pt : PTs X ifs tt
  st : ST W tt p
def qYes : QT := fun Γ R _ => R true Γ
theorem dts_nil : DTs X W [] tYes qYes := ⟨pts_nil, fun {B F Γ σ H fp} R EX Q r h k _ => k true Γ F H fp .refl r h⟩
theorem dts_one {c : Expr} (h : DT X W c tt qt) : DTs X W [c] tt qt := ⟨pts_one h.pt, h.st⟩
theorem d_lc (hc : X.calm = true) (hN : X.N.Nodup) (hi : DI X W tg iter wi qi) (ok : BlkOk X.N X.env.scope scope own)
    (hg : ∀ (s : Shared) (H : Hp) (C : Addr) (cl : List (Str × Addr)) (fp : List Addr), DG (X.blk s H scope (compEnvC scope cl C X.env) fp) tg g qg js)
    (ht : ∀ (s : Shared) (H : Hp) (C : Addr) (cl : List (Str × Addr)) (fp : List Addr), DTs (X.blk s H scope (compEnvC scope cl C X.env) fp) W0 ifs tt qt)
    (he : ∀ (s : Shared) (H : Hp) (C : Addr) (cl : List (Str × Addr)) (fp : List Addr), DE (X.blk s H scope (compEnvC scope cl C X.env) fp) W0 elt te qe) (hj : (∀ j ∈ js, j ∈ own.map (·.2)) := by decide) (hs : ∀ x, foldedSetIterable iter X.env x = pure x := by intro _; rfl) :
    DE X W (.ListComp elt [⟨tg, iter, ifs, 0⟩] scope pos) (tLc wi g tt te (own.map (·.2))) (qLc (own.map (·.2)) qi qg qt qe) :=
  ⟨pe_lc hc hN hi.pi ok (fun s H C cl fp => (hg s H C cl fp).pg) (fun s H C cl fp => (ht s H C cl fp).pt) (fun s H C cl fp => (he s H C cl fp).pe) hs,
   se_lc hi.si (hg ({} : Shared) (fun _ => none) 0 [] []).sg (ht ({} : Shared) (fun _ => none) 0 [] []).st (he ({} : Shared) (fun _ => none) 0 [] []).se hj⟩
/-- name = [..] on one line -/
theorem ds_setLc {i : Nat} {y : Str} {py spos : Pos} (hc : X.calm = true) (hN : X.N.Nodup) (hi : DI X W tg iter wi qi) (ok : BlkOk X.N X.env.scope scope own)
    (hg : ∀ (s : Shared) (H : Hp) (C : Addr) (cl : List (Str × Addr)) (fp : List Addr), DG (X.blk s H scope (compEnvC scope cl C X.env) fp) tg g qg js)
    (ht : ∀ (s : Shared) (H : Hp) (C : Addr) (cl : List (Str × Addr)) (fp : List Addr), DTs (X.blk s H scope (compEnvC scope cl C X.env) fp) W0 ifs tt qt)
    (he : ∀ (s : Shared) (H : Hp) (C : Addr) (cl : List (Str × Addr)) (fp : List Addr), DE (X.blk s H scope (compEnvC scope cl C X.env) fp) W0 elt te qe)
    (hsw : swapsWith (.ListComp elt [⟨tg, iter, ifs, 0⟩] scope pos) (some (.Name y py)) spos.line X.env = pure true)
    (hy : X.N[i]? = some y := by rfl) (hyl : X.env.scope.names.lookup y = some .local := by rfl) (hj : (∀ j ∈ js, j ∈ own.map (·.2)) := by decide) (hs : ∀ x, foldedSetIterable iter X.env x = pure x := by intro _; rfl) :
    DS X W (.Assign [.Name y py] (.ListComp elt [⟨tg, iter, ifs, 0⟩] scope pos) spos) (tAsg (tLc wi g tt te (own.map (·.2))) (gName i)) (qAsg (qLc (own.map (·.2)) qi qg qt qe) (qgN i)) :=
  ⟨ps_setLc hc hN hy hyl hsw hi.pi ok (fun s H C cl fp => (hg s H C cl fp).pg) (fun s H C cl fp => (ht s H C cl fp).pt) (fun s H C cl fp => (he s H C cl fp).pe) hs,
   ss_asg (se_lc hi.si (hg ({} : Shared) (fun _ => none) 0 [] []).sg (ht ({} : Shared) (fun _ => none) 0 [] []).st (he ({} : Shared) (fun _ => none) 0 [] []).se hj) sg_name⟩
end
end PL

namespace PL
open PySem PySem.Spec PyProof.Rows L2

/-! ### a def's promise, over data -/
abbrev PD := List D → (Wv → Prop) → Prop
inductive RR (B F H : Hp) (v : V) : Wv → Prop
  | sh {d : D} : Rp F v d → RR B F H v (.sh d)
  | ow {o : O} {f : List Addr} : RO F H v o f → (∀ a ∈ f, B a = none ∧ F a = none) → RR B F H v (.ow o)
/-- own cells of slots that hold own objects, and no others -/
def normF (Γ : Ev) (fp : Nat → List Addr) : Nat → List Addr := fun i => match Γ[i]? with
  | some (.ow _) => fp i
  | _ => []
theorem normF_ow {Γ : Ev} {fp : Nat → List Addr} {i : Nat} {o : O} (e : Γ[i]? = some (.ow o)) : normF Γ fp i = fp i := by
  unfold normF
  rw [e]
theorem normF_mem {Γ : Ev} {fp : Nat → List Addr} {i : Nat} {a : Addr} (h : a ∈ normF Γ fp i) : a ∈ fp i ∧ ∃ o, Γ[i]? = some (.ow o) := by
  unfold normF at h
  split at h
  · rename_i o e
    exact ⟨h, o, e⟩
  · exact (List.not_mem_nil h).elim
theorem Rel.norm {B F : Hp} {Γ : Ev} {σ : L2.St} {H : Hp} {fp : Nat → List Addr} (r : Rel B F Γ σ H fp) : Rel B F Γ σ H (normF Γ fp) :=
  ⟨r.bx, r.fx, r.len, r.sh, fun i o e => by rw [normF_ow e]; exact r.ow i o e, fun i a ha => r.nb i a (normF_mem ha).1, fun i j a h1 h2 => r.dj i j a (normF_mem h1).1 (normF_mem h2).1, r.ex⟩
theorem Rel.no_tup {B F : Hp} {Γ : Ev} {σ : L2.St} {H : Hp} {fp : Nat → List Addr} (r : Rel B F Γ σ H fp) {i : Nat} {a : Addr} (h : a ∈ normF Γ fp i) : ∀ xs, H a ≠ some (.tup xs) := by
  obtain ⟨h1, o, e⟩ := normF_mem h
  obtain ⟨v, _, g⟩ := r.ow i o e
  exact g.no_tup a h1
def spD (n : Nat) (p : PD) : Sp := fun vs H Q _ => ∃ (F : Hp) (ds : List D) (R : Wv → Prop), Same F H ∧ RpA F vs ds ∧ ds.length = n ∧ p ds R ∧ ∀ w v F' H', Ext H F F' → Same H H' → Same F' H' → RR H F' H' v w → R w → Q v H'
def qCall (n : Nat) (p : PD) (a : QA) : QE := fun Γ R E => a Γ (fun ds Γ1 => ds.length = n ∧ p ds fun w => R w Γ1) E
theorem se_call {W : WX} {ta : TA} {pa : QA} {n : Nat} {p : PD} {E : XK} (ha : SA W ta pa) : SE W (tCall (spD n p) [] E ta) (qCall n p pa) := fun {B F Γ σ H fp} R EX Q r q k e => by
  refine ha _ _ _ r q (fun ds Γ1 vs F1 H1 fp1 x1 r1 b1 h1 => ?_) e
  rw [List.append_nil]
  refine ⟨F1, ds, _, r1.fx, b1, h1.1, h1.2, fun w v F2 H2 x2 s2 f2 rr hw => ?_⟩
  have nf : ∀ i a, a ∈ normF Γ1 fp1 i → F2 a = none := fun i a hi => by
    obtain ⟨_, e, h⟩ := r1.nb i a (normF_mem hi).1
    cases z : F2 a with
    | none => rfl
    | some u =>
      rcases x2.new a (by rw [z]; exact fun z => nomatch z) e with q | ⟨xs, q⟩
      · exact absurd q h
      · cases q2 : H1 a with
        | none => exact absurd q2 h
        | some u2 =>
          have e1 := s2 a u2 q2
          rw [f2 a _ q] at e1
          cases e1
          exact absurd q2 (r1.no_tup hi xs)
  have r1 := r1.norm
  have r2 : Rel B F2 Γ1 σ H2 (normF Γ1 fp1) := ⟨r1.bx.trans s2, f2, r1.len, fun i d e => by
    obtain ⟨v, g1, g2⟩ := r1.sh i d e
    exact ⟨v, g1, g2.mono x2.same⟩, fun i o e => by
    obtain ⟨v, g1, g2⟩ := r1.ow i o e
    refine ⟨v, g1, g2.mono x2.same fun a ha => ?_⟩
    cases z : H1 a with
    | none => exact absurd z (r1.nb i a ha).2.2
    | some u => exact s2 a u z, fun i a ha => by
    obtain ⟨b, c, d⟩ := r1.nb i a ha
    refine ⟨b, nf i a ha, fun z => d (s2.free z)⟩, r1.dj, r1.ex⟩
  have xx : Ext B F1 F2 := ⟨x2.same, fun a h e => (x2.new a h e).imp (fun z => r1.bx.free z) id⟩
  refine k w Γ1 v F2 H2 _ (x1.trans xx) r2 ?_ hw
  cases rr with
  | sh h => exact .sh h
  | @ow o f h hf =>
    refine .ow h fun a ha => ⟨r1.bx.free (hf a ha).1, (hf a ha).2, fun i hi => ?_⟩
    exact (r1.nb i a hi).2.2 (hf a ha).1
/-- a def that may be called by its name -/
structure Cal (P : Program) (w : World) (K : PySem.W.Frag) (mg : Str → Option Value) (base : Heap) (k : Nat) (x : Str) (sp : Sp) : Prop where
  ex : ∃ (f : Addr) (fd : FuncData) (ps : List Str), FnOk P w K mg base CX0 k f fd ps sp ∧ mg x = some (.ref f) ∧ PySem.W.keepIn K (.ref f) = true ∧ Binds K fd ps []
section
variable {X : Cx} {W : WX} {pos p : Pos} {e : Expr} {es : List Expr} {ta : TA} {pa : QA} {n : Nat} {q : PD} {x : Str} {j k : Nat}
theorem d_call (c : Cal X.prog X.w X.K X.mg X.base k x (spD n q)) (hr : Room j X.A) (ha : DA X W (e :: es) ta pa) (hk : k ≤ j := by decide) (hg : Gl X x := by rfl) (hdb : (x == ("__debug__" : Str)) = false := by decide)
    (he : starEach (e :: es) X.env = (false, eval e X.env) :: starEach es X.env := by rfl) (hpl : (backTo pos (starEach es X.env)).any (·.1) = false := by rfl) :
    DE X W (.Call (.Name x p) (e :: es) [] pos) (tCall (spD n q) [] E0 ta) (qCall n q pa) := ⟨by
  obtain ⟨f, fd, ps, F, hm, kp, b⟩ := c.ex
  exact pe_call F (hr.mono hk) hg hm kp b .nil pass0 ha.pa hdb he hpl, se_call ha.sa⟩
theorem d_call0 (c : Cal X.prog X.w X.K X.mg X.base k x (spD n q)) (hr : Room j X.A) (hk : k ≤ j := by decide) (hg : Gl X x := by rfl) (hdb : (x == ("__debug__" : Str)) = false := by decide) :
    DE X W (.Call (.Name x p) [] [] pos) (tCall (spD n q) [] E0 tNil) (qCall n q qNil) := ⟨by
  obtain ⟨f, fd, ps, F, hm, kp, b⟩ := c.ex
  exact pe_call0 F (hr.mono hk) hg hm kp b .nil pass0 hdb, se_call (fun {B F Γ σ H fp} R EX Q r h k _ => k [] Γ [] F H fp .refl r .nil h)⟩
end
/-- the ends of a def -/
def retW (R : Wv → Prop) : Wv → Ev → Prop := fun w Γ => match w with
  | .sh d => R (.sh d)
  | .ow o => R (.ow o)
  | .at i => match Γ[i]? with
    | some (.sh d) => R (.sh d)
    | some (.ow o) => R (.ow o)
    | _ => False
def endsOf (R : Wv → Prop) : PEnds := ⟨fun _ => R (.sh .none), retW R, fun _ => False, fun _ => False, fun _ _ => False⟩
def startEv (n : Nat) (ds : List D) : Ev := ds.map .sh ++ List.replicate (n - ds.length) .un
theorem rel_start {F H : Hp} {N : List Str} {vs : List V} {ds : List D} (f : Same F H) (b : RpA F vs ds) (hl : ds.length ≤ N.length) : Rel H F (startEv N.length ds) (L2.start N vs) H (fun _ => []) := by
  have e := b.length
  refine ⟨Same.refl H, f, by simp [startEv, L2.start, e], fun i d q => ?_, fun i o q => ?_, fun i a h => by simp at h, fun i j a h => by simp at h, fun i a q => ?_⟩
  · unfold startEv at q
    rw [List.getElem?_append] at q
    split at q
    · rename_i hi
      rw [List.getElem?_map] at q
      cases z : ds[i]? with
      | none =>
        rw [z] at q
        cases q
      | some d' =>
        rw [z] at q
        cases q
        obtain ⟨v, g1, g2⟩ := b.get z
        refine ⟨v, ?_, g2⟩
        unfold L2.start
        rw [List.getElem?_append_left (by simpa [e] using hi), List.getElem?_map, g1]
        rfl
    · rw [List.getElem?_replicate] at q
      split at q <;> cases q
  · unfold startEv at q
    rw [List.getElem?_append] at q
    split at q
    · rw [List.getElem?_map] at q
      cases z : ds[i]? with
      | none =>
        rw [z] at q
        cases q
      | some d' =>
        rw [z] at q
        cases q
    · rw [List.getElem?_replicate] at q
      split at q <;> cases q
  · unfold startEv at q
    rw [List.getElem?_append] at q
    split at q
    · rw [List.getElem?_map] at q
      cases z : ds[i]? with
      | none =>
        rw [z] at q
        cases q
      | some d' =>
        rw [z] at q
        cases q
    · rw [List.getElem?_replicate] at q
      split at q <;> cases q
section
variable {P : Program} {w : World} {K : PySem.W.Frag} {mg : Str → Option Value} {base : Heap}
/-- the binding of n positional arguments -/
theorem cal_mk {x : Str} {st : Stmt} {f : Addr} {fd : FuncData} {N ps : List Str} {k : Nat} {q : PD} (F : L2.Fun K x x st f fd) (hm : mg x = some (.ref f)) (b : Binds K fd ps []) (S : L2.FnScope N ps (L2.defScope st))
    (hbody : ∀ (cdv : Value) (A : Around) (outer : List Env) (s : Shared) (H : Hp) (E : XK), Room k (A.deeper (envOfC x (L2.defScope st) s.heap.objs.size f cdv)) →
      ∃ t p', DSs (cxOf CX0 P w K mg base N x (L2.defScope st) f cdv A outer s H E).nox W0 (L2.defBody st) t p' ∧ ∀ ds R, ds.length = ps.length → q ds R → p' (endsOf R) (startEv N.length ds)) :
    Cal P w K mg base (k + 1) x (spD ps.length q) := by
  have hN : ps.length ≤ N.length := by
    have := congrArg List.length S.pre
    rw [List.length_take] at this
    omega
  refine ⟨f, fd, ps, L2.Fun.ok F S (fun vs H Q E h => ?_) fun cdv A outer s H vs Q E hr h => ?_, hm, F.kp, b⟩
  · obtain ⟨F, ds, R, _, b, hl, _⟩ := h
    rw [b.length, hl]
  · obtain ⟨t, p', hd, hq⟩ := hbody cdv A outer s H E hr
    obtain ⟨F0, ds, R, f0, b, hl, h1, h2⟩ := h
    refine ⟨t, hd.ps, hd.ss (endsOf R) _ (rel_start f0 b (by omega)) (hq ds R hl h1) ⟨fun Γ' F' σ' H' fp' x r z => ?_, fun w Γ' v F' σ' H' fp' x r rw z => ?_, fun _ _ _ _ _ _ _ z => z.elim, fun _ _ _ _ _ _ _ z => z.elim, fun _ _ _ _ _ _ _ _ z => z.elim⟩⟩
    · exact h2 _ _ F' H' x r.bx r.fx (.sh .non) z
    · cases rw with
      | sh h => exact h2 _ _ F' H' x r.bx r.fx (.sh h) z
      | ow h hf => exact h2 _ _ F' H' x r.bx r.fx (.ow h fun a ha => ⟨(hf a ha).1, (hf a ha).2.1⟩) z
      | @«at» i h =>
        unfold endsOf retW at z
        simp only at z
        split at z
        · rename_i d e
          obtain ⟨u, g1, g2⟩ := r.sh i d e
          rw [h] at g1
          cases g1
          exact h2 _ _ F' H' x r.bx r.fx (.sh g2) z
        · rename_i o e
          obtain ⟨u, g1, g2⟩ := r.ow i o e
          rw [h] at g1
          cases g1
          exact h2 _ _ F' H' x r.bx r.fx (.ow g2 fun a ha => ⟨(r.nb i a ha).1, (r.nb i a ha).2.1⟩) z
        · exact z.elim
end

/-! ### operators -/
section
variable {X : Cx}
theorem OpS.or {r r' : R2} {o : OP2} (h : OpS r o) : OpS (fun x y H Q => r x y H Q ∨ r' x y H Q) o := fun {B F Γ σ H fp x y d1 d2} k Q rr b1 b2 z c => .inl (h k Q rr b1 b2 z c)
/-- a scalar result -/
theorem op_sc {B F : Hp} {Γ : Ev} {σ : L2.St} {H : Hp} {fp : Nat → List Addr} {k : Wv → Prop} {Q : VK} {v : V} {d : D} (r : Rel B F Γ σ H fp) (h : Rp F v d) (c : ∀ w v F' H', Ext B F F' → Rel B F' Γ σ H' fp → RW B F' Γ σ H' fp v w → k w → Q v H') (z : k (.sh d)) : Q v H :=
  c _ v F H .refl r (.sh h) z

def rAdd : R2 := fun x y H Q => rI0 (fun i j => .int (i + j)) x y H Q ∨ (∃ i j, x = .str i ∧ y = .str j ∧ i.length + j.length ≤ sizeLine ∧ Q (.str (i ++ j)) H) ∨ rCat x y H Q
def rAddT (K : PySem.W.Frag) : R2 := fun x y H Q => rAdd x y H Q ∨ rCatA K x y H Q
theorem or_add : OpR X (binaryOp .Add) (rAddT X.K) := OpR.or (OpR.or op_add (OpR.or op_add_str op_cat)) op_catA
def opAdd : OP2 := fun d1 d2 k => match d1, d2 with
  | .int i, .int j => k (.sh (.int (i + j)))
  | .str a, .str b => a.length + b.length ≤ sizeLine ∧ k (.sh (.str (a ++ b)))
  | .list xs, .list ys => xs.length + ys.length ≤ sizeLine ∧ k (.ow (.l (xs ++ ys)))
  | .tuple xs, .tuple ys => xs.length + ys.length ≤ sizeLine ∧ k (.sh (.tuple (xs ++ ys)))
  | _, _ => False
theorem strOk_app {a b : Str} (h : PyData.strOk a = true) (h' : PyData.strOk b = true) : PyData.strOk (a ++ b) = true := by
  show (a.cps ++ b.cps).all (· < 0x110000) = true
  rw [Array.all_append]
  exact Bool.and_eq_true_iff.mpr ⟨h, h'⟩
theorem os_add {K : PySem.W.Frag} : OpS (rAddT K) opAdd := fun {B F Γ σ H fp x y d1 d2} k Q r b1 b2 z c => by
  cases b1 with
  | int i =>
    cases b2 with
    | int j => exact .inl (.inl ⟨i, j, rfl, rfl, op_sc r (.int _) c z⟩)
    | _ => exact z.elim
  | str a ha =>
    cases b2 with
    | str b hb => exact .inl (.inr (.inl ⟨a, b, rfl, rfl, z.1, op_sc r (.str _ (strOk_app ha hb)) c z.2⟩))
    | _ => exact z.elim
  | @lst a xs ds e t =>
    cases b2 with
    | @lst b ys es e' t' =>
      refine .inl (.inr (.inr ⟨a, b, xs, ys, rfl, rfl, e, e', by rw [t.length, t'.length]; exact z.1, fun p hp => ?_⟩))
      obtain ⟨r', v'⟩ := new_lst r (t.append t') hp
      exact c _ _ F _ .refl r' v' z.2
    | _ => exact z.elim
  | @tup a xs ds e e0 t =>
    cases b2 with
    | @tup b ys es e' e0' t' =>
      refine .inr ⟨a, b, xs, ys, rfl, rfl, .inl (.inl e0), .inl (.inl e0'), by rw [t.length, t'.length]; exact z.1, fun h => ?_, fun h h' => ?_, fun h h' p hp => ?_⟩
      · subst h
        cases t
        exact c _ _ F H .refl r (.sh (.tup e' t')) z.2
      · subst h'
        cases t'
        have z2 := z.2
        rw [List.append_nil] at z2
        exact c _ _ F H .refl r (.sh (.tup e t)) z2
      · obtain ⟨x', r', v'⟩ := new_tup r (t.append t') hp
        exact c _ _ _ _ x' r' v' z.2
    | _ => exact z.elim
  | _ => cases b2 <;> exact z.elim
theorem d_add {W : WX} {pos : Pos} {a b : Expr} {ta tb : TE} {pa pb : QE} (ha : DE X W a ta pa) (hb : DE X W b tb pb) : DE X W (.BinOp a .Add b pos) (tOp (rAddT X.K) ta tb) (qOp opAdd pa pb) := d_op or_add os_add ha hb

/-- two ints -/
def opI2 (C : Int → Int → Prop) (f : Int → Int → D) : OP2 := fun d1 d2 k => match d1, d2 with
  | .int i, .int j => C i j ∧ k (.sh (f i j))
  | _, _ => False
theorem os_I {C : Int → Int → Prop} {g : Int → Int → V} {f : Int → Int → D} (h : ∀ F i j, Rp F (g i j) (f i j)) : OpS (rI C g) (opI2 C f) := fun {B F Γ σ H fp x y d1 d2} k Q r b1 b2 z c => by
  cases b1 with
  | int i =>
    cases b2 with
    | int j => exact ⟨i, j, rfl, rfl, z.1, op_sc r (h F i j) c z.2⟩
    | _ => exact z.elim
  | _ => cases b2 <;> exact z.elim
def opI20 (f : Int → Int → D) : OP2 := fun d1 d2 k => match d1, d2 with
  | .int i, .int j => k (.sh (f i j))
  | _, _ => False
theorem os_I0 {g : Int → Int → V} {f : Int → Int → D} (h : ∀ F i j, Rp F (g i j) (f i j)) : OpS (rI0 g) (opI20 f) := fun {B F Γ σ H fp x y d1 d2} k Q r b1 b2 z c => by
  cases b1 with
  | int i =>
    cases b2 with
    | int j => exact ⟨i, j, rfl, rfl, op_sc r (h F i j) c z⟩
    | _ => exact z.elim
  | _ => cases b2 <;> exact z.elim
variable {W : WX} {pos : Pos} {a b : Expr} {ta tb : TE} {pa pb : QE}
abbrev opSub : OP2 := opI20 fun i j => .int (i - j)
theorem d_sub (ha : DE X W a ta pa) (hb : DE X W b tb pb) : DE X W (.BinOp a .Sub b pos) (tOp (rI0 fun i j => .int (i - j)) ta tb) (qOp opSub pa pb) := d_op op_sub (os_I0 fun _ _ _ => .int _) ha hb
abbrev opMod : OP2 := opI2 (fun _ j => 0 < j) fun i j => .int (i % j)
theorem d_mod (ha : DE X W a ta pa) (hb : DE X W b tb pb) : DE X W (.BinOp a .Mod b pos) (tOp (rI (fun _ j => 0 < j) fun i j => .int (i % j)) ta tb) (qOp opMod pa pb) := d_op op_mod (os_I fun _ _ _ => .int _) ha hb
abbrev opFdiv : OP2 := opI2 CDiv fun i j => .int (i / j)
theorem d_fdiv (ha : DE X W a ta pa) (hb : DE X W b tb pb) : DE X W (.BinOp a .FloorDiv b pos) (tOp (rI CDiv fun i j => .int (i / j)) ta tb) (qOp opFdiv pa pb) := d_op op_fdiv (os_I fun _ _ _ => .int _) ha hb
abbrev opPow : OP2 := opI2 CPow fun i j => .int (i ^ j.toNat)
theorem d_pow (ha : DE X W a ta pa) (hb : DE X W b tb pb) : DE X W (.BinOp a .Pow b pos) (tOp (rI CPow fun i j => .int (i ^ j.toNat)) ta tb) (qOp opPow pa pb) := d_op op_pow (os_I fun _ _ _ => .int _) ha hb
/-- -x -/
def opNeg : OP1 := fun d k => match d with
  | .int i => k (.sh (.int (-i)))
  | _ => False
theorem us_neg : UnS (rU fun i => .int (-i)) opNeg := fun {B F Γ σ H fp x d} k Q r b z c => by
  cases b with
  | int i => exact ⟨i, rfl, op_sc r (.int _) c z⟩
  | _ => exact z.elim
theorem d_neg (ha : DE X W a ta pa) : DE X W (.UnaryOp .USub a pos) (tUn (rU fun i => .int (-i)) ta) (qUn opNeg pa) := d_un un_neg us_neg ha

/-! ### int * int, text * int, list * int -/
def rMulStr : R2 := fun x y H Q => ∃ a n, x = .str a ∧ y = .int n ∧ MulOk a n ∧ Q (.str (Txt.mul a n)) H
theorem op_mulStr : OpR X (binaryOp .Mult) rMulStr := by
  intro pins s σ H x y v u Q I rx ry h
  obtain ⟨a, n, rfl, rfl, ok, q⟩ := h
  obtain ⟨t, rfl⟩ := rx
  obtain ⟨t', rfl⟩ := ry
  exact SB.mul ok fun t2 k => ⟨.str _, H, I.tok _, ⟨_, rfl⟩, q⟩
def rMul : R2 := fun x y H Q => (rI CMul (fun i j => .int (i * j)) x y H Q ∨ rMulStr x y H Q) ∨ rRep x y H Q
theorem or_mul : OpR X (binaryOp .Mult) rMul := OpR.or (OpR.or op_mul op_mulStr) op_rep
def opMul : OP2 := fun d1 d2 k => match d1, d2 with
  | .int i, .int j => CMul i j ∧ k (.sh (.int (i * j)))
  | .str a, .int n => n < 2 ^ 20 ∧ -(2 ^ 20) < n ∧ a.length * n.toNat ≤ 2 ^ 20 ∧ k (.sh (.str (Txt.mul a n)))
  | .list xs, .int n => n < 2 ^ 20 ∧ -(2 ^ 20) < n ∧ xs.length * n.toNat ≤ 2 ^ 20 ∧ k (.ow (.l (List.replicate n.toNat xs).flatten))
  | _, _ => False
theorem mulOk_of {a : Str} {n : Int} (h1 : n < 2 ^ 20) (h2 : -(2 ^ 20) < n) (h3 : a.length * n.toNat ≤ 2 ^ 20) : MulOk a n := by
  refine ⟨?_, fun h _ => ?_, fun h _ => ?_⟩
  · rw [decide_eq_false (by omega), decide_eq_false (by omega)]
    rfl
  · intro z
    have hn : 1 ≤ n := by omega
    have e : (a.length : Int) ≤ 2 ^ 20 := by
      have : a.length * 1 ≤ a.length * n.toNat := Nat.mul_le_mul_left _ (by omega)
      omega
    have e2 : (2 ^ 63 - 1) / n ≥ (2 ^ 63 - 1) / 2 ^ 20 := by
      apply Int.le_ediv_of_mul_le (by omega)
      have : ((2 ^ 63 - 1) / 2 ^ 20 : Int) * n ≤ ((2 ^ 63 - 1) / 2 ^ 20) * 2 ^ 20 := Int.mul_le_mul_of_nonneg_left (by omega) (by decide)
      omega
    omega
  · unfold Builtin.Str.tooLong
    exact decide_eq_false (by
      have : (sizeLine : Nat) = 16777216 := by decide
      omega)
theorem strOk_mul {a : Str} (h : PyData.strOk a = true) (n : Int) : PyData.strOk (Txt.mul a n) = true := by
  unfold Txt.mul
  split
  · decide +kernel
  · split
    · exact h
    · have f : ∀ (m : Nat) (x : Array Nat), x.all (· < 0x110000) = true → ((List.replicate m a.cps).foldl (· ++ ·) x).all (· < 0x110000) = true := by
        intro m
        induction m with
        | zero => intro x hx; exact hx
        | succ m ih =>
          intro x hx
          rw [List.replicate_succ, List.foldl_cons]
          exact ih _ (by rw [Array.all_append]; exact Bool.and_eq_true_iff.mpr ⟨hx, h⟩)
      exact f _ _ (by decide +kernel)
theorem os_mul : OpS rMul opMul := fun {B F Γ σ H fp x y d1 d2} k Q r b1 b2 z c => by
  cases b1 with
  | int i =>
    cases b2 with
    | int j => exact .inl (.inl ⟨i, j, rfl, rfl, z.1, op_sc r (.int _) c z.2⟩)
    | _ => exact z.elim
  | str a ha =>
    cases b2 with
    | int n => exact .inl (.inr ⟨a, n, rfl, rfl, mulOk_of z.1 z.2.1 z.2.2.1, op_sc r (.str _ (strOk_mul ha n)) c z.2.2.2⟩)
    | _ => exact z.elim
  | @lst a xs ds e t =>
    cases b2 with
    | int n =>
      obtain ⟨z1, z2, z3, z4⟩ := z
      refine .inr ⟨a, n, xs, rfl, rfl, e, by omega, by omega, by rw [t.length]; exact Nat.le_trans z3 (by decide), fun p hp => ?_⟩
      obtain ⟨r', v'⟩ := new_lst r (t.rep n.toNat) hp
      exact c _ _ F _ .refl r' v' z4
    | _ => exact z.elim
  | _ => cases b2 <;> exact z.elim
theorem d_mul (ha : DE X W a ta pa) (hb : DE X W b tb pb) : DE X W (.BinOp a .Mult b pos) (tOp rMul ta tb) (qOp opMul pa pb) := d_op or_mul os_mul ha hb

/-! ### comparisons -/
def opEq : OP2 := fun d1 d2 k => (flat 60 d1 && flat 60 d2) = true ∧ k (.sh (.bool (PyData.eqv d1 d2)))
def opNe : OP2 := fun d1 d2 k => (flat 60 d1 && flat 60 d2) = true ∧ k (.sh (.bool (!PyData.eqv d1 d2)))
theorem os_eq {K : PySem.W.Frag} : OpS (rEqD K) opEq := fun {B F Γ σ H fp x y d1 d2} k Q r b1 b2 z c => by
  obtain ⟨f1, f2⟩ := Bool.and_eq_true_iff.mp z.1
  have q1 := b1.rp r.fx
  have q2 := b2.rp r.fx
  exact ⟨d1, d2, q1.dpf f1, q2.dpf f2, q1.shaped f1, q2.shaped f2, op_sc r (.bl _) c z.2⟩
theorem os_ne {K : PySem.W.Frag} : OpS (rNeD K) opNe := fun {B F Γ σ H fp x y d1 d2} k Q r b1 b2 z c => by
  obtain ⟨f1, f2⟩ := Bool.and_eq_true_iff.mp z.1
  have q1 := b1.rp r.fx
  have q2 := b2.rp r.fx
  exact ⟨d1, d2, q1.dpf f1, q2.dpf f2, q1.shaped f1, q2.shaped f2, op_sc r (.bl _) c z.2⟩
theorem or_eq {j : Nat} (hr : Room j X.A) : OpR X (compareOp .Eq) (rEqD X.K) := op_eqD hr.units
theorem or_ne {j : Nat} (hr : Room j X.A) : OpR X (compareOp .NotEq) (rNeD X.K) := op_neD hr.units
/-- orders of ints and of texts -/
def opOrd (f : Int → Int → Bool) (g : Str → Str → Bool) : OP2 := fun d1 d2 k => match d1, d2 with
  | .int i, .int j => k (.sh (.bool (f i j)))
  | .str a, .str b => k (.sh (.bool (g a b)))
  | _, _ => False
def rOrd (f : Int → Int → Bool) (g : Str → Str → Bool) : R2 := fun x y H Q => rI0 (fun i j => .bl (f i j)) x y H Q ∨ ∃ i j, x = .str i ∧ y = .str j ∧ Q (.bl (g i j)) H
theorem os_ord {f : Int → Int → Bool} {g : Str → Str → Bool} : OpS (rOrd f g) (opOrd f g) := fun {B F Γ σ H fp x y d1 d2} k Q r b1 b2 z c => by
  cases b1 with
  | int i =>
    cases b2 with
    | int j => exact .inl ⟨i, j, rfl, rfl, op_sc r (.bl _) c z⟩
    | _ => exact z.elim
  | str a ha =>
    cases b2 with
    | str b hb => exact .inr ⟨a, b, rfl, rfl, op_sc r (.bl _) c z⟩
    | _ => exact z.elim
  | _ => cases b2 <;> exact z.elim
def sLt (a b : Str) : Bool := decide (a.cps.toList < b.cps.toList)
abbrev opLt : OP2 := opOrd (fun i j => decide (i < j)) sLt
abbrev opLe : OP2 := opOrd (fun i j => decide (i ≤ j)) fun a b => !sLt b a
abbrev opGt : OP2 := opOrd (fun i j => decide (j < i)) fun a b => sLt b a
abbrev opGe : OP2 := opOrd (fun i j => decide (j ≤ i)) fun a b => !sLt a b
theorem or_lt : OpR X (compareOp .Lt) (rOrd (fun i j => decide (i < j)) sLt) := OpR.or op_lt op_lt_str
theorem or_le : OpR X (compareOp .LtE) (rOrd (fun i j => decide (i ≤ j)) fun a b => !sLt b a) := OpR.or op_le op_le_str
theorem or_gt : OpR X (compareOp .Gt) (rOrd (fun i j => decide (j < i)) fun a b => sLt b a) := OpR.or op_gt op_gt_str
theorem or_ge : OpR X (compareOp .GtE) (rOrd (fun i j => decide (j ≤ i)) fun a b => !sLt a b) := OpR.or op_ge op_ge_str
/-- is None, is not None -/
def isNone : D → Bool
  | .none => true
  | _ => false
def opIs : OP2 := fun d1 d2 k => match d2 with
  | .none => k (.sh (.bool (isNone d1)))
  | _ => False
def opIsNot : OP2 := fun d1 d2 k => match d2 with
  | .none => k (.sh (.bool (!isNone d1)))
  | _ => False
theorem Rb.isNone {F H : Hp} {v : V} {d : D} (h : Rb F H v d) : decide (v = .non) = PL.isNone d := by cases h <;> first | rfl | simp [PL.isNone]
abbrev rIs : R2 := fun x y H Q => y = .non ∧ Q (.bl (decide (x = .non))) H
abbrev rIsNot : R2 := fun x y H Q => y = .non ∧ Q (.bl (!decide (x = .non))) H
theorem os_is : OpS rIs opIs := fun {B F Γ σ H fp x y d1 d2} k Q r b1 b2 z c => by
  cases b2 with
  | non => exact ⟨rfl, op_sc r (by rw [b1.isNone]; exact .bl _) c z⟩
  | _ => exact z.elim
theorem os_isNot : OpS rIsNot opIsNot := fun {B F Γ σ H fp x y d1 d2} k Q r b1 b2 z c => by
  cases b2 with
  | non => exact ⟨rfl, op_sc r (by rw [b1.isNone]; exact .bl _) c z⟩
  | _ => exact z.elim
end
end PL

namespace PL
open PySem PySem.Spec PyProof.Rows L2

section
variable {X : Cx} {W : WX} {pos p : Pos} {a b e : Expr} {ta tb te : TE} {pa pb pe : QE}

/-! ### in, not in: a list, a text -/
def inD (d : D) (ds : List D) : Bool := ds.any fun z => PyData.eqv z d
def opInW (f : Bool → Bool) : OP2 := fun d1 d2 k => match d2 with
  | .list ds => (flat 60 d1 && flat 60 (.list ds)) = true ∧ k (.sh (.bool (f (inD d1 ds))))
  | .str y => (match d1 with
    | .str x => (match x.cps.toList with
      | [c] => k (.sh (.bool (f (decide (c ∈ y.cps.toList)))))
      | _ => False)
    | _ => False)
  | _ => False
def rInSg (f : Bool → Bool) : R2 := fun x y H Q => ∃ (c : Nat) (z : Str), x = .str ⟨#[c]⟩ ∧ y = .str z ∧ Q (.bl (f (decide (c ∈ z.cps.toList)))) H
def rInDg (K : PySem.W.Frag) (f : Bool → Bool) : R2 := fun x y H Q => ∃ d ds, Dp K H x d ∧ Dp K H y (.list ds) ∧ SeqAt.shaped d = true ∧ SeqAt.shaped (.list ds) = true ∧ Q (.bl (f (ds.any fun z => PyData.eqv z d))) H
def rInW (K : PySem.W.Frag) (f : Bool → Bool) : R2 := fun x y H Q => rInDg K f x y H Q ∨ rInSg f x y H Q
theorem os_in {K : PySem.W.Frag} {f : Bool → Bool} : OpS (rInW K f) (opInW f) := fun {B F Γ σ H fp x y d1 d2} k Q r b1 b2 z c => by
  cases b2 with
  | @lst a xs ds e t =>
    obtain ⟨f1, f2⟩ := Bool.and_eq_true_iff.mp z.1
    have q1 := b1.rp r.fx
    have q2 := (Rb.lst e t).rp r.fx
    exact .inl ⟨d1, ds, q1.dpf f1, q2.dpf f2, q1.shaped f1, q2.shaped f2, op_sc r (.bl _) c z.2⟩
  | str y hy =>
    cases b1 with
    | str x hx =>
      unfold opInW at z
      simp only at z
      split at z
      · rename_i ch hc
        refine .inr ⟨ch, y, ?_, rfl, op_sc r (.bl _) c z⟩
        obtain ⟨⟨l⟩⟩ := x
        simp only at hc
        rw [hc]
      · exact z.elim
    | _ => exact z.elim
  | _ => exact z.elim
theorem or_in {j : Nat} (hr : Room j X.A) : OpR X (compareOp .In) (rInW X.K id) := OpR.or (fun pins s σ H x y v u Q I rx ry h => op_inD (by have := hr.un; omega) pins s σ H x y v u Q I rx ry h) (fun pins s σ H x y v u Q I rx ry h => op_in_sign pins s σ H x y v u Q I rx ry h)
theorem or_notIn {j : Nat} (hr : Room j X.A) : OpR X (compareOp .NotIn) (rInW X.K not) := OpR.or (fun pins s σ H x y v u Q I rx ry h => op_notInD (by have := hr.un; omega) pins s σ H x y v u Q I rx ry h) (fun pins s σ H x y v u Q I rx ry h => op_notIn_sign pins s σ H x y v u Q I rx ry h)

/-! ### subscripts -/
/-- the script's items -/
def scrOf : D → Option (List D)
  | .dict [(.none, .list ds)] => some ds
  | _ => none
theorem Rb.scr {F H : Hp} {v : V} {d : D} {ds : List D} (h : Rb F H v d) (e : scrOf d = some ds) : ∃ a o xs, v = .ref a ∧ H a = some (.frz o (.lst xs)) ∧ RpA F xs ds := by
  cases h with
  | @fz a o xs ds' e' t =>
    cases e
    exact ⟨a, o, xs, rfl, e', t⟩
  | dk e' t =>
    cases t with
    | nil => cases e
    | @cons k _ _ d _ _ r =>
      cases r with
      | nil => cases k <;> cases d <;> cases e
      | cons => cases k <;> cases d <;> cases e
  | dt e' t =>
    cases t with
    | nil => cases e
    | @cons k _ _ d _ _ r =>
      cases r with
      | nil => cases d <;> cases e
      | cons => cases d <;> cases e
  | _ => cases e
/-- an item by its place, from the end too -/
def ixD {α : Type} (ds : List α) : Int → Option α
  | .ofNat n => ds[n]?
  | .negSucc n => if n < ds.length then ds[ds.length - 1 - n]? else none
theorem ixD_eq {α : Type} (ds : List α) (i : Int) : L2.atI ds i = ixD ds i := by
  unfold L2.atI ixN
  cases i with
  | ofNat n =>
    show (if 0 ≤ (n : Int) then (if (n : Int) < ds.length then some ((n : Int)).toNat else none) else _).bind _ = ds[n]?
    rw [if_pos (by omega)]
    by_cases h : n < ds.length
    · rw [if_pos (by omega)]
      simp
    · rw [if_neg (by omega), List.getElem?_eq_none (by omega)]
      rfl
  | negSucc n =>
    rw [if_neg (by omega)]
    show _ = if n < ds.length then ds[ds.length - 1 - n]? else none
    by_cases h : n < ds.length
    · rw [if_pos (by omega), if_pos h]
      show ds[(Int.negSucc n + (ds.length : Int)).toNat]? = _
      congr 1
      omega
    · rw [if_neg (by omega), if_neg h]
      rfl
def opIx : OP2 := fun d1 d2 k => match d2 with
  | .int i => (match d1 with
    | .list ds => (match ixD ds i with
      | some d => k (.sh d)
      | none => False)
    | .tuple ds => (match ixD ds i with
      | some d => k (.sh d)
      | none => False)
    | .str x => x.length ≤ sizeLine ∧ (match ixD x.cps.toList i with
      | some c => k (.sh (signD c))
      | none => False)
    | d => (match scrOf d with
      | some ds => (match ixD ds i with
        | some d => k (.sh d)
        | none => False)
      | none => False))
  | _ => False
theorem RpA.atI {F : Hp} {vs : List V} {ds : List D} {i : Int} {d : D} (h : RpA F vs ds) (e : L2.atI ds i = some d) : ∃ v, L2.atI vs i = some v ∧ Rp F v d := by
  unfold L2.atI at e ⊢
  rw [h.length]
  cases z : ixN ds.length i with
  | none =>
    rw [z] at e
    cases e
  | some j =>
    rw [z] at e
    obtain ⟨v, h1, h2⟩ := h.get (show ds[j]? = some d from e)
    exact ⟨v, h1, h2⟩
theorem RpA.ixD {F : Hp} {vs : List V} {ds : List D} {i : Int} {d : D} (h : RpA F vs ds) (e : PL.ixD ds i = some d) : ∃ v, L2.atI vs i = some v ∧ Rp F v d := h.atI ((ixD_eq ds i).trans e)
theorem ix_scr {K : PySem.W.Frag} {B F : Hp} {Γ : Ev} {σ : L2.St} {H : Hp} {fp : Nat → List Addr} {x : V} {d1 : D} {i : Int} {k : Wv → Prop} {Q : VK} (r : Rel B F Γ σ H fp) (b1 : Rb F H x d1)
    (z : match scrOf d1 with | some ds => (match PL.ixD ds i with | some d => k (.sh d) | none => False) | none => False) (c : ∀ w v F' H', Ext B F F' → Rel B F' Γ σ H' fp → RW B F' Γ σ H' fp v w → k w → Q v H') : rIx K x (.int i) H Q := by
  split at z
  · rename_i ds hs
    obtain ⟨a, o, xs, rfl, e, t⟩ := b1.scr hs
    split at z
    · rename_i d hd
      obtain ⟨v, h1, h2⟩ := t.ixD hd
      exact .inl ⟨a, xs, i, v, rfl, rfl, .inl (.inr ⟨o, e⟩), h1, op_sc r h2 c z⟩
    · exact z.elim
  · exact z.elim
theorem os_ix {K : PySem.W.Frag} : OpS (rIx K) opIx := fun {B F Γ σ H fp x y d1 d2} k Q r b1 b2 z c => by
  cases b2 with
  | int i =>
    cases b1 with
    | @lst a xs ds e t =>
      unfold opIx at z
      simp only at z
      split at z
      · rename_i d hd
        obtain ⟨v, h1, h2⟩ := t.ixD hd
        exact .inl ⟨a, xs, i, v, rfl, rfl, .inl (.inl e), h1, op_sc r h2 c z⟩
      · exact z.elim
    | @tup a xs ds e0 e t =>
      unfold opIx at z
      simp only at z
      split at z
      · rename_i d hd
        obtain ⟨v, h1, h2⟩ := t.ixD hd
        exact .inr (.inl ⟨a, xs, i, v, rfl, rfl, .inl (.inl e), h1, op_sc r h2 c z⟩)
      · exact z.elim
    | str x hx =>
      unfold opIx at z
      simp only at z
      obtain ⟨z1, z⟩ := z
      split at z
      · rename_i ch hd
        refine .inr (.inr ⟨x, i, ch, rfl, rfl, z1, (ixD_eq _ _).trans hd, op_sc r (.str _ ?_) c z⟩)
        rw [← ixD_eq] at hd
        unfold L2.atI at hd
        cases y : ixN x.cps.toList.length i with
        | none =>
          rw [y] at hd
          cases hd
        | some j =>
          rw [y] at hd
          exact strOk_sign hx (i := j) (by rw [← Array.getElem?_toList]; exact hd)
      · exact z.elim
    | fz e t => exact ix_scr r (.fz e t) z c
    | dk e t => exact ix_scr r (.dk e t) z c
    | dt e t => exact ix_scr r (.dt e t) z c
    | _ => exact z.elim
  | _ => exact z.elim
theorem d_sub_ix (ha : DE X W a ta pa) (hb : DE X W b tb pb) (hx : PlainIx b := by exact fun _ _ => rfl) : DE X W (.Subscript a b pos) (tOp (rIx X.K) ta tb) (qOp opIx pa pb) := d_ix ix_seq os_ix ha hb hx

/-! ### slices -/
abbrev QO := Ev → (Option Int → Ev → Prop) → EXP → Prop
def SO (W : WX) (to : TO) (q : QO) : Prop := ∀ {B F : Hp} {Γ : Ev} {σ : L2.St} {H : Hp} {fp : Nat → List Addr} (R : Option Int → Ev → Prop) (EX : EXP) (Q : Option Int → Hp → Prop), Rel B F Γ σ H fp → q Γ R EX →
  (∀ o Γ' F' H' fp', Ext B F F' → Rel B F' Γ' σ H' fp' → R o Γ' → Q o H') → AfE W B F σ EX → to σ H Q
structure DO (X : Cx) (W : WX) (e : Option Expr) (to : TO) (q : QO) : Prop where
  po : PO X e to
  so : SO W to q
def qoN : QO := fun Γ R _ => R none Γ
def qoS (p : QE) : QO := fun Γ R E => p Γ (fun w Γ1 => match w with
  | .sh (.int i) => R (some i) Γ1
  | _ => False) E
theorem do_none : DO X W none tNoPart qoN := ⟨po_none, fun {B F Γ σ H fp} R EX Q r h k _ => k none Γ F H fp .refl r h⟩
theorem do_some (h : DE X W e te pe) : DO X W (some e) (tPart te) (qoS pe) := ⟨po_some h.pe, fun {B F Γ σ H fp} R EX Q r q k a => by
  refine h.se _ _ _ r q (fun w Γ1 v F1 H1 fp1 x1 r1 v1 h1 => ?_) a
  split at h1
  · rename_i i
    cases v1 with
    | sh z =>
      cases z
      exact ⟨i, rfl, k _ Γ1 F1 H1 fp1 x1 r1 h1⟩
  · exact h1.elim⟩
def cutD (xs : List D) (lo hi : Option Int) : List D := (xs.drop (HT.sIx xs.length 0 lo)).take (HT.sIx xs.length xs.length hi - HT.sIx xs.length 0 lo)
theorem RpA.cut {F : Hp} {vs : List V} {ds : List D} (h : RpA F vs ds) (lo hi : Option Int) : RpA F (cutV vs lo hi) (cutD ds lo hi) := by
  unfold cutV cutD
  rw [h.length]
  exact (h.drop _).take _
def opSl (d : D) (lo hi : Option Int) (k : Wv → Prop) : Prop := match d with
  | .list ds => k (.ow (.l (cutD ds lo hi)))
  | .tuple ds => k (.sh (.tuple (cutD ds lo hi)))
  | .str x => x.length ≤ sizeLine ∧ k (.sh (.str (cutS x lo hi)))
  | _ => False
def rSlW (K : PySem.W.Frag) : V → Option Int → Option Int → Hp → VK → Prop := fun x lo hi H Q => (rSlL K x lo hi H Q ∨ rSlA K x lo hi H Q) ∨ rSlS x lo hi H Q
theorem sl_w : SlR X (rSlW X.K) := SlR.or (SlR.or sl_list sl_tupA) sl_str
def qSl (p : QE) (l h : QO) : QE := fun Γ R E => p Γ (fun w Γ1 => l Γ1 (fun lo Γ2 => h Γ2 (fun hi Γ3 => bor w Γ3 fun d => opSl d lo hi fun w => R w Γ3) E) E) E
theorem strOk_of {x y : Str} (h : PyData.strOk x = true) (e : ∀ c ∈ y.cps.toList, c ∈ x.cps.toList) : PyData.strOk y = true := by
  have h' : x.cps.all (· < 0x110000) = true := h
  show y.cps.all (· < 0x110000) = true
  rw [Array.all_eq_true'] at h' ⊢
  intro c hc
  exact h' c (by simpa using e c (by simpa using hc))
theorem strOk_cut {x : Str} (h : PyData.strOk x = true) (lo hi : Option Int) : PyData.strOk (cutS x lo hi) = true := strOk_of h fun c hc => by
  unfold cutS at hc
  simp only at hc
  exact List.mem_of_mem_drop (List.mem_of_mem_take hc)
theorem cutV_full {vs : List V} {lo hi : Option Int} (h : HT.sIx vs.length 0 lo = 0 ∧ HT.sIx vs.length vs.length hi = vs.length) : cutV vs lo hi = vs := by
  unfold cutV
  rw [h.1, h.2]
  simp
theorem d_slice {lo hi : Option Expr} {tl th : TO} {ql qh : QO} {p2 : Pos} (he : DE X W e te pe) (hl : DO X W lo tl ql) (hh : DO X W hi th qh) : DE X W (.Subscript e (.Slice lo hi none p2) pos) (tSl (rSlW X.K) te tl th) (qSl pe ql qh) := ⟨pe_slice sl_w he.pe hl.po hh.po, fun {B F Γ σ H fp} R EX Q r q k a => by
  refine he.se _ EX _ r q (fun w Γ1 v F1 H1 fp1 x1 r1 v1 h1 => ?_) a
  obtain ⟨B', r1', g⟩ := r1.guard v1
  have cv : ∀ {F Γ H fp}, Ext B' F1 F → Rel B' F Γ σ H fp → AfE W B' F σ EX := fun {F2 Γ2 H2 fp2} x2 r2 c Γ' F' H' fp' x3 r3 q => by
    obtain ⟨x4, r4, _, _⟩ := g F' Γ' H' fp' (x2.trans x3) r3
    exact a c Γ' F' H' fp' (x1.trans x4) r4 q
  refine hl.so _ EX _ r1' h1 (fun l Γ2 F2 H2 fp2 x2 r2 h2 => ?_) (cv .refl r1')
  refine hh.so _ EX _ r2 h2 (fun u Γ3 F3 H3 fp3 x3 r3 h3 => ?_) (cv x2 r2)
  obtain ⟨x4, r4, v4, _⟩ := g F3 Γ3 H3 fp3 (x2.trans x3) r3
  obtain ⟨d, b, z⟩ := bor_rb r4 v4 h3
  cases b with
  | @lst a xs ds e t =>
    refine .inl (.inl ⟨a, xs, rfl, .inl (.inl e), fun p hp => ?_⟩)
    obtain ⟨r5, v5⟩ := new_lst r4 (t.cut l u) hp
    exact k _ Γ3 _ F3 _ fp3 (x1.trans x4) r5 v5 z
  | @tup a xs ds e0 e t =>
    refine .inl (.inr ⟨a, xs, rfl, .inl (.inl e), fun h => ?_, fun h p hp => ?_⟩)
    · have e1 : cutD ds l u = ds := by
        have := h
        rw [t.length] at this
        unfold cutD
        rw [this.1, this.2]
        simp
      have z' : R (.sh (.tuple (cutD ds l u))) Γ3 := z
      rw [e1] at z'
      exact k _ Γ3 _ F3 H3 fp3 (x1.trans x4) r4 (.sh (.tup e0 t)) z'
    · obtain ⟨x5, r5, v5⟩ := new_tup r4 (t.cut l u) hp
      exact k _ Γ3 _ _ _ fp3 ((x1.trans x4).trans x5) r5 v5 z
  | str x hx => exact .inr ⟨x, rfl, z.1, k _ Γ3 _ F3 H3 fp3 (x1.trans x4) r4 (.sh (.str _ (strOk_cut hx l u))) z.2⟩
  | _ => exact z.elim⟩
/-- xs[::-1] of a list -/
def opRevL : OP1 := fun d k => match d with
  | .list ds => k (.ow (.l ds.reverse))
  | _ => False
theorem d_revL {k : Nat} {p1 p2 p3 : Pos} (he : DE X W e te pe) : DE X W (.Subscript e (.Slice none none (some (.UnaryOp .USub (.Constant (.int 1) k p1) p2)) p3) pos) (tRevL X.K te) (qUn opRevL pe) := ⟨pe_revL he.pe, fun {B F Γ σ H fp} R EX Q r q c a => by
  refine he.se _ EX _ r q (fun w Γ1 v F1 H1 fp1 x1 r1 v1 h1 => ?_) a
  obtain ⟨d, b, z⟩ := bor_rb r1 v1 h1
  cases b with
  | @lst a xs ds e t =>
    refine ⟨a, xs, rfl, .inl (.inl e), fun p hp => ?_⟩
    obtain ⟨r5, v5⟩ := new_lst r1 t.reverse hp
    exact c _ Γ1 _ F1 _ fp1 x1 r5 v5 z
  | _ => exact z.elim⟩

/-! ### built-in functions of one argument that is looked at -/
theorem se_call1 {r : List V → Hp → VK → Prop} {o : OP1} (hs : UnS (fun x H Q => r [x] H Q) o) (ha : SE W ta pa) : SE W (tCB r (tCons ta tNil)) (qUn o pa) := fun {B F Γ σ H fp} R EX Q rr h k e => by
  refine ha _ _ _ rr h (fun w1 Γ1 x F1 H1 fp1 x1 r1 v1 h1 => ?_) e
  obtain ⟨d, b, z⟩ := bor_rb r1 v1 h1
  exact hs _ Q r1 b z fun w v F2 H2 x2 r2 q2 kk => k w Γ1 v F2 H2 fp1 (x1.trans x2) r2 q2 kk
theorem d_bi1 {id : String} {x : Str} {r : List V → Hp → VK → Prop} {o : OP1} (hc : CallR X (.builtin id) r) (hs : UnS (fun x H Q => r [x] H Q) o) (hm : X.mg x = none) (hv : bootBuiltins x = some (.builtin id)) (ha : DE X W a ta pa) (hg : Gl X x := by rfl)
    (hn : x ≠ "__name__" := by decide) (hdb : (x == ("__debug__" : Str)) = false := by decide) (he : starEach [a] X.env = (false, eval a X.env) :: starEach [] X.env := by rfl) (hpl : (backTo pos (starEach [] X.env)).any (·.1) = false := by rfl) :
    DE X W (.Call (.Name x p) [a] [] pos) (tCB r (tCons ta tNil)) (qUn o pa) := ⟨pe_callB hc hg hm hv (pa_cons ha.pe pa_nil he) hn hdb he hpl, se_call1 hs ha.se⟩
theorem d_ty1 {T : String} {x : Str} {r : List V → Hp → VK → Prop} {o : OP1} (hc : CallR X (.type T) r) (hs : UnS (fun x H Q => r [x] H Q) o) (hm : X.mg x = none) (hv : bootBuiltins x = some (.type T)) (ha : DE X W a ta pa) (hg : Gl X x := by rfl)
    (hn : x ≠ "__name__" := by decide) (hdb : (x == ("__debug__" : Str)) = false := by decide) (he : starEach [a] X.env = (false, eval a X.env) :: starEach [] X.env := by rfl) (hpl : (backTo pos (starEach [] X.env)).any (·.1) = false := by rfl) :
    DE X W (.Call (.Name x p) [a] [] pos) (tCB r (tCons ta tNil)) (qUn o pa) := ⟨pe_callTy hc hg hm hv (pa_cons ha.pe pa_nil he) hn hdb he hpl, se_call1 hs ha.se⟩
/-- len -/
abbrev rLenW (K : PySem.W.Frag) : List V → Hp → VK → Prop := fun xs H Q => ∃ x n, xs = [x] ∧ LenV K x H n ∧ Q (.int n) H
abbrev rIntW : List V → Hp → VK → Prop := fun xs H Q => (∃ i, xs = [.int i] ∧ Q (.int i) H) ∨ ∃ k, xs = [.bl k] ∧ Q (.int (if k then 1 else 0)) H
abbrev rListW (K : PySem.W.Frag) : List V → Hp → VK → Prop := fun xs H Q => ∃ p ys, xs = [.ref p] ∧ (SqL K H p ys ∨ SqT K H p ys) ∧ ∀ l, H l = none → Q (.ref l) (upd H l (.lst ys))
abbrev rTupleW (K : PySem.W.Frag) : List V → Hp → VK → Prop := fun xs H Q => ∃ p ys, xs = [.ref p] ∧ ((SqL K H p ys ∧ ∀ l, H l = none → Q (.ref l) (upd H l (.tup ys))) ∨ (SqT K H p ys ∧ Q (.ref p) H))
def opLen : OP1 := fun d k => match d with
  | .str x => x.length ≤ sizeLine ∧ k (.sh (.int x.length))
  | .list ds => k (.sh (.int ds.length))
  | .tuple ds => k (.sh (.int ds.length))
  | d => (match scrOf d with
    | some ds => k (.sh (.int ds.length))
    | none => False)
theorem len_scr {K : PySem.W.Frag} {B F : Hp} {Γ : Ev} {σ : L2.St} {H : Hp} {fp : Nat → List Addr} {x : V} {d : D} {k : Wv → Prop} {Q : VK} (r : Rel B F Γ σ H fp) (b : Rb F H x d)
    (z : match scrOf d with | some ds => k (.sh (.int ds.length)) | none => False) (c : ∀ w v F' H', Ext B F F' → Rel B F' Γ σ H' fp → RW B F' Γ σ H' fp v w → k w → Q v H') : ∃ y n, [x] = [y] ∧ LenV K y H n ∧ Q (.int n) H := by
  split at z
  · rename_i ds hs
    obtain ⟨a, o, xs, rfl, e, t⟩ := b.scr hs
    exact ⟨_, xs.length, rfl, .inl ⟨xs, .inl (.inr ⟨o, e⟩), rfl⟩, op_sc r (.int _) c (by rw [t.length]; exact z)⟩
  · exact z.elim
theorem us_len {K : PySem.W.Frag} : UnS (fun x H Q => rLenW K [x] H Q) opLen := fun {B F Γ σ H fp x d} k Q r b z c => by
  cases b with
  | str x hx => exact ⟨_, x.length, rfl, ⟨z.1, rfl⟩, op_sc r (.int _) c z.2⟩
  | @lst a xs ds e t => exact ⟨_, xs.length, rfl, .inl ⟨xs, .inl (.inl e), rfl⟩, op_sc r (.int _) c (by rw [t.length]; exact z)⟩
  | @tup a xs ds e0 e t => exact ⟨_, xs.length, rfl, .inr ⟨xs, .inl (.inl e), rfl⟩, op_sc r (.int _) c (by rw [t.length]; exact z)⟩
  | fz e t => exact len_scr r (.fz e t) z c
  | dk e t => exact len_scr r (.dk e t) z c
  | dt e t => exact len_scr r (.dt e t) z c
  | _ => exact z.elim
theorem d_len (hm : X.mg "len" = none) (ha : DE X W a ta pa) (hg : Gl X "len" := by rfl) (he : starEach [a] X.env = (false, eval a X.env) :: starEach [] X.env := by rfl) (hpl : (backTo pos (starEach [] X.env)).any (·.1) = false := by rfl) :
    DE X W (.Call (.Name "len" p) [a] [] pos) (tCB (rLenW X.K) (tCons ta tNil)) (qUn opLen pa) := d_bi1 call_len us_len hm PySem.boot_len ha hg (by decide) (by decide) he hpl
/-- int of an int, of a bool -/
def opInt : OP1 := fun d k => match d with
  | .int i => k (.sh (.int i))
  | .bool b => k (.sh (.int (if b then 1 else 0)))
  | _ => False
theorem us_int : UnS (fun x H Q => rIntW [x] H Q) opInt := fun {B F Γ σ H fp x d} k Q r b z c => by
  cases b with
  | int i => exact .inl ⟨i, rfl, op_sc r (.int _) c z⟩
  | bl i => exact .inr ⟨i, rfl, op_sc r (.int _) c z⟩
  | _ => exact z.elim
theorem d_int1 (hm : X.mg "int" = none) (ha : DE X W a ta pa) (hg : Gl X "int" := by rfl) (he : starEach [a] X.env = (false, eval a X.env) :: starEach [] X.env := by rfl) (hpl : (backTo pos (starEach [] X.env)).any (·.1) = false := by rfl) :
    DE X W (.Call (.Name "int" p) [a] [] pos) (tCB (rIntW) (tCons ta tNil)) (qUn opInt pa) := d_ty1 call_int1 us_int hm (by decide +kernel) ha hg (by decide) (by decide) he hpl
/-- list(xs), tuple(xs) -/
def opList : OP1 := fun d k => match d with
  | .list ds => k (.ow (.l ds))
  | .tuple ds => k (.ow (.l ds))
  | _ => False
theorem us_list {K : PySem.W.Frag} : UnS (fun x H Q => rListW K [x] H Q) opList := fun {B F Γ σ H fp x d} k Q r b z c => by
  cases b with
  | @lst a xs ds e t =>
    refine ⟨a, xs, rfl, .inl (.inl (.inl e)), fun p hp => ?_⟩
    obtain ⟨r5, v5⟩ := new_lst r t hp
    exact c _ _ F _ .refl r5 v5 z
  | @tup a xs ds e0 e t =>
    refine ⟨a, xs, rfl, .inr (.inl (.inl e)), fun p hp => ?_⟩
    obtain ⟨r5, v5⟩ := new_lst r t hp
    exact c _ _ F _ .refl r5 v5 z
  | _ => exact z.elim
theorem d_list1 (hm : X.mg "list" = none) (ha : DE X W a ta pa) (hg : Gl X "list" := by rfl) (he : starEach [a] X.env = (false, eval a X.env) :: starEach [] X.env := by rfl) (hpl : (backTo pos (starEach [] X.env)).any (·.1) = false := by rfl) :
    DE X W (.Call (.Name "list" p) [a] [] pos) (tCB (rListW X.K) (tCons ta tNil)) (qUn opList pa) := d_ty1 call_list_of us_list hm (by decide +kernel) ha hg (by decide) (by decide) he hpl
def opTuple : OP1 := fun d k => match d with
  | .list ds => k (.sh (.tuple ds))
  | .tuple ds => k (.sh (.tuple ds))
  | _ => False
theorem us_tuple {K : PySem.W.Frag} : UnS (fun x H Q => rTupleW K [x] H Q) opTuple := fun {B F Γ σ H fp x d} k Q r b z c => by
  cases b with
  | @lst a xs ds e t =>
    refine ⟨a, xs, rfl, .inl ⟨.inl (.inl e), fun p hp => ?_⟩⟩
    obtain ⟨x5, r5, v5⟩ := new_tup r t hp
    exact c _ _ _ _ x5 r5 v5 z
  | @tup a xs ds e0 e t => exact ⟨a, xs, rfl, .inr ⟨.inl (.inl e), op_sc r (.tup e0 t) c z⟩⟩
  | _ => exact z.elim
theorem d_tuple1 (hm : X.mg "tuple" = none) (ha : DE X W a ta pa) (hg : Gl X "tuple" := by rfl) (he : starEach [a] X.env = (false, eval a X.env) :: starEach [] X.env := by rfl) (hpl : (backTo pos (starEach [] X.env)).any (·.1) = false := by rfl) :
    DE X W (.Call (.Name "tuple" p) [a] [] pos) (tCB (rTupleW X.K) (tCons ta tNil)) (qUn opTuple pa) := d_ty1 call_tuple_of us_tuple hm (by decide +kernel) ha hg (by decide) (by decide) he hpl
/-- ints of a row of data -/
def intsOf : List D → Option (List Int)
  | [] => some []
  | .int i :: r => (intsOf r).map (i :: ·)
  | _ => none
def boolsOf : List D → Option (List Bool)
  | [] => some []
  | .bool i :: r => (boolsOf r).map (i :: ·)
  | _ => none
def strsOf : List D → Option (List Str)
  | [] => some []
  | .str i :: r => (strsOf r).map (i :: ·)
  | _ => none
theorem intsOf_map : ∀ ns : List Int, intsOf (ns.map .int) = some ns
  | [] => rfl
  | n :: r => by simp [intsOf, intsOf_map r]
theorem boolsOf_map : ∀ ns : List Bool, boolsOf (ns.map .bool) = some ns
  | [] => rfl
  | n :: r => by simp [boolsOf, boolsOf_map r]
theorem strsOf_map : ∀ ns : List Str, strsOf (ns.map .str) = some ns
  | [] => rfl
  | n :: r => by simp [strsOf, strsOf_map r]
theorem ints_rp {F : Hp} : ∀ {vs : List V} {ds : List D} {ns : List Int}, RpA F vs ds → intsOf ds = some ns → vs = ns.map V.int
  | _, _, _, .nil, e => by
    cases e
    rfl
  | _, _, ns, .cons (d := d) h r, e => by
    cases h with
    | int i =>
      simp only [intsOf, Option.map_eq_some_iff] at e
      obtain ⟨m, e1, rfl⟩ := e
      rw [ints_rp r e1]
      rfl
    | _ => simp [intsOf] at e
theorem bools_rp {F : Hp} : ∀ {vs : List V} {ds : List D} {ns : List Bool}, RpA F vs ds → boolsOf ds = some ns → vs = ns.map V.bl
  | _, _, _, .nil, e => by
    cases e
    rfl
  | _, _, ns, .cons (d := d) h r, e => by
    cases h with
    | bl i =>
      simp only [boolsOf, Option.map_eq_some_iff] at e
      obtain ⟨m, e1, rfl⟩ := e
      rw [bools_rp r e1]
      rfl
    | _ => simp [boolsOf] at e
theorem strs_rp {F : Hp} : ∀ {vs : List V} {ds : List D} {ns : List Str}, RpA F vs ds → strsOf ds = some ns → vs = ns.map V.str ∧ ∀ x ∈ ns, PyData.strOk x = true
  | _, _, _, .nil, e => by
    cases e
    exact ⟨rfl, fun _ h => by simp at h⟩
  | _, _, ns, .cons (d := d) h r, e => by
    cases h with
    | str i hi =>
      simp only [strsOf, Option.map_eq_some_iff] at e
      obtain ⟨m, e1, rfl⟩ := e
      obtain ⟨e2, e3⟩ := strs_rp r e1
      rw [e2]
      refine ⟨rfl, fun x hx => ?_⟩
      rcases List.mem_cons.mp hx with rfl | hx
      · exact hi
      · exact e3 x hx
    | _ => simp [strsOf] at e
/-- sum, any, all of a list -/
def opSum : OP1 := fun d k => match d with
  | .list ds => (match intsOf ds with
    | some ns => k (.sh (.int ns.sum))
    | none => False)
  | _ => False
theorem us_sum {K : PySem.W.Frag} : UnS (fun x H Q => rSum K [x] H Q) opSum := fun {B F Γ σ H fp x d} k Q r b z c => by
  cases b with
  | @lst a xs ds e t =>
    unfold opSum at z
    simp only at z
    split at z
    · rename_i ns hn
      have := ints_rp t hn
      subst this
      exact ⟨a, ns, rfl, .inl (.inl e), op_sc r (.int _) c z⟩
    · exact z.elim
  | _ => exact z.elim
theorem d_sum (hc : X.calm = true) (hm : X.mg "sum" = none) (ha : DE X W a ta pa) (hg : Gl X "sum" := by rfl) (he : starEach [a] X.env = (false, eval a X.env) :: starEach [] X.env := by rfl) (hpl : (backTo pos (starEach [] X.env)).any (·.1) = false := by rfl) :
    DE X W (.Call (.Name "sum" p) [a] [] pos) (tCB (rSum X.K) (tCons ta tNil)) (qUn opSum pa) := d_bi1 (cr_sum hc) us_sum hm (by decide +kernel) ha hg (by decide) (by decide) he hpl
def opAny : OP1 := fun d k => match d with
  | .list ds => (match boolsOf ds with
    | some bs => k (.sh (.bool (bs.any id)))
    | none => False)
  | _ => False
def opAll : OP1 := fun d k => match d with
  | .list ds => (match boolsOf ds with
    | some bs => k (.sh (.bool (bs.all id)))
    | none => False)
  | _ => False
theorem us_any {K : PySem.W.Frag} : UnS (fun x H Q => rAny K [x] H Q) opAny := fun {B F Γ σ H fp x d} k Q r b z c => by
  cases b with
  | @lst a xs ds e t =>
    unfold opAny at z
    simp only at z
    split at z
    · rename_i ns hn
      have := bools_rp t hn
      subst this
      exact ⟨a, ns, rfl, .inl (.inl e), op_sc r (.bl _) c z⟩
    · exact z.elim
  | _ => exact z.elim
theorem us_all {K : PySem.W.Frag} : UnS (fun x H Q => rAll K [x] H Q) opAll := fun {B F Γ σ H fp x d} k Q r b z c => by
  cases b with
  | @lst a xs ds e t =>
    unfold opAll at z
    simp only at z
    split at z
    · rename_i ns hn
      have := bools_rp t hn
      subst this
      exact ⟨a, ns, rfl, .inl (.inl e), op_sc r (.bl _) c z⟩
    · exact z.elim
  | _ => exact z.elim
theorem d_any (hc : X.calm = true) (hm : X.mg "any" = none) (ha : DE X W a ta pa) (hg : Gl X "any" := by rfl) (he : starEach [a] X.env = (false, eval a X.env) :: starEach [] X.env := by rfl) (hpl : (backTo pos (starEach [] X.env)).any (·.1) = false := by rfl) :
    DE X W (.Call (.Name "any" p) [a] [] pos) (tCB (rAny X.K) (tCons ta tNil)) (qUn opAny pa) := d_bi1 (cr_any hc) us_any hm (by decide +kernel) ha hg (by decide) (by decide) he hpl
theorem d_all (hc : X.calm = true) (hm : X.mg "all" = none) (ha : DE X W a ta pa) (hg : Gl X "all" := by rfl) (he : starEach [a] X.env = (false, eval a X.env) :: starEach [] X.env := by rfl) (hpl : (backTo pos (starEach [] X.env)).any (·.1) = false := by rfl) :
    DE X W (.Call (.Name "all" p) [a] [] pos) (tCB (rAll X.K) (tCons ta tNil)) (qUn opAll pa) := d_bi1 (cr_all hc) us_all hm (by decide +kernel) ha hg (by decide) (by decide) he hpl
/-- isinstance of a built-in class -/
def tyName : D → String
  | .none => "NoneType"
  | .bool _ => "bool"
  | .int _ => "int"
  | .str _ => "str"
  | .list _ => "list"
  | .tuple _ => "tuple"
  | .dict _ => "dict"
def isInst (T : String) (d : D) : Bool := tyName d == T || (tyName d == "bool" && T == "int")
/-- the script, a range object -/
def isFz : D → Bool
  | .dict [(.none, _)] => true
  | _ => false
def opIsi (T : String) : OP1 := fun d k => isFz d = false ∧ k (.sh (.bool (isInst T d)))
theorem kit_all : ∀ a ∈ ["NoneType", "bool", "int", "str", "list", "tuple", "dict"], ∀ T ∈ ["bool", "int", "str", "list", "tuple", "dict"], kitB a T = some (a == T || (a == "bool" && T == "int")) := by decide +kernel
theorem Rb.ty {K : PySem.W.Frag} {F H : Hp} {v : V} {d : D} (h : Rb F H v d) (hn : isFz d = false) : TyX K H v (.type (tyName d)) := by
  cases h with
  | non => exact .base .non
  | bl b => exact .base (.bl b)
  | int i => exact .base (.int i)
  | str x _ => exact .base (.str x)
  | lst e t => exact .base (.lst e)
  | tup e0 e t => exact .base (.tup e)
  | dk e t => exact .base (.dK e)
  | dt e t => exact .base (.dT e)
  | fz e t => cases hn
  | rg e _ => cases hn
theorem d_isi {T : String} {x2 : Str} {p2 : Pos} (hT : T ∈ ["bool", "int", "str", "list", "tuple", "dict"]) (hm : X.mg "isinstance" = none) (hm2 : X.mg x2 = none) (hv2 : bootBuiltins x2 = some (.type T)) (ha : DE X W a ta pa) (hg : Gl X "isinstance" := by rfl) (hg2 : Gl X x2 := by rfl)
    (hn2 : x2 ≠ "__name__" := by decide) (hd2 : (x2 == ("__debug__" : Str)) = false := by decide) (he : starEach [a, .Name x2 p2] X.env = (false, eval a X.env) :: starEach [.Name x2 p2] X.env := by rfl) (hpl : (backTo pos (starEach [.Name x2 p2] X.env)).any (·.1) = false := by rfl)
    (he2 : starEach [.Name x2 p2] X.env = (false, eval (.Name x2 p2) X.env) :: starEach [] X.env := by rfl) :
    DE X W (.Call (.Name "isinstance" p) [a, .Name x2 p2] [] pos) (tCB (rIsi X.K) (tCons ta (tCons (tC (.ty T)) tNil))) (qUn (opIsi T) pa) :=
  ⟨pe_callB call_isi hg hm (by decide +kernel) (pa_cons ha.pe (pa_cons (pe_bltn hg2 hm2 hv2 rfl hn2 hd2) pa_nil he2) he) (by decide) (by decide) he hpl, fun {B F Γ σ H fp} R EX Q rr h k e => by
  refine ha.se _ _ _ rr h (fun w1 Γ1 x F1 H1 fp1 x1 r1 v1 h1 => ?_) e
  obtain ⟨d, b, z⟩ := bor_rb r1 v1 h1
  have hk : kitB (tyName d) T = some (isInst T d) := kit_all (tyName d) (by cases d <;> simp [tyName]) T hT
  exact ⟨x, .ty T, _, _, isInst T d, rfl, .ty T, b.ty z.1, kit_ty hk, k _ Γ1 _ F1 H1 fp1 x1 r1 (.sh (.bl _)) z.2⟩⟩

/-! ### xs.append(e) as a statement or value -/
theorem Rel.mutL {B F : Hp} {Γ : Ev} {σ : L2.St} {H : Hp} {fp : Nat → List Addr} {i : Nat} {ds ds' : List D} {v : V} {xs' : List V} (r : Rel B F Γ σ H fp) (e : Γ[i]? = some (.ow (.l ds))) (hv : σ[i]? = some (some v)) (t' : RpA F xs' ds') :
    ∃ a xs, v = .ref a ∧ H a = some (.lst xs) ∧ RpA F xs ds ∧ Rel B F (Γ.set i (.ow (.l ds'))) σ (upd H a (.lst xs')) fp := by
  obtain ⟨u, h1, h2⟩ := r.ow i _ e
  rw [hv] at h1
  cases h1
  generalize hf : fp i = f at h2
  cases h2 with
  | @l a xs ds e2 t =>
    have hm : a ∈ fp i := by rw [hf]; simp
    obtain ⟨b1, b2, b3⟩ := r.nb i a hm
    refine ⟨a, xs, rfl, e2, t, fun c o q => ?_, fun c o q => ?_, by rw [List.length_set]; exact r.len, fun j d q => ?_, fun j o q => ?_, fun j c hc => ?_, r.dj, fun j a q => r.ex j a (ex_ne (fun _ => Sl.noConfusion) q).2⟩
    · rw [upd_ne fun z => by subst z; rw [b1] at q; cases q]
      exact r.bx c o q
    · rw [upd_ne fun z => by subst z; rw [b2] at q; cases q]
      exact r.fx c o q
    · by_cases hj : i = j
      · subst hj
        rw [List.getElem?_set_self (List.getElem?_eq_some_iff.mp e).1] at q
        cases q
      · rw [List.getElem?_set_ne hj] at q
        exact r.sh j d q
    · by_cases hj : i = j
      · subst hj
        rw [List.getElem?_set_self (List.getElem?_eq_some_iff.mp e).1] at q
        cases q
        refine ⟨_, hv, ?_⟩
        rw [hf]
        exact .l upd_same t'
      · rw [List.getElem?_set_ne hj] at q
        obtain ⟨w, g1, g2⟩ := r.ow j o q
        exact ⟨w, g1, g2.mono (Same.refl F) fun c hc => upd_ne fun z => hj (r.dj i j c (z ▸ hm) hc)⟩
    · obtain ⟨c1, c2, c3⟩ := r.nb j c hc
      refine ⟨c1, c2, ?_⟩
      unfold upd
      split
      · exact fun z => nomatch z
      · exact c3
def isOwL : Option Sl → Bool
  | some (.ow (.l _)) => true
  | _ => false
def qApp (i : Nat) (p : QE) : QE := fun Γ R E => isOwL Γ[i]? = true ∧ p Γ (fun w Γ1 => shr w Γ1 fun d Γ2 => match Γ2[i]? with
  | some (.ow (.l ds)) => ds.length < sizeLine ∧ R (.sh .none) (Γ2.set i (.ow (.l (ds ++ [d]))))
  | _ => False) E
theorem own_ty {K : PySem.W.Frag} {B F : Hp} {Γ : Ev} {σ : L2.St} {H : Hp} {fp : Nat → List Addr} {i : Nat} (r : Rel B F Γ σ H fp) (h : isOwL Γ[i]? = true) : ∃ v, σ[i]? = some (some v) ∧ tyV K "list" v H := by
  unfold isOwL at h
  split at h
  · rename_i ds e
    obtain ⟨v, h1, h2⟩ := r.ow i _ e
    generalize fp i = f at h2
    cases h2 with
    | @l a xs ds e t => exact ⟨_, h1, .inl ⟨rfl, xs, .inl (.inl e)⟩⟩
  · cases h
theorem se_append {K : PySem.W.Frag} {i : Nat} (ha : SE W ta pa) : SE W (tBM K "list" rAppend (tVar i) (tCons ta tNil)) (qApp i pa) := fun {B F Γ σ H fp} R EX Q r q k e => by
  obtain ⟨v, h1, h2⟩ := own_ty (K := K) r q.1
  refine ⟨v, h1, h2, ha _ _ _ r q.2 (fun w Γ1 y F1 H1 fp1 x1 r1 v1 h3 => ?_) e⟩
  obtain ⟨d, Γ2, F2, fp2, x2, r2, b2, h4⟩ := shr_ok r1 v1 h3
  split at h4
  · rename_i ds hd
    obtain ⟨v', e1, _⟩ := r2.ow i _ hd
    rw [h1] at e1
    cases e1
    obtain ⟨u, z1, z2⟩ := r2.ow i _ hd
    rw [h1] at z1
    cases z1
    generalize hf : fp2 i = f at z2
    cases z2 with
    | @l a xs ds e5 t5 =>
      obtain ⟨a', xs', ea, e6, t6, r6⟩ := r2.mutL hd h1 (t5.append (.cons b2 .nil))
      cases ea
      exact ⟨a, xs, y, rfl, rfl, e5, by rw [t5.length]; exact h4.1, k _ _ _ F2 _ fp2 (x1.trans x2) r6 (.sh .non) h4.2⟩
  · exact h4.elim
theorem d_append (i : Nat) {x : Str} {px apos : Pos} (ha : DE X W a ta pa) (hN : X.N[i]? = some x := by rfl) (hv : Vis X.env.scope x := by first | exact Or.inl rfl | exact Or.inr (Or.inl rfl) | exact Or.inr (Or.inr rfl)) (hd : (x == ("__debug__" : Str)) = false := by decide)
    (hcd : (x == ("__classdict__" : Str)) = false := by decide) (hbase : attributeBase (.Name x px) "append" X.env (eval (.Name x px) X.env) = eval (.Name x px) X.env := by rfl)
    (hfew : ((backTo pos (starEach [a] X.env)).all (fun x => !x.1) && (backToKw pos (keywordEach [] X.env)).all (fun x => x.1.isSome) && decide ([a].length + ([] : List Keyword).length + (if ([] : List Keyword).isEmpty then 0 else 1) < 30)) = true := by rfl)
    (hline : (apos.endLine == pos.line) = true := by rfl) (hs : starEach [a] X.env = (false, eval a X.env) :: starEach [] X.env := by rfl) (hpl : (backTo pos (starEach [] X.env)).any (·.1) = false := by rfl) :
    DE X W (.Call (.Attribute (.Name x px) "append" apos) [a] [] pos) (tBM X.K "list" rAppend (tVar i) (tCons ta tNil)) (qApp i pa) :=
  ⟨pe_bm PySem.F.plainAttrs_list PySem.F.slot_list_append PySem.F.type_list_append mt_append (pe_var hN hv hd hcd) (pa_cons ha.pe pa_nil hs) hbase hfew hline hs hpl, se_append ha.se⟩
/-- xs[i] = e, xs an own list -/
def qgSetL (i : Nat) (pi : QE) : QG := fun w Γ k => shr w Γ fun d Γ1 => pi Γ1 (fun w2 Γ2 => bor w2 Γ2 fun d2 => match d2 with
  | .int j => (match Γ2[i]? with
    | some (.ow (.l ds)) => (match ixN ds.length j with
      | some n => k (Γ2.set i (.ow (.l (ds.set n d))))
      | none => False)
    | _ => False)
  | _ => False) noEX
end
end PL

namespace PL
open PySem PySem.Spec PyProof.Rows L2

/-! ### dicts -/
def lookD (ds : List (D × D)) (k : D) : Option D := (ds.find? fun p => PyData.eqv p.1 k).map (·.2)
def putD (ds : List (D × D)) (k v : D) : List (D × D) := if (ds.any fun p => PyData.eqv p.1 k) = true then ds.map (fun p => if PyData.eqv p.1 k = true then (p.1, v) else p) else ds ++ [(k, v)]
theorem eqv_keyD (k j : Key) : PyData.eqv (keyD k) (keyD j) = decide (k = j) := by
  cases k with
  | inl a =>
    cases j with
    | inl b =>
      show PyData.eqv (.int a) (.int b) = _
      rw [PyData.eqv, key_ll]
    | inr b =>
      show PyData.eqv (.int a) (.str b) = _
      rw [PyData.eqv, key_lr]
  | inr a =>
    cases j with
    | inl b =>
      show PyData.eqv (.str a) (.int b) = _
      rw [PyData.eqv, key_rl]
    | inr b =>
      show PyData.eqv (.str a) (.str b) = _
      rw [PyData.eqv, key_rr, Bool.beq_eq_decide_eq]
theorem eqv_keysD : ∀ k j : List Key, PyData.eqvAll (k.map keyD) (j.map keyD) = decide (k = j)
  | [], [] => by simp [PyData.eqvAll]
  | [], _ :: _ => by simp [PyData.eqvAll]
  | _ :: _, [] => by simp [PyData.eqvAll]
  | a :: k, b :: j => by
    simp only [List.map_cons, PyData.eqvAll, eqv_keyD, eqv_keysD k j]
    by_cases h : a = b
    · by_cases h2 : k = j
      · simp [h, h2]
      · simp [h, h2]
    · simp [h]
theorem eqv_keyT (k j : List Key) : PyData.eqv (.tuple (k.map keyD)) (.tuple (j.map keyD)) = decide (k = j) := by
  rw [PyData.eqv, eqv_keysD]
section
variable {F : Hp}
theorem RpK.look : ∀ {kvs : List (Key × V)} {ds : List (D × D)} (k : Key), RpK F kvs ds → (lookD ds (keyD k) = none ∧ valV kvs k = none) ∨ ∃ v d, lookD ds (keyD k) = some d ∧ valV kvs k = some v ∧ Rp F v d
  | _, _, k, .nil => .inl ⟨rfl, rfl⟩
  | _, _, k, .cons (k := j) (v := v) (d := d) h r => by
    unfold lookD
    rw [List.find?_cons]
    simp only [eqv_keyD]
    by_cases e : j = k
    · rw [decide_eq_true e]
      exact .inr ⟨v, d, rfl, valV_pos e, h⟩
    · rw [decide_eq_false e, valV_neg (p := (j, v)) e]
      exact RpK.look k r
theorem RpT.look : ∀ {kvs : List (List Key × V)} {ds : List (D × D)} (k : List Key), RpT F kvs ds → (lookD ds (.tuple (k.map keyD)) = none ∧ valV kvs k = none) ∨ ∃ v d, lookD ds (.tuple (k.map keyD)) = some d ∧ valV kvs k = some v ∧ Rp F v d
  | _, _, k, .nil => .inl ⟨rfl, rfl⟩
  | _, _, k, .cons (k := j) (v := v) (d := d) h r => by
    unfold lookD
    rw [List.find?_cons]
    simp only [eqv_keyT]
    by_cases e : j = k
    · rw [decide_eq_true e]
      exact .inr ⟨v, d, rfl, valV_pos e, h⟩
    · rw [decide_eq_false e, valV_neg (p := (j, v)) e]
      exact RpT.look k r
theorem RpK.any : ∀ {kvs : List (Key × V)} {ds : List (D × D)} (k : Key), RpK F kvs ds → (ds.any fun p => PyData.eqv p.1 (keyD k)) = kvs.any fun p => decide (p.1 = k)
  | _, _, k, .nil => rfl
  | _, _, k, .cons (k := j) h r => by
    simp only [List.any_cons, eqv_keyD, RpK.any k r]
theorem RpT.any : ∀ {kvs : List (List Key × V)} {ds : List (D × D)} (k : List Key), RpT F kvs ds → (ds.any fun p => PyData.eqv p.1 (.tuple (k.map keyD))) = kvs.any fun p => decide (p.1 = k)
  | _, _, k, .nil => rfl
  | _, _, k, .cons (k := j) h r => by
    simp only [List.any_cons, eqv_keyT, RpT.any k r]
theorem RpK.app : ∀ {kvs : List (Key × V)} {ds : List (D × D)} {k : Key} {v : V} {d : D}, RpK F kvs ds → Rp F v d → RpK F (kvs ++ [(k, v)]) (ds ++ [(keyD k, d)])
  | _, _, _, _, _, .nil, h => .cons h .nil
  | _, _, _, _, _, .cons h r, h' => .cons h (RpK.app r h')
theorem RpT.app : ∀ {kvs : List (List Key × V)} {ds : List (D × D)} {k : List Key} {v : V} {d : D}, RpT F kvs ds → Rp F v d → RpT F (kvs ++ [(k, v)]) (ds ++ [(.tuple (k.map keyD), d)])
  | _, _, _, _, _, .nil, h => .cons h .nil
  | _, _, _, _, _, .cons h r, h' => .cons h (RpT.app r h')
theorem RpK.upd {k : Key} {y : V} {z : D} (hy : Rp F y z) : ∀ {kvs : List (Key × V)} {ds : List (D × D)}, RpK F kvs ds → RpK F (kvs.map fun kv => if kv.1 = k then (kv.1, y) else kv) (ds.map fun p => if PyData.eqv p.1 (keyD k) = true then (p.1, z) else p)
  | _, _, .nil => .nil
  | _, _, .cons (k := j) (v := v) (d := d) h r => by
    simp only [List.map_cons, eqv_keyD]
    by_cases e : j = k
    · rw [if_pos e, if_pos (decide_eq_true e)]
      exact .cons hy (RpK.upd hy r)
    · rw [if_neg e, if_neg (by simp [e])]
      exact .cons h (RpK.upd hy r)
theorem RpT.upd {k : List Key} {y : V} {z : D} (hy : Rp F y z) : ∀ {kvs : List (List Key × V)} {ds : List (D × D)}, RpT F kvs ds → RpT F (kvs.map fun kv => if kv.1 = k then (kv.1, y) else kv) (ds.map fun p => if PyData.eqv p.1 (.tuple (k.map keyD)) = true then (p.1, z) else p)
  | _, _, .nil => .nil
  | _, _, .cons (k := j) (v := v) (d := d) h r => by
    simp only [List.map_cons, eqv_keyT]
    by_cases e : j = k
    · rw [if_pos e, if_pos (decide_eq_true e)]
      exact .cons hy (RpT.upd hy r)
    · rw [if_neg e, if_neg (by simp [e])]
      exact .cons h (RpT.upd hy r)
theorem RpK.put {kvs : List (Key × V)} {ds : List (D × D)} {k : Key} {v : V} {d : D} (r : RpK F kvs ds) (h : Rp F v d) : RpK F (putK kvs k v) (putD ds (keyD k) d) := by
  unfold putK putD
  rw [r.any k]
  split
  · exact r.upd h
  · exact r.app h
theorem RpT.put {kvs : List (List Key × V)} {ds : List (D × D)} {k : List Key} {v : V} {d : D} (r : RpT F kvs ds) (h : Rp F v d) : RpT F (putK kvs k v) (putD ds (.tuple (k.map keyD)) d) := by
  unfold putK putD
  rw [r.any k]
  split
  · exact r.upd h
  · exact r.app h
theorem RpK.length : ∀ {kvs : List (Key × V)} {ds : List (D × D)}, RpK F kvs ds → kvs.length = ds.length
  | _, _, .nil => rfl
  | _, _, .cons _ r => congrArg (· + 1) (RpK.length r)
theorem RpT.length : ∀ {kvs : List (List Key × V)} {ds : List (D × D)}, RpT F kvs ds → kvs.length = ds.length
  | _, _, .nil => rfl
  | _, _, .cons _ r => congrArg (· + 1) (RpT.length r)
end
/-- which kind of keys -/
def keyK : D → Bool
  | .int _ => true
  | .str _ => true
  | _ => false
def keyT : D → Bool
  | .tuple ds => ds.all keyK
  | _ => false
theorem Rp.keyK {F : Hp} {y : V} {d : D} (h : Rp F y d) (e : PL.keyK d = true) : ∃ k : Key, y = kV k ∧ d = keyD k := by
  cases h with
  | int i => exact ⟨.inl i, rfl, rfl⟩
  | str x _ => exact ⟨.inr x, rfl, rfl⟩
  | _ => cases e
theorem RpA.keyK {F : Hp} : ∀ {vs : List V} {ds : List D}, RpA F vs ds → ds.all PL.keyK = true → ∃ ks : List Key, vs = ks.map kV ∧ ds = ks.map keyD
  | _, _, .nil, _ => ⟨[], rfl, rfl⟩
  | _, _, .cons h r, e => by
    simp only [List.all_cons, Bool.and_eq_true] at e
    obtain ⟨k, rfl, rfl⟩ := h.keyK e.1
    obtain ⟨ks, rfl, rfl⟩ := RpA.keyK r e.2
    exact ⟨k :: ks, rfl, rfl⟩
theorem Rp.keyT {F : Hp} {y : V} {d : D} (h : Rp F y d) (e : PL.keyT d = true) : ∃ (q : Addr) (k : List Key), y = .ref q ∧ F q = some (.tup (k.map kV)) ∧ d = .tuple (k.map keyD) := by
  cases h with
  | @tup a xs ds e0 t =>
    obtain ⟨ks, rfl, rfl⟩ := t.keyK e
    exact ⟨a, ks, rfl, e0, rfl⟩
  | _ => cases e
def kindOf : List (D × D) → Option Bool
  | [] => none
  | p :: _ => if keyK p.1 = true then some false else if keyT p.1 = true then some true else none
theorem keyK_D (k : Key) : keyK (keyD k) = true := by cases k <;> rfl
theorem keyT_D (k : List Key) : keyT (.tuple (k.map keyD)) = true := by
  show (k.map keyD).all keyK = true
  rw [List.all_eq_true]
  intro x hx
  obtain ⟨j, _, rfl⟩ := List.mem_map.mp hx
  exact keyK_D j
/-- a dict: has it tuples as keys, its pairs -/
def dic (w : Wv) (Γ : Ev) : Option (Bool × List (D × D)) := match w with
  | .ow (.k ds) => some (false, ds)
  | .ow (.t ds) => some (true, ds)
  | .sh (.dict ds) => (kindOf ds).map (·, ds)
  | .at i => (match Γ[i]? with
    | some (.ow (.k ds)) => some (false, ds)
    | some (.ow (.t ds)) => some (true, ds)
    | some (.sh (.dict ds)) => (kindOf ds).map (·, ds)
    | _ => none)
  | _ => none
def IsDic (F H : Hp) (b : Bool) (a : Addr) (ds : List (D × D)) : Prop := if b = true then ∃ kvs, H a = some (.dT kvs) ∧ RpT F kvs ds else ∃ kvs, H a = some (.dK kvs) ∧ RpK F kvs ds
theorem dic_sh {F H : Hp} {v : V} {b : Bool} {ds ds' : List (D × D)} (h : Rp F v (.dict ds)) (s : Same F H) (e : (kindOf ds).map (·, ds) = some (b, ds')) : ∃ a, v = .ref a ∧ IsDic F H b a ds' := by
  cases h with
  | @dk a kvs ds e1 t =>
    cases t with
    | nil => cases e
    | @cons k v r d ds h r =>
      simp only [kindOf, keyK_D, if_true, Option.map_some, Option.some.injEq, Prod.mk.injEq] at e
      obtain ⟨rfl, rfl⟩ := e
      refine ⟨a, rfl, ?_⟩
      unfold IsDic
      rw [if_neg Bool.false_ne_true]
      exact ⟨_, s _ _ e1, .cons h r⟩
  | @dt a kvs ds e1 t =>
    cases t with
    | nil => cases e
    | @cons k v r d ds h r =>
      have n : keyK (.tuple (k.map keyD)) = false := rfl
      simp only [kindOf, n, keyT_D, Bool.false_eq_true, if_false, if_true, Option.map_some, Option.some.injEq, Prod.mk.injEq] at e
      obtain ⟨rfl, rfl⟩ := e
      refine ⟨a, rfl, ?_⟩
      unfold IsDic
      rw [if_pos rfl]
      exact ⟨_, s _ _ e1, .cons h r⟩
  | fz e1 t => cases e
  | rg e1 => cases e
section
variable {B F : Hp} {Γ : Ev} {σ : L2.St} {H : Hp} {fp : Nat → List Addr} {v : V} {w : Wv} {b : Bool} {ds : List (D × D)}
theorem dic_ro {o : O} {f : List Addr} (h : RO F H v o f) : (∀ ds, o = .k ds → ∃ a, v = .ref a ∧ IsDic F H false a ds) ∧ (∀ ds, o = .t ds → ∃ a, v = .ref a ∧ IsDic F H true a ds) := by
  cases h with
  | l _ _ => exact ⟨(fun _ e => nomatch e), (fun _ e => nomatch e)⟩
  | dp _ _ => exact ⟨(fun _ e => nomatch e), (fun _ e => nomatch e)⟩
  | @k a kvs ds e t => exact ⟨fun _ q => by
      cases q
      exact ⟨a, rfl, by
        unfold IsDic
        rw [if_neg Bool.false_ne_true]
        exact ⟨kvs, e, t⟩⟩, fun _ e => nomatch e⟩
  | @t a kvs ds e t => exact ⟨(fun _ e => nomatch e), fun _ q => by
      cases q
      exact ⟨a, rfl, by
        unfold IsDic
        rw [if_pos rfl]
        exact ⟨kvs, e, t⟩⟩⟩
theorem dic_ok (r : Rel B F Γ σ H fp) (h : RW B F Γ σ H fp v w) (e : dic w Γ = some (b, ds)) : ∃ a, v = .ref a ∧ IsDic F H b a ds := by
  cases h with
  | @sh d h =>
    cases d with
    | dict ds0 => exact dic_sh h r.fx e
    | _ => cases e
  | @ow o f h hf =>
    cases o with
    | l _ => cases e
    | dp _ => cases e
    | k ds0 =>
      cases e
      exact (dic_ro h).1 _ rfl
    | t ds0 =>
      cases e
      exact (dic_ro h).2 _ rfl
  | @«at» i h =>
    unfold dic at e
    simp only at e
    split at e
    · rename_i ds0 q
      cases e
      obtain ⟨u, h1, h2⟩ := r.ow i _ q
      rw [h] at h1
      cases h1
      exact (dic_ro h2).1 _ rfl
    · rename_i ds0 q
      cases e
      obtain ⟨u, h1, h2⟩ := r.ow i _ q
      rw [h] at h1
      cases h1
      exact (dic_ro h2).2 _ rfl
    · rename_i ds0 q
      obtain ⟨u, h1, h2⟩ := r.sh i _ q
      rw [h] at h1
      cases h1
      exact dic_sh h2 r.fx e
    · cases e
/-- the key y asked of a dict -/
theorem dic_get {a : Addr} {y : V} {k : D} (d : IsDic F H b a ds) (s : Same F H) (hy : Rp H y k) (hk : (if b = true then keyT k else keyK k) = true) :
    ∃ o, DGet H a y o ∧ ((lookD ds k = none ∧ o = none) ∨ ∃ v e, lookD ds k = some e ∧ o = some v ∧ Rp F v e) := by
  cases b with
  | true =>
    obtain ⟨kvs, e, t⟩ := d
    obtain ⟨q, ks, rfl, e2, rfl⟩ := hy.keyT hk
    refine ⟨_, .t e e2, ?_⟩
    rcases t.look ks with ⟨h1, h2⟩ | ⟨v, x, h1, h2, h3⟩
    · exact .inl ⟨h1, h2⟩
    · exact .inr ⟨v, x, h1, h2, h3⟩
  | false =>
    obtain ⟨kvs, e, t⟩ := d
    obtain ⟨ks, rfl, rfl⟩ := hy.keyK hk
    refine ⟨_, .k e, ?_⟩
    rcases t.look ks with ⟨h1, h2⟩ | ⟨v, x, h1, h2, h3⟩
    · exact .inl ⟨h1, h2⟩
    · exact .inr ⟨v, x, h1, h2, h3⟩
theorem dic_isD {a : Addr} (d : IsDic F H b a ds) : IsD H a := by
  cases b with
  | true =>
    obtain ⟨kvs, e, t⟩ := d
    exact .inr ⟨kvs, .inl e⟩
  | false =>
    obtain ⟨kvs, e, t⟩ := d
    exact .inl ⟨kvs, .inl e⟩
/-- slot i's own dict gets a pair -/
theorem Rel.putS {i : Nat} {y z : V} {k e : D} (r : Rel B F Γ σ H fp) (hv : σ[i]? = some (some v)) (hy : Rp F y k) (hz : Rp F z e) (hl : ds.length < sizeLine) :
    (Γ[i]? = some (.ow (.k ds)) → keyK k = true → ∃ a H', v = .ref a ∧ DPut H a y z H' ∧ Rel B F (Γ.set i (.ow (.k (putD ds k e)))) σ H' fp) ∧
    (Γ[i]? = some (.ow (.t ds)) → keyT k = true → ∃ a H', v = .ref a ∧ DPut H a y z H' ∧ Rel B F (Γ.set i (.ow (.t (putD ds k e)))) σ H' fp) := by
  have gen : ∀ {o o' : O} {a : Addr} {u : HO}, Γ[i]? = some (.ow o) → RO F H v o (fp i) → v = .ref a → fp i = [a] → RO F (upd H a u) v o' [a] → Rel B F (Γ.set i (.ow o')) σ (upd H a u) fp := by
    intro o o' a u e h2 ea hf h3
    have hm : a ∈ fp i := by rw [hf]; simp
    obtain ⟨b1, b2, b3⟩ := r.nb i a hm
    refine ⟨fun c o q => ?_, fun c o q => ?_, by rw [List.length_set]; exact r.len, fun j d q => ?_, fun j o q => ?_, fun j c hc => ?_, r.dj, fun j a q => r.ex j a (ex_ne (fun _ => Sl.noConfusion) q).2⟩
    · rw [upd_ne fun z => by subst z; rw [b1] at q; cases q]
      exact r.bx c o q
    · rw [upd_ne fun z => by subst z; rw [b2] at q; cases q]
      exact r.fx c o q
    · by_cases hj : i = j
      · subst hj
        rw [List.getElem?_set_self (List.getElem?_eq_some_iff.mp e).1] at q
        cases q
      · rw [List.getElem?_set_ne hj] at q
        exact r.sh j d q
    · by_cases hj : i = j
      · subst hj
        rw [List.getElem?_set_self (List.getElem?_eq_some_iff.mp e).1] at q
        cases q
        refine ⟨_, hv, ?_⟩
        rw [hf]
        exact h3
      · rw [List.getElem?_set_ne hj] at q
        obtain ⟨w, g1, g2⟩ := r.ow j o q
        exact ⟨w, g1, g2.mono (Same.refl F) fun c hc => upd_ne fun z => hj (r.dj i j c (z ▸ hm) hc)⟩
    · obtain ⟨c1, c2, c3⟩ := r.nb j c hc
      refine ⟨c1, c2, ?_⟩
      unfold upd
      split
      · exact fun z => nomatch z
      · exact c3
  refine ⟨fun q hk => ?_, fun q hk => ?_⟩
  · obtain ⟨u, h1, h2⟩ := r.ow i _ q
    rw [hv] at h1
    cases h1
    generalize hf : fp i = f at h2
    cases h2 with
    | @k a kvs ds e1 t =>
      obtain ⟨ks, rfl, rfl⟩ := hy.keyK hk
      refine ⟨a, _, rfl, .k e1 (by rw [t.length]; exact hl), gen q (hf ▸ .k e1 t) rfl hf (.k upd_same (t.put hz))⟩
  · obtain ⟨u, h1, h2⟩ := r.ow i _ q
    rw [hv] at h1
    cases h1
    generalize hf : fp i = f at h2
    cases h2 with
    | @t a kvs ds e1 t =>
      obtain ⟨q2, ks, rfl, e2, rfl⟩ := hy.keyT hk
      refine ⟨a, _, rfl, .t e1 (r.fx _ _ e2) (by rw [t.length]; exact hl), gen q (hf ▸ .t e1 t) rfl hf (.t upd_same (t.put hz))⟩
end
section
variable {X : Cx} {W : WX} {pos p : Pos} {a b e f : Expr} {ta tb te tf : TE} {pa pb pe pf : QE}
theorem new_k {B F : Hp} {Γ : Ev} {σ : L2.St} {H : Hp} {fp : Nat → List Addr} {p : Addr} (r : Rel B F Γ σ H fp) (hp : H p = none) :
    Rel B F Γ σ (upd H p (.dK [])) fp ∧ RW B F Γ σ (upd H p (.dK [])) fp (.ref p) (.ow (.k [])) := by
  refine ⟨r.new hp, .ow (.k upd_same .nil) fun a ha => ?_⟩
  simp only [List.mem_singleton] at ha
  subst ha
  exact free_of r hp
theorem new_t {B F : Hp} {Γ : Ev} {σ : L2.St} {H : Hp} {fp : Nat → List Addr} {p : Addr} (r : Rel B F Γ σ H fp) (hp : H p = none) :
    Rel B F Γ σ (upd H p (.dT [])) fp ∧ RW B F Γ σ (upd H p (.dT [])) fp (.ref p) (.ow (.t [])) := by
  refine ⟨r.new hp, .ow (.t upd_same .nil) fun a ha => ?_⟩
  simp only [List.mem_singleton] at ha
  subst ha
  exact free_of r hp
def qOwn (o : O) : QE := fun Γ R _ => R (.ow o) Γ
theorem d_dK : DE X W (.Dict [] [] pos) tDNewK (qOwn (.k [])) := ⟨pe_dnewK, fun {B F Γ σ H fp} R EX Q r q k _ p hp => by
  obtain ⟨r', v'⟩ := new_k r hp
  exact k _ Γ _ F _ fp .refl r' v' q⟩
theorem d_dT : DE X W (.Dict [] [] pos) tDNewT (qOwn (.t [])) := ⟨pe_dnewT, fun {B F Γ σ H fp} R EX Q r q k _ p hp => by
  obtain ⟨r', v'⟩ := new_t r hp
  exact k _ Γ _ F _ fp .refl r' v' q⟩
/-- y in d, y not in d -/
def dget (w : Wv) (Γ : Ev) (dk : D) (k : Option D → Prop) : Prop := match dic w Γ with
  | some (b, ds) => (if b = true then keyT dk else keyK dk) = true ∧ k (lookD ds dk)
  | none => False
theorem dget_ok {B F : Hp} {Γ : Ev} {σ : L2.St} {H : Hp} {fp : Nat → List Addr} {v y : V} {w : Wv} {dk : D} {k : Option D → Prop} (r : Rel B F Γ σ H fp) (h : RW B F Γ σ H fp v w) (hy : Rb F H y dk) (q : dget w Γ dk k) :
    ∃ a o, v = .ref a ∧ IsD H a ∧ DGet H a y o ∧ ((o = none ∧ k none) ∨ ∃ u x, o = some u ∧ Rp F u x ∧ k (some x)) := by
  unfold dget at q
  split at q
  · rename_i b ds e
    obtain ⟨a, rfl, d⟩ := dic_ok r h e
    obtain ⟨o, g, z⟩ := dic_get d r.fx (hy.rp r.fx) q.1
    refine ⟨a, o, rfl, dic_isD d, g, ?_⟩
    rcases z with ⟨z1, z2⟩ | ⟨u, x, z1, z2, z3⟩
    · exact .inl ⟨z2, by rw [← z1]; exact q.2⟩
    · exact .inr ⟨u, x, z2, z3, by rw [← z1]; exact q.2⟩
  · exact q.elim
def qDIn (g : Bool → Bool) (py pd : QE) : QE := fun Γ R E => py Γ (fun w1 Γ1 => pd Γ1 (fun w2 Γ2 => bor w1 Γ2 fun dk => dget w2 Γ2 dk fun o => R (.sh (.bool (g o.isSome))) Γ2) E) E
theorem se_din {g : Bool → Bool} (ha : SE W ta pa) (hb : SE W tb pb) : SE W (tOp (fun y x H Q => ∃ a o, x = .ref a ∧ DGet H a y o ∧ Q (.bl (g o.isSome)) H) ta tb) (qDIn g pa pb) := fun {B F Γ σ H fp} R EX Q rr h k e => by
  refine se_two ha hb rr h (Z := fun w1 w2 Γ2 => bor w1 Γ2 fun dk => dget w2 Γ2 dk fun o => R (.sh (.bool (g o.isSome))) Γ2) (fun w1 w2 Γ' x y F' H' fp' x1 r1 v1 v2 z => ?_) e
  obtain ⟨dk, b1, z⟩ := bor_rb r1 v1 z
  obtain ⟨a, o, rfl, _, gg, z⟩ := dget_ok r1 v2 b1 z
  refine ⟨a, o, rfl, gg, ?_⟩
  rcases z with ⟨rfl, z⟩ | ⟨u, x, rfl, _, z⟩
  · exact k _ Γ' _ F' H' fp' x1 r1 (.sh (.bl _)) z
  · exact k _ Γ' _ F' H' fp' x1 r1 (.sh (.bl _)) z
theorem d_din {j : Nat} (hr : Room j X.A) (ha : DE X W a ta pa) (hb : DE X W b tb pb) (hm : behindInMarks .In b = false := by with_unfolding_all rfl) : DE X W (.Compare a [.In] [b] pos) (tDIn ta tb) (qDIn id pa pb) := ⟨pe_cmp (pc_din (hu_of hr) ha.pe hb.pe) hm, se_din (g := id) ha.se hb.se⟩
theorem d_dnotin {j : Nat} (hr : Room j X.A) (ha : DE X W a ta pa) (hb : DE X W b tb pb) (hm : behindInMarks .NotIn b = false := by with_unfolding_all rfl) : DE X W (.Compare a [.NotIn] [b] pos) (tDNotIn ta tb) (qDIn not pa pb) := ⟨pe_cmp (pc_dnotin (hu_of hr) ha.pe hb.pe) hm, se_din (g := not) ha.se hb.se⟩
theorem d_tdin {j : Nat} (hr : Room j X.A) (ha : DE X W a ta pa) (hb : DE X W b tb pb) (hm : behindInMarks .In b = false := by with_unfolding_all rfl) : DT X W (.Compare a [.In] [b] pos) (tB (tDIn ta tb)) (qB (qDIn id pa pb)) := ⟨pt_cmp (pc_din (hu_of hr) ha.pe hb.pe) hm, st_tt (se_din (g := id) ha.se hb.se)⟩
theorem d_tdnotin {j : Nat} (hr : Room j X.A) (ha : DE X W a ta pa) (hb : DE X W b tb pb) (hm : behindInMarks .NotIn b = false := by with_unfolding_all rfl) : DT X W (.Compare a [.NotIn] [b] pos) (tB (tDNotIn ta tb)) (qB (qDIn not pa pb)) := ⟨pt_cmp (pc_dnotin (hu_of hr) ha.pe hb.pe) hm, st_tt (se_din (g := not) ha.se hb.se)⟩
/-- d[k] -/
def qDGet (pd py : QE) : QE := fun Γ R E => pd Γ (fun w1 Γ1 => py Γ1 (fun w2 Γ2 => bor w2 Γ2 fun dk => dget w1 Γ2 dk fun o => match o with
  | some d => R (.sh d) Γ2
  | none => False) E) E
theorem d_dget {j : Nat} (hr : Room j X.A) (ha : DE X W a ta pa) (hb : DE X W b tb pb) (hs : NoSl b := by exact fun _ _ => rfl) : DE X W (.Subscript a b pos) (tDGet ta tb) (qDGet pa pb) := ⟨pe_dget (hu_of hr) ha.pe hb.pe hs, fun {B F Γ σ H fp} R EX Q rr h k e => by
  refine se_two ha.se hb.se rr h (Z := fun w1 w2 Γ2 => bor w2 Γ2 fun dk => dget w1 Γ2 dk fun o => match o with
    | some d => R (.sh d) Γ2
    | none => False) (fun w1 w2 Γ' x y F' H' fp' x1 r1 v1 v2 z => ?_) e
  obtain ⟨dk, b1, z⟩ := bor_rb r1 v2 z
  obtain ⟨a, o, rfl, _, gg, z⟩ := dget_ok r1 v1 b1 z
  rcases z with ⟨rfl, z⟩ | ⟨u, x, rfl, hu, z⟩
  · exact z.elim
  · exact ⟨a, u, rfl, gg, k _ Γ' _ F' H' fp' x1 r1 (.sh hu) z⟩⟩
/-- d[k] = v, d an own dict -/
def isOwD : Option Sl → Bool
  | some (.ow (.k _)) => true
  | some (.ow (.t _)) => true
  | _ => false
def qDPut (i : Nat) (py pv : QE) : QS := fun P Γ => pv Γ (fun w Γ1 => shr w Γ1 fun d Γ2 => isOwD Γ2[i]? = true ∧ py Γ2 (fun w2 Γ3 => shr w2 Γ3 fun dk Γ4 => match Γ4[i]? with
  | some (.ow (.k ds)) => keyK dk = true ∧ ds.length < sizeLine ∧ P.nx (Γ4.set i (.ow (.k (putD ds dk d))))
  | some (.ow (.t ds)) => keyT dk = true ∧ ds.length < sizeLine ∧ P.nx (Γ4.set i (.ow (.t (putD ds dk d))))
  | _ => False) P.ex) P.ex
theorem ds_dput (i : Nat) {j : Nat} {x : Str} {px pos' : Pos} (hr : Room j X.A) (hi : DE X W b tb pb) (hv : DE X W e te pe) (hs : swapsWith e (some (.Subscript (.Name x px) b pos')) pos.line X.env = pure false := by rfl) (hN : X.N[i]? = some x := by rfl)
    (hvis : Vis X.env.scope x := by first | exact Or.inl rfl | exact Or.inr (Or.inl rfl) | exact Or.inr (Or.inr rfl)) (hd : (x == ("__debug__" : Str)) = false := by decide) (hcd : (x == ("__classdict__" : Str)) = false := by decide) :
    DS X W (.Assign [.Subscript (.Name x px) b pos'] e pos) (sDPut (tVar i) tb te) (qDPut i pb pe) := ⟨ps_dput (hu_of hr) (pe_var hN hvis hd hcd) hi.pe hv.pe hs, fun {B F Γ σ H fp} P D r q a => by
  refine hv.se _ _ _ r q (fun w Γ1 v F1 H1 fp1 x1 r1 v1 h1 => ?_) a.afe
  obtain ⟨d, Γ2, F2, fp2, x2, r2, b2, ho, h2⟩ := shr_ok r1 v1 h1
  have hσ : ∃ u, σ[i]? = some (some u) := by
    unfold isOwD at ho
    split at ho
    · rename_i q
      obtain ⟨u, z, _⟩ := r2.ow i _ q
      exact ⟨u, z⟩
    · rename_i q
      obtain ⟨u, z, _⟩ := r2.ow i _ q
      exact ⟨u, z⟩
    · cases ho
  obtain ⟨u, hu⟩ := hσ
  refine ⟨u, hu, hi.se _ _ _ r2 h2 (fun w2 Γ3 y F3 H3 fp3 x3 r3 v3 h3 => ?_) (a.mono (x1.trans x2)).afe⟩
  obtain ⟨dk, Γ4, F4, fp4, x4, r4, b4, h4⟩ := shr_ok r3 v3 h3
  have b2' := (b2.mono x3.same).mono x4.same
  have xx := ((x1.trans x2).trans x3).trans x4
  split at h4
  · rename_i ds q
    obtain ⟨h5, h6, h7⟩ := h4
    obtain ⟨ad, H', ea, g, r5⟩ := (r4.putS (v := u) hu b4 b2' h6).1 q h5
    exact ⟨ad, H', ea, g, a.nx _ F4 σ H' fp4 xx r5 h7⟩
  · rename_i ds q
    obtain ⟨h5, h6, h7⟩ := h4
    obtain ⟨ad, H', ea, g, r5⟩ := (r4.putS (v := u) hu b4 b2' h6).2 q h5
    exact ⟨ad, H', ea, g, a.nx _ F4 σ H' fp4 xx r5 h7⟩
  · exact h4.elim⟩
/-- d.get(k), d.get(k, x) -/
def qGet1 (pd py : QE) : QE := fun Γ R E => pd Γ (fun w1 Γ1 => (dic w1 Γ1).isSome = true ∧ py Γ1 (fun w2 Γ2 => bor w2 Γ2 fun dk => dget w1 Γ2 dk fun o => R (.sh (o.getD .none)) Γ2) E) E
theorem d_get1 {j : Nat} {apos : Pos} (hr : Room j X.A) (ha : DE X W a ta pa) (hb : DE X W b tb pb) (m : M1 X a "get" apos b pos := by exact ⟨rfl, rfl, rfl, rfl⟩) : DE X W (.Call (.Attribute a "get" apos) [b] [] pos) (tDGet1 ta tb) (qGet1 pa pb) := ⟨pe_dget1 (hu_of hr) ha.pe hb.pe m, fun {B F Γ σ H fp} R EX Q rr h k e => by
  refine ha.se _ EX _ rr h (fun w1 Γ1 x F1 H1 fp1 x1 r1 v1 h1 => ?_) e
  obtain ⟨hd, h1⟩ := h1
  obtain ⟨⟨bb, ds⟩, hd⟩ := Option.isSome_iff_exists.mp hd
  obtain ⟨a, rfl, d⟩ := dic_ok r1 v1 hd
  refine ⟨a, rfl, dic_isD d, ?_⟩
  obtain ⟨B', r1', g⟩ := r1.guard v1
  refine hb.se _ EX _ r1' h1 (fun w2 Γ2 y F2 H2 fp2 x2 r2 v2 h2 => ?_) fun c Γ' F' H' fp' x2 r2 q => ?_
  · obtain ⟨x3, r3, v3, g2⟩ := g F2 Γ2 H2 fp2 x2 r2
    obtain ⟨dk, b1, z⟩ := bor_rb r3 (g2 _ _ v2) h2
    obtain ⟨a', o, e', _, gg, z⟩ := dget_ok r3 v3 b1 z
    cases e'
    refine ⟨o, gg, ?_⟩
    rcases z with ⟨rfl, z⟩ | ⟨u, x, rfl, hu, z⟩
    · exact k _ Γ2 _ F2 H2 fp2 (x1.trans x3) r3 (.sh .non) z
    · exact k _ Γ2 _ F2 H2 fp2 (x1.trans x3) r3 (.sh hu) z
  · obtain ⟨x3, r3, _, _⟩ := g F' Γ' H' fp' x2 r2
    exact e c Γ' F' H' fp' (x1.trans x3) r3 q⟩
/-- len of a dict -/
def opLenD (w : Wv) (Γ : Ev) (k : Wv → Prop) : Prop := match dic w Γ with
  | some (_, ds) => k (.sh (.int ds.length))
  | none => False
def qLenD (p : QE) : QE := fun Γ R E => p Γ (fun w Γ1 => opLenD w Γ1 fun w' => R w' Γ1) E
def rLenD2 : List V → Hp → VK → Prop := fun xs H Q => (∃ a kvs, xs = [V.ref a] ∧ H a = some (.dK kvs) ∧ Q (.int kvs.length) H) ∨ ∃ (p : Addr) (kvs : List (List Key × V)), xs = [.ref p] ∧ H p = some (.dT kvs) ∧ Q (.int ((kvs.length : Nat) : Int)) H
theorem d_lenD (hm : X.mg "len" = none) (ha : DE X W a ta pa) (hg : Gl X "len" := by rfl) (he : starEach [a] X.env = (false, eval a X.env) :: starEach [] X.env := by rfl) (hpl : (backTo pos (starEach [] X.env)).any (·.1) = false := by rfl) :
    DE X W (.Call (.Name "len" p) [a] [] pos) (tCB rLenD2 (tCons ta tNil)) (qLenD pa) := ⟨pe_callB (CallR.or call_lenD call_len_dT) hg hm PySem.boot_len (pa_cons ha.pe pa_nil he) (by decide) (by decide) he hpl, fun {B F Γ σ H fp} R EX Q rr h k e => by
  refine ha.se _ EX _ rr h (fun w1 Γ1 x F1 H1 fp1 x1 r1 v1 h1 => ?_) e
  unfold opLenD at h1
  split at h1
  · rename_i b ds hd
    obtain ⟨a, rfl, d⟩ := dic_ok r1 v1 hd
    cases b with
    | true =>
      obtain ⟨kvs, e1, t⟩ := d
      exact .inr ⟨a, kvs, rfl, e1, k _ Γ1 _ F1 H1 fp1 x1 r1 (.sh (.int _)) (by rw [t.length]; exact h1)⟩
    | false =>
      obtain ⟨kvs, e1, t⟩ := d
      exact .inl ⟨a, kvs, rfl, e1, k _ Γ1 _ F1 H1 fp1 x1 r1 (.sh (.int _)) (by rw [t.length]; exact h1)⟩
  · exact h1.elim⟩
end
end PL

namespace PL
open PySem PySem.Spec PyProof.Rows L2

/-! ### comprehensions of two clauses -/
def lc2Go (vs vs1 : List Nat) (g : QG) (t : QT) (i1 : QI) (g1 : QG) (t1 : QT) (p : QE) (k : List D → Ev → Prop) : List D → List D → Ev → Prop
  | [], acc, Γ => k acc Γ
  | d :: r, acc, Γ => g (.sh d) Γ fun Γ1 => t Γ1 (fun b Γ2 => Cif b (i1 Γ2 (fun ds1 Γ3 => lcGo vs1 g1 t1 p (fun acc' Γ4 => lc2Go vs vs1 g t i1 g1 t1 p k r acc' (wipEv vs Γ4)) ds1 acc (wipEv vs1 Γ3)) noEX)
      (lc2Go vs vs1 g t i1 g1 t1 p k r acc (wipEv vs Γ2))) noEX
def qLc2 (vs vs1 : List Nat) (i : QI) (g : QG) (t : QT) (i1 : QI) (g1 : QG) (t1 : QT) (p : QE) : QE := fun Γ R E => i Γ (fun ds Γ1 => noOw Γ1 vs = true ∧ lc2Go vs vs1 g t i1 g1 t1 p (fun acc Γ2 => R (.ow (.l acc)) (backEv Γ1 vs Γ2)) ds [] (wipEv vs Γ1)) E
theorem wipe_wipe {σ : L2.St} {vs vs1 : List Nat} (h : ∀ j ∈ vs1, j ∈ vs) : wipe (wipe σ vs1) vs = wipe σ vs := by
  apply List.ext_getElem?
  intro i
  rcases wipe_get (wipe σ vs1) vs i with ⟨h1, q⟩ | ⟨h1, q⟩
  · rcases wipe_get σ vs i with ⟨h2, q'⟩ | ⟨h2, _⟩
    · by_cases hi : i < σ.length
      · have e1 : (wipe (wipe σ vs1) vs)[i]? ≠ none := by
          rw [List.getElem?_eq_getElem (by rw [wipe_length, wipe_length]; omega)]
          exact fun z => nomatch z
        have e2 : (wipe σ vs)[i]? ≠ none := by
          rw [List.getElem?_eq_getElem (by rw [wipe_length]; omega)]
          exact fun z => nomatch z
        rcases q with q | q
        · rcases q' with q' | q'
          · rw [q, q']
          · exact absurd q' e2
        · exact absurd q e1
      · rw [List.getElem?_eq_none (by rw [wipe_length, wipe_length]; omega), List.getElem?_eq_none (by rw [wipe_length]; omega)]
    · exact absurd h1 h2
  · rcases wipe_get σ vs i with ⟨h2, _⟩ | ⟨_, q'⟩
    · exact absurd h2 h1
    · rw [q, q']
      rcases wipe_get σ vs1 i with ⟨h3, _⟩ | ⟨_, q3⟩
      · exact absurd (h i h3) h1
      · exact q3
section
variable {W : WX} {wi wi1 : TI} {qi qi1 : QI} {g g1 : TG} {qg qg1 : QG} {js js1 : List Nat} {tt tt1 : TT} {qt qt1 : QT} {te : TE} {qe : QE} {vs vs1 : List Nat}
theorem se_lc2 (hi : SI W wi qi) (hg : SG g qg js) (ht : ST W0 tt qt) (hi1 : SI W0 wi1 qi1) (hg1 : SG g1 qg1 js1) (ht1 : ST W0 tt1 qt1) (he : SE W0 te qe) (hj : ∀ j ∈ js, j ∈ vs) (hj1 : ∀ j ∈ js1, j ∈ vs1) (hv : ∀ j ∈ vs1, j ∈ vs) :
    SE W (tLc2 wi g tt wi1 g1 tt1 te vs vs1) (qLc2 vs vs1 qi qg qt qi1 qg1 qt1 qe) := fun {B F Γ σ H fp} R EX Q r q k e => by
  refine hi _ _ _ r q (fun ds Γ1 J F1 H1 fp1 x1 r1 ok h1 => ?_) e
  obtain ⟨ho, h1⟩ := h1
  intro Dl hD
  have r2 : Rel B F1 (wipEv vs Γ1) (wipe σ vs) H1 fp1 := r1.wip vs
  obtain ⟨r3, v3⟩ := new_lst r2 (.nil) hD
  generalize hKK : (fun (acc : List D) (Γ2 : Ev) => R (.ow (.l acc)) (backEv Γ1 vs Γ2)) = KK at h1
  refine ⟨fun i m H' => m + i = ds.length ∧ ∃ Γ' F' fp' acc, Ext B F1 F' ∧ Rel B F' Γ' (wipe σ vs) H' fp' ∧ OwnV B F' H' fp' (.ref Dl) (.l acc) ∧
    lc2Go vs vs1 qg qt qi1 qg1 qt1 qe KK (ds.drop i) acc Γ', ⟨ds.length, rfl, _, F1, fp1, [], .refl, r3, v3.own, h1⟩, ?_⟩
  rintro i m H' ⟨hm, Γ', F', fp', acc, x, r', v', hf⟩
  obtain ⟨o1, o2⟩ := ok B F' Γ' _ H' fp' x.same r' i
  by_cases hlt : i < ds.length
  · obtain ⟨B', rB, gd⟩ := r'.hold v'
    obtain ⟨go, yld⟩ := (ok B' F' Γ' _ H' fp' x.same rB i).1 ds[i] (List.getElem?_eq_getElem hlt)
    refine .inr ⟨go, fun H2 => ∃ m', m' < m ∧ (m' + (i + 1) = ds.length ∧ ∃ Γ' F' fp' acc, Ext B F1 F' ∧ Rel B F' Γ' (wipe σ vs) H2 fp' ∧ OwnV B F' H2 fp' (.ref Dl) (.l acc) ∧
      lc2Go vs vs1 qg qt qi1 qg1 qt1 qe KK (ds.drop (i + 1)) acc Γ'), fun H2 h => h, fun y H2 hy => ?_⟩
    obtain ⟨F2, x2, r2, b2⟩ := yld y H2 hy
    rw [List.drop_eq_getElem_cons hlt] at hf
    refine hg _ _ r2 (.sh b2) hf fun Γ3 F3 σ3 fp3 x3 r3 c3 h3 => ?_
    have hw : wipe σ3 vs = wipe σ vs := wipe_chg c3 hj
    refine ⟨hw, ht _ noEX _ r3 h3 (fun b Γ4 F4 H4 fp4 x4 r4 h4 => ?_) afe_no⟩
    have x24 := (x2.trans x3).trans x4
    cases b with
    | true =>
      refine hi1 _ noEX _ r4 (h4.t rfl) (fun ds1 Γ5 J1 F5 H5 fp5 x5 r5 ok1 h5 => ?_) afe_no
      have r5w := r5.wip vs1
      obtain ⟨y5, r5b, v5⟩ := gd F5 _ _ H5 fp5 (x24.trans x5) r5w
      refine ⟨fun i' m' H' => m' + i' = ds1.length ∧ ∃ Γ' F' fp' acc, Ext B F5 F' ∧ Rel B F' Γ' (wipe σ3 vs1) H' fp' ∧ OwnV B F' H' fp' (.ref Dl) (.l acc) ∧
        lcGo vs1 qg1 qt1 qe (fun acc' Γ4 => lc2Go vs vs1 qg qt qi1 qg1 qt1 qe KK (ds.drop (i + 1)) acc' (wipEv vs Γ4)) (ds1.drop i') acc Γ', ⟨ds1.length, rfl, _, F5, fp5, acc, .refl, r5b, v5, h5⟩, ?_⟩
      rintro i' m' Hi ⟨hm', Γi, Fi, fpi, acci, xi, ri, vi, hfi⟩
      obtain ⟨p1, p2⟩ := ok1 B Fi Γi _ Hi fpi xi.same ri i'
      by_cases hlt' : i' < ds1.length
      · obtain ⟨Bi, rBi, gdi⟩ := ri.hold vi
        obtain ⟨goi, yldi⟩ := (ok1 Bi Fi Γi _ Hi fpi xi.same rBi i').1 ds1[i'] (List.getElem?_eq_getElem hlt')
        refine .inr ⟨goi, fun H2 => ∃ m'', m'' < m' ∧ (m'' + (i' + 1) = ds1.length ∧ ∃ Γ' F' fp' acc, Ext B F5 F' ∧ Rel B F' Γ' (wipe σ3 vs1) H2 fp' ∧ OwnV B F' H2 fp' (.ref Dl) (.l acc) ∧
          lcGo vs1 qg1 qt1 qe (fun acc' Γ4 => lc2Go vs vs1 qg qt qi1 qg1 qt1 qe KK (ds.drop (i + 1)) acc' (wipEv vs Γ4)) (ds1.drop (i' + 1)) acc Γ'), fun H2 h => h, fun y H6 hy => ?_⟩
        obtain ⟨F6, x6, r6, b6⟩ := yldi y H6 hy
        rw [List.drop_eq_getElem_cons hlt'] at hfi
        refine hg1 _ _ r6 (.sh b6) hfi fun Γ7 F7 σ7 fp7 x7 r7 c7 h7 => ?_
        have hw1 : wipe σ7 vs1 = wipe σ3 vs1 := wipe_chg c7 hj1
        refine ⟨hw1, ht1 _ noEX _ r7 h7 (fun b Γ8 F8 H8 fp8 x8 r8 h8 => ?_) afe_no⟩
        have x68 := (x6.trans x7).trans x8
        cases b with
        | true =>
          refine he _ noEX _ r8 (h8.t rfl) (fun w9 Γ9 z F9 H9 fp9 x9 r9 v9 h9 => ?_) afe_no
          obtain ⟨d0, Γ0, F0, fp0, x0, r0, b0, hsz, h0⟩ := shr_ok r9 v9 h9
          have r1w := r0.wip vs1
          rw [hw1] at r1w
          obtain ⟨ya, ra, va⟩ := gdi F0 _ _ H9 fp0 ((x68.trans x9).trans x0) r1w
          obtain ⟨xs, e9, l9, rb, vb⟩ := own_app ra va b0
          exact ⟨xs, e9, by rw [l9]; exact hsz, m' - 1, by omega, by omega, _, F0, fp0, _, xi.trans ya, rb, vb, h0⟩
        | false =>
          have r1w := r8.wip vs1
          rw [hw1] at r1w
          obtain ⟨ya, ra, va⟩ := gdi F8 _ _ H8 fp8 x68 r1w
          exact ⟨m' - 1, by omega, by omega, _, F8, fp8, acci, xi.trans ya, ra, va, h8.f rfl⟩
      · refine .inl ⟨p2 (by omega), ?_⟩
        have e0 : ds1.drop i' = [] := List.drop_of_length_le (by omega)
        rw [e0] at hfi
        have rw2 := ri.wip vs
        rw [wipe_wipe hv, hw] at rw2
        exact ⟨m - 1, by omega, by omega, _, Fi, fpi, acci, (x.trans y5).trans xi, rw2, vi, hfi⟩
    | false =>
      have r7 := r4.wip vs
      rw [hw] at r7
      obtain ⟨y8, r8, v8⟩ := gd F4 _ _ H4 fp4 x24 r7
      exact ⟨m - 1, by omega, by omega, _, F4, fp4, acc, x.trans y8, r8, v8, h4.f rfl⟩
  · refine .inl ⟨o2 (by omega), ?_⟩
    rw [List.drop_of_length_le (by omega)] at hf
    subst hKK
    exact k _ _ _ F' H' fp' (x1.trans x) (r1.back ho x.same r') v'.rw hf
end
section
variable {X : Cx} {W : WX} {pos : Pos} {e tg iter tg1 iter1 elt : Expr} {wi wi1 : TI} {qi qi1 : QI} {g g1 : TG} {qg qg1 : QG} {js js1 : List Nat} {tt tt1 : TT} {qt qt1 : QT} {te : TE} {qe : QE} {ifs ifs1 : List Expr} {scope : Scope} {own : List (Str × Nat)}
theorem d_lc2 (vs1 : List Nat) (hc : X.calm = true) (hN : X.N.Nodup) (hi : DI X W tg iter wi qi) (ok : BlkOk X.N X.env.scope scope own)
    (hg : ∀ (s : Shared) (H : Hp) (C : Addr) (cl : List (Str × Addr)) (fp : List Addr), DG (X.blk s H scope (compEnvC scope cl C X.env) fp) tg g qg js)
    (ht : ∀ (s : Shared) (H : Hp) (C : Addr) (cl : List (Str × Addr)) (fp : List Addr), DTs (X.blk s H scope (compEnvC scope cl C X.env) fp) W0 ifs tt qt)
    (hi1 : ∀ (s : Shared) (H : Hp) (C : Addr) (cl : List (Str × Addr)) (fp : List Addr), DI (X.blk s H scope (compEnvC scope cl C X.env) fp) W0 tg1 iter1 wi1 qi1)
    (hg1 : ∀ (s : Shared) (H : Hp) (C : Addr) (cl : List (Str × Addr)) (fp : List Addr), DG (X.blk s H scope (compEnvC scope cl C X.env) fp) tg1 g1 qg1 js1)
    (ht1 : ∀ (s : Shared) (H : Hp) (C : Addr) (cl : List (Str × Addr)) (fp : List Addr), DTs (X.blk s H scope (compEnvC scope cl C X.env) fp) W0 ifs1 tt1 qt1)
    (he : ∀ (s : Shared) (H : Hp) (C : Addr) (cl : List (Str × Addr)) (fp : List Addr), DE (X.blk s H scope (compEnvC scope cl C X.env) fp) W0 elt te qe)
    (hj : (∀ j ∈ js, j ∈ own.map (·.2)) := by decide) (hj1 : (∀ j ∈ js1, j ∈ vs1) := by decide) (hv : (∀ j ∈ vs1, j ∈ own.map (·.2)) := by decide) (hs : ∀ x, foldedSetIterable iter X.env x = pure x := by intro _; rfl) (hs1 : ∀ env x, foldedSetIterable iter1 env x = pure x := by intro _ _; rfl) :
    DE X W (.ListComp elt [⟨tg, iter, ifs, 0⟩, ⟨tg1, iter1, ifs1, 0⟩] scope pos) (tLc2 wi g tt wi1 g1 tt1 te (own.map (·.2)) vs1) (qLc2 (own.map (·.2)) vs1 qi qg qt qi1 qg1 qt1 qe) :=
  ⟨pe_lc2 hc hN hi.pi ok hv (fun s H C cl fp => (hg s H C cl fp).pg) (fun s H C cl fp => (ht s H C cl fp).pt) (fun s H C cl fp => (hi1 s H C cl fp).pi) (fun s H C cl fp => (hg1 s H C cl fp).pg) (fun s H C cl fp => (ht1 s H C cl fp).pt) (fun s H C cl fp => (he s H C cl fp).pe) hs hs1,
   se_lc2 hi.si (hg ({} : Shared) (fun _ => none) 0 [] []).sg (ht ({} : Shared) (fun _ => none) 0 [] []).st (hi1 ({} : Shared) (fun _ => none) 0 [] []).si (hg1 ({} : Shared) (fun _ => none) 0 [] []).sg (ht1 ({} : Shared) (fun _ => none) 0 [] []).st (he ({} : Shared) (fun _ => none) 0 [] []).se hj hj1 hv⟩
end
end PL

namespace PL
open PySem PySem.Spec PyProof.Rows L2

/-! ### dict comprehensions, the keys of either kind -/
/-- the new dict -/
abbrev dic0 (b : Bool) : HO := if b = true then .dT [] else .dK []
theorem dic0_ok {P : Program} {w : World} {H : Hp} {h : Heap} (b : Bool) (hb : sysModules < h.objs.size) : ObjOk P w H (h.push { cls := .type "dict", data := .dict #[] }) h.objs.size (dic0 b) := by
  cases b with
  | true => exact dt_empty h hb
  | false => exact dk_empty h hb
section
variable {X : Cx} {pins : List (Addr × Obj)} {σ : L2.St} {H : Hp} {s : Shared}
theorem put_ok {E : Value → Shared → Prop} {a : Addr} {y v : V} {H' : Hp} {u r : Value} {Q : Unit → Shared → Prop} (hu : X.A.units + 1 < cLine) (I : Inv X pins σ H s) (g : DPut H a y v H') (ry : RelV y u) (rv : RelV v r)
    (h : ∀ s', Inv X pins σ H' s' → Q () s') : wpAny (model X.prog X.w) X.A (dictSet a u r) Q E s := by
  rcases g with ⟨kvs, k, e, rfl, l, rfl⟩ | ⟨kvs, k, b, e, rfl, eb, l, rfl⟩
  · exact d_dictSet I e l ry rv h
  · cases (show u = Value.ref b from ry)
    obtain ⟨zz, hd, xs, rel, dd⟩ := dt_of I.hok e
    have hlen := length_putK kvs k v
    have hx : xs.length = kvs.length := (Paired.length rel).symm
    refine wpAny_dictSet_heap (hsz := by omega) (show X.A.units < cLine by omega) (key_of I.hok eb) dd fun h' dd' hs => h _ ?_
    obtain ⟨q, es, ep, hq, h2, h3, h4, _, h5⟩ := dd'
    have keep : ∀ c ys, H c = some (.tup ys) → upd H a (.dT (putK kvs k v)) c = some (.tup ys) := fun c ys ec => by
      rw [upd_ne (ne_of ec e (fun z => nomatch z))]
      exact ec
    exact d_write I (by rw [e]; exact True.intro) hs ⟨q, hq⟩ ⟨by omega, hd, _, (rel.put k eb rv).keeps keep, q, es, ep, hq, h2, h3, h4, h5⟩
end
def tDcG (b : Bool) (wi : TI) (g : TG) (tt : TT) (tk tv : TE) (vs : List Nat) : TE := fun σ H Q => wi σ H fun J H1 => ∀ D, H1 D = none → ∃ W : Nat → Nat → Hp → Prop, (∃ m, W 0 m (upd H1 D (dic0 b))) ∧ ∀ i m H, W i m H →
  (J.stop i H ∧ Q (.ref D) H) ∨ (J.go i H ∧ ∃ Nx : Hp → Prop, (∀ H', Nx H' → ∃ m', m' < m ∧ W (i + 1) m' H') ∧ ∀ x H', J.yld i H x H' → g x (wipe σ vs) H' fun σ2 H2 => wipe σ2 vs = wipe σ vs ∧ tt σ2 H2 fun c H3 =>
    if c = true then tk σ2 H3 fun y H4 => tv σ2 H4 fun z H5 => ∃ H6, DPut H5 D y z H6 ∧ Nx H6 else Nx H3)
section
variable {X : Cx}
theorem dcG_core {b : Bool} {pins : List (Addr × Obj)} {s : Shared} {σ : L2.St} {H : Hp} {Q : VK} {kx vx tg iter : Expr} {ifs : List Expr} {scope : Scope} {own : List (Str × Nat)} {pos pos' : Pos} {wi : TI} {g : TG} {tt : TT} {tk tv : TE} {use : Option (Value → Sem Unit)} {Qf : Value → Shared → Prop}
    (hu : X.A.units + 1 < cLine) (hc : X.calm = true) (hN : X.N.Nodup) (I : Inv X pins σ H s) (hi : PI X tg iter wi) (ok : BlkOk X.N X.env.scope scope own)
    (hg : ∀ (s : Shared) (H : Hp) (C : Addr) (cl : List (Str × Addr)) (fp : List Addr), PG (X.blk s H scope (compEnvC scope cl C X.env) fp) tg g)
    (ht : ∀ (s : Shared) (H : Hp) (C : Addr) (cl : List (Str × Addr)) (fp : List Addr), PTs (X.blk s H scope (compEnvC scope cl C X.env) fp) ifs tt)
    (hk : ∀ (s : Shared) (H : Hp) (C : Addr) (cl : List (Str × Addr)) (fp : List Addr), PE (X.blk s H scope (compEnvC scope cl C X.env) fp) kx tk)
    (he : ∀ (s : Shared) (H : Hp) (C : Addr) (cl : List (Str × Addr)) (fp : List Addr), PE (X.blk s H scope (compEnvC scope cl C X.env) fp) vx tv) (hs : ∀ x, foldedSetIterable iter X.env x = pure x)
    (h : tDcG b wi g tt tk tv (own.map (·.2)) σ H Q)
    (hR : ∀ D C s' m H', Inv X pins σ H' s' → Q (.ref D) H' → s'.heap.Ns C m → FpOk X pins H' C → compPost (model X.prog X.w) X.A X.xe use Qf (.ref D) C (.ok .next) s') :
    wpAny (model X.prog X.w) X.A (comprehension (.DictComp kx vx [⟨tg, iter, ifs, 0⟩] scope pos) scope X.env pos' newDict false (eval iter X.env) use) Qf X.xe s := by
  have free : ∀ y ∈ scope.names, y.2 = .free → ∃ c, X.env.cells.lookup y.1 = some c := fun y hy e => (ok.free y hy e).elim (fun k => I.ok.has _ (.inl k)) fun k => I.ok.has _ (.inr k)
  refine wpAny_comprehension_free (use := use) rfl hs (closure_ok free) ok.kind (fun y hy e => by rw [ok.uniq y hy, e])
    (thn (hi.run pins s σ H _ I h) fun _ _ hx => thn hx fun _ s2 ⟨it, fp, tn, J, H2, e, I2, T, st2, f2, q⟩ => ?_)
  subst e
  refine wpAny_newObj_type (newEnv_comp ?_)
  let Da := s2.heap.objs.size
  have nD : H2 Da = none := I2.hok.fresh (Nat.le_refl _)
  obtain ⟨W, ⟨m0, w0⟩, turn⟩ := q Da nD
  let s3 : Shared := { s2 with heap := s2.heap.push { cls := .type "dict", data := .dict #[] } }
  let H3 : Hp := upd H2 Da (dic0 b)
  have I3 : Inv X pins σ H3 s3 := I2.laid (t' := s2.toks) (fun _ _ e => Heap.get?_push_of_some _ e) (Nat.le_refl _) (dic0_ok b I2.big)
  have lt2 : ∀ c ∈ fp, c < s2.heap.objs.size := fun c hc => let ⟨_, e, _⟩ := T.obj _ _ st2 c hc; Heap.lt_size e
  have f3 : ∀ c ∈ fp, FpOk X pins H3 c ∧ c < s3.heap.objs.size := fun c hc => ⟨⟨(upd_ne (Nat.ne_of_lt (lt2 c hc))).trans (f2 c hc).1, (f2 c hc).2⟩, by
    show c < (s2.heap.push _).objs.size
    rw [Heap.size_push]
    exact Nat.lt_succ_of_lt (lt2 c hc)⟩
  have st3 : tn 0 s3.heap := T.keep _ _ _ st2 fun _ _ _ e => Heap.get?_push_of_some _ e
  have I4 := block_start I3 ok hN f3
  let cl := cellsFrom (s3.heap.objs.size + 1) scope.names (cloFrom X.env.cells scope.names [])
  have pg := hg s3 H3 s3.heap.objs.size cl fp
  have pt := ht s3 H3 s3.heap.objs.size cl fp
  have pk := hk s3 H3 s3.heap.objs.size cl fp
  have pe := he s3 H3 s3.heap.objs.size cl fp
  let ce := compEnvC scope cl s3.heap.objs.size X.env
  let s4 : Shared := { s3 with heap := pushCells (s3.heap.push { cls := .type "dict", data := .dict #[] }) scope.names }
  show codeAny _ _ (.compStart (.DictComp kx vx [⟨tg, iter, ifs, 0⟩] scope pos) 0 (.ref it) (.ref Da) ce) (compPost (model X.prog X.w) X.A X.xe use Qf (.ref Da) s3.heap.objs.size) s4
  have st4 : tn 0 s4.heap := T.keep _ _ _ st3 fun _ _ _ e => pushCells_keeps _ _ _ _ (Heap.get?_push_of_some _ e)
  have stat : ∀ {σ' : L2.St} {H' : Hp} {s' : Shared}, Inv (X.blk s3 H3 scope ce fp) [] σ' H' s' → (∀ c ∈ fp, H' c = none) → ∀ c ∈ fp, FpOk (X.blk s3 H3 scope ce fp) [] H' c := fun {σ' H' s'} I' hn c hc =>
    ⟨hn c hc, (I'.ok.exf c hc).1, I'.ok.exfs c hc, .inl hc, fun x d e => (I'.ok.exf c hc).2 x d e, fun p hp => absurd (show p ∈ ([] : List (Addr × Obj)) ++ [] from hp) (by simp)⟩
  have loop : codeAny (model X.prog X.w) X.A (.compLoop (.DictComp kx vx [⟨tg, iter, ifs, 0⟩] scope pos) 0 (.ref it) (.ref Da) ce) (compPost (model X.prog X.w) X.A X.xe use Qf (.ref Da) s3.heap.objs.size) s4 := by
    refine compLoop_anyD (fun n s' => ∃ i H', Inv (X.blk s3 H3 scope ce fp) [] (wipe σ (own.map (·.2))) H' s' ∧ tn i s'.heap ∧ (∀ c ∈ fp, H' c = none) ∧ W i n H') ?_ m0 ⟨0, H3, I4, st4, fun c hc => (f3 c hc).1.1, w0⟩
    rintro n s5 ⟨i, H5, I5, st5, n5, w5⟩
    rcases turn i n H5 w5 with ⟨stop, qq⟩ | ⟨go, Nx, hNx, step⟩
    · refine thnF (T.done (X.blk s3 H3 scope ce fp) rfl rfl rfl hc i [] s5 _ H5 (fun _ _ => False) I5 (stat I5 n5) st5 stop) fun r s6 ⟨hr, I6⟩ => ?_
      subst hr
      obtain ⟨m, hn, _⟩ := I6.loc
      exact hR Da s3.heap.objs.size s6 m H5 (I3.call' (ch := fp) I6.os I6.base I6.hok I6.bare fun c hc => ⟨(f3 c hc).1.2.2.2.1, (f3 c hc).1.2.1, (f3 c hc).1.2.2.2.2.1, (f3 c hc).1.2.2.2.2.2⟩) qq hn (I3.fpOk (Nat.le_refl _) I6.free)
    · refine thnF (T.item (X.blk s3 H3 scope ce fp) rfl rfl rfl hc i [] s5 _ H5 (fun _ _ => False) I5 (stat I5 n5) st5 go) fun r s6 ⟨u, hr, h6⟩ => ?_
      subst hr
      refine thnF h6 fun _ s7 ⟨x, H7, I7, r7, y7, st7, n7⟩ => ?_
      refine thnF (pg.run _ s7 _ H7 x u _ (I7.pinned (stat I7 n7) (T.obj _ _ st7)) r7 (step x H7 y7)) fun _ s8 ⟨σ8, H8, I8, hw8, q8⟩ => ?_
      have fin : ∀ {s' : Shared} {H' : Hp}, Inv (X.blk s3 H3 scope ce fp) ([] ++ pinsAt fp s7.heap) σ8 H' s' → Nx H' → ∃ m, m < n ∧ ∃ i H', Inv (X.blk s3 H3 scope ce fp) [] (wipe σ (own.map (·.2))) H' s' ∧ tn i s'.heap ∧ (∀ c ∈ fp, H' c = none) ∧ W i m H' := fun {s' H'} I' nx => by
        obtain ⟨m', hm, w'⟩ := hNx H' nx
        have pinned : ∀ c ∈ fp, ∀ o, s7.heap.get? c = some o → s'.heap.get? c = some o ∧ H' c = none := fun c hc o e =>
          let z := I'.pin (c, o) (List.mem_append_right _ (List.mem_append_right _ (mem_pinsAt hc e)))
          ⟨z.1, z.2.1⟩
        refine ⟨m', hm, i + 1, H', (I'.unpinned (pins := [])).weak (by rw [← hw8, wipe_length]) (fun j v e => ?_), T.keep _ _ _ st7 fun c hc o e => (pinned c hc o e).1, fun c hc => ?_, w'⟩
        · rw [← hw8] at e
          exact (wipe_some e).1
        · obtain ⟨o, e, _⟩ := T.obj _ _ st7 c hc
          exact (pinned c hc o e).2
      refine thnF (pt.run _ s8 σ8 H8 _ I8 q8) fun c s9 ⟨H9, I9, q9⟩ => ?_
      cases c with
      | false => exact fin I9 q9
      | true =>
        refine thnF (pk.run _ s9 σ8 H9 _ I9 q9) fun _ s10 ⟨yk, H10, I10, r10, q10⟩ => ?_
        refine thnF (pe.run _ s10 σ8 H10 _ I10 q10) fun _ s11 ⟨yv, H11, I11, r11, H12, put, nx⟩ => ?_
        exact put_ok (X := X.blk s3 H3 scope ce fp) hu I11 put r10 r11 fun s12 I12 => fin I12 nx
  exact codeAny_compStart_dict loop (T.self X.A 0 _ _ _ st4 loop)
theorem pe_dcG {b : Bool} {kx vx tg iter : Expr} {ifs : List Expr} {scope : Scope} {own : List (Str × Nat)} {pos : Pos} {wi : TI} {g : TG} {tt : TT} {tk tv : TE} (hu : X.A.units + 1 < cLine) (hc : X.calm = true) (hN : X.N.Nodup) (hi : PI X tg iter wi) (ok : BlkOk X.N X.env.scope scope own)
    (hg : ∀ (s : Shared) (H : Hp) (C : Addr) (cl : List (Str × Addr)) (fp : List Addr), PG (X.blk s H scope (compEnvC scope cl C X.env) fp) tg g)
    (ht : ∀ (s : Shared) (H : Hp) (C : Addr) (cl : List (Str × Addr)) (fp : List Addr), PTs (X.blk s H scope (compEnvC scope cl C X.env) fp) ifs tt)
    (hk : ∀ (s : Shared) (H : Hp) (C : Addr) (cl : List (Str × Addr)) (fp : List Addr), PE (X.blk s H scope (compEnvC scope cl C X.env) fp) kx tk)
    (he : ∀ (s : Shared) (H : Hp) (C : Addr) (cl : List (Str × Addr)) (fp : List Addr), PE (X.blk s H scope (compEnvC scope cl C X.env) fp) vx tv) (hs : ∀ x, foldedSetIterable iter X.env x = pure x := by intro _; rfl) :
    PE X (.DictComp kx vx [⟨tg, iter, ifs, 0⟩] scope pos) (tDcG b wi g tt tk tv (own.map (·.2))) := ⟨fun pins s σ H Q I h => by
  rw [arm_eval_DictComp]
  refine dcG_core hu hc hN I hi ok hg ht hk he hs h fun D C s' m H' I' q hn ⟨f0, f1, f2, f3, f4, f5⟩ => ⟨m, hn, fun h'' sb => ?_⟩
  exact ⟨.ref D, H', I'.turned (t' := s'.toks) (fun b o hb e => (sb.2 b hb).trans e) f0 f1 f3 f4 f5, rfl, q⟩⟩
end

abbrev dicO (b : Bool) (ds : List (D × D)) : O := if b = true then .t ds else .k ds
section
variable {B F : Hp} {Γ : Ev} {σ : L2.St} {H : Hp} {fp : Nat → List Addr}
theorem own_put {b : Bool} {Da : Addr} {acc : List (D × D)} {y z : V} {k v : D} (r : Rel B F Γ σ H fp) (h : OwnV B F H fp (.ref Da) (dicO b acc)) (hy : Rp F y k) (hz : Rp F z v) (hk : (if b = true then keyT k else keyK k) = true) (hl : acc.length < sizeLine) :
    ∃ H', DPut H Da y z H' ∧ Rel B F Γ σ H' fp ∧ OwnV B F H' fp (.ref Da) (dicO b (putD acc k v)) := by
  obtain ⟨f, h, hf⟩ := h
  have gen : ∀ u, Da ∈ f → Rel B F Γ σ (upd H Da u) fp := fun u hm => by
    obtain ⟨b1, b2, b3⟩ := hf Da hm
    refine ⟨fun a o q => ?_, fun a o q => ?_, r.len, r.sh, fun i o q => ?_, fun i a ha => ?_, r.dj, r.ex⟩
    · rw [upd_ne fun z => by subst z; rw [b1] at q; cases q]
      exact r.bx a o q
    · rw [upd_ne fun z => by subst z; rw [b2] at q; cases q]
      exact r.fx a o q
    · obtain ⟨v, h1, h2⟩ := r.ow i o q
      exact ⟨v, h1, h2.mono (Same.refl F) fun a ha => upd_ne fun z => b3 i (by rw [← z]; exact ha)⟩
    · obtain ⟨c1, c2, c3⟩ := r.nb i a ha
      refine ⟨c1, c2, ?_⟩
      rw [upd_ne fun z => b3 i (by rw [← z]; exact ha)]
      exact c3
  cases b with
  | true =>
    cases h with
    | @t a kvs ds e t =>
      obtain ⟨q, ks, rfl, e2, rfl⟩ := hy.keyT hk
      exact ⟨_, .t e (r.fx _ _ e2) (by rw [t.length]; exact hl), gen _ (by simp), [Da], .t upd_same (t.put hz), hf⟩
  | false =>
    cases h with
    | @k a kvs ds e t =>
      obtain ⟨ks, rfl, rfl⟩ := hy.keyK hk
      exact ⟨_, .k e (by rw [t.length]; exact hl), gen _ (by simp), [Da], .k upd_same (t.put hz), hf⟩
theorem new_d (b : Bool) {p : Addr} (r : Rel B F Γ σ H fp) (hp : H p = none) : Rel B F Γ σ (upd H p (dic0 b)) fp ∧ OwnV B F (upd H p (dic0 b)) fp (.ref p) (dicO b []) := by
  cases b with
  | true =>
    obtain ⟨r', v'⟩ := new_t r hp
    exact ⟨r', v'.own⟩
  | false =>
    obtain ⟨r', v'⟩ := new_k r hp
    exact ⟨r', v'.own⟩
end
def dcGo (b : Bool) (vs : List Nat) (g : QG) (t : QT) (pk pv : QE) (k : List (D × D) → Ev → Prop) : List D → List (D × D) → Ev → Prop
  | [], acc, Γ => k acc Γ
  | d :: r, acc, Γ => g (.sh d) Γ fun Γ1 => t Γ1 (fun c Γ2 => Cif c (pk Γ2 (fun w Γ3 => shr w Γ3 fun dk Γ4 => pv Γ4 (fun w Γ5 => shr w Γ5 fun dv Γ6 => (if b = true then keyT dk else keyK dk) = true ∧ acc.length < sizeLine ∧
      dcGo b vs g t pk pv k r (putD acc dk dv) (wipEv vs Γ6)) noEX) noEX) (dcGo b vs g t pk pv k r acc (wipEv vs Γ2))) noEX
def qDc (b : Bool) (vs : List Nat) (i : QI) (g : QG) (t : QT) (pk pv : QE) : QE := fun Γ R E => i Γ (fun ds Γ1 => noOw Γ1 vs = true ∧ dcGo b vs g t pk pv (fun acc Γ2 => R (.ow (dicO b acc)) (backEv Γ1 vs Γ2)) ds [] (wipEv vs Γ1)) E
section
variable {W : WX} {b : Bool} {wi : TI} {qi : QI} {g : TG} {qg : QG} {js : List Nat} {tt : TT} {qt : QT} {tk tv : TE} {qk qv : QE} {vs : List Nat}
theorem se_dc (hi : SI W wi qi) (hg : SG g qg js) (ht : ST W0 tt qt) (hk : SE W0 tk qk) (hv : SE W0 tv qv) (hj : ∀ j ∈ js, j ∈ vs) : SE W (tDcG b wi g tt tk tv vs) (qDc b vs qi qg qt qk qv) := fun {B F Γ σ H fp} R EX Q r q k e => by
  refine hi _ _ _ r q (fun ds Γ1 J F1 H1 fp1 x1 r1 ok h1 => ?_) e
  obtain ⟨ho, h1⟩ := h1
  intro Dl hD
  have r2 : Rel B F1 (wipEv vs Γ1) (wipe σ vs) H1 fp1 := r1.wip vs
  obtain ⟨r3, v3⟩ := new_d b r2 hD
  generalize hKK : (fun (acc : List (D × D)) (Γ2 : Ev) => R (.ow (dicO b acc)) (backEv Γ1 vs Γ2)) = KK at h1
  refine ⟨fun i m H' => m + i = ds.length ∧ ∃ Γ' F' fp' acc, Ext B F1 F' ∧ Rel B F' Γ' (wipe σ vs) H' fp' ∧ OwnV B F' H' fp' (.ref Dl) (dicO b acc) ∧
    dcGo b vs qg qt qk qv KK (ds.drop i) acc Γ', ⟨ds.length, rfl, _, F1, fp1, [], .refl, r3, v3, h1⟩, ?_⟩
  rintro i m H' ⟨hm, Γ', F', fp', acc, x, r', v', hf⟩
  obtain ⟨o1, o2⟩ := ok B F' Γ' _ H' fp' x.same r' i
  by_cases hlt : i < ds.length
  · obtain ⟨B', rB, gd⟩ := r'.hold v'
    obtain ⟨go, yld⟩ := (ok B' F' Γ' _ H' fp' x.same rB i).1 ds[i] (List.getElem?_eq_getElem hlt)
    refine .inr ⟨go, fun H2 => ∃ m', m' < m ∧ (m' + (i + 1) = ds.length ∧ ∃ Γ' F' fp' acc, Ext B F1 F' ∧ Rel B F' Γ' (wipe σ vs) H2 fp' ∧ OwnV B F' H2 fp' (.ref Dl) (dicO b acc) ∧
      dcGo b vs qg qt qk qv KK (ds.drop (i + 1)) acc Γ'), fun H2 h => h, fun y H2 hy => ?_⟩
    obtain ⟨F2, x2, r2, b2⟩ := yld y H2 hy
    rw [List.drop_eq_getElem_cons hlt] at hf
    refine hg _ _ r2 (.sh b2) hf fun Γ3 F3 σ3 fp3 x3 r3 c3 h3 => ?_
    have hw : wipe σ3 vs = wipe σ vs := wipe_chg c3 hj
    refine ⟨hw, ht _ noEX _ r3 h3 (fun c Γ4 F4 H4 fp4 x4 r4 h4 => ?_) afe_no⟩
    have x24 := (x2.trans x3).trans x4
    cases c with
    | true =>
      refine hk _ noEX _ r4 (h4.t rfl) (fun w5 Γ5 zk F5 H5 fp5 x5 r5 v5 h5 => ?_) afe_no
      obtain ⟨d6, Γ6, F6, fp6, x6, r6, b6, h6⟩ := shr_ok r5 v5 h5
      refine hv _ noEX _ r6 h6 (fun w7 Γ7 zv F7 H7 fp7 x7 r7 v7 h7 => ?_) afe_no
      obtain ⟨d8, Γ8, F8, fp8, x8, r8, b8, hkk, hsz, h8⟩ := shr_ok r7 v7 h7
      have rw8 := r8.wip vs
      rw [hw] at rw8
      obtain ⟨y9, r9, v9⟩ := gd F8 _ _ H7 fp8 ((((x24.trans x5).trans x6).trans x7).trans x8) rw8
      obtain ⟨H10, put, r10, v10⟩ := own_put r9 v9 ((b6.mono x7.same).mono x8.same) b8 hkk hsz
      exact ⟨H10, put, m - 1, by omega, by omega, _, F8, fp8, _, x.trans y9, r10, v10, h8⟩
    | false =>
      have r7 := r4.wip vs
      rw [hw] at r7
      obtain ⟨y8, r8, v8⟩ := gd F4 _ _ H4 fp4 x24 r7
      exact ⟨m - 1, by omega, by omega, _, F4, fp4, acc, x.trans y8, r8, v8, h4.f rfl⟩
  · refine .inl ⟨o2 (by omega), ?_⟩
    rw [List.drop_of_length_le (by omega)] at hf
    subst hKK
    exact k _ _ _ F' H' fp' (x1.trans x) (r1.back ho x.same r') v'.rw hf
end
section
variable {X : Cx} {W : WX} {pos : Pos} {kx vx tg iter : Expr} {wi : TI} {qi : QI} {g : TG} {qg : QG} {js : List Nat} {tt : TT} {qt : QT} {tk tv : TE} {qk qv : QE} {ifs : List Expr} {scope : Scope} {own : List (Str × Nat)}
theorem d_dc (b : Bool) {j : Nat} (hr : Room j X.A) (hc : X.calm = true) (hN : X.N.Nodup) (hi : DI X W tg iter wi qi) (ok : BlkOk X.N X.env.scope scope own)
    (hg : ∀ (s : Shared) (H : Hp) (C : Addr) (cl : List (Str × Addr)) (fp : List Addr), DG (X.blk s H scope (compEnvC scope cl C X.env) fp) tg g qg js)
    (ht : ∀ (s : Shared) (H : Hp) (C : Addr) (cl : List (Str × Addr)) (fp : List Addr), DTs (X.blk s H scope (compEnvC scope cl C X.env) fp) W0 ifs tt qt)
    (hk : ∀ (s : Shared) (H : Hp) (C : Addr) (cl : List (Str × Addr)) (fp : List Addr), DE (X.blk s H scope (compEnvC scope cl C X.env) fp) W0 kx tk qk)
    (he : ∀ (s : Shared) (H : Hp) (C : Addr) (cl : List (Str × Addr)) (fp : List Addr), DE (X.blk s H scope (compEnvC scope cl C X.env) fp) W0 vx tv qv) (hj : (∀ j ∈ js, j ∈ own.map (·.2)) := by decide) (hs : ∀ x, foldedSetIterable iter X.env x = pure x := by intro _; rfl) :
    DE X W (.DictComp kx vx [⟨tg, iter, ifs, 0⟩] scope pos) (tDcG b wi g tt tk tv (own.map (·.2))) (qDc b (own.map (·.2)) qi qg qt qk qv) :=
  ⟨pe_dcG (hu_of hr) hc hN hi.pi ok (fun s H C cl fp => (hg s H C cl fp).pg) (fun s H C cl fp => (ht s H C cl fp).pt) (fun s H C cl fp => (hk s H C cl fp).pe) (fun s H C cl fp => (he s H C cl fp).pe) hs,
   se_dc hi.si (hg ({} : Shared) (fun _ => none) 0 [] []).sg (ht ({} : Shared) (fun _ => none) 0 [] []).st (hk ({} : Shared) (fun _ => none) 0 [] []).se (he ({} : Shared) (fun _ => none) 0 [] []).se hj⟩
end
end PL

namespace PL
open PySem PySem.Spec PyProof.Rows L2

/-! ### methods of texts -/
def isStr : D → Prop
  | .str _ => True
  | _ => False
theorem Rb.isStr {F H : Hp} {v : V} {d : D} (h : Rb F H v d) (q : PL.isStr d) : ∃ a, v = .str a := by
  cases h with
  | str x _ => exact ⟨x, rfl⟩
  | _ => exact q.elim
def qM0 (o : OP1) (pa : QE) : QE := fun Γ R E => pa Γ (fun w1 Γ1 => bor w1 Γ1 isStr ∧ bor w1 Γ1 fun d1 => o d1 fun w => R w Γ1) E
def qM1 (o : OP2) (pa pb : QE) : QE := fun Γ R E => pa Γ (fun w1 Γ1 => bor w1 Γ1 isStr ∧ pb Γ1 (fun w2 Γ2 => bor w1 Γ2 fun d1 => bor w2 Γ2 fun d2 => o d1 d2 fun w => R w Γ2) E) E
section
variable {X : Cx} {W : WX} {pos p : Pos} {a b e f : Expr} {ta tb te tf : TE} {pa pb pe pf : QE}
theorem se_m0 {r : V → List V → Hp → VK → Prop} {o : OP1} (hs : UnS (fun x H Q => r x [] H Q) o) (ha : SE W ta pa) : SE W (tM0 r ta) (qM0 o pa) := fun {B F Γ σ H fp} R EX Q rr h k e => by
  refine ha _ EX _ rr h (fun w1 Γ1 x F1 H1 fp1 x1 r1 v1 h1 => ?_) e
  obtain ⟨d, b, z⟩ := bor_rb r1 v1 h1.1
  obtain ⟨d1, b1, z1⟩ := bor_rb r1 v1 h1.2
  exact ⟨b.isStr z, hs _ Q r1 b1 z1 fun w v F2 H2 x2 r2 q2 kk => k w Γ1 v F2 H2 fp1 (x1.trans x2) r2 q2 kk⟩
theorem se_m1 {r : V → List V → Hp → VK → Prop} {o : OP2} (hs : OpS (fun x y H Q => r x [y] H Q) o) (ha : SE W ta pa) (hb : SE W tb pb) : SE W (tM1 r ta tb) (qM1 o pa pb) := fun {B F Γ σ H fp} R EX Q rr h k e => by
  refine ha _ EX _ rr h (fun w1 Γ1 x F1 H1 fp1 x1 r1 v1 h1 => ?_) e
  obtain ⟨d, b, z⟩ := bor_rb r1 v1 h1.1
  obtain ⟨B', r1', g⟩ := r1.guard v1
  refine ⟨b.isStr z, hb _ EX _ r1' h1.2 (fun w2 Γ2 y F2 H2 fp2 x2 r2 v2 h2 => ?_) fun c Γ' F' H' fp' x2 r2 q => ?_⟩
  · obtain ⟨x3, r3, v3, g3⟩ := g F2 Γ2 H2 fp2 x2 r2
    obtain ⟨d1, b1, z1⟩ := bor_rb r3 v3 h2
    obtain ⟨d2, b2, z2⟩ := bor_rb r3 (g3 _ _ v2) z1
    exact hs _ Q r3 b1 b2 z2 fun w v F' H' x' r' q' kk => k w Γ2 v F' H' fp2 ((x1.trans x3).trans x') r' q' kk
  · obtain ⟨x5, r5, _, _⟩ := g F' Γ' H' fp' x2 r2
    exact e c Γ' F' H' fp' (x1.trans x5) r5 q
/-- text.index(sign) -/
def opIndex : OP2 := fun d1 d2 k => match d1, d2 with
  | .str x, .str y => (match y.cps.toList with
    | [c] => (match x.cps.toList.idxOf? c with
      | some i => k (.sh (.int (i : Nat)))
      | none => False)
    | _ => False)
  | _, _ => False
theorem occ_one {x : Str} {c i : Nat} (h : x.cps.toList.idxOf? c = some i) : ∃ r, Builtin.Str.occurrences x ⟨#[c]⟩ 0 x.length 1 = i :: r := by
  rw [List.idxOf?, List.findIdx?_eq_some_iff_getElem] at h
  obtain ⟨hl, hc, hn⟩ := h
  have hi : x.cps.toList[i]? = some c := by
    rw [List.getElem?_eq_getElem hl]
    exact congrArg some (eq_of_beq hc)
  rcases StrLaws.occ_head x ⟨#[c]⟩ 1 (Nat.le_refl 1) with ⟨_, h0⟩ | ⟨j, r, h0, h1, h2⟩
  · exact absurd ((StrLaws.subAt_one x c i).mpr hi) (h0 i)
  · refine ⟨r, ?_⟩
    rw [h0]
    have hj := (StrLaws.subAt_one x c j).mp h1
    have e : j = i := by
      rcases Nat.lt_trichotomy j i with q | q | q
      · have := hn j q
        obtain ⟨hjl, hjc⟩ := List.getElem?_eq_some_iff.mp hj
        rw [hjc] at this
        simp at this
      · exact q
      · exact absurd ((StrLaws.subAt_one x c i).mpr hi) (h2 i q)
    rw [e]
theorem os_index : OpS (fun x y H Q => (fun x xs H Q => ∃ a b i rest, x = V.str a ∧ xs = [V.str b] ∧ Builtin.Str.occurrences a b 0 a.length 1 = i :: rest ∧ Q (.int (i : Nat)) H) x [y] H Q) opIndex := fun {B F Γ σ H fp x y d1 d2} k Q r b1 b2 z c => by
  cases b1 with
  | str a ha =>
    cases b2 with
    | str b hb =>
      unfold opIndex at z
      simp only at z
      split at z
      · rename_i cc hcc
        split at z
        · rename_i i hi
          obtain ⟨rr, ho⟩ := occ_one hi
          have eb : b = ⟨#[cc]⟩ := by
            cases b with
            | mk cps =>
              cases cps with
              | mk l =>
                simp only at hcc
                subst hcc
                rfl
          subst eb
          exact ⟨a, _, i, rr, rfl, rfl, ho, op_sc r (.int _) c z⟩
        · exact z.elim
      · exact z.elim
    | _ => exact z.elim
  | _ => cases b2 <;> exact z.elim
theorem d_index {apos : Pos} (ha : DE X W a ta pa) (hb : DE X W b tb pb) (hs : starEach [b] X.env = [(false, eval b X.env)] := by rfl) (hbase : attributeBase a "index" X.env (eval a X.env) = eval a X.env := by rfl) (hline : (apos.endLine == pos.line) = true := by rfl) :
    DE X W (.Call (.Attribute a "index" apos) [b] [] pos) (tM1 (fun x xs H Q => ∃ a b i rest, x = V.str a ∧ xs = [V.str b] ∧ Builtin.Str.occurrences a b 0 a.length 1 = i :: rest ∧ Q (.int (i : Nat)) H) ta tb) (qM1 opIndex pa pb) :=
  ⟨pe_m1 F.slot_str_index F.type_str_index mt_sindex ha.pe hb.pe hs hbase hline, se_m1 os_index ha.se hb.se⟩
/-- sep.join(texts) -/
def joinOf (x : Str) (ds : List D) (k : Wv → Prop) : Prop := match strsOf ds with
  | some ys => (ys.map (·.length)).sum + ys.length * x.length ≤ 16777216 ∧ k (.sh (.str (Str.join x ys)))
  | none => False
def opJoin : OP2 := fun d1 d2 k => match d1, d2 with
  | .str x, .list ds => joinOf x ds k
  | .str x, .tuple ds => joinOf x ds k
  | _, _ => False
theorem strOk_iff {x : Str} : PyData.strOk x = true ↔ ∀ c ∈ x.cps.toList, c < 0x110000 := by
  unfold PyData.strOk
  rw [Array.all_eq_true']
  simp
theorem strOk_join {x : Str} (hx : PyData.strOk x = true) : ∀ {ys : List Str}, (∀ y ∈ ys, PyData.strOk y = true) → PyData.strOk (Str.join x ys) = true
  | [], _ => by
    show (#[] : Array Nat).all _ = true
    simp
  | [y], h => h y (by simp)
  | y :: z :: r, h => by
    show PyData.strOk (y ++ x ++ Str.join x (z :: r)) = true
    exact strOk_app (strOk_app (h y (by simp)) hx) (strOk_join hx fun w hw => h w (List.mem_cons_of_mem _ hw))
abbrev rJoin (K : PySem.W.Frag) : V → List V → Hp → VK → Prop := fun x xs H Q => ∃ a p, ∃ ys : List Str, x = .str a ∧ xs = [.ref p] ∧ (SqL K H p (ys.map V.str) ∨ SqT K H p (ys.map V.str)) ∧
    (ys.map (·.length)).sum + ys.length * a.length ≤ 16777216 ∧ Q (.str (Txt.join a ys)) H
theorem os_join {K : PySem.W.Frag} : OpS (fun x y H Q => rJoin K x [y] H Q) opJoin := fun {B F Γ σ H fp x y d1 d2} k Q r b1 b2 z c => by
  cases b1 with
  | str a ha =>
    have fin : ∀ {vs : List V} {ds : List D} {q : Addr}, RpA F vs ds → joinOf a ds k → (∀ ys : List Str, vs = ys.map V.str → (SqL K H q (ys.map V.str) ∨ SqT K H q (ys.map V.str))) → rJoin K (.str a) [.ref q] H Q := by
      intro vs ds q t z hq
      unfold joinOf at z
      split at z
      · rename_i ys hy
        obtain ⟨e1, e2⟩ := strs_rp t hy
        refine ⟨a, q, ys, rfl, rfl, hq ys e1, z.1, ?_⟩
        rw [TL.join_eq]
        exact op_sc r (.str _ (strOk_join ha e2)) c z.2
      · exact z.elim
    cases b2 with
    | @lst q xs ds e t => exact fin t z fun ys e1 => .inl (.inl (.inl (by rw [← e1]; exact e)))
    | @tup q xs ds e0 e t => exact fin t z fun ys e1 => .inr (.inl (.inl (by rw [← e1]; exact e)))
    | _ => exact z.elim
  | _ => cases b2 <;> exact z.elim
theorem d_join {apos : Pos} (ha : DE X W a ta pa) (hb : DE X W b tb pb) (hs : starEach [b] X.env = [(false, eval b X.env)] := by rfl) (hbase : attributeBase a "join" X.env (eval a X.env) = eval a X.env := by rfl) (hline : (apos.endLine == pos.line) = true := by rfl) :
    DE X W (.Call (.Attribute a "join" apos) [b] [] pos) (tM1 (rJoin X.K) ta tb) (qM1 opJoin pa pb) :=
  ⟨pe_join ha.pe hb.pe hs hbase hline, se_m1 os_join ha.se hb.se⟩
end

/-! ### xs[i] = e, xs an own list -/
def qSetIx (i : Nat) (pi pe : QE) : QS := fun P Γ => pe Γ (fun w Γ1 => shr w Γ1 fun d Γ2 => isOwL Γ2[i]? = true ∧ pi Γ2 (fun w2 Γ3 => bor w2 Γ3 fun d2 => match d2 with
  | .int j => (match Γ3[i]? with
    | some (.ow (.l ds)) => (match ixN ds.length j with
      | some n => P.nx (Γ3.set i (.ow (.l (ds.set n d))))
      | none => False)
    | _ => False)
  | _ => False) P.ex) P.ex
section
variable {X : Cx} {W : WX} {pos p : Pos} {a b e f : Expr} {ta tb te tf : TE} {pa pb pe pf : QE}
theorem ss_setIx {i : Nat} (ha : SE W ta pa) (he : SE W te pe) : SS W (tAsg te (gSub (tVar i) ta rSetL)) (qSetIx i pa pe) := fun {B F Γ σ H fp} P D r q h => by
  refine he _ _ _ r q (fun w Γ1 y F1 H1 fp1 x1 r1 v1 h1 => ?_) h.afe
  obtain ⟨d, Γ2, F2, fp2, x2, r2, b2, h2, h3⟩ := shr_ok r1 v1 h1
  obtain ⟨v, g1, g2⟩ := own_ty (K := (default : PySem.W.Frag)) r2 h2
  refine ⟨v, g1, ha _ _ _ r2 h3 (fun w2 Γ3 z F3 H3 fp3 x3 r3 v3 h4 => ?_) (h.afe.mono (x1.trans x2))⟩
  obtain ⟨d2, bd, h5⟩ := bor_rb r3 v3 h4
  split at h5
  · rename_i j
    split at h5
    · rename_i ds hd
      split at h5
      · rename_i n hn
        cases bd
        obtain ⟨u, z1, z2⟩ := r3.ow i _ hd
        rw [g1] at z1
        cases z1
        generalize hf : fp3 i = f at z2
        cases z2 with
        | @l a xs ds e5 t5 =>
          obtain ⟨a', xs', ea, e6, t6, r6⟩ := r3.mutL hd g1 (t5.set (b2.mono x3.same) n)
          cases ea
          exact ⟨a, xs, j, n, rfl, rfl, e5, by rw [t5.length]; exact hn, h.nx _ F3 _ _ fp3 ((x1.trans x2).trans x3) r6 h5⟩
      · exact h5.elim
    · exact h5.elim
  · exact h5.elim
theorem ds_setIx (i : Nat) {x : Str} {px pos' : Pos} (ha : DE X W a ta pa) (he : DE X W e te pe) (hN : X.N[i]? = some x := by rfl) (hv : Vis X.env.scope x := by first | exact Or.inl rfl | exact Or.inr (Or.inl rfl) | exact Or.inr (Or.inr rfl)) (hd : (x == ("__debug__" : Str)) = false := by decide)
    (hcd : (x == ("__classdict__" : Str)) = false := by decide)
    (hs : swapsWithSole [.Subscript (.Name x px) a pos'] e pos.line X.env = pure false := by rfl) (hw : swappedStores [.Subscript (.Name x px) a pos'] e X.env = pure none := by rfl)
    (h1 : (assignEach [.Subscript (.Name x px) a pos'] X.env).map (·.2) = [assign (.Subscript (.Name x px) a pos') X.env] := by rfl)
    (hg : ∀ v, assign (.Subscript (.Name x px) a pos') X.env v = (do
      let ov ← holding [v] (eval (.Name x px) X.env)
      let iv ← holding [v, ov] (eval a X.env)
      standAt pos'
      holding [v, ov, iv] (setItem ov iv v)
      release [v, ov, iv] []) := by intro _; rfl) :
    DS X W (.Assign [.Subscript (.Name x px) a pos'] e pos) (tAsg te (gSub (tVar i) ta rSetL)) (qSetIx i pa pe) :=
  ⟨ps_asg he.pe (pg_sub (pe_var hN hv hd hcd) ha.pe set_list hg) hs hw h1, ss_setIx ha.se he.se⟩
end

/-! ### tuple * int -/
theorem tuple_mul1 (l : Addr) (items : Array Value) (n : Nat) (dd : Option Addr) (sl : Array (Option Value)) (u : Tok) :
    Meets (Builtin.«tuple.__mul__» ⟨[.ref l, .int 1 u], []⟩) (fun _ R s => s.heap.get? l = some { cls := .type "tuple", dict := dd, data := .seq items n, slots := sl } ∧ R (.ok (.ret (Value.ref l))) s) :=
  .of_wp fun prog w A R s h => by
    obtain ⟨hp, g, d, tk, os⟩ := s
    obtain ⟨hl, h⟩ := h
    have f1 := AutoSeq1.idx_int
    wp_walk using wpAny_loadPart' hl
    repeat (first
      | (refine wpAny_ite_false (by decide) ?_; wp_walk using wpAny_loadPart' hl)
      | (refine wpAny_ite_true (by simp) ?_; wp_walk using wpAny_loadPart' hl))
    exact ⟨_, rfl, h⟩

def rRepT1 (K : PySem.W.Frag) : R2 := fun x y H Q => ∃ l xs, x = .ref l ∧ y = .int 1 ∧ SqT K H l xs ∧ Q (.ref l) H
section
variable {X : Cx}
theorem op_repT1 : OpR X (binaryOp .Mult) (rRepT1 X.K) := by
  intro pins s σ H x y v u Q I rx ry h
  obtain ⟨l, xs, rfl, rfl, hT, q⟩ := h
  cases rx
  obtain ⟨t, rfl⟩ := ry
  obtain ⟨its, r, ⟨⟨cls, dd, data, sl⟩, ho, hc, n, hd⟩, hs⟩ := I.tuple hT
  simp only at hc hd
  subst hc hd
  refine wpAny_binaryOp_repeat_ref (T := "tuple") (U := "int") (by decide) ⟨_, ho, rfl⟩ (fun s' => typeIs_int s' 1 t) noFill_tuple_mul F.fills_int_mul F.slot_int_rmul repeat_tuple F.slot_int_index.lookup
    (call_meets F.slot_int_rmul (typeIs_int s 1 t) F.entry_int_rmul (F.args_int_rmul_2 _ _) (int_rmul_tuple 1 t l its.toArray n dd sl)
      ⟨ho, rfl, ⟨_, ho, rfl⟩, call_meets F.slot_tuple_mul ⟨_, ho, rfl⟩ F.entry_tuple_mul (F.args_tuple_mul_2 _ _) (tuple_mul1 l its.toArray n dd sl t) ⟨ho, ?_⟩⟩)
  exact ⟨.ref l, H, I, rfl, q⟩
def rMulT (K : PySem.W.Frag) : R2 := fun x y H Q => rRepT1 K x y H Q ∨ rRepT K x y H Q
theorem or_mulT : OpR X (binaryOp .Mult) (rMulT X.K) := OpR.or op_repT1 op_repT
end
/-- a tuple, not empty, some times (not more than 1000) -/
def opMulT : OP2 := fun d1 d2 k => match d1, d2 with
  | .tuple xs, .int n => xs ≠ [] ∧ 1 ≤ n ∧ n ≤ 1000 ∧ xs.length ≤ 1000 ∧ k (.sh (.tuple (List.replicate n.toNat xs).flatten))
  | _, _ => False
theorem os_mulT {K : PySem.W.Frag} : OpS (rMulT K) opMulT := fun {B F Γ σ H fp x y d1 d2} k Q r b1 b2 z c => by
  cases b1 with
  | @tup a xs ds e e0 t =>
    cases b2 with
    | int n =>
      obtain ⟨z1, z2, z3, z4, z5⟩ := z
      by_cases h1 : n = 1
      · subst h1
        have e1 : (List.replicate (1 : Int).toNat ds).flatten = ds := by simp
        rw [e1] at z5
        exact .inl ⟨a, xs, rfl, rfl, .inl (.inl e0), op_sc r (.tup e t) c z5⟩
      · refine .inr ⟨a, n, xs, rfl, rfl, .inl (.inl e0), fun q => z1 ?_, by omega, z3, by rw [t.length]; exact z4, fun p hp => ?_⟩
        · subst q
          cases t
          rfl
        · obtain ⟨x', r', v'⟩ := new_tup r (t.rep n.toNat) hp
          exact c _ _ _ _ x' r' v' z5
    | _ => exact z.elim
  | _ => cases b2 <;> exact z.elim
section
variable {X : Cx} {W : WX} {pos p : Pos} {a b e f : Expr} {ta tb te tf : TE} {pa pb pe pf : QE}
theorem d_mulT (ha : DE X W a ta pa) (hb : DE X W b tb pb) : DE X W (.BinOp a .Mult b pos) (tOp (rMulT X.K) ta tb) (qOp opMulT pa pb) := d_op or_mulT os_mulT ha hb
end

/-! ### max of a list or tuple of ints -/
def maxOf (ds : List D) (k : Wv → Prop) : Prop := match intsOf ds with
  | some (n :: ns) => (n :: ns).length ≤ 1000 ∧ k (.sh (.int (ns.foldl max n)))
  | _ => False
def opMax : OP1 := fun d k => match d with
  | .list ds => maxOf ds k
  | .tuple ds => maxOf ds k
  | _ => False
def rMaxT (K : PySem.W.Frag) : List V → Hp → VK → Prop := fun vs H Q => ∃ a n ns, vs = [V.ref a] ∧ SqT K H a ((n :: ns).map V.int) ∧ (n :: ns).length ≤ 1000 ∧ Q (.int (ns.foldl max n)) H
theorem depthAll_ints : ∀ ns : List Int, PyData.depthAll (ns.map .int) ≤ 1
  | [] => by simp [PyData.depthAll]
  | n :: r => by
    have := depthAll_ints r
    simp only [List.map_cons, PyData.depthAll, PyData.depth]
    omega
section
variable {X : Cx}
theorem cr_maxT {j : Nat} (hr : Room j X.A) (hc : X.calm = true) : CallR X (.builtin "max") (rMaxT X.K) := by
  intro pins s σ H vs us Q I r h
  obtain ⟨a, n, ns, rfl, hs, hl, q⟩ := h
  obtain ⟨its, rv, ht, _⟩ := I.tuple hs
  rw [Vals.ref1 r]
  have hi := rv.ints
  refine PySem.W.max_tuple_data (I.ok.hd hc) ht (by rw [List.toList_toArray]; exact IntsAre.reads s.heap hi) ⟨?_, ?_⟩ ?_ fun i v h' tk bs hv hrd hk => ?_
  · intro x hx y hy
    obtain ⟨i, _, rfl⟩ := List.mem_map.mp (show x ∈ (n :: ns).map PyData.int from hx)
    obtain ⟨j, _, rfl⟩ := List.mem_map.mp (show y ∈ (n :: ns).map PyData.int from hy)
    rfl
  · intro x hx
    obtain ⟨i, _, rfl⟩ := List.mem_map.mp (show x ∈ (n :: ns).map PyData.int from hx)
    exact fun z => nomatch z
  · have := depthAll_ints (n :: ns)
    have := hr.un
    show X.A.units + 1 + PyData.depthAll ((n :: ns).map .int) < cLine
    omega
  · have e := PySem.W.maxD_ints n ns
    rw [e] at hrd
    have : ∃ t, v = .int (ns.foldl max n) t := by
      cases hrd
      exact ⟨_, rfl⟩
    exact ⟨.int _, H, I.kept (t' := tk) hk, this, q⟩
end
theorem foldl_max_ge : ∀ (ns : List Int) (n y : Int), y ≤ n ∨ y ∈ ns → y ≤ ns.foldl max n
  | [], n, y, h => by simpa using h
  | m :: r, n, y, h => by
    refine foldl_max_ge r (max n m) y ?_
    rcases h with h | h
    · exact .inl (by omega)
    · rcases List.mem_cons.mp h with rfl | h
      · exact .inl (by omega)
      · exact .inr h
theorem foldl_max_mem : ∀ (ns : List Int) (n : Int), ns.foldl max n = n ∨ ns.foldl max n ∈ ns
  | [], n => .inl rfl
  | m :: r, n => by
    rcases foldl_max_mem r (max n m) with h | h
    · show r.foldl max (max n m) = n ∨ r.foldl max (max n m) ∈ m :: r
      rw [h]
      by_cases e : m ≤ n
      · exact .inl (by omega)
      · exact .inr (by rw [show max n m = m by omega]; exact List.mem_cons_self)
    · exact .inr (List.mem_cons_of_mem _ h)
theorem max_uniq {n : Int} {ns : List Int} {m : Int} (h1 : m ∈ n :: ns) (h2 : ∀ y, y ∈ n :: ns → y ≤ m) : m = ns.foldl max n := by
  have a : m ≤ ns.foldl max n := foldl_max_ge ns n m (by
    rcases List.mem_cons.mp h1 with rfl | h
    · exact .inl (Int.le_refl _)
    · exact .inr h)
  have b : ns.foldl max n ≤ m := by
    rcases foldl_max_mem ns n with h | h
    · rw [h]
      exact h2 n List.mem_cons_self
    · exact h2 _ (List.mem_cons_of_mem _ h)
  omega
theorem us_max {K : PySem.W.Frag} : UnS (fun x H Q => rMax K [x] H Q ∨ rMaxT K [x] H Q) opMax := fun {B F Γ σ H fp x d} k Q r b z c => by
  cases b with
  | @lst a xs ds e t =>
    unfold opMax maxOf at z
    simp only at z
    split at z
    · rename_i n ns hn
      have := ints_rp t hn
      subst this
      refine .inl ⟨a, n :: ns, rfl, .inl (.inl e), by simp, fun m h1 h2 => ?_⟩
      rw [max_uniq h1 h2]
      exact op_sc r (.int _) c z.2
    · exact z.elim
  | @tup a xs ds e0 e t =>
    unfold opMax maxOf at z
    simp only at z
    split at z
    · rename_i n ns hn
      have := ints_rp t hn
      subst this
      exact .inr ⟨a, n, ns, rfl, .inl (.inl e), z.1, op_sc r (.int _) c z.2⟩
    · exact z.elim
  | _ => exact z.elim
section
variable {X : Cx} {W : WX} {pos p : Pos} {a b e f : Expr} {ta tb te tf : TE} {pa pb pe pf : QE}
theorem d_max {j : Nat} (hr : Room j X.A) (hc : X.calm = true) (hm : X.mg "max" = none) (ha : DE X W a ta pa) (hg : Gl X "max" := by rfl) (he : starEach [a] X.env = (false, eval a X.env) :: starEach [] X.env := by rfl) (hpl : (backTo pos (starEach [] X.env)).any (·.1) = false := by rfl) :
    DE X W (.Call (.Name "max" p) [a] [] pos) (tCB (fun xs H Q => rMax X.K xs H Q ∨ rMaxT X.K xs H Q) (tCons ta tNil)) (qUn opMax pa) := d_bi1 (CallR.or (cr_max hc) (cr_maxT hr hc)) us_max hm (by decide +kernel) ha hg (by decide) (by decide) he hpl
end

/-! ### text[::-1] -/
def revS (x : Str) : Str := ⟨x.cps.toList.reverse.toArray⟩
theorem revS_eq (x : Str) (u : Tok) : Txt.sliceBy x none none (-1, u) = revS x := by
  have h := step_rev_list x u
  generalize Txt.sliceBy x none none (-1, u) = y at h
  unfold revS
  cases y with
  | mk cps =>
    congr 1
    apply Array.toList_inj.mp
    rw [List.toList_toArray, h]
    apply List.ext_getElem
    · simp [Str.length]
    · intro i h1 h2
      simp only [List.getElem_map, List.getElem_range, List.getElem_reverse, Array.length_toList, Array.getElem_toList]
      have : x.cps.size - 1 - i < x.cps.size := by
        simp at h2
        omega
      show x.cps.getD (x.cps.size - 1 - i) 0 = _
      simp [Array.getD, this]
def opRevS : OP1 := fun d k => match d with
  | .str x => x.length ≤ sizeLine ∧ k (.sh (.str (revS x)))
  | _ => False
def tRevS (te : TE) : TE := fun σ H Q => te σ H fun x H1 => ∃ z, x = .str z ∧ z.length ≤ sizeLine ∧ Q (.str (revS z)) H1
theorem strOk_rev {x : Str} (h : PyData.strOk x = true) : PyData.strOk (revS x) = true := by
  rw [strOk_iff] at h ⊢
  intro c hc
  unfold revS at hc
  simp at hc
  exact h c (by simpa using hc)
section
variable {X : Cx} {W : WX} {pos p : Pos} {a b e f : Expr} {ta tb te tf : TE} {pa pb pe pf : QE}
theorem pe_revS {k : Nat} {p1 p2 p3 : Pos} (he : PE X e te) : PE X (.Subscript e (.Slice none none (some (.UnaryOp .USub (.Constant (.int 1) k p1) p2)) p3) pos) (tRevS te) := by
  refine ⟨fun pins s σ H Q I h => ?_⟩
  refine Subscript_ (thn (he.run pins s σ H _ I h) fun v s1 ⟨x, H1, I1, r1, q1⟩ => ?_)
  obtain ⟨z, ex, hz, q⟩ := q1
  subst ex
  obtain ⟨t, rfl⟩ := r1
  have hst : PO X (some (.UnaryOp .USub (.Constant (.int 1) k p1) p2)) (tPart (tUn (rU fun i => .int (-i)) (tC (.int 1)))) := po_some (pe_un un_neg pe_int)
  refine wpAny_Slice (thn (po_none.run pins s1 σ H1 (fun o H2 => o = none ∧ H2 = H1) I1 ⟨rfl, rfl⟩) fun vl s2 ⟨l, H2, I2, pl, el, e2⟩ => ?_)
  subst el e2
  refine thn (po_none.run pins s2 σ H2 (fun o H3 => o = none ∧ H3 = H2) I2 ⟨rfl, rfl⟩) fun vu s3 ⟨u, H3, I3, pu, eu, e3⟩ => ?_
  subst eu e3
  refine thn (hst.run pins s3 σ H3 (fun o H4 => o = some (-1) ∧ H4 = H3) I3 ⟨1, rfl, -1, rfl, rfl, rfl⟩) fun vs s4 ⟨o, H4, I4, ps, eo, e4⟩ => ?_
  subst eo e4
  have I5 : Inv X pins σ H4 { s4 with heap := s4.heap.push { cls := .type "slice", data := .fields #[vl, vu, vs] } } := I4.kept (t' := s4.toks) fun b ob q => Heap.get?_push_of_some _ q
  obtain ⟨l, rfl, hl1⟩ := IsPart.raw pl
  obtain ⟨u, rfl, hu1⟩ := IsPart.raw pu
  obtain ⟨st, rfl, hst1⟩ := IsPart.raw ps
  have el : l = none := by cases l <;> first | rfl | cases hl1
  have eu : u = none := by cases u <;> first | rfl | cases hu1
  obtain ⟨w, es⟩ : ∃ w, st = some ((-1 : Int), w) := by
    cases st with
    | none => cases hst1
    | some q =>
      obtain ⟨i, w⟩ := q
      cases hst1
      exact ⟨w, rfl⟩
  subst el eu es
  show wpAny (model X.prog X.w) X.A (subscriptTail e (.Slice none none (some (.UnaryOp .USub (.Constant (.int 1) k p1) p2)) p3) (.str z t) (.ref s4.heap.objs.size)) (EP X pins σ Q) X.xe { s4 with heap := s4.heap.push { cls := .type "slice", data := .fields #[partValue none, partValue none, partValue (some ((-1 : Int), w))] } }
  refine tail_any (ops := [.str z t, .ref s4.heap.objs.size]) (typeIs_str _ _ _) (F.slot_str_getitem.lookup) ?_ (by with_unfolding_all rfl)
  refine wpAny_getItem_str_slice (l := none) (u := none) (st := some ((-1 : Int), w)) ⟨_, Heap.get?_push_size _ rfl, rfl, rfl⟩ rfl ?_
  have e0 := revS_eq z w
  have nc : ¬ (((((some ((-1 : Int), w)).map (·.1)).getD 1 == 1 && (slicePicked z none none (some ((-1 : Int), w))).length == z.length)) = true) := by
    have : (((some ((-1 : Int), w)).map (·.1)).getD 1 == 1) = false := rfl
    rw [this]
    simp
  unfold Txt.sliceBy at e0
  rw [if_neg nc] at e0
  unfold sliceMade
  rw [if_neg nc, e0]
  have hl : (revS z).length ≤ sizeLine := by
    show z.cps.toList.reverse.toArray.size ≤ sizeLine
    rw [List.size_toArray, List.length_reverse, Array.length_toList]
    exact hz
  exact ⟨hl, .str _, H4, I5.tok _, ⟨_, rfl⟩, q⟩
theorem d_revS {k : Nat} {p1 p2 p3 : Pos} (he : DE X W e te pe) : DE X W (.Subscript e (.Slice none none (some (.UnaryOp .USub (.Constant (.int 1) k p1) p2)) p3) pos) (tRevS te) (qUn opRevS pe) := ⟨pe_revS he.pe, fun {B F Γ σ H fp} R EX Q rr h k e => by
  refine he.se _ EX _ rr h (fun w1 Γ1 x F1 H1 fp1 x1 r1 v1 h1 => ?_) e
  obtain ⟨d, b, z⟩ := bor_rb r1 v1 h1
  cases b with
  | str x hx => exact ⟨x, rfl, z.1, k _ Γ1 _ F1 H1 fp1 x1 r1 (.sh (.str _ (strOk_rev hx))) z.2⟩
  | _ => exact z.elim⟩
end

/-! ### name = {k: v for ..} on one line -/
section
variable {X : Cx} {W : WX} {pos : Pos} {kx vx tg iter : Expr} {wi : TI} {qi : QI} {g : TG} {qg : QG} {js : List Nat} {tt : TT} {qt : QT} {tk tv : TE} {qk qv : QE} {ifs : List Expr} {scope : Scope} {own : List (Str × Nat)}
theorem ps_setDc {b : Bool} {i : Nat} {y : Str} {py spos : Pos} (hu : X.A.units + 1 < cLine) (hc : X.calm = true) (hN : X.N.Nodup) (hy : X.N[i]? = some y) (hyl : X.env.scope.names.lookup y = some .local)
    (hsw : swapsWith (.DictComp kx vx [⟨tg, iter, ifs, 0⟩] scope pos) (some (.Name y py)) spos.line X.env = pure true) (hi : PI X tg iter wi) (ok : BlkOk X.N X.env.scope scope own)
    (hg : ∀ (s : Shared) (H : Hp) (C : Addr) (cl : List (Str × Addr)) (fp : List Addr), PG (X.blk s H scope (compEnvC scope cl C X.env) fp) tg g)
    (ht : ∀ (s : Shared) (H : Hp) (C : Addr) (cl : List (Str × Addr)) (fp : List Addr), PTs (X.blk s H scope (compEnvC scope cl C X.env) fp) ifs tt)
    (hk : ∀ (s : Shared) (H : Hp) (C : Addr) (cl : List (Str × Addr)) (fp : List Addr), PE (X.blk s H scope (compEnvC scope cl C X.env) fp) kx tk)
    (he : ∀ (s : Shared) (H : Hp) (C : Addr) (cl : List (Str × Addr)) (fp : List Addr), PE (X.blk s H scope (compEnvC scope cl C X.env) fp) vx tv) (hs : ∀ x, foldedSetIterable iter X.env x = pure x := by intro _; rfl) :
    PS X (.Assign [.Name y py] (.DictComp kx vx [⟨tg, iter, ifs, 0⟩] scope pos) spos) (tAsg (tDcG b wi g tt tk tv (own.map (·.2))) (gName i)) := by
  refine ⟨fun pins s σ H D I h => ?_⟩
  rw [exec_Assign_Name_used _ _ _ _ hsw]
  refine wpAny_bind (wpAny_standAt (wpAny_bind ?_))
  show wpAny _ X.A (do let _ ← comprehension (.DictComp kx vx [⟨tg, iter, ifs, 0⟩] scope pos) scope X.env (firstIterPos [⟨tg, iter, ifs, 0⟩] pos) newDict false (eval iter X.env) (some (assign (.Name y py) X.env))) _ _ s
  have h : tDcG b wi g tt tk tv (own.map (·.2)) σ H (fun x H1 => gName i x σ H1 D.nx) := h
  refine wpAny_bind (thn (dcG_core (Qf := fun _ s' => SP X pins D .next s') hu hc hN I hi ok hg ht hk he hs h fun L C s' m H' I' q hn f => ?_) fun _ s' hq => wpAny_pure (wpAny_pure hq))
  show wpAny _ _ (assign (.Name y py) X.env (.ref L)) _ _ _
  refine wpAny_assign_Name (store_ok2 (v := V.ref L) I' hN hy (.inl hyl) rfl (fun s2 I2 ⟨a, sb, ha⟩ => ?_) (.inr hyl))
  obtain ⟨f0, f1, f2, f3, f4, f5⟩ := f
  have haC : C ≠ a := by
    rcases ha with z | z
    · rw [z]; exact f1
    · exact fun e => f4 y a z e.symm
  refine ⟨m, hn.sameBut sb haC, fun h3 sb3 => ?_⟩
  exact ⟨_, H', I2.turned (t' := s2.toks) (fun b o hb e => (sb3.2 b hb).trans e) f0 f1 f3 f4 f5, q⟩
theorem swd_true {gs : List Comprehension} {py : Pos} {y : Str} {l : Nat} {env : Env} (hk : env.scope.kind = .function) (hy : env.scope.names.lookup y = some .local) (hl : (py.line == pos.line) = true)
    (ha : (scope.names.any fun (n, k) => n == y && (k == .local || k == .cell)) = false) : swapsWith (.DictComp kx vx gs scope pos) (some (.Name y py)) l env = pure true := by
  have ky : env.kindOf y = some .local := hy
  have hb : env.blockKind = .function := by unfold Env.blockKind; rw [hk]; rfl
  unfold swapsWith
  simp only [hb, ky, ha, Expr.pos, hl]
  rfl
theorem ds_setDc (b : Bool) {i j : Nat} {y : Str} {py spos : Pos} (hr : Room j X.A) (hc : X.calm = true) (hN : X.N.Nodup) (hi : DI X W tg iter wi qi) (ok : BlkOk X.N X.env.scope scope own)
    (hg : ∀ (s : Shared) (H : Hp) (C : Addr) (cl : List (Str × Addr)) (fp : List Addr), DG (X.blk s H scope (compEnvC scope cl C X.env) fp) tg g qg js)
    (ht : ∀ (s : Shared) (H : Hp) (C : Addr) (cl : List (Str × Addr)) (fp : List Addr), DTs (X.blk s H scope (compEnvC scope cl C X.env) fp) W0 ifs tt qt)
    (hk : ∀ (s : Shared) (H : Hp) (C : Addr) (cl : List (Str × Addr)) (fp : List Addr), DE (X.blk s H scope (compEnvC scope cl C X.env) fp) W0 kx tk qk)
    (he : ∀ (s : Shared) (H : Hp) (C : Addr) (cl : List (Str × Addr)) (fp : List Addr), DE (X.blk s H scope (compEnvC scope cl C X.env) fp) W0 vx tv qv)
    (hsw : swapsWith (.DictComp kx vx [⟨tg, iter, ifs, 0⟩] scope pos) (some (.Name y py)) spos.line X.env = pure true)
    (hy : X.N[i]? = some y := by rfl) (hyl : X.env.scope.names.lookup y = some .local := by rfl) (hj : (∀ j ∈ js, j ∈ own.map (·.2)) := by decide) (hs : ∀ x, foldedSetIterable iter X.env x = pure x := by intro _; rfl) :
    DS X W (.Assign [.Name y py] (.DictComp kx vx [⟨tg, iter, ifs, 0⟩] scope pos) spos) (tAsg (tDcG b wi g tt tk tv (own.map (·.2))) (gName i)) (qAsg (qDc b (own.map (·.2)) qi qg qt qk qv) (qgN i)) :=
  ⟨ps_setDc (hu_of hr) hc hN hy hyl hsw hi.pi ok (fun s H C cl fp => (hg s H C cl fp).pg) (fun s H C cl fp => (ht s H C cl fp).pt) (fun s H C cl fp => (hk s H C cl fp).pe) (fun s H C cl fp => (he s H C cl fp).pe) hs,
   ss_asg (se_dc hi.si (hg ({} : Shared) (fun _ => none) 0 [] []).sg (ht ({} : Shared) (fun _ => none) 0 [] []).st (hk ({} : Shared) (fun _ => none) 0 [] []).se (he ({} : Shared) (fun _ => none) 0 [] []).se hj) sg_name⟩
end

end PL

namespace PL
open PySem PySem.Spec PyProof.Rows L2
/-! ### comprehensions whose parts may name the block -/
abbrev BK (α : Type) := Shared → Hp → Addr → List (Str × Addr) → List Addr → α
abbrev bz {α : Type} (f : BK α) : α := f {} (fun _ => none) 0 [] []
section
variable {X : Cx} {W : WX} {pos : Pos} {e tg iter elt tg1 iter1 kx vx : Expr} {wi : TI} {qi qi1 : QI} {wi1 : BK TI} {g g1 : BK TG} {qg qg1 : QG} {js js1 : List Nat} {tt tt1 : BK TT} {qt qt1 : QT} {te tk tv : BK TE} {qe qk qv : QE} {ifs ifs1 : List Expr} {scope : Scope} {own : List (Str × Nat)}
theorem b_lc (hc : X.calm = true) (hN : X.N.Nodup) (hi : DI X W tg iter wi qi) (ok : BlkOk X.N X.env.scope scope own)
    (hg : ∀ (s : Shared) (H : Hp) (C : Addr) (cl : List (Str × Addr)) (fp : List Addr), DG (X.blk s H scope (compEnvC scope cl C X.env) fp) tg (g s H C cl fp) qg js)
    (ht : ∀ (s : Shared) (H : Hp) (C : Addr) (cl : List (Str × Addr)) (fp : List Addr), DTs (X.blk s H scope (compEnvC scope cl C X.env) fp) W0 ifs (tt s H C cl fp) qt)
    (he : ∀ (s : Shared) (H : Hp) (C : Addr) (cl : List (Str × Addr)) (fp : List Addr), DE (X.blk s H scope (compEnvC scope cl C X.env) fp) W0 elt (te s H C cl fp) qe)
    (h1 : ∀ s H C cl fp, g s H C cl fp = bz g := by intros; rfl) (h2 : ∀ s H C cl fp, tt s H C cl fp = bz tt := by intros; rfl) (h3 : ∀ s H C cl fp, te s H C cl fp = bz te := by intros; rfl)
    (hj : (∀ j ∈ js, j ∈ own.map (·.2)) := by decide) (hs : ∀ x, foldedSetIterable iter X.env x = pure x := by intro _; rfl) :
    DE X W (.ListComp elt [⟨tg, iter, ifs, 0⟩] scope pos) (tLc wi (bz g) (bz tt) (bz te) (own.map (·.2))) (qLc (own.map (·.2)) qi qg qt qe) :=
  d_lc hc hN hi ok (fun s H C cl fp => h1 s H C cl fp ▸ hg s H C cl fp) (fun s H C cl fp => h2 s H C cl fp ▸ ht s H C cl fp) (fun s H C cl fp => h3 s H C cl fp ▸ he s H C cl fp) hj hs
theorem bs_setLc {i : Nat} {y : Str} {py spos : Pos} (hc : X.calm = true) (hN : X.N.Nodup) (hi : DI X W tg iter wi qi) (ok : BlkOk X.N X.env.scope scope own)
    (hg : ∀ (s : Shared) (H : Hp) (C : Addr) (cl : List (Str × Addr)) (fp : List Addr), DG (X.blk s H scope (compEnvC scope cl C X.env) fp) tg (g s H C cl fp) qg js)
    (ht : ∀ (s : Shared) (H : Hp) (C : Addr) (cl : List (Str × Addr)) (fp : List Addr), DTs (X.blk s H scope (compEnvC scope cl C X.env) fp) W0 ifs (tt s H C cl fp) qt)
    (he : ∀ (s : Shared) (H : Hp) (C : Addr) (cl : List (Str × Addr)) (fp : List Addr), DE (X.blk s H scope (compEnvC scope cl C X.env) fp) W0 elt (te s H C cl fp) qe)
    (hsw : swapsWith (.ListComp elt [⟨tg, iter, ifs, 0⟩] scope pos) (some (.Name y py)) spos.line X.env = pure true)
    (h1 : ∀ s H C cl fp, g s H C cl fp = bz g := by intros; rfl) (h2 : ∀ s H C cl fp, tt s H C cl fp = bz tt := by intros; rfl) (h3 : ∀ s H C cl fp, te s H C cl fp = bz te := by intros; rfl)
    (hy : X.N[i]? = some y := by rfl) (hyl : X.env.scope.names.lookup y = some .local := by rfl) (hj : (∀ j ∈ js, j ∈ own.map (·.2)) := by decide) (hs : ∀ x, foldedSetIterable iter X.env x = pure x := by intro _; rfl) :
    DS X W (.Assign [.Name y py] (.ListComp elt [⟨tg, iter, ifs, 0⟩] scope pos) spos) (tAsg (tLc wi (bz g) (bz tt) (bz te) (own.map (·.2))) (gName i)) (qAsg (qLc (own.map (·.2)) qi qg qt qe) (qgN i)) :=
  ds_setLc hc hN hi ok (fun s H C cl fp => h1 s H C cl fp ▸ hg s H C cl fp) (fun s H C cl fp => h2 s H C cl fp ▸ ht s H C cl fp) (fun s H C cl fp => h3 s H C cl fp ▸ he s H C cl fp) hsw hy hyl hj hs
theorem b_lc2 (vs1 : List Nat) (hc : X.calm = true) (hN : X.N.Nodup) (hi : DI X W tg iter wi qi) (ok : BlkOk X.N X.env.scope scope own)
    (hg : ∀ (s : Shared) (H : Hp) (C : Addr) (cl : List (Str × Addr)) (fp : List Addr), DG (X.blk s H scope (compEnvC scope cl C X.env) fp) tg (g s H C cl fp) qg js)
    (ht : ∀ (s : Shared) (H : Hp) (C : Addr) (cl : List (Str × Addr)) (fp : List Addr), DTs (X.blk s H scope (compEnvC scope cl C X.env) fp) W0 ifs (tt s H C cl fp) qt)
    (hi1 : ∀ (s : Shared) (H : Hp) (C : Addr) (cl : List (Str × Addr)) (fp : List Addr), DI (X.blk s H scope (compEnvC scope cl C X.env) fp) W0 tg1 iter1 (wi1 s H C cl fp) qi1)
    (hg1 : ∀ (s : Shared) (H : Hp) (C : Addr) (cl : List (Str × Addr)) (fp : List Addr), DG (X.blk s H scope (compEnvC scope cl C X.env) fp) tg1 (g1 s H C cl fp) qg1 js1)
    (ht1 : ∀ (s : Shared) (H : Hp) (C : Addr) (cl : List (Str × Addr)) (fp : List Addr), DTs (X.blk s H scope (compEnvC scope cl C X.env) fp) W0 ifs1 (tt1 s H C cl fp) qt1)
    (he : ∀ (s : Shared) (H : Hp) (C : Addr) (cl : List (Str × Addr)) (fp : List Addr), DE (X.blk s H scope (compEnvC scope cl C X.env) fp) W0 elt (te s H C cl fp) qe)
    (h1 : ∀ s H C cl fp, g s H C cl fp = bz g := by intros; rfl) (h2 : ∀ s H C cl fp, tt s H C cl fp = bz tt := by intros; rfl) (h3 : ∀ s H C cl fp, te s H C cl fp = bz te := by intros; rfl)
    (h4 : ∀ s H C cl fp, wi1 s H C cl fp = bz wi1 := by intros; rfl) (h5 : ∀ s H C cl fp, g1 s H C cl fp = bz g1 := by intros; rfl) (h6 : ∀ s H C cl fp, tt1 s H C cl fp = bz tt1 := by intros; rfl)
    (hj : (∀ j ∈ js, j ∈ own.map (·.2)) := by decide) (hj1 : (∀ j ∈ js1, j ∈ vs1) := by decide) (hv : (∀ j ∈ vs1, j ∈ own.map (·.2)) := by decide) (hs : ∀ x, foldedSetIterable iter X.env x = pure x := by intro _; rfl) (hs1 : ∀ env x, foldedSetIterable iter1 env x = pure x := by intro _ _; rfl) :
    DE X W (.ListComp elt [⟨tg, iter, ifs, 0⟩, ⟨tg1, iter1, ifs1, 0⟩] scope pos) (tLc2 wi (bz g) (bz tt) (bz wi1) (bz g1) (bz tt1) (bz te) (own.map (·.2)) vs1) (qLc2 (own.map (·.2)) vs1 qi qg qt qi1 qg1 qt1 qe) :=
  d_lc2 vs1 hc hN hi ok (fun s H C cl fp => h1 s H C cl fp ▸ hg s H C cl fp) (fun s H C cl fp => h2 s H C cl fp ▸ ht s H C cl fp) (fun s H C cl fp => h4 s H C cl fp ▸ hi1 s H C cl fp) (fun s H C cl fp => h5 s H C cl fp ▸ hg1 s H C cl fp) (fun s H C cl fp => h6 s H C cl fp ▸ ht1 s H C cl fp) (fun s H C cl fp => h3 s H C cl fp ▸ he s H C cl fp) hj hj1 hv hs hs1
theorem b_dc (b : Bool) {j : Nat} (hr : Room j X.A) (hc : X.calm = true) (hN : X.N.Nodup) (hi : DI X W tg iter wi qi) (ok : BlkOk X.N X.env.scope scope own)
    (hg : ∀ (s : Shared) (H : Hp) (C : Addr) (cl : List (Str × Addr)) (fp : List Addr), DG (X.blk s H scope (compEnvC scope cl C X.env) fp) tg (g s H C cl fp) qg js)
    (ht : ∀ (s : Shared) (H : Hp) (C : Addr) (cl : List (Str × Addr)) (fp : List Addr), DTs (X.blk s H scope (compEnvC scope cl C X.env) fp) W0 ifs (tt s H C cl fp) qt)
    (hk : ∀ (s : Shared) (H : Hp) (C : Addr) (cl : List (Str × Addr)) (fp : List Addr), DE (X.blk s H scope (compEnvC scope cl C X.env) fp) W0 kx (tk s H C cl fp) qk)
    (he : ∀ (s : Shared) (H : Hp) (C : Addr) (cl : List (Str × Addr)) (fp : List Addr), DE (X.blk s H scope (compEnvC scope cl C X.env) fp) W0 vx (tv s H C cl fp) qv)
    (h1 : ∀ s H C cl fp, g s H C cl fp = bz g := by intros; rfl) (h2 : ∀ s H C cl fp, tt s H C cl fp = bz tt := by intros; rfl) (h3 : ∀ s H C cl fp, tk s H C cl fp = bz tk := by intros; rfl) (h4 : ∀ s H C cl fp, tv s H C cl fp = bz tv := by intros; rfl)
    (hj : (∀ j ∈ js, j ∈ own.map (·.2)) := by decide) (hs : ∀ x, foldedSetIterable iter X.env x = pure x := by intro _; rfl) :
    DE X W (.DictComp kx vx [⟨tg, iter, ifs, 0⟩] scope pos) (tDcG b wi (bz g) (bz tt) (bz tk) (bz tv) (own.map (·.2))) (qDc b (own.map (·.2)) qi qg qt qk qv) :=
  d_dc b hr hc hN hi ok (fun s H C cl fp => h1 s H C cl fp ▸ hg s H C cl fp) (fun s H C cl fp => h2 s H C cl fp ▸ ht s H C cl fp) (fun s H C cl fp => h3 s H C cl fp ▸ hk s H C cl fp) (fun s H C cl fp => h4 s H C cl fp ▸ he s H C cl fp) hj hs
theorem bs_setDc (b : Bool) {i j : Nat} {y : Str} {py spos : Pos} (hr : Room j X.A) (hc : X.calm = true) (hN : X.N.Nodup) (hi : DI X W tg iter wi qi) (ok : BlkOk X.N X.env.scope scope own)
    (hg : ∀ (s : Shared) (H : Hp) (C : Addr) (cl : List (Str × Addr)) (fp : List Addr), DG (X.blk s H scope (compEnvC scope cl C X.env) fp) tg (g s H C cl fp) qg js)
    (ht : ∀ (s : Shared) (H : Hp) (C : Addr) (cl : List (Str × Addr)) (fp : List Addr), DTs (X.blk s H scope (compEnvC scope cl C X.env) fp) W0 ifs (tt s H C cl fp) qt)
    (hk : ∀ (s : Shared) (H : Hp) (C : Addr) (cl : List (Str × Addr)) (fp : List Addr), DE (X.blk s H scope (compEnvC scope cl C X.env) fp) W0 kx (tk s H C cl fp) qk)
    (he : ∀ (s : Shared) (H : Hp) (C : Addr) (cl : List (Str × Addr)) (fp : List Addr), DE (X.blk s H scope (compEnvC scope cl C X.env) fp) W0 vx (tv s H C cl fp) qv)
    (hsw : swapsWith (.DictComp kx vx [⟨tg, iter, ifs, 0⟩] scope pos) (some (.Name y py)) spos.line X.env = pure true)
    (h1 : ∀ s H C cl fp, g s H C cl fp = bz g := by intros; rfl) (h2 : ∀ s H C cl fp, tt s H C cl fp = bz tt := by intros; rfl) (h3 : ∀ s H C cl fp, tk s H C cl fp = bz tk := by intros; rfl) (h4 : ∀ s H C cl fp, tv s H C cl fp = bz tv := by intros; rfl)
    (hy : X.N[i]? = some y := by rfl) (hyl : X.env.scope.names.lookup y = some .local := by rfl) (hj : (∀ j ∈ js, j ∈ own.map (·.2)) := by decide) (hs : ∀ x, foldedSetIterable iter X.env x = pure x := by intro _; rfl) :
    DS X W (.Assign [.Name y py] (.DictComp kx vx [⟨tg, iter, ifs, 0⟩] scope pos) spos) (tAsg (tDcG b wi (bz g) (bz tt) (bz tk) (bz tv) (own.map (·.2))) (gName i)) (qAsg (qDc b (own.map (·.2)) qi qg qt qk qv) (qgN i)) :=
  ds_setDc b hr hc hN hi ok (fun s H C cl fp => h1 s H C cl fp ▸ hg s H C cl fp) (fun s H C cl fp => h2 s H C cl fp ▸ ht s H C cl fp) (fun s H C cl fp => h3 s H C cl fp ▸ hk s H C cl fp) (fun s H C cl fp => h4 s H C cl fp ▸ he s H C cl fp) hsw hy hyl hj hs
end
end PL

namespace PL
open PySem PySem.Spec PyProof.Rows L2
/-! ### loops in plain Lean -/
theorem Cif.yes {A B : Prop} (h : A) : Cif true A B := ⟨fun _ => h, (fun z => nomatch z)⟩
theorem Cif.no {A B : Prop} (h : B) : Cif false A B := ⟨(fun z => nomatch z), fun _ => h⟩
section
variable {α : Type} {vs : List Nat} {g : QG} {t : QT} {p : QE} {k : List D → Ev → Prop} {Γ : Ev}
theorem lcGo_map (enc : α → D) (f : α → D) : ∀ (xs : List α) (acc : List D),
    (∀ x ∈ xs, ∀ (acc : List D) (K : List D → Ev → Prop), acc.length < sizeLine → K (acc ++ [f x]) Γ → g (.sh (enc x)) Γ fun Γ1 => p Γ1 (fun w Γ3 => shr w Γ3 fun y Γ4 => acc.length < sizeLine ∧ K (acc ++ [y]) (wipEv vs Γ4)) noEX) →
    acc.length + xs.length ≤ sizeLine → k (acc ++ xs.map f) Γ → lcGo vs g qYes p k (xs.map enc) acc Γ
  | [], acc, _, _, hk => by simpa [lcGo] using hk
  | x :: r, acc, hs, hl, hk => by
    have h := hs x List.mem_cons_self acc (fun acc' Γ' => lcGo vs g qYes p k (r.map enc) acc' Γ') (by simp at hl; omega)
      (lcGo_map enc f r (acc ++ [f x]) (fun y hy => hs y (List.mem_cons_of_mem _ hy)) (by simp at hl ⊢; omega) (by simpa using hk))
    have e : (fun Γ1 => p Γ1 (fun w Γ3 => shr w Γ3 fun y Γ4 => acc.length < sizeLine ∧ lcGo vs g qYes p k (r.map enc) (acc ++ [y]) (wipEv vs Γ4)) noEX) =
        fun Γ1 => Cif true (p Γ1 (fun w Γ3 => shr w Γ3 fun y Γ4 => acc.length < sizeLine ∧ lcGo vs g qYes p k (r.map enc) (acc ++ [y]) (wipEv vs Γ4)) noEX) (lcGo vs g qYes p k (r.map enc) acc (wipEv vs Γ1)) := by
      funext Γ1
      exact propext ⟨Cif.yes, fun h => h.t rfl⟩
    rw [e] at h
    exact h
theorem lcGo_fm (enc : α → D) (f : α → Option D) : ∀ (xs : List α) (acc : List D),
    (∀ x ∈ xs, ∀ (acc : List D) (K : List D → Ev → Prop), acc.length < sizeLine → K (acc ++ (f x).toList) Γ → g (.sh (enc x)) Γ fun Γ1 => t Γ1 (fun b Γ2 => Cif b (p Γ2 (fun w Γ3 => shr w Γ3 fun y Γ4 => acc.length < sizeLine ∧ K (acc ++ [y]) (wipEv vs Γ4)) noEX) (K acc (wipEv vs Γ2))) noEX) →
    acc.length + xs.length ≤ sizeLine → k (acc ++ xs.filterMap f) Γ → lcGo vs g t p k (xs.map enc) acc Γ
  | [], acc, _, _, hk => by simpa [lcGo] using hk
  | x :: r, acc, hs, hl, hk => by
    refine hs x List.mem_cons_self acc (fun acc' Γ' => lcGo vs g t p k (r.map enc) acc' Γ') (by simp at hl; omega)
      (lcGo_fm enc f r (acc ++ (f x).toList) (fun y hy => hs y (List.mem_cons_of_mem _ hy)) ?_ ?_)
    · cases f x <;> simp at hl ⊢ <;> omega
    · cases e : f x <;> simpa [e] using hk
/-- [x for x in xs if c x] and such: p gives e x, t gives c x -/
theorem lcGo_fil (enc : α → D) (c : α → Bool) (f : α → D) (xs : List α) (acc : List D)
    (hs : ∀ x ∈ xs, ∀ (acc : List D) (K : List D → Ev → Prop), acc.length < sizeLine → (c x = true → K (acc ++ [f x]) Γ) → (c x = false → K acc Γ) → g (.sh (enc x)) Γ fun Γ1 => t Γ1 (fun b Γ2 => Cif b (p Γ2 (fun w Γ3 => shr w Γ3 fun y Γ4 => acc.length < sizeLine ∧ K (acc ++ [y]) (wipEv vs Γ4)) noEX) (K acc (wipEv vs Γ2))) noEX)
    (hl : acc.length + xs.length ≤ sizeLine) (hk : k (acc ++ (xs.filter c).map f) Γ) : lcGo vs g t p k (xs.map enc) acc Γ := by
  refine lcGo_fm enc (fun x => if c x then some (f x) else none) xs acc (fun x hx acc K ha hK => hs x hx acc K ha (fun h => ?_) fun h => ?_) hl ?_
  · simpa [h] using hK
  · simpa [h] using hK
  · have e : xs.filterMap (fun x => if c x then some (f x) else none) = (xs.filter c).map f := by
      clear hs hl hk
      induction xs with
      | nil => rfl
      | cons x r ih =>
        by_cases h : c x
        · simp [h, ih]
        · simp [h, ih]
    rw [e]
    exact hk
variable {vs1 : List Nat} {i1 : QI} {g1 : QG} {t1 : QT}
theorem lc2Go_app (enc : α → D) (f : α → List D) : ∀ (xs : List α) (acc : List D),
    (∀ x ∈ xs, ∀ (acc : List D) (K : List D → Ev → Prop), acc.length + (f x).length ≤ sizeLine → K (acc ++ f x) Γ → g (.sh (enc x)) Γ fun Γ1 => i1 Γ1 (fun ds1 Γ3 => lcGo vs1 g1 t1 p (fun acc' Γ4 => K acc' (wipEv vs Γ4)) ds1 acc (wipEv vs1 Γ3)) noEX) →
    acc.length + (xs.map fun x => (f x).length).sum ≤ sizeLine → k (acc ++ (xs.map f).flatten) Γ → lc2Go vs vs1 g qYes i1 g1 t1 p k (xs.map enc) acc Γ
  | [], acc, _, _, hk => by simpa [lc2Go] using hk
  | x :: r, acc, hs, hl, hk => by
    simp only [List.map_cons, List.sum_cons] at hl
    have h := hs x List.mem_cons_self acc (fun acc' Γ' => lc2Go vs vs1 g qYes i1 g1 t1 p k (r.map enc) acc' Γ') (by omega)
      (lc2Go_app enc f r (acc ++ f x) (fun y hy => hs y (List.mem_cons_of_mem _ hy)) (by simp; omega) (by simpa using hk))
    have e : (fun Γ1 => i1 Γ1 (fun ds1 Γ3 => lcGo vs1 g1 t1 p (fun acc' Γ4 => lc2Go vs vs1 g qYes i1 g1 t1 p k (r.map enc) acc' (wipEv vs Γ4)) ds1 acc (wipEv vs1 Γ3)) noEX) =
        fun Γ1 => Cif true (i1 Γ1 (fun ds1 Γ3 => lcGo vs1 g1 t1 p (fun acc' Γ4 => lc2Go vs vs1 g qYes i1 g1 t1 p k (r.map enc) acc' (wipEv vs Γ4)) ds1 acc (wipEv vs1 Γ3)) noEX) (lc2Go vs vs1 g qYes i1 g1 t1 p k (r.map enc) acc (wipEv vs Γ1)) := by
      funext Γ1
      exact propext ⟨Cif.yes, fun h => h.t rfl⟩
    rw [e] at h
    exact h
end
section
variable {α : Type} {vs : List Nat} {g : QG} {t : QS} {P : PEnds}
theorem forGo_ok (enc : α → D) (I : List α → Ev → Prop) (h0 : ∀ Γ, I [] Γ → P.nx Γ)
    (hs : ∀ x r Γ (K : Ev → Prop), I (x :: r) Γ → (∀ Γ', I r Γ' → K Γ') → g (.sh (enc x)) Γ fun Γ1 => t { P with nx := K, ct := K, bk := P.nx } Γ1) : ∀ (xs : List α) (Γ : Ev), I xs Γ → forGo g t P (xs.map enc) Γ
  | [], Γ, h => h0 Γ h
  | x :: r, Γ, h => hs x r Γ (forGo g t P (r.map enc)) h fun Γ' h' => forGo_ok enc I h0 hs r Γ' h'
end
section
variable {α : Type} {b : Bool} {vs : List Nat} {g : QG} {pk pv : QE} {k : List (D × D) → Ev → Prop} {Γ : Ev}
theorem dcGo_ok (enc : α → D) (fk fv : α → D) : ∀ (xs : List α) (acc : List (D × D)),
    (∀ x ∈ xs, ∀ (acc : List (D × D)) (K : List (D × D) → Ev → Prop), acc.length < sizeLine → K (putD acc (fk x) (fv x)) Γ → g (.sh (enc x)) Γ fun Γ1 => pk Γ1 (fun w Γ3 => shr w Γ3 fun dk Γ4 => pv Γ4 (fun w Γ5 => shr w Γ5 fun dv Γ6 => (if b = true then keyT dk else keyK dk) = true ∧ acc.length < sizeLine ∧ K (putD acc dk dv) (wipEv vs Γ6)) noEX) noEX) →
    acc.length + xs.length ≤ sizeLine → k (xs.foldl (fun acc x => putD acc (fk x) (fv x)) acc) Γ → dcGo b vs g qYes pk pv k (xs.map enc) acc Γ
  | [], acc, _, _, hk => hk
  | x :: r, acc, hs, hl, hk => by
    have hp : (putD acc (fk x) (fv x)).length ≤ acc.length + 1 := by
      unfold putD
      split
      · simp
      · simp
    have h := hs x List.mem_cons_self acc (fun acc' Γ' => dcGo b vs g qYes pk pv k (r.map enc) acc' Γ') (by simp at hl; omega)
      (dcGo_ok enc fk fv r _ (fun y hy => hs y (List.mem_cons_of_mem _ hy)) (by simp at hl; omega) hk)
    have e : (fun Γ1 => pk Γ1 (fun w Γ3 => shr w Γ3 fun dk Γ4 => pv Γ4 (fun w Γ5 => shr w Γ5 fun dv Γ6 => (if b = true then keyT dk else keyK dk) = true ∧ acc.length < sizeLine ∧ dcGo b vs g qYes pk pv k (r.map enc) (putD acc dk dv) (wipEv vs Γ6)) noEX) noEX) =
        fun Γ1 => Cif true (pk Γ1 (fun w Γ3 => shr w Γ3 fun dk Γ4 => pv Γ4 (fun w Γ5 => shr w Γ5 fun dv Γ6 => (if b = true then keyT dk else keyK dk) = true ∧ acc.length < sizeLine ∧ dcGo b vs g qYes pk pv k (r.map enc) (putD acc dk dv) (wipEv vs Γ6)) noEX) noEX)
          (dcGo b vs g qYes pk pv k (r.map enc) acc (wipEv vs Γ1)) := by
      funext Γ1
      exact propext ⟨Cif.yes, fun h => h.t rfl⟩
    rw [e] at h
    exact h
end

section
variable {α : Type} {vs : List Nat} {g : QG} {t : QT} {p : QE} {k : List D → Ev → Prop} {Γ : Ev}
theorem lc0_map (enc : α → D) (f : α → D) (xs : List α)
    (hs : ∀ x ∈ xs, ∀ (acc : List D) (K : List D → Ev → Prop), acc.length < sizeLine → K (acc ++ [f x]) Γ → g (.sh (enc x)) Γ fun Γ1 => p Γ1 (fun w Γ3 => shr w Γ3 fun y Γ4 => acc.length < sizeLine ∧ K (acc ++ [y]) (wipEv vs Γ4)) noEX)
    (hl : xs.length ≤ sizeLine) (hk : k (xs.map f) Γ) : lcGo vs g qYes p k (xs.map enc) [] Γ := lcGo_map enc f xs [] hs (by simpa using hl) hk
theorem lc0_fil (enc : α → D) (c : α → Bool) (f : α → D) (xs : List α)
    (hs : ∀ x ∈ xs, ∀ (acc : List D) (K : List D → Ev → Prop), acc.length < sizeLine → (c x = true → K (acc ++ [f x]) Γ) → (c x = false → K acc Γ) → g (.sh (enc x)) Γ fun Γ1 => t Γ1 (fun b Γ2 => Cif b (p Γ2 (fun w Γ3 => shr w Γ3 fun y Γ4 => acc.length < sizeLine ∧ K (acc ++ [y]) (wipEv vs Γ4)) noEX) (K acc (wipEv vs Γ2))) noEX)
    (hl : xs.length ≤ sizeLine) (hk : k ((xs.filter c).map f) Γ) : lcGo vs g t p k (xs.map enc) [] Γ := lcGo_fil enc c f xs [] hs (by simpa using hl) hk
variable {vs1 : List Nat} {i1 : QI} {g1 : QG} {t1 : QT}
theorem lc20_app (enc : α → D) (f : α → List D) (xs : List α)
    (hs : ∀ x ∈ xs, ∀ (acc : List D) (K : List D → Ev → Prop), acc.length + (f x).length ≤ sizeLine → K (acc ++ f x) Γ → g (.sh (enc x)) Γ fun Γ1 => i1 Γ1 (fun ds1 Γ3 => lcGo vs1 g1 t1 p (fun acc' Γ4 => K acc' (wipEv vs Γ4)) ds1 acc (wipEv vs1 Γ3)) noEX)
    (hl : (xs.map fun x => (f x).length).sum ≤ sizeLine) (hk : k (xs.map f).flatten Γ) : lc2Go vs vs1 g qYes i1 g1 t1 p k (xs.map enc) [] Γ := lc2Go_app enc f xs [] hs (by simpa using hl) hk
end
theorem cdiv {i j : Int} (h : 0 < j) (h' : j < 1073741824) : CDiv i j := ⟨h, h'⟩
theorem cmulR {i j : Int} (h : -18446744073709551616 < j) (h' : j < 18446744073709551616) : CMul i j := .inr ⟨by omega, by omega⟩
theorem cmulL {i j : Int} (h : -18446744073709551616 < i) (h' : i < 18446744073709551616) : CMul i j := .inl ⟨by omega, by omega⟩
theorem ltsmall {n : Nat} (h : n < 1000000) : n < sizeLine := by rw [sizeLine_eq]; omega
theorem small {n : Nat} (h : n ≤ 1000000) : n ≤ sizeLine := by rw [sizeLine_eq]; omega
/-- a def that promises nothing -/
theorem cal_no {P : Program} {w : World} {K : PySem.W.Frag} {mg : Str → Option Value} {base : Heap} {x : Str} {st : Stmt} {f : Addr} {fd : FuncData} {N ps : List Str} {k n : Nat} (F : L2.Fun K x x st f fd) (hm : mg x = some (.ref f)) (b : Binds K fd ps []) (S : L2.FnScope N ps (L2.defScope st)) :
    Cal P w K mg base (k + 1) x (spD n fun _ _ => False) :=
  ⟨f, fd, ps, L2.Fun.ok F S (fun vs H Q E h => by obtain ⟨_, _, _, _, _, _, h, _⟩ := h; exact h.elim) fun cdv A outer s H vs Q E hr h => by obtain ⟨_, _, _, _, _, _, h, _⟩ := h; exact h.elim, hm, F.kp, b⟩

section
variable {P : Program} {w : World} {K : PySem.W.Frag} {mg : Str → Option Value} {base : Heap}
theorem fnok_mk {x : Str} {st : Stmt} {f : Addr} {fd : FuncData} {N ps : List Str} {k : Nat} {q : PD} (F : L2.Fun K x x st f fd) (S : L2.FnScope N ps (L2.defScope st))
    (hbody : ∀ (cdv : Value) (A : Around) (outer : List Env) (s : Shared) (H : Hp) (E : XK), Room k (A.deeper (envOfC x (L2.defScope st) s.heap.objs.size f cdv)) →
      ∃ t p', DSs (cxOf CX0 P w K mg base N x (L2.defScope st) f cdv A outer s H E).nox W0 (L2.defBody st) t p' ∧ ∀ ds R, ds.length = ps.length → q ds R → p' (endsOf R) (startEv N.length ds)) :
    FnOk P w K mg base CX0 (k + 1) f fd ps (spD ps.length q) := by
  have hN : ps.length ≤ N.length := by
    have := congrArg List.length S.pre
    rw [List.length_take] at this
    omega
  refine L2.Fun.ok F S (fun vs H Q E h => ?_) fun cdv A outer s H vs Q E hr h => ?_
  · obtain ⟨F, ds, R, _, b, hl, _⟩ := h
    rw [b.length, hl]
  · obtain ⟨t, p', hd, hq⟩ := hbody cdv A outer s H E hr
    obtain ⟨F0, ds, R, f0, b, hl, h1, h2⟩ := h
    refine ⟨t, hd.ps, hd.ss (endsOf R) _ (rel_start f0 b (by omega)) (hq ds R hl h1) ⟨fun Γ' F' σ' H' fp' x r z => ?_, fun w Γ' v F' σ' H' fp' x r rw z => ?_, fun _ _ _ _ _ _ _ z => z.elim, fun _ _ _ _ _ _ _ z => z.elim, fun _ _ _ _ _ _ _ _ z => z.elim⟩⟩
    · exact h2 _ _ F' H' x r.bx r.fx (.sh .non) z
    · cases rw with
      | sh h => exact h2 _ _ F' H' x r.bx r.fx (.sh h) z
      | ow h hf => exact h2 _ _ F' H' x r.bx r.fx (.ow h fun a ha => ⟨(hf a ha).1, (hf a ha).2.1⟩) z
      | @«at» i h =>
        unfold endsOf retW at z
        simp only at z
        split at z
        · rename_i d e
          obtain ⟨u, g1, g2⟩ := r.sh i d e
          rw [h] at g1
          cases g1
          exact h2 _ _ F' H' x r.bx r.fx (.sh g2) z
        · rename_i o e
          obtain ⟨u, g1, g2⟩ := r.ow i o e
          rw [h] at g1
          cases g1
          exact h2 _ _ F' H' x r.bx r.fx (.ow g2 fun a ha => ⟨(r.nb i a ha).1, (r.nb i a ha).2.1⟩) z
        · exact z.elim
/-- no list among the written objects -/
def noLists (K : PySem.W.Frag) : Bool := K.all fun p => match p.2.cls with
  | .type n => !(n == "list")
  | _ => true
theorem noLists_at {K : PySem.W.Frag} (h : noLists K = true) {a : Addr} {o : Obj} (e : K.lookup a = some o) : o.cls ≠ .type "list" := by
  intro z
  unfold noLists at h
  rw [List.all_eq_true] at h
  have hm : ∀ (K : List (Addr × Obj)), K.lookup a = some o → ∃ b, (b, o) ∈ K := by
    intro K
    induction K with
    | nil => intro e; cases e
    | cons p r ih =>
      obtain ⟨b, x⟩ := p
      intro e
      simp only [List.lookup] at e
      split at e
      · cases e
        exact ⟨b, by simp⟩
      · obtain ⟨c, hc⟩ := ih e
        exact ⟨c, List.mem_cons_of_mem _ hc⟩
  obtain ⟨b, hb⟩ := hm K e
  have := h _ hb
  simp only [z] at this
  cases this
def scrDat (ns : List Int) : D := .dict [(.none, .list (ns.map .int))]
theorem rpa_ints {F : Hp} : ∀ ns : List Int, RpA F (ns.map V.int) (ns.map .int)
  | [] => .nil
  | n :: r => .cons (.int n) (rpa_ints r)
theorem law_sp {K : PySem.W.Frag} {H : Hp} {a : Addr} {ns : List Int} {p : PD} {E : XK} (hK : noLists K = true) (hO : Only H) (hS : SqL K H a (ns.map V.int)) (hp : p [scrDat ns] fun w => w = .sh (.bool true)) : spD 1 p [.ref a] H (fun v _ => v = .bl true) E := by
  have hf : ∃ o, H a = some (.frz o (.lst (ns.map V.int))) := by
    rcases hS with (h | h) | ⟨o, its, n, h, h1, _⟩
    · rcases hO a with z | ⟨o, xs, z⟩
      · rw [h] at z
        cases z
      · rw [h] at z
        cases z
    · exact h
    · exact absurd h1 (noLists_at hK h)
  obtain ⟨o, e⟩ := hf
  refine ⟨H, [scrDat ns], _, Same.refl H, .cons (.fz e (rpa_ints ns)) .nil, rfl, hp, fun w v F' H' _ _ _ rr hw => ?_⟩
  subst hw
  cases rr with
  | sh h =>
    cases h
    rfl
end
end PL

namespace PL
open PySem PySem.Spec PyProof.Rows L2
/-! ### defs that may raise -/
abbrev PDX := List D → (Wv → Prop) → (Value → Prop) → Prop
def spX (n : Nat) (p : PDX) : Sp := fun vs H Q E => ∃ (F : Hp) (ds : List D) (R : Wv → Prop) (EX : Value → Prop), Same F H ∧ RpA F vs ds ∧ ds.length = n ∧ p ds R EX ∧ (∀ w v F' H', Ext H F F' → Same H H' → Same F' H' → RR H F' H' v w → R w → Q v H') ∧ ∀ c H', Same H H' → EX c → E c none H'
def qCallX (n : Nat) (p : PDX) (a : QA) : QE := fun Γ R E => a Γ (fun ds Γ1 => ds.length = n ∧ p ds (fun w => R w Γ1) (fun c => E c Γ1)) E
theorem Rel.more {B F : Hp} {Γ : Ev} {σ : L2.St} {H H' : Hp} {fp : Nat → List Addr} (r : Rel B F Γ σ H fp) (s : Same H H') : Rel B F Γ σ H' fp :=
  ⟨r.bx.trans s, r.fx.trans s, r.len, r.sh, fun i o e => by
    obtain ⟨v, g1, g2⟩ := r.ow i o e
    refine ⟨v, g1, g2.mono (Same.refl F) fun a ha => ?_⟩
    cases z : H a with
    | none => exact absurd z (r.nb i a ha).2.2
    | some u => exact s a u z, fun i a ha => by
    obtain ⟨b, c, d⟩ := r.nb i a ha
    exact ⟨b, c, fun z => d (s.free z)⟩, r.dj, r.ex⟩
theorem se_callX {W : WX} {ta : TA} {pa : QA} {n : Nat} {p : PDX} (ha : SA W ta pa) : SE W (tCallS (spX n p) (WE W) ta) (qCallX n p pa) := fun {B F Γ σ H fp} R EX Q r q k e => by
  refine ha _ _ _ r q (fun ds Γ1 vs F1 H1 fp1 x1 r1 b1 h1 => ?_) e
  refine ⟨F1, ds, _, _, r1.fx, b1, h1.1, h1.2, fun w v F2 H2 x2 s2 f2 rr hw => ?_, fun c H2 s2 hx => (e.mono x1) c Γ1 F1 H2 fp1 .refl (r1.more s2) hx⟩
  have nf : ∀ i a, a ∈ normF Γ1 fp1 i → F2 a = none := fun i a hi => by
    obtain ⟨_, e, h⟩ := r1.nb i a (normF_mem hi).1
    cases z : F2 a with
    | none => rfl
    | some u =>
      rcases x2.new a (by rw [z]; exact fun z => nomatch z) e with q | ⟨xs, q⟩
      · exact absurd q h
      · cases q2 : H1 a with
        | none => exact absurd q2 h
        | some u2 =>
          have e1 := s2 a u2 q2
          rw [f2 a _ q] at e1
          cases e1
          exact absurd q2 (r1.no_tup hi xs)
  have r1 := r1.norm
  have r2 : Rel B F2 Γ1 σ H2 (normF Γ1 fp1) := ⟨r1.bx.trans s2, f2, r1.len, fun i d e => by
    obtain ⟨v, g1, g2⟩ := r1.sh i d e
    exact ⟨v, g1, g2.mono x2.same⟩, fun i o e => by
    obtain ⟨v, g1, g2⟩ := r1.ow i o e
    refine ⟨v, g1, g2.mono x2.same fun a ha => ?_⟩
    cases z : H1 a with
    | none => exact absurd z (r1.nb i a ha).2.2
    | some u => exact s2 a u z, fun i a ha => by
    obtain ⟨b, c, d⟩ := r1.nb i a ha
    refine ⟨b, nf i a ha, fun z => d (s2.free z)⟩, r1.dj, r1.ex⟩
  have xx : Ext B F1 F2 := ⟨x2.same, fun a h e => (x2.new a h e).imp (fun z => r1.bx.free z) id⟩
  refine k w Γ1 v F2 H2 _ (x1.trans xx) r2 ?_ hw
  cases rr with
  | sh h => exact .sh h
  | @ow o f h hf =>
    refine .ow h fun a ha => ⟨r1.bx.free (hf a ha).1, (hf a ha).2, fun i hi => ?_⟩
    exact (r1.nb i a hi).2.2 (hf a ha).1
structure CalX (P : Program) (w : World) (K : PySem.W.Frag) (mg : Str → Option Value) (base : Heap) (k : Nat) (x : Str) (sp : Sp) : Prop where
  ex : ∃ (f : Addr) (fd : FuncData) (ps : List Str), FnOk P w K mg base (L2.CX P w) k f fd ps sp ∧ mg x = some (.ref f) ∧ PySem.W.keepIn K (.ref f) = true ∧ Binds K fd ps []
section
variable {X : Cx} {W : WX} {pos p : Pos} {e : Expr} {es : List Expr} {ta : TA} {pa : QA} {n : Nat} {q : PDX} {x : Str} {j k : Nat}
theorem d_callX (c : CalX X.prog X.w X.K X.mg X.base k x (spX n q)) (hr : Room j X.A) (tk : Takes X W) (ha : DA X W (e :: es) ta pa) (hk : k ≤ j := by decide) (hg : Gl X x := by rfl) (hdb : (x == ("__debug__" : Str)) = false := by decide)
    (he : starEach (e :: es) X.env = (false, eval e X.env) :: starEach es X.env := by rfl) (hpl : (backTo pos (starEach es X.env)).any (·.1) = false := by rfl) :
    DE X W (.Call (.Name x p) (e :: es) [] pos) (tCallS (spX n q) (WE W) ta) (qCallX n q pa) := ⟨by
  obtain ⟨f, fd, ps, F, hm, kp, b⟩ := c.ex
  exact pe_callS F (hr.mono hk) hg hm kp b (fun σ => passAt tk σ) ha.pa hdb he hpl, se_callX ha.sa⟩
end
def endsX (R : Wv → Prop) (EX : Value → Prop) : PEnds := { endsOf R with ex := fun c _ => EX c }
section
variable {P : Program} {w : World} {K : PySem.W.Frag} {mg : Str → Option Value} {base : Heap}
theorem calx_mk {x : Str} {st : Stmt} {f : Addr} {fd : FuncData} {N ps : List Str} {k : Nat} {q : PDX} (F : L2.Fun K x x st f fd) (hm : mg x = some (.ref f)) (b : Binds K fd ps []) (S : L2.FnScope N ps (L2.defScope st))
    (hbody : ∀ (cdv : Value) (A : Around) (outer : List Env) (s : Shared) (H : Hp) (E : XK), Room k (A.deeper (envOfC x (L2.defScope st) s.heap.objs.size f cdv)) →
      ∃ t p', DSs (cxOf (L2.CX P w) P w K mg base N x (L2.defScope st) f cdv A outer s H E) (fun c d _ H => E c d H) (L2.defBody st) t p' ∧ ∀ ds R EX, ds.length = ps.length → q ds R EX → p' (endsX R EX) (startEv N.length ds)) :
    CalX P w K mg base (k + 1) x (spX ps.length q) := by
  have hN : ps.length ≤ N.length := by
    have := congrArg List.length S.pre
    rw [List.length_take] at this
    omega
  refine ⟨f, fd, ps, L2.Fun.okX F S (fun vs H Q E h => ?_) fun cdv A outer s H vs Q E hr h => ?_, hm, F.kp, b⟩
  · obtain ⟨F, ds, R, EX, _, b, hl, _⟩ := h
    rw [b.length, hl]
  · obtain ⟨t, p', hd, hq⟩ := hbody cdv A outer s H E hr
    obtain ⟨F0, ds, R, EX, f0, b, hl, h1, h2, h3⟩ := h
    refine ⟨t, hd.ps, hd.ss (endsX R EX) _ (rel_start f0 b (by omega)) (hq ds R EX hl h1) ⟨fun Γ' F' σ' H' fp' x r z => ?_, fun w Γ' v F' σ' H' fp' x r rw z => ?_, fun _ _ _ _ _ _ _ z => z.elim, fun _ _ _ _ _ _ _ z => z.elim, fun c Γ' F' σ' H' fp' x r z => h3 c H' r.bx z⟩⟩
    · exact h2 _ _ F' H' x r.bx r.fx (.sh .non) z
    · cases rw with
      | sh h => exact h2 _ _ F' H' x r.bx r.fx (.sh h) z
      | ow h hf => exact h2 _ _ F' H' x r.bx r.fx (.ow h fun a ha => ⟨(hf a ha).1, (hf a ha).2.1⟩) z
      | @«at» i h =>
        unfold endsX endsOf retW at z
        simp only at z
        split at z
        · rename_i d e
          obtain ⟨u, g1, g2⟩ := r.sh i d e
          rw [h] at g1
          cases g1
          exact h2 _ _ F' H' x r.bx r.fx (.sh g2) z
        · rename_i o e
          obtain ⟨u, g1, g2⟩ := r.ow i o e
          rw [h] at g1
          cases g1
          exact h2 _ _ F' H' x r.bx r.fx (.ow g2 fun a ha => ⟨(r.nb i a ha).1, (r.nb i a ha).2.1⟩) z
        · exact z.elim
end
/-! ### raise -/
def qRaise (c : Value) : QS := fun P Γ => P.ex c Γ
section
variable {X : Cx} {W : WX} {pos : Pos} {e : Expr}
theorem ds_raise {C : Addr} (hc : X.calm = true) (tk : Takes X W) (he : PMk X e (fun _ H Q => Q (.ref C) none H)) : DS X W (.Raise (some e) none pos) (fun _ σ H => W (.ref C) none σ H) (qRaise (.ref C)) :=
  ⟨ps_raise hc tk he, fun {B F Γ σ H fp} P D r q a => a.ex _ Γ F σ H fp .refl r q⟩
end
/-- what is known of an own error's class -/
structure ExcOk (K : PySem.W.Frag) (mg : Str → Option Value) (x : Str) (C : Addr) : Prop where
  mgC : mg x = some (.ref C)
  exI : PySem.W.excIn K C [.type "ValueError", .type "Exception", .type "BaseException", .type "object"] "ValueError.__new__" = true
  kp : PySem.W.keepIn K (.ref C) = true
  sub : PySem.W.subIn K (.ref C) (.type "BaseException") = some true
  ty : PySem.W.typeIn K (.ref C) = some (.type "type")
theorem pmk_of {X : Cx} {x m : Str} {C : Addr} {j : Nat} {p p2 pos : Pos} (c : ExcOk X.K X.mg x C) (hg : Gl X x := by rfl) (hdb : (x == ("__debug__" : Str)) = false := by decide) :
    PMk X (.Call (.Name x p) [.Constant (.str m) j p2] [] pos) (fun _ H Q => Q (.ref C) none H) :=
  pmk_own PySem.F.excBase_ValueError c.exI c.mgC c.kp (raises_own c.sub c.ty) hg hdb
end PL

namespace PL
open PySem PySem.Spec PyProof.Rows L2
section
variable {B F : Hp} {Γ : Ev} {σ : L2.St} {H : Hp} {fp : Nat → List Addr}
theorem set_get {α : Type} {l : List α} {i j : Nat} {x y : α} (h : (l.set i x)[j]? = some y) : (i = j ∧ y = x) ∨ (i ≠ j ∧ l[j]? = some y) := by
  by_cases hj : i = j
  · subst hj
    rw [List.getElem?_set] at h
    split at h
    · split at h
      · cases h
        exact .inl ⟨rfl, rfl⟩
      · cases h
    · rename_i hn
      exact absurd rfl hn
  · rw [List.getElem?_set_ne hj] at h
    exact .inr ⟨hj, h⟩
theorem Rel.setAny (r : Rel B F Γ σ H fp) (i : Nat) {s : Sl} {o : Option V} (hs : s = .un ∨ ∃ a, s = .ex a ∧ o = some (.ref a)) : Rel B F (Γ.set i s) (σ.set i o) H (dropF fp i) := by
  refine ⟨r.bx, r.fx, by rw [List.length_set, List.length_set]; exact r.len, fun j d q => ?_, fun j u q => ?_, fun j a ha => r.nb j a (mem_dropF ha).2, fun j k a ha hb => r.dj j k a (mem_dropF ha).2 (mem_dropF hb).2, fun j a q => ?_⟩
  · rcases set_get q with ⟨_, e⟩ | ⟨hj, q⟩
    · rcases hs with z | ⟨a, z, _⟩ <;> rw [z] at e <;> cases e
    · obtain ⟨v, g1, g2⟩ := r.sh j d q
      exact ⟨v, by rw [List.getElem?_set_ne hj]; exact g1, g2⟩
  · rcases set_get q with ⟨_, e⟩ | ⟨hj, q⟩
    · rcases hs with z | ⟨a, z, _⟩ <;> rw [z] at e <;> cases e
    · obtain ⟨v, g1, g2⟩ := r.ow j _ q
      refine ⟨v, by rw [List.getElem?_set_ne hj]; exact g1, ?_⟩
      rw [dropF_ne (Ne.symm hj)]
      exact g2
  · have hl : j < (Γ.set i s).length := (List.getElem?_eq_some_iff.mp q).1
    rcases set_get q with ⟨rfl, e⟩ | ⟨hj, q⟩
    · rcases hs with z | ⟨a', z, ho⟩
      · rw [z] at e
        cases e
      · rw [z] at e
        cases e
        rw [ho]
        exact List.getElem?_set_self (by rw [← r.len]; simpa using hl)
    · rw [List.getElem?_set_ne hj]
      exact r.ex j a q
end
/-! ### try .. except C as n, of one class that the body may raise -/
def oe0 (D : Addr) : Obj := { cls := .ref D, dict := none, data := .fields #[] }
def qTryAs (i : Nat) (D : Addr) (qb : QS) (qs : Addr → QS) : QS := fun P Γ => qb { P with ex := fun c Γ' => c = .ref D ∧ ∀ a, qs a { nx := fun Γ'' => P.nx (Γ''.set i .un), rt := P.rt, bk := fun Γ'' => P.bk (Γ''.set i .un), ct := fun Γ'' => P.ct (Γ''.set i .un), ex := noEX } (Γ'.set i (.ex a)) } Γ
def qTryOnly (D : Addr) (qb : QS) (qs : Addr → QS) : QS := fun P Γ => qb { P with ex := fun c Γ' => c = .ref D ∧ ∀ a, qs a { nx := P.nx, rt := P.rt, bk := P.bk, ct := P.ct, ex := noEX } Γ' } Γ
/-- a wish under which every exception of the body is taken -/
def xeAll (X : Cx) : Value → Shared → Prop := fun e s₁ => wpAny (model X.prog X.w) X.A (noteFrame e X.env) (fun _ s₂ => wpAny (model X.prog X.w) X.A (setFlight e none) (fun _ _ => True) (fun _ _ => True) s₂) (fun _ _ => True) s₁
theorem takesAll {X : Cx} {W' : WX} {pn : List (Addr × Obj)} (hs : X.stack = X.env :: X.outer) (hf : X.env.frame = some X.env.locals) : Takes (X.tr pn (xeAll X)) W' := fun u s' xx => by
  obtain ⟨a, B, sI, pins', σ', H', cls, d, rfl, J', nb, up, sky, na, os, ag, _⟩ := xx
  have hfr : X.A.frames = some (X.env :: X.outer) := by
    have := J'.ok.frames
    rw [← hs]
    exact this
  have sky' : Sky B (X.env :: X.outer) a (Zc cls d) X.env.locals s'.heap := by rw [← hs]; exact sky
  show wpAny (model X.prog X.w) X.A (noteFrame (.ref a) X.env) _ _ _
  exact Sky.land Zc.steady hfr hf sky' fun _ _ _ => trivial
theorem passAll {X : Cx} : PassesOwn (model X.prog X.w) X.A X.env (xeAll X) := PassesOwn.looking
def tsAt (D : Addr) (ts : Addr → TS) : Addr → Value → Option Addr → TS := fun a cls d D' σ H => cls = .ref D ∧ d = none ∧ ts a D' σ H
section
variable {X : Cx} {W : WX} {x n : Str} {cv : Value} {i : Nat} {D : Addr} {body suite : List Stmt} {b₀ : Stmt} {np pos pos' : Pos} {tb : WX → List (Addr × Obj) → (Value → Shared → Prop) → TS} {ts : Addr → Obj → List (Addr × Obj) → TS} {qb : QS} {qs : Addr → QS}
theorem ds_try_as (D : Addr) (hN : X.N.Nodup) (hc : Names X x cv) (hm : PySem.W.exmOne X.K (.ref D) cv = some true) (tk : Takes X W)
    (hb : ∀ (W' : WX) (pn : List (Addr × Obj)) (xe : Value → Shared → Prop), Takes (X.tr pn xe) W' → PassesOwn (model X.prog X.w) X.A X.env xe → DSs (X.tr pn xe) W' body (tb W' pn xe) qb)
    (hsu : ∀ (a : Addr) (oe : Obj) (pn : List (Addr × Obj)), Zc (.ref D) none oe → (∃ vs, oe.data = .fields vs) → DSs (X.suite a ((a, oe) :: pn)) W0 (b₀ :: suite) (ts a oe pn) (qs a))
    (h1 : ∀ W' pn xe, tb W' pn xe = tb W' [] (fun _ _ => False) := by intros; rfl) (h2 : ∀ a oe pn, ts a oe pn = ts a (oe0 D) [] := by intros; rfl)
    (hs : X.stack = X.env :: X.outer := by rfl) (hf : X.env.frame = some X.env.locals := by rfl) (hi : X.N[i]? = some n := by rfl) (hln : X.env.kindOf n = some .local := by rfl) :
    DS X W (.Try body [.ExceptHandler (some (.Name x np)) (some n) (b₀ :: suite) pos'] [] [] pos) (fun D' σ H => tb (wAs X.K cv i (tsAt D fun a => ts a (oe0 D) []) W D') [] (fun _ _ => False) D' σ H) (qTryAs i D qb qs) := by
  refine ⟨ps_try_as (tb := fun W' => tb W' [] (fun _ _ => False)) (ts := tsAt D fun a => ts a (oe0 D) []) (Wout := W) hs hf hN hi hln hc tk (fun W' pn xe tk' pp => h1 W' pn xe ▸ (hb W' pn xe tk' pp).ps) fun a oe cls d pn hz hfl => ?_, fun {B F Γ σ H fp} P D' r q a => ?_⟩
  · by_cases h : cls = .ref D ∧ d = none
    · obtain ⟨rfl, rfl⟩ := h
      have p := (hsu a oe pn hz hfl).ps
      rw [h2 a oe pn] at p
      exact ⟨fun pins s σ H D' I h => p.run pins s σ H D' I h.2.2⟩
    · exact ⟨fun pins s σ H D' I hh => absurd ⟨hh.1, hh.2.1⟩ h⟩
  · rw [← h1 _ [] (xeAll X)]
    refine (hb (wAs X.K cv i (tsAt D fun a => ts a (oe0 D) []) W D') [] (xeAll X) (takesAll hs hf) passAll).ss _ _ r q ⟨a.nx, a.rt, a.bk, a.ct, fun c Γ' F' σ' H' fp' x1 r1 h => ?_⟩
    obtain ⟨rfl, h⟩ := h
    refine ⟨true, hm, fun _ b nb => ⟨rfl, rfl, ?_⟩, fun z => nomatch z⟩
    have r2 := r1.setAny i (s := .ex b) (o := some (.ref b)) (.inr ⟨b, rfl, rfl⟩)
    have am := a.mono x1
    exact (hsu b (oe0 D) [] ⟨rfl, rfl⟩ ⟨_, rfl⟩).ss _ _ r2 (h b) ⟨fun Γ2 F2 σ2 H2 fp2 x2 r2 q2 => am.nx _ F2 _ H2 _ x2 (r2.setAny i (.inl rfl)) q2, am.rt, fun Γ2 F2 σ2 H2 fp2 x2 r2 q2 => am.bk _ F2 _ H2 _ x2 (r2.setAny i (.inl rfl)) q2,
      fun Γ2 F2 σ2 H2 fp2 x2 r2 q2 => am.ct _ F2 _ H2 _ x2 (r2.setAny i (.inl rfl)) q2, fun _ _ _ _ _ _ _ _ z => z.elim⟩
theorem ds_try_only (D : Addr) (hc : Names X x cv) (hm : PySem.W.exmOne X.K (.ref D) cv = some true) (tk : Takes X W)
    (hb : ∀ (W' : WX) (pn : List (Addr × Obj)) (xe : Value → Shared → Prop), Takes (X.tr pn xe) W' → PassesOwn (model X.prog X.w) X.A X.env xe → DSs (X.tr pn xe) W' body (tb W' pn xe) qb)
    (hsu : ∀ (a : Addr) (oe : Obj) (pn : List (Addr × Obj)), Zc (.ref D) none oe → (∃ vs, oe.data = .fields vs) → DSs (X.suite a ((a, oe) :: pn)) W0 (b₀ :: suite) (ts a oe pn) (qs a))
    (h1 : ∀ W' pn xe, tb W' pn xe = tb W' [] (fun _ _ => False) := by intros; rfl) (h2 : ∀ a oe pn, ts a oe pn = ts a (oe0 D) [] := by intros; rfl)
    (hs : X.stack = X.env :: X.outer := by rfl) (hf : X.env.frame = some X.env.locals := by rfl) :
    DS X W (.Try body [.ExceptHandler (some (.Name x np)) none (b₀ :: suite) pos'] [] [] pos) (fun D' σ H => tb (wOnly X.K cv (tsAt D fun a => ts a (oe0 D) []) W D') [] (fun _ _ => False) D' σ H) (qTryOnly D qb qs) := by
  refine ⟨ps_try_only (tb := fun W' => tb W' [] (fun _ _ => False)) (ts := tsAt D fun a => ts a (oe0 D) []) (Wout := W) hs hf hc tk (fun W' pn xe tk' pp => h1 W' pn xe ▸ (hb W' pn xe tk' pp).ps) fun a oe cls d pn hz hfl => ?_, fun {B F Γ σ H fp} P D' r q a => ?_⟩
  · by_cases h : cls = .ref D ∧ d = none
    · obtain ⟨rfl, rfl⟩ := h
      have p := (hsu a oe pn hz hfl).ps
      rw [h2 a oe pn] at p
      exact ⟨fun pins s σ H D' I h => p.run pins s σ H D' I h.2.2⟩
    · exact ⟨fun pins s σ H D' I hh => absurd ⟨hh.1, hh.2.1⟩ h⟩
  · rw [← h1 _ [] (xeAll X)]
    refine (hb (wOnly X.K cv (tsAt D fun a => ts a (oe0 D) []) W D') [] (xeAll X) (takesAll hs hf) passAll).ss _ _ r q ⟨a.nx, a.rt, a.bk, a.ct, fun c Γ' F' σ' H' fp' x1 r1 h => ?_⟩
    obtain ⟨rfl, h⟩ := h
    refine ⟨true, hm, fun _ b nb => ⟨rfl, rfl, ?_⟩, fun z => nomatch z⟩
    have am := a.mono x1
    exact (hsu b (oe0 D) [] ⟨rfl, rfl⟩ ⟨_, rfl⟩).ss _ _ r1 (h b) ⟨am.nx, am.rt, am.bk, am.ct, fun _ _ _ _ _ _ _ _ z => z.elim⟩
end
/-! ### isinstance(e, C) of the exception that the suite holds -/
def qIsE (i : Nat) (a : Addr) (b : Bool) : QE := fun Γ R _ => Γ[i]? = some (.ex a) ∧ R (.sh (.bool b)) Γ
section
variable {X : Cx} {a D C : Addr} {oe : Obj} {pn : List (Addr × Obj)} {pos p p1 p2 : Pos} {n x2 : Str} {b : Bool}
theorem d_isE (i : Nat) (c : ExcC X.K D) (hz : Zc (.ref D) none oe) (hf : ∃ vs, oe.data = .fields vs) (hm : X.mg "isinstance" = none) (hC : X.mg x2 = some (.ref C)) (hk : PySem.W.kitOne X.K (.ref D) (.ref C) = some b)
    (hg : Gl (X.suite a ((a, oe) :: pn)) "isinstance" := by rfl) (hg2 : Gl (X.suite a ((a, oe) :: pn)) x2 := by rfl) (hd2 : (x2 == ("__debug__" : Str)) = false := by decide)
    (hN : X.N[i]? = some n := by rfl) (hv : Vis X.env.scope n := by first | exact Or.inl rfl | exact Or.inr (Or.inl rfl) | exact Or.inr (Or.inr rfl)) (hd : (n == ("__debug__" : Str)) = false := by decide) (hcd : (n == ("__classdict__" : Str)) = false := by decide)
    (he : starEach [.Name n p1, .Name x2 p2] (X.suite a ((a, oe) :: pn)).env = (false, eval (.Name n p1) (X.suite a ((a, oe) :: pn)).env) :: starEach [.Name x2 p2] (X.suite a ((a, oe) :: pn)).env := by rfl)
    (hpl : (backTo pos (starEach [.Name x2 p2] (X.suite a ((a, oe) :: pn)).env)).any (·.1) = false := by rfl)
    (he2 : starEach [.Name x2 p2] (X.suite a ((a, oe) :: pn)).env = (false, eval (.Name x2 p2) (X.suite a ((a, oe) :: pn)).env) :: starEach [] (X.suite a ((a, oe) :: pn)).env := by rfl) :
    DE (X.suite a ((a, oe) :: pn)) W0 (.Call (.Name "isinstance" p) [.Name n p1, .Name x2 p2] [] pos) (tCB (rIsE X.K D a) (tCons (tVar i) (tCons (tC (.ref C)) tNil))) (qIsE i a b) :=
  ⟨pe_callB (call_isE c hz hf) hg hm (by decide +kernel) (pa_cons (pe_var hN hv hd hcd) (pa_cons (pe_glob hg2 hC rfl hd2) pa_nil he2) he) (by decide) (by decide) he hpl, fun {B F Γ σ H fp} R EX Q r q k e => by
  obtain ⟨q1, q2⟩ := q
  exact ⟨.ref a, r.ex i a q1, .ref C, .ref C, b, rfl, fun u hu => hu, hk, k _ Γ _ F H fp .refl r (.sh (.bl b)) q2⟩⟩
end
end PL

namespace PL
open PySem PySem.Spec PyProof.Rows L2
/-! ### defs that are called with no repr under way (they show values) -/
structure FnG (P : Program) (w : World) (K : PySem.W.Frag) (mg : Str → Option Value) (base : Heap) (CX : CXT) (k : Nat) (f : Addr) (fd : FuncData) (ps : List Str) (sp : Sp) : Prop where
  len : ∀ vs H Q E, sp vs H Q E → vs.length = ps.length
  run : ∀ (A : Around) (outer : List Env) (s : Shared) (H : Hp) (args : Args) (us : List Value) (vs : List V) (Q : VK) (E : XK), Room k A → A.guards = some [] → Env0 P w K mg base A outer s H → BindsTo s fd args (ps.zip us) → Vals vs us → sp vs H Q E →
    codeAny (model P w) A (.call (.ref f) args) (CR CX outer P w H s Q E) s
section
variable {P : Program} {w : World} {K : PySem.W.Frag} {mg : Str → Option Value} {base : Heap}
theorem fng_of {CX : CXT} {k : Nat} {f : Addr} {name qual : Str} {params : Arguments} {body : List Stmt} {scope : Scope} {dV kV doc pm cdv ct oc : Value} {an od : Option Addr}
    {osl : Array (Option Value)} {N ps : List Str} {sp : Sp} (lk : K.lookup f = some ⟨oc, od, .func (PySem.W.fnOf name qual params body scope dV kV doc pm an cdv ct), osl⟩) (hcd : PySem.W.codeIn K cdv qual = true) (S : FnScope N ps scope)
    (len : ∀ vs H Q E, sp vs H Q E → vs.length = ps.length)
    (hbody : ∀ (A : Around) (outer : List Env) (s : Shared) (H : Hp) (vs : List V) (Q : VK) (E : XK), Room k (A.deeper (envOfC qual scope s.heap.objs.size f cdv)) → (A.deeper (envOfC qual scope s.heap.objs.size f cdv)).guards = some [] → sp vs H Q E →
      ∃ t, PSs (cxOf CX P w K mg base N qual scope f cdv A outer s H E) body t ∧ t { nx := fun _ H' => Q .non H', rt := Q } (start N vs) H) :
    FnG P w K mg base CX (k + 1) f (PySem.W.fnOf name qual params body scope dV kV doc pm an cdv ct) ps sp := by
  refine ⟨len, fun A outer s H args us vs Q E hr hgu e0 hb r hsp => ?_⟩
  have hl := len _ _ _ _ hsp
  have KX : K.In s.heap := e0.mod.kin.keeps fun b o e => (e0.bs b o e).1
  have lim : s.heap.NoLimit := e0.mod.nolimit.keeps fun b o e => (e0.bs b o e).1
  have hkind : ∀ y ∈ ps.zip us, scope.names.lookup y.1 = some .local ∨ (scope.names.lookup y.1 = some .cell ∧ ((cellsFrom (s.heap.objs.size + 1) scope.names []).lookup y.1).isSome = true) := fun ⟨n, v⟩ hy => by
    rcases S.par n (List.of_mem_zip hy).1 with q | q
    · exact .inl q
    · exact .inr ⟨q, PySem.W.cellsFrom_some _ _ _ (.inl q)⟩
  refine codeAny_call_function hr.depth (KX _ _ lk) rfl S.co S.gen rfl (PySem.W.codeRec_of KX hcd) (hb _ _ _ _ ?_)
  refine wpAny_newFunctionEnv_cells S.kind hkind fun env he s1 x => ?_
  subst he
  refine ⟨lim.keeps x.toInCall.keep, codeAny_func ?_⟩
  obtain ⟨t, ht, hq⟩ := hbody A outer s H vs Q E (hr.deeper _) hgu hsp
  have I : Inv (cxOf CX P w K mg base N qual scope f cdv A outer s H E) [] (start N vs) H s1 := inv_start S hr.hd e0 hl r x
  refine wpAny_mono (ht.run [] s1 (start N vs) H _ I hq) (fun fl s' hs => ?_) fun e s' hs => hs
  have fin : ∀ {σ' : L2.St} {H' : Hp} {v : V} {u : Value}, Inv (cxOf CX P w K mg base N qual scope f cdv A outer s H E) [] σ' H' s' → RelV v u → Q v H' → CE outer P w H s Q u s' :=
    fun {σ' H' v u} J rv q => ⟨v, H', J.os, J.bare, J.base, J.hok, rv, q⟩
  cases fl with
  | ret u =>
    obtain ⟨v, σ', H', J, rv, q⟩ := hs
    exact fin J rv q
  | next =>
    obtain ⟨σ', H', J, q⟩ := hs
    exact fin (v := V.non) (u := Value.none) J rfl q
  | brk =>
    obtain ⟨_, _, _, q⟩ := hs
    exact False.elim q
  | cont =>
    obtain ⟨_, _, _, q⟩ := hs
    exact False.elim q
/-- a def that may be called by its name where no repr is under way -/
structure CalG (P : Program) (w : World) (K : PySem.W.Frag) (mg : Str → Option Value) (base : Heap) (k : Nat) (x : Str) (sp : Sp) : Prop where
  ex : ∃ (f : Addr) (fd : FuncData) (ps : List Str), FnG P w K mg base CX0 k f fd ps sp ∧ mg x = some (.ref f) ∧ PySem.W.keepIn K (.ref f) = true ∧ Binds K fd ps []
theorem FnG.mono {CX : CXT} {j k : Nat} {f : Addr} {fd : FuncData} {ps : List Str} {sp : Sp} (F : FnG P w K mg base CX j f fd ps sp) (h : j ≤ k) : FnG P w K mg base CX k f fd ps sp :=
  ⟨F.len, fun A outer s H args us vs Q E hr => F.run A outer s H args us vs Q E (hr.mono h)⟩
end
section
variable {X : Cx} {W : WX} {pos p : Pos} {e : Expr} {es : List Expr} {ta : TA} {pa : QA} {n : Nat} {q : PD} {x : Str} {j k : Nat}
theorem run_g {pins : List (Addr × Obj)} {σ : L2.St} {H : Hp} {s : Shared} {Q : VK} {us : List Value} {vs : List V} {f : Addr} {fd : FuncData} {ps : List Str} {sp : Sp} (F : FnG X.prog X.w X.K X.mg X.base CX0 k f fd ps sp) (hr : Room k X.A) (hgu : X.A.guards = some []) (hb : Binds X.K fd ps [])
    (I : L2.Inv X pins σ H s) (r : Vals vs us) (h : sp vs H Q E0) : wpAny (model X.prog X.w) X.A (call (.ref f) us) (EP X pins σ Q) X.xe s := by
  have hl : (us ++ []).length = ps.length := by rw [List.append_nil, ← r.length]; exact F.len _ _ _ _ h
  have b := hb s us I.kIn hl
  rw [List.append_nil] at b
  refine wpAny_call (codeAny_mono (F.run X.A X.stack s H ⟨us, []⟩ us vs Q E0 hr hgu I.env0 b r h) fun r s' hq => ?_)
  cases r with
  | error e => exact (pass0 pins σ H s e s' I hq)
  | ok fl =>
    cases fl with
    | ret u => exact I.after hq
    | next => exact False.elim hq
    | brk => exact False.elim hq
    | cont => exact False.elim hq
theorem d_callG (c : CalG X.prog X.w X.K X.mg X.base k x (spD n q)) (hr : Room j X.A) (hgu : X.A.guards = some []) (ha : DA X W (e :: es) ta pa) (hk : k ≤ j := by decide) (hg : Gl X x := by rfl) (hdb : (x == ("__debug__" : Str)) = false := by decide)
    (he : starEach (e :: es) X.env = (false, eval e X.env) :: starEach es X.env := by rfl) (hpl : (backTo pos (starEach es X.env)).any (·.1) = false := by rfl) :
    DE X W (.Call (.Name x p) (e :: es) [] pos) (tCall (spD n q) [] E0 ta) (qCall n q pa) := ⟨by
  obtain ⟨f, fd, ps, F, hm, kp, b⟩ := c.ex
  refine ⟨fun pins s σ H Q I h => ?_⟩
  refine wpAny_Call_Name_kw (ld_glob I hg hm ?_ hdb)
  refine PySem.W.callWith_K (h₀ := X.base) I.ok.mod.kin kp (thn (ha.pa.run pos pins s σ H _ I h) fun us s1 ⟨vs, H1, I1, r, q⟩ => ⟨I1.kIn, ?_⟩) he hpl
  have q' : spD n _ (vs ++ []) H1 Q E0 := q
  rw [List.append_nil] at q'
  exact run_g (F.mono hk) hr hgu b I1 r q', se_call ha.sa⟩
end

section
variable {P : Program} {w : World} {K : PySem.W.Frag} {mg : Str → Option Value} {base : Heap}
theorem fng_mk {x : Str} {st : Stmt} {f : Addr} {fd : FuncData} {N ps : List Str} {k : Nat} {q : PD} (F : L2.Fun K x x st f fd) (S : L2.FnScope N ps (L2.defScope st))
    (hbody : ∀ (cdv : Value) (A : Around) (outer : List Env) (s : Shared) (H : Hp) (E : XK), Room k (A.deeper (envOfC x (L2.defScope st) s.heap.objs.size f cdv)) → (A.deeper (envOfC x (L2.defScope st) s.heap.objs.size f cdv)).guards = some [] →
      ∃ t p', DSs (cxOf CX0 P w K mg base N x (L2.defScope st) f cdv A outer s H E).nox W0 (L2.defBody st) t p' ∧ ∀ ds R, ds.length = ps.length → q ds R → p' (endsOf R) (startEv N.length ds)) :
    FnG P w K mg base CX0 (k + 1) f fd ps (spD ps.length q) := by
  have hN : ps.length ≤ N.length := by
    have := congrArg List.length S.pre
    rw [List.length_take] at this
    omega
  obtain ⟨oc, od, kV, doc, pm, an, cdv, ct, osl, rfl, lk, hcd⟩ := F.ex
  refine fng_of lk hcd S (fun vs H Q E h => ?_) fun A outer s H vs Q E hr hgu h => ?_
  · obtain ⟨F, ds, R, _, b, hl, _⟩ := h
    rw [b.length, hl]
  · obtain ⟨t, p', hd, hq⟩ := hbody cdv A outer s H E hr hgu
    obtain ⟨F0, ds, R, f0, b, hl, h1, h2⟩ := h
    refine ⟨t, hd.ps.nox, hd.ss (endsOf R) _ (rel_start f0 b (by omega)) (hq ds R hl h1) ⟨fun Γ' F' σ' H' fp' x r z => ?_, fun w Γ' v F' σ' H' fp' x r rw z => ?_, fun _ _ _ _ _ _ _ z => z.elim, fun _ _ _ _ _ _ _ z => z.elim, fun _ _ _ _ _ _ _ _ z => z.elim⟩⟩
    · exact h2 _ _ F' H' x r.bx r.fx (.sh .non) z
    · cases rw with
      | sh h => exact h2 _ _ F' H' x r.bx r.fx (.sh h) z
      | ow h hf => exact h2 _ _ F' H' x r.bx r.fx (.ow h fun a ha => ⟨(hf a ha).1, (hf a ha).2.1⟩) z
      | @«at» i h =>
        unfold endsOf retW at z
        simp only at z
        split at z
        · rename_i d e
          obtain ⟨u, g1, g2⟩ := r.sh i d e
          rw [h] at g1
          cases g1
          exact h2 _ _ F' H' x r.bx r.fx (.sh g2) z
        · rename_i o e
          obtain ⟨u, g1, g2⟩ := r.ow i o e
          rw [h] at g1
          cases g1
          exact h2 _ _ F' H' x r.bx r.fx (.ow g2 fun a ha => ⟨(r.nb i a ha).1, (r.nb i a ha).2.1⟩) z
        · exact z.elim
theorem calg_mk {x : Str} {st : Stmt} {f : Addr} {fd : FuncData} {N ps : List Str} {k : Nat} {q : PD} (F : L2.Fun K x x st f fd) (hm : mg x = some (.ref f)) (b : Binds K fd ps []) (S : L2.FnScope N ps (L2.defScope st))
    (hbody : ∀ (cdv : Value) (A : Around) (outer : List Env) (s : Shared) (H : Hp) (E : XK), Room k (A.deeper (envOfC x (L2.defScope st) s.heap.objs.size f cdv)) → (A.deeper (envOfC x (L2.defScope st) s.heap.objs.size f cdv)).guards = some [] →
      ∃ t p', DSs (cxOf CX0 P w K mg base N x (L2.defScope st) f cdv A outer s H E).nox W0 (L2.defBody st) t p' ∧ ∀ ds R, ds.length = ps.length → q ds R → p' (endsOf R) (startEv N.length ds)) :
    CalG P w K mg base (k + 1) x (spD ps.length q) := ⟨f, fd, ps, fng_mk F S hbody, hm, F.kp, b⟩
end
/-! ### repr of nested data -/
/-- what the pure side is asked: the shown text fits -/
def shOk (d : D) : Prop := d.showable = true ∧ flat 60 d = true ∧ d.shown.length + 64 ≤ sizeLine ∧ PyData.strOk d.shown = true
def opRepr : OP1 := fun d k => shOk d ∧ k (.sh (.str d.shown))
def rReprD (K : PySem.W.Frag) : List V → Hp → VK → Prop := fun xs H Q => ∃ (a : Addr) (d : D), xs = [.ref a] ∧ Dp K H (.ref a) d ∧ d.showable = true ∧ d.hasDict = false ∧ d.depth ≤ 60 ∧ d.shown.length + 64 ≤ sizeLine ∧ Q (.str d.shown) H
section
variable {X : Cx} {W : WX} {pos p : Pos} {a : Expr} {ta : TE} {pa : QE} {j : Nat}
theorem cr_repr (hr : Room j X.A) (hgu : X.A.guards = some []) : CallR X (.builtin "repr") (rReprD X.K) := by
  intro pins s σ H xs us Q I r h
  obtain ⟨a, d, rfl, dp, h1, h2, h3, h4, q⟩ := h
  obtain ⟨u, rfl, ru⟩ := vals1 r
  obtain ⟨as, rd⟩ := Dp.reads I d _ u dp ru
  cases ru
  have hu := hr.un
  exact repr_of_reads' rd h1 (fun z => by rw [h2] at z; cases z) hgu (by omega) (fun _ _ e => e) (fun h' u tk hk => ⟨.str _, H, I.kept (t' := tk) hk, ⟨_, rfl⟩, q⟩) (by omega)
end
end PL

namespace PL
open PySem PySem.Spec PyProof.Rows L2
/-! ### the law's end for a def that shows values -/
/-- the tracked heap of the head: the script alone, if it is no object of the module -/
noncomputable def headH (K : PySem.W.Frag) (a : Addr) (vs : List Value) (ns : List Int) : Hp := fun b =>
  if b = a ∧ K.lookup a = none then some (.frz { cls := .type "list", data := .seq vs.toArray } (.lst (ns.map V.int))) else none
section
variable {P : Program} {w : World} {K : PySem.W.Frag} {mg mb : Str → Option Value} {k : Nat} {fa a : Addr} {fd : FuncData} {x : Str} {sp : Sp} {s₁ : Shared} {vs : List Value} {ns : List Int}
theorem headH_some {b : Addr} {u : HO} (h : headH K a vs ns b = some u) : b = a ∧ K.lookup a = none ∧ u = .frz { cls := .type "list", data := .seq vs.toArray } (.lst (ns.map V.int)) := by
  unfold headH at h
  split at h
  · rename_i q
    cases h
    exact ⟨q.1, q.2, rfl⟩
  · cases h
theorem headH_only : Only (headH K a vs ns) := fun b => by
  cases q : headH K a vs ns b with
  | none => exact .inl rfl
  | some u => exact .inr ⟨_, _, congrArg some (headH_some q).2.2⟩
theorem law_runG (KX : K.In s₁.heap) (hns : s₁.heap.Ns mainGlobals mg) (hb : s₁.heap.Ns builtinsNs mb) (hbb : ∀ x : Str, x ≠ "__name__" → mb x = bootBuiltins x) (hlim : s₁.heap.NoLimit) (hg : s₁.gens = #[])
    (ha : s₁.heap.get? a = some { cls := .type "list", data := .seq vs.toArray }) (hi : IntsAre vs ns) (hl : ns.length ≤ sizeLine) (hr : Room k callerA)
    (F : ∀ base : Heap, K.In base → base.Ns mainGlobals mg → FnG P w K mg base CX0 k fa fd [x] sp) (hbind : ∀ (s : Shared) (u : Value), BindsTo s fd ⟨[u], []⟩ [(x, u)])
    (hsp : ∀ H : Hp, Only H → SqL K H a (ns.map V.int) → sp [.ref a] H (fun v _ => v = .bl true) E0) :
    codeAny (model P w) callerA (.call (.ref fa) ⟨[.ref a], []⟩) (fun r s' => r = .ok (.ret (.bool true)) ∧ OldK s₁.heap s'.heap ∧ s'.os = s₁.os ∧ AllBare s'.gens) s₁ := by
  have rv := vals_ints hi
  have eL := hi.length
  have stay : ∀ {b : Addr} {o : Obj}, s₁.heap.get? b = some o → (b = a → K.lookup a ≠ none) → (hidT s₁.heap (headH K a vs ns)).get? b = some o := fun {b o} e n => hidT_get e (by
    cases q : headH K a vs ns b with
    | none => rfl
    | some u => exact absurd (headH_some q).2.1 (n (headH_some q).1))
  have nsS : ∀ {b : Addr} {m : Str → Option Value}, s₁.heap.Ns b m → (hidT s₁.heap (headH K a vs ns)).Ns b m := fun {b m} ⟨o, es, ep, e, d, r⟩ => ⟨o, es, ep, stay e (fun z => by
    rw [z, ha] at e
    cases e
    cases (show Data.seq vs.toArray _ = Data.dict es ep from d)), d, r⟩
  have kb : K.In (hidT s₁.heap (headH K a vs ns)) := fun b o e => stay (KX b o e) fun z n => by
    rw [z, n] at e
    cases e
  have hok : HOk P w (headH K a vs ns) s₁.heap := fun b u z => by
    obtain ⟨rfl, _, rfl⟩ := headH_some z
    exact ⟨ha, by rw [List.length_map]; exact hl, vs, _, rv, ha⟩
  have sq : SqL K (headH K a vs ns) a (ns.map V.int) := by
    cases q : K.lookup a with
    | none => exact .inl (.inr ⟨_, if_pos ⟨rfl, q⟩⟩)
    | some o =>
      have e := KX a o q
      rw [ha] at e
      cases e
      exact .inr ⟨_, vs.toArray, _, q, rfl, rfl, rfl, by rw [List.size_toArray, eL]; exact hl, by simpa using rv⟩
  have e0 : Env0 P w K mg (hidT s₁.heap (headH K a vs ns)) callerA [] s₁ (headH K a vs ns) :=
    ⟨rfl, ⟨kb, nsS hns, ⟨mb, nsS hb, hbb⟩, hlim.elim fun mc h => ⟨mc, nsS h.1, h.2⟩⟩, fun _ _ e => of_hidT e, Nat.le_of_eq (hidT_size _ _), trivial, fun b hb => (List.not_mem_nil hb).elim, hok, .of_eq hg⟩
  refine codeAny_mono ((F _ kb (nsS hns)).run callerA [] s₁ _ ⟨[.ref a], []⟩ [.ref a] [.ref a] _ _ hr rfl e0 (hbind s₁ (.ref a)) (.cons rfl .nil) (hsp _ headH_only sq)) fun r s' h => ?_
  match r, h with
  | .error e, h => exact False.elim h
  | .ok .next, h => exact False.elim h
  | .ok .brk, h => exact False.elim h
  | .ok .cont, h => exact False.elim h
  | .ok (.ret u), h =>
    obtain ⟨v, H', os, bare, un, hok', r', q⟩ := h
    obtain rfl : v = .bl true := q
    obtain rfl : u = Value.bool true := r'
    refine ⟨rfl, OldK.of_keep fun b o e => ?_, os, bare⟩
    cases q : headH K a vs ns b with
    | none => exact un.keep b o e q (fun z => (List.not_mem_nil z).elim) (by simp)
    | some u =>
      obtain ⟨rfl, _, rfl⟩ := headH_some q
      obtain ⟨e2, _⟩ := hok' _ _ (un.frzs _ _ _ q)
      rw [ha] at e
      cases e
      exact e2
end
theorem walk_ofG {l : PySem.W.OpenLaw} {n k : Nat} {q : Program} {loose : List Str} {XP : (Str → Option Value) → Heap → Prop} {YP : World → Heap → Prop} {d : DefRec} {K : Params → PySem.W.Frag} {sp : World → Sp} {x : Str}
    (hn : l.most = some n) (hn2 : n ≤ sizeLine) (hdf : d.params.defaults = []) (hr : Room k callerA)
    (hY : ∀ (w : World) (h : Heap), YP w h → (K w.params).In h)
    (F : ∀ (w : World) (mg : Str → Option Value) (fa : Addr) (h : Heap), (K w.params).In h → h.Ns mainGlobals mg → mg d.name = some (.ref fa) →
      ∃ fd : FuncData, (∀ (s : Shared) (u : Value), BindsTo s fd ⟨[u], []⟩ [(x, u)]) ∧
        ∀ base : Heap, (K w.params).In base → base.Ns mainGlobals mg → FnG l.prog w (K w.params) mg base CX0 k fa fd [x] (sp w))
    (hsp : ∀ (w : World) (H : Hp) (a : Addr) (ns : List Int), ns.length ≤ n → Only H → SqL (K w.params) H a (ns.map V.int) → sp w [.ref a] H (fun v _ => v = .bl true) E0) :
    PySem.W.WalkO q loose XP YP l.row.toRowW d [] (fun f vs => PySem.call f vs) :=
  Att.attach_call hn hdf fun w s₀ s₁ mg mb fa o pm cd doc a vs ns G Y ho hd hcd hmg hobj hints hlen hg =>
    have KX := hY w _ Y
    (F w mg fa _ KX G.T.g hmg).elim fun fd h => law_runG KX G.T.g G.T.b G.T.builtins G.T.nolimit hg hobj hints (Nat.le_trans hlen hn2) hr h.2 h.1 fun H hO hS => hsp w H a ns hlen hO hS
end PL

namespace PL
open PySem PySem.Spec PyProof.Rows L2
theorem strOk_lit (s : String) : PyData.strOk (s : Str) = true := strOk_iff.mpr fun c hc => by
  have hc' : c ∈ (Str.ofString s).cps.toList := hc
  rw [Str.ofString_eq_toList] at hc'
  simp only [List.mem_map] at hc'
  obtain ⟨x, _, rfl⟩ := hc'
  have := x.valid
  rcases this with h | ⟨_, h⟩
  · exact Nat.lt_trans h (by decide)
  · exact h
theorem reprChar_ok {q c : Nat} (hc : c < 0x110000) : ∀ x ∈ PySem.Builtin.Str.reprChar q c, x < 0x110000 := by
  intro x hx
  have dig : ∀ (w : Nat), ∀ y ∈ (let d := (Nat.toDigits 16 c).map Char.toNat; List.replicate (w - d.length) 48 ++ d), y < 0x110000 := fun w y hy => by
    rcases List.mem_append.mp hy with h | h
    · rw [(List.mem_replicate.mp h).2]; decide
    · obtain ⟨z, _, rfl⟩ := List.mem_map.mp h
      rcases z.valid with h | ⟨_, h⟩
      · exact Nat.lt_trans h (by decide)
      · exact h
  unfold PySem.Builtin.Str.reprChar at hx
  simp only at hx
  split at hx
  · simp at hx; omega
  split at hx
  · simp at hx; omega
  split at hx
  · simp at hx; omega
  split at hx
  · simp at hx; omega
  split at hx
  · simp at hx; omega
  split at hx
  · rcases List.mem_append.mp hx with h | h
    · simp at h; omega
    · exact dig _ _ h
  split at hx
  · rcases List.mem_append.mp hx with h | h
    · simp at h; omega
    · exact dig _ _ h
  · rcases List.mem_append.mp hx with h | h
    · simp at h; omega
    · exact dig _ _ h
theorem foldl_ok {q : Nat} : ∀ (l : List Nat) (acc : Array Nat), (∀ c ∈ l, c < 0x110000) → (∀ c ∈ acc.toList, c < 0x110000) → ∀ c ∈ (l.foldl (fun out c => out ++ (PySem.Builtin.Str.reprChar q c).toArray) acc).toList, c < 0x110000
  | [], acc, _, h => h
  | x :: r, acc, h1, h2 => foldl_ok r _ (fun c hc => h1 c (List.mem_cons_of_mem _ hc)) fun c hc => by
    rw [Array.toList_append] at hc
    rcases List.mem_append.mp hc with h | h
    · exact h2 c h
    · exact reprChar_ok (h1 x (List.mem_cons_self ..)) c h
theorem reprQuote_ok (x : Str) : reprQuote x < 0x110000 := by
  unfold reprQuote
  split <;> decide
theorem strOk_reprText {x : Str} (h : PyData.strOk x = true) : PyData.strOk (reprText x) = true := strOk_iff.mpr fun c hc => by
  unfold reprText at hc
  rw [Array.toList_push, ← Array.foldl_toList] at hc
  rcases List.mem_append.mp hc with h1 | h1
  · exact foldl_ok _ _ (strOk_iff.mp h) (fun c hc => by
      have : c = reprQuote x := by simpa using hc
      rw [this]; exact reprQuote_ok x) c h1
  · have : c = reprQuote x := by simpa using h1
    rw [this]; exact reprQuote_ok x
theorem strOk_textFrom : ∀ (ts : List Str) (k : Nat) (acc : Str), PyData.strOk acc = true → (∀ t ∈ ts, PyData.strOk t = true) → PyData.strOk (textFrom k acc ts) = true
  | [], k, acc, h, _ => h
  | t :: ts, k, acc, h, h2 => by
    unfold textFrom
    exact strOk_textFrom ts _ _ (strOk_app (strOk_app h (strOk_lit _)) (h2 t (List.mem_cons_self ..))) fun u hu => h2 u (List.mem_cons_of_mem _ hu)
mutual
theorem shown_ok : ∀ d : D, d.canLay0 = true → PyData.strOk d.shown = true
  | .none, _ => by simp only [PyData.shown]; exact strOk_lit _
  | .bool b, _ => by simp only [PyData.shown]; cases b <;> exact strOk_lit _
  | .int i, _ => by simp only [PyData.shown]; exact strOk_lit _
  | .str x, h => by simp only [PyData.shown]; exact strOk_reprText (by simpa [PyData.canLay0] using h)
  | .list xs, h => by
    have := shownAll_ok xs (by simpa [PyData.canLay0] using h)
    simp only [PyData.shown]
    exact strOk_app (strOk_textFrom _ _ _ (strOk_lit _) this) (strOk_lit _)
  | .tuple xs, h => by
    have := shownAll_ok xs (by simpa [PyData.canLay0] using h)
    simp only [PyData.shown]
    exact strOk_app (strOk_app (strOk_lit _) (strOk_join (strOk_lit _) this)) (strOk_lit _)
  | .dict _, h => by simp [PyData.canLay0] at h
theorem shownAll_ok : ∀ ds : List D, PyData.canLayAll0 ds = true → ∀ t ∈ PyData.shownAll ds, PyData.strOk t = true
  | [], _, t, ht => by simp [PyData.shownAll] at ht
  | d :: ds, h, t, ht => by
    have h' : d.canLay0 = true ∧ PyData.canLayAll0 ds = true := by simpa [PyData.canLayAll0] using h
    simp only [PyData.shownAll, List.mem_cons] at ht
    rcases ht with rfl | ht
    · exact shown_ok d h'.1
    · exact shownAll_ok ds h'.2 t ht
end
/-- repr of a list or a tuple of nested data -/
def opShow : OP1 := fun d k => (match d with | .list _ => True | .tuple _ => True | _ => False) ∧ d.showable = true ∧ flat 60 d = true ∧ (d.canLay0 = true → d.shown.length + 64 ≤ sizeLine) ∧ k (.sh (.str d.shown))
theorem us_show {K : PySem.W.Frag} : UnS (fun x H Q => rReprD K [x] H Q) opShow := fun {B F Γ σ H fp x d} k Q r b z c => by
  obtain ⟨z0, z1, z2, z3, z4⟩ := z
  have q := b.rp r.fx
  have fl := z2
  simp only [flat, Bool.and_eq_true, Bool.not_eq_true', decide_eq_true_eq] at fl
  have ok : PyData.strOk d.shown = true := shown_ok d (q.lay fl.1)
  cases b with
  | @lst a xs ds e t => exact ⟨a, _, rfl, q.dpf z2, z1, fl.1, fl.2, z3 (q.lay fl.1), op_sc r (.str _ ok) c z4⟩
  | @tup a xs ds e0 e t => exact ⟨a, _, rfl, q.dpf z2, z1, fl.1, fl.2, z3 (q.lay fl.1), op_sc r (.str _ ok) c z4⟩
  | _ => exact z0.elim
section
variable {X : Cx} {W : WX} {pos p : Pos} {a : Expr} {ta : TE} {pa : QE} {j : Nat}
theorem d_repr (hr : Room j X.A) (hgu : X.A.guards = some []) (hm : X.mg "repr" = none) (ha : DE X W a ta pa) (hg : Gl X "repr" := by rfl) (he : starEach [a] X.env = (false, eval a X.env) :: starEach [] X.env := by rfl) (hpl : (backTo pos (starEach [] X.env)).any (·.1) = false := by rfl) :
    DE X W (.Call (.Name "repr" p) [a] [] pos) (tCB (rReprD X.K) (tCons ta tNil)) (qUn opShow pa) := d_bi1 (cr_repr hr hgu) us_show hm (by decide +kernel) ha hg (by decide) (by decide) he hpl
end
end PL

namespace PL
open PySem PySem.Spec PyProof.Rows L2
section
variable {X : Cx} {W : WX} {pos p : Pos} {a b e : Expr} {ta tb te : TE} {pa pb pe : QE}
/-! ### built-in functions of two arguments -/
theorem d_bi2 {id : String} {x : Str} {r : List V → Hp → VK → Prop} {o : OP2} (hc : CallR X (.builtin id) r) (hs : OpS (fun x y H Q => r [x, y] H Q) o) (hm : X.mg x = none) (hv : bootBuiltins x = some (.builtin id)) (ha : DE X W a ta pa) (hb : DE X W b tb pb) (hg : Gl X x := by rfl)
    (hn : x ≠ "__name__" := by decide) (hdb : (x == ("__debug__" : Str)) = false := by decide) (he : starEach [a, b] X.env = (false, eval a X.env) :: starEach [b] X.env := by rfl) (he2 : starEach [b] X.env = (false, eval b X.env) :: starEach [] X.env := by rfl) (hpl : (backTo pos (starEach [b] X.env)).any (·.1) = false := by rfl) :
    DE X W (.Call (.Name x p) [a, b] [] pos) (tCB r (tCons ta (tCons tb tNil))) (qOp o pa pb) := ⟨pe_callB hc hg hm hv (pa_cons ha.pe (pa_cons hb.pe pa_nil he2) he) hn hdb he hpl, fun {B F Γ σ H fp} R EX Q rr h k e =>
  (se_op hs ha.se hb.se : SE W (tOp (fun x y H Q => r [x, y] H Q) ta tb) (qOp o pa pb)) R EX Q rr h k e⟩
def opMin2 : OP2 := fun d1 d2 k => match d1, d2 with
  | .int i, .int j => k (.sh (.int (if j < i then j else i)))
  | _, _ => False
def opMax2 : OP2 := fun d1 d2 k => match d1, d2 with
  | .int i, .int j => k (.sh (.int (if j > i then j else i)))
  | _, _ => False
theorem os_min2 : OpS (fun x y H Q => (fun xs H (Q : VK) => ∃ i j, xs = [V.int i, V.int j] ∧ Q (.int (if j < i then j else i)) H) [x, y] H Q) opMin2 := fun {B F Γ σ H fp x y d1 d2} k Q r b1 b2 z c => by
  cases b1 with
  | int i =>
    cases b2 with
    | int j => exact ⟨i, j, rfl, op_sc r (.int _) c z⟩
    | _ => exact z.elim
  | _ => cases b2 <;> exact z.elim
theorem os_max2 : OpS (fun x y H Q => (fun xs H (Q : VK) => ∃ i j, xs = [V.int i, V.int j] ∧ Q (.int (if j > i then j else i)) H) [x, y] H Q) opMax2 := fun {B F Γ σ H fp x y d1 d2} k Q r b1 b2 z c => by
  cases b1 with
  | int i =>
    cases b2 with
    | int j => exact ⟨i, j, rfl, op_sc r (.int _) c z⟩
    | _ => exact z.elim
  | _ => cases b2 <;> exact z.elim
theorem d_min2 (hc : X.calm = true) (hm : X.mg "min" = none) (ha : DE X W a ta pa) (hb : DE X W b tb pb) (hg : Gl X "min" := by rfl)
    (he : starEach [a, b] X.env = (false, eval a X.env) :: starEach [b] X.env := by rfl) (he2 : starEach [b] X.env = (false, eval b X.env) :: starEach [] X.env := by rfl) (hpl : (backTo pos (starEach [b] X.env)).any (·.1) = false := by rfl) :
    DE X W (.Call (.Name "min" p) [a, b] [] pos) (tCB (fun xs H Q => ∃ i j, xs = [V.int i, V.int j] ∧ Q (.int (if j < i then j else i)) H) (tCons ta (tCons tb tNil))) (qOp opMin2 pa pb) :=
  d_bi2 (X := X) (W := W) (p := p) (pos := pos) (call_min2 hc) os_min2 hm (by decide +kernel) ha hb hg (by decide) (by decide) he he2 hpl
theorem d_max2 (hc : X.calm = true) (hm : X.mg "max" = none) (ha : DE X W a ta pa) (hb : DE X W b tb pb) (hg : Gl X "max" := by rfl)
    (he : starEach [a, b] X.env = (false, eval a X.env) :: starEach [b] X.env := by rfl) (he2 : starEach [b] X.env = (false, eval b X.env) :: starEach [] X.env := by rfl) (hpl : (backTo pos (starEach [b] X.env)).any (·.1) = false := by rfl) :
    DE X W (.Call (.Name "max" p) [a, b] [] pos) (tCB (fun xs H Q => ∃ i j, xs = [V.int i, V.int j] ∧ Q (.int (if j > i then j else i)) H) (tCons ta (tCons tb tNil))) (qOp opMax2 pa pb) :=
  d_bi2 (X := X) (W := W) (p := p) (pos := pos) (call_max2 hc) os_max2 hm (by decide +kernel) ha hb hg (by decide) (by decide) he he2 hpl
end
/-! ### what the walk knows of a module's classes of errors -/
def ec (mg : Str → Option Value) (x : Str) : Addr := match mg x with
  | some (.ref a) => a
  | _ => 0
structure ExcRaw (K : PySem.W.Frag) (C : Addr) : Prop where
  exI : PySem.W.excIn K C [.type "ValueError", .type "Exception", .type "BaseException", .type "object"] "ValueError.__new__" = true
  kp : PySem.W.keepIn K (.ref C) = true
  sub : PySem.W.subIn K (.ref C) (.type "BaseException") = some true
  ty : PySem.W.typeIn K (.ref C) = some (.type "type")
  exm : PySem.W.exmOne K (.ref C) (.ref C) = some true
  ec : ExcC K C
theorem ExcRaw.ok {K : PySem.W.Frag} {mg : Str → Option Value} {x : Str} {C : Addr} (r : ExcRaw K C) (h : mg x = some (.ref C)) : ExcOk K mg x C := ⟨h, r.exI, r.kp, r.sub, r.ty⟩
theorem ec_of {mg : Str → Option Value} {x : Str} {C : Addr} (h : mg x = some (.ref C)) : ec mg x = C := by
  unfold ec
  rw [h]
end PL

namespace PL
open PySem PySem.Spec PyProof.Rows L2
/-! ### more methods of texts -/
def upS (x : Str) : Str := ⟨x.cps.map up1⟩
def loS (x : Str) : Str := ⟨x.cps.map lo1⟩
def asStr (cs : List Nat) : Str := ⟨cs.toArray⟩
def wordsL (cs : List Nat) : List (List Nat) := TL.wfin (cs.foldl TL.wstep ([], []))
def strsD (ws : List (List Nat)) : List D := ws.map fun cs => .str (asStr cs)
theorem strOk_map {x : Str} {f : Nat → Nat} (h : ∀ c ∈ x.cps.toList, f c < 0x110000) : PyData.strOk ⟨x.cps.map f⟩ = true := strOk_iff.mpr fun c hc => by
  rw [Array.toList_map] at hc
  obtain ⟨d, hd, rfl⟩ := List.mem_map.mp hc
  exact h d hd
theorem up1_lt {c : Nat} (h : c < 128) : up1 c < 128 := by
  unfold up1
  split <;> omega
theorem lo1_lt {c : Nat} (h : c < 128) : lo1 c < 128 := by
  unfold lo1
  split <;> omega
def opUpper : OP1 := fun d k => match d with
  | .str x => (∀ c ∈ x.cps.toList, c < 128) ∧ x.length ≤ 5000000 ∧ k (.sh (.str (upS x)))
  | _ => False
def opLower : OP1 := fun d k => match d with
  | .str x => (∀ c ∈ x.cps.toList, c < 128) ∧ x.length ≤ 5000000 ∧ k (.sh (.str (loS x)))
  | _ => False
abbrev rUpper : V → List V → Hp → VK → Prop := fun x xs H Q => ∃ a, x = .str a ∧ xs = [] ∧ a.length ≤ 5592405 ∧ Q (.str (Txt.upper a)) H
abbrev rLower : V → List V → Hp → VK → Prop := fun x xs H Q => ∃ a, x = .str a ∧ xs = [] ∧ a.length ≤ 5592405 ∧ Q (.str (Txt.lower a)) H
theorem us_upper : UnS (fun x H Q => rUpper x [] H Q) opUpper := fun {B F Γ σ H fp x d} k Q r b z c => by
  cases b with
  | str a ha =>
    refine ⟨a, rfl, rfl, by have := z.2.1; omega, ?_⟩
    rw [upper_ascii z.1]
    exact op_sc r (.str _ (strOk_map fun c hc => Nat.lt_trans (up1_lt (z.1 c hc)) (by decide))) c z.2.2
  | _ => exact z.elim
theorem us_lower : UnS (fun x H Q => rLower x [] H Q) opLower := fun {B F Γ σ H fp x d} k Q r b z c => by
  cases b with
  | str a ha =>
    refine ⟨a, rfl, rfl, by have := z.2.1; omega, ?_⟩
    rw [lower_ascii z.1]
    exact op_sc r (.str _ (strOk_map fun c hc => Nat.lt_trans (lo1_lt (z.1 c hc)) (by decide))) c z.2.2
  | _ => exact z.elim
theorem rpa_strs {F : Hp} : ∀ ys : List Str, (∀ y ∈ ys, PyData.strOk y = true) → RpA F (ys.map V.str) (ys.map .str)
  | [], _ => .nil
  | y :: r, h => .cons (.str y (h y (by simp))) (rpa_strs r fun z hz => h z (List.mem_cons_of_mem _ hz))
theorem strs_of_tl {ys : List Str} {ws : List (List Nat)} (h : ys.map (fun x : Str => x.cps.toList) = ws) : ys.map PyData.str = strsD ws := by
  subst h
  unfold strsD
  rw [List.map_map]
  apply List.map_congr_left
  intro y _
  show PyData.str y = PyData.str (asStr y.cps.toList)
  unfold asStr
  simp
/-- a new list of texts -/
theorem new_strs {B F : Hp} {Γ : Ev} {σ : L2.St} {H : Hp} {fp : Nat → List Addr} {k : Wv → Prop} {Q : VK} {ys : List Str} (r : Rel B F Γ σ H fp) (hy : ∀ y ∈ ys, PyData.strOk y = true)
    (c : ∀ w v F' H', Ext B F F' → Rel B F' Γ σ H' fp → RW B F' Γ σ H' fp v w → k w → Q v H') (z : k (.ow (.l (ys.map .str)))) : rNewStrs ys H Q := fun p hp => by
  obtain ⟨r2, v2⟩ := new_lst r (rpa_strs (F := F) ys hy) hp
  exact c _ _ F _ .refl r2 v2 z
theorem wstep_mem : ∀ (cs : List Nat) (st : List (List Nat) × List Nat) (P : Nat → Prop), (∀ w ∈ st.1, ∀ c ∈ w, P c) → (∀ c ∈ st.2, P c) → (∀ c ∈ cs, P c) →
    (∀ w ∈ (cs.foldl TL.wstep st).1, ∀ c ∈ w, P c) ∧ ∀ c ∈ (cs.foldl TL.wstep st).2, P c
  | [], st, P, h1, h2, _ => ⟨h1, h2⟩
  | c :: r, st, P, h1, h2, h3 => by
    refine wstep_mem r (TL.wstep st c) P ?_ ?_ fun d hd => h3 d (List.mem_cons_of_mem _ hd)
    · unfold TL.wstep
      split
      · split
        · exact h1
        · intro w hw
          rcases List.mem_append.mp hw with hw | hw
          · exact h1 w hw
          · have : w = st.2 := by simpa using hw
            subst this
            exact h2
      · exact h1
    · unfold TL.wstep
      split
      · split
        · exact h2
        · intro d hd
          cases hd
      · intro d hd
        rcases List.mem_append.mp hd with hd | hd
        · exact h2 d hd
        · have : d = c := by simpa using hd
          subst this
          exact h3 _ (by simp)
theorem wordsL_mem {cs : List Nat} {P : Nat → Prop} (h : ∀ c ∈ cs, P c) : ∀ w ∈ wordsL cs, ∀ c ∈ w, P c := by
  obtain ⟨h1, h2⟩ := wstep_mem cs ([], []) P (fun w hw => (List.not_mem_nil hw).elim) (fun c hc => (List.not_mem_nil hc).elim) h
  unfold wordsL TL.wfin
  split
  · exact h1
  · intro w hw
    rcases List.mem_append.mp hw with hw | hw
    · exact h1 w hw
    · have : w = (cs.foldl TL.wstep ([], [])).2 := by simpa using hw
      subst this
      exact h2
def opWords : OP1 := fun d k => match d with
  | .str x => x.length + 2 ≤ sizeLine ∧ k (.ow (.l (strsD (wordsL x.cps.toList))))
  | _ => False
abbrev rWords : V → List V → Hp → VK → Prop := fun x xs H Q => ∃ a, x = .str a ∧ xs = [] ∧ a.length + 2 ≤ sizeLine ∧ rNewStrs (Txt.words a) H Q
theorem us_words : UnS (fun x H Q => rWords x [] H Q) opWords := fun {B F Γ σ H fp x d} k Q r b z c => by
  cases b with
  | str a ha =>
    refine ⟨a, rfl, rfl, z.1, new_strs r (fun y hy => ?_) c ?_⟩
    · refine strOk_iff.mpr fun ch hc => ?_
      have e := TL.words_tl a
      have hm : y.cps.toList ∈ wordsL a.cps.toList := by
        show y.cps.toList ∈ TL.wfin (a.cps.toList.foldl TL.wstep ([], []))
        rw [← show (Txt.words a).map (fun x : Str => x.cps.toList) = TL.wfin (a.cps.toList.foldl TL.wstep ([], [])) from e]
        exact List.mem_map.mpr ⟨y, hy, rfl⟩
      exact wordsL_mem (P := fun c => c < 0x110000) (strOk_iff.mp ha) _ hm ch hc
    · rw [strs_of_tl (ws := wordsL a.cps.toList) (TL.words_tl a)]
      exact z.2
  | _ => exact z.elim
/-- the parts between a sign -/
def splL (c : Nat) (cs : List Nat) : List (List Nat) := TL.spl [c] 0 [] cs
theorem spl_mem (S : List Nat) (P : Nat → Prop) : ∀ (cs acc : List Nat) (k : Nat), (∀ c ∈ acc, P c) → (∀ c ∈ cs, P c) → ∀ w ∈ TL.spl S k acc cs, ∀ c ∈ w, P c
  | [], acc, k, h, _, w, hw => by
    have : w = acc := by simpa [TL.spl] using hw
    subst this
    exact h
  | c :: r, acc, 0, h, h2, w, hw => by
    unfold TL.spl at hw
    split at hw
    · rcases List.mem_cons.mp hw with rfl | hw
      · exact h
      · exact spl_mem S P r [] _ (fun d hd => (List.not_mem_nil hd).elim) (fun d hd => h2 d (List.mem_cons_of_mem _ hd)) w hw
    · exact spl_mem S P r (acc ++ [c]) 0 (fun d hd => by
        rcases List.mem_append.mp hd with hd | hd
        · exact h d hd
        · have : d = c := by simpa using hd
          subst this
          exact h2 _ (by simp)) (fun d hd => h2 d (List.mem_cons_of_mem _ hd)) w hw
  | c :: r, acc, k + 1, h, h2, w, hw => by
    unfold TL.spl at hw
    exact spl_mem S P r acc k h (fun d hd => h2 d (List.mem_cons_of_mem _ hd)) w hw
def opSplit : OP2 := fun d1 d2 k => match d1, d2 with
  | .str x, .str y => (match y.cps.toList with
    | [c] => c < 256 ∧ x.length + 2 ≤ sizeLine ∧ k (.ow (.l (strsD (splL c x.cps.toList))))
    | _ => False)
  | _, _ => False
abbrev rSplit : V → List V → Hp → VK → Prop := fun x xs H Q => ∃ a b, x = .str a ∧ xs = [.str b] ∧ (b.length == 0) = false ∧ a.length + 2 ≤ sizeLine ∧ rNewStrs (Txt.split a b) H Q
theorem one_of {y : Str} {c : Nat} (h : y.cps.toList = [c]) : y = ⟨#[c]⟩ := by
  cases y
  congr 1
  exact Array.toList_inj.mp h
theorem kind_one {c : Nat} (h : c < 256) : Builtin.Str.strKind (⟨#[c]⟩ : Str) = 1 := by
  unfold Builtin.Str.strKind
  simp
  omega
theorem os_split : OpS (fun x y H Q => rSplit x [y] H Q) opSplit := fun {B F Γ σ H fp x y d1 d2} k Q r b1 b2 z c => by
  cases b1 with
  | str a ha =>
    cases b2 with
    | str b hb =>
      unfold opSplit at z
      simp only at z
      split at z
      · rename_i ch hc
        have e := one_of hc
        subst e
        obtain ⟨z1, z2, z3⟩ := z
        have hs : (Txt.split a ⟨#[ch]⟩).map (fun x : Str => x.cps.toList) = splL ch a.cps.toList := TL.split_spl a ⟨#[ch]⟩ (fun e => nomatch e) (by
          rw [kind_one z1]
          unfold Builtin.Str.strKind
          repeat (first | split | omega))
        refine ⟨a, _, rfl, rfl, rfl, z2, new_strs r (fun y hy => ?_) c ?_⟩
        · refine strOk_iff.mpr fun d hd => ?_
          have hm : y.cps.toList ∈ splL ch a.cps.toList := by
            rw [← hs]
            exact List.mem_map.mpr ⟨y, hy, rfl⟩
          exact spl_mem [ch] (fun c => c < 0x110000) a.cps.toList [] 0 (fun d hd => (List.not_mem_nil hd).elim) (strOk_iff.mp ha) _ hm d hd
        · rw [strs_of_tl hs]
          exact z3
      · exact z.elim
    | _ => exact z.elim
  | _ => cases b2 <;> exact z.elim
/-- text.rstrip(signs) -/
def opRstrip : OP2 := fun d1 d2 k => match d1, d2 with
  | .str x, .str y => x.length ≤ sizeLine ∧ k (.sh (.str (Txt.rstripChars x y)))
  | _, _ => False
abbrev rRstrip : V → List V → Hp → VK → Prop := fun x xs H Q => ∃ a b, x = .str a ∧ xs = [.str b] ∧ a.length ≤ sizeLine ∧ Q (.str (Txt.rstripChars a b)) H
theorem rstrip_pre (x y : Str) : ∃ j : Nat, j ≤ x.length ∧ (Txt.rstripChars x y).cps.toList = x.cps.toList.take j := by
  obtain ⟨j, hj, e⟩ := rstripChars_is_prefix x y
  refine ⟨j, hj, ?_⟩
  rw [e]
  show (x.cps.extract 0 j).toList = _
  simp
theorem os_rstrip : OpS (fun x y H Q => rRstrip x [y] H Q) opRstrip := fun {B F Γ σ H fp x y d1 d2} k Q r b1 b2 z c => by
  cases b1 with
  | str a ha =>
    cases b2 with
    | str b hb =>
      refine ⟨a, b, rfl, rfl, z.1, op_sc r (.str _ (strOk_of ha fun c hc => ?_)) c z.2⟩
      obtain ⟨j, _, e⟩ := rstrip_pre a b
      rw [e] at hc
      exact List.mem_of_mem_take hc
    | _ => exact z.elim
  | _ => cases b2 <;> exact z.elim
section
variable {X : Cx} {W : WX} {pos p : Pos} {a b e f : Expr} {es : List Expr} {ta tb te tf : TE} {pa pb pe pf : QE} {tr : TA} {pr : QA}
theorem d_upper {apos : Pos} (ha : DE X W a ta pa) (hbase : attributeBase a "upper" X.env (eval a X.env) = eval a X.env := by rfl) (hline : (apos.endLine == pos.line) = true := by rfl) :
    DE X W (.Call (.Attribute a "upper" apos) [] [] pos) (tM0 rUpper ta) (qM0 opUpper pa) := ⟨pe_upper ha.pe hbase hline, se_m0 us_upper ha.se⟩
theorem d_lower {apos : Pos} (ha : DE X W a ta pa) (hbase : attributeBase a "lower" X.env (eval a X.env) = eval a X.env := by rfl) (hline : (apos.endLine == pos.line) = true := by rfl) :
    DE X W (.Call (.Attribute a "lower" apos) [] [] pos) (tM0 rLower ta) (qM0 opLower pa) := ⟨pe_lower ha.pe hbase hline, se_m0 us_lower ha.se⟩
theorem d_words {apos : Pos} (ha : DE X W a ta pa) (hbase : attributeBase a "split" X.env (eval a X.env) = eval a X.env := by rfl) (hline : (apos.endLine == pos.line) = true := by rfl) :
    DE X W (.Call (.Attribute a "split" apos) [] [] pos) (tM0 rWords ta) (qM0 opWords pa) := ⟨pe_words ha.pe hbase hline, se_m0 us_words ha.se⟩
theorem d_split {apos : Pos} (ha : DE X W a ta pa) (hb : DE X W b tb pb) (hs : starEach [b] X.env = [(false, eval b X.env)] := by rfl) (hbase : attributeBase a "split" X.env (eval a X.env) = eval a X.env := by rfl) (hline : (apos.endLine == pos.line) = true := by rfl) :
    DE X W (.Call (.Attribute a "split" apos) [b] [] pos) (tM1 rSplit ta tb) (qM1 opSplit pa pb) := ⟨pe_split ha.pe hb.pe hs hbase hline, se_m1 os_split ha.se hb.se⟩
theorem d_rstrip {apos : Pos} (ha : DE X W a ta pa) (hb : DE X W b tb pb) (hs : starEach [b] X.env = [(false, eval b X.env)] := by rfl) (hbase : attributeBase a "rstrip" X.env (eval a X.env) = eval a X.env := by rfl) (hline : (apos.endLine == pos.line) = true := by rfl) :
    DE X W (.Call (.Attribute a "rstrip" apos) [b] [] pos) (tM1 rRstrip ta tb) (qM1 opRstrip pa pb) := ⟨pe_m1 F.slot_str_rstrip F.type_str_rstrip mt_rstripChars ha.pe hb.pe hs hbase hline, se_m1 os_rstrip ha.se hb.se⟩
/-! ### methods of more arguments -/
abbrev OPN := D → List D → (Wv → Prop) → Prop
def qBM (o : OPN) (pa : QE) (pr : QA) : QE := fun Γ R E => pa Γ (fun w1 Γ1 => bor w1 Γ1 isStr ∧ pr Γ1 (fun ds Γ2 => bor w1 Γ2 fun d1 => o d1 ds fun w => R w Γ2) E) E
def OpN (r : V → List V → Hp → VK → Prop) (o : OPN) : Prop := ∀ {B F : Hp} {Γ : Ev} {σ : L2.St} {H : Hp} {fp : Nat → List Addr} {x : V} {ys : List V} {d1 : D} {ds : List D} (k : Wv → Prop) (Q : VK), Rel B F Γ σ H fp → Rb F H x d1 → RpA F ys ds → o d1 ds k →
  (∀ w v F' H', Ext B F F' → Rel B F' Γ σ H' fp → RW B F' Γ σ H' fp v w → k w → Q v H') → r x ys H Q
theorem se_bm {K : PySem.W.Frag} {r : V → List V → Hp → VK → Prop} {o : OPN} (hs : OpN r o) (ha : SE W ta pa) (hb : SA W tr pr) : SE W (tBM K "str" r ta tr) (qBM o pa pr) := fun {B F Γ σ H fp} R EX Q rr h k e => by
  refine ha _ EX _ rr h (fun w1 Γ1 x F1 H1 fp1 x1 r1 v1 h1 => ?_) e
  obtain ⟨d, b, z⟩ := bor_rb r1 v1 h1.1
  obtain ⟨B', r1', g⟩ := r1.guard v1
  refine ⟨by
    obtain ⟨a, rfl⟩ := b.isStr z
    rfl, hb _ EX _ r1' h1.2 (fun ds Γ2 vs F2 H2 fp2 x2 r2 v2 h2 => ?_) fun c Γ' F' H' fp' x2 r2 q => ?_⟩
  · obtain ⟨x3, r3, v3, g3⟩ := g F2 Γ2 H2 fp2 x2 r2
    obtain ⟨d1, b1, z1⟩ := bor_rb r3 v3 h2
    exact hs _ Q r3 b1 v2 z1 fun w v F' H' x' r' q' kk => k w Γ2 v F' H' fp2 ((x1.trans x3).trans x') r' q' kk
  · obtain ⟨x5, r5, _, _⟩ := g F' Γ' H' fp' x2 r2
    exact e c Γ' F' H' fp' (x1.trans x5) r5 q
/-- text.rjust(n, sign) -/
def opRjust : OPN := fun d1 ds k => match d1, ds with
  | .str x, [.int i, .str f] => PadOk i = true ∧ (match f.cps.toList with
    | [c] => k (.sh (.str (Txt.rjustF x i c)))
    | _ => False)
  | _, _ => False
abbrev rRjust : V → List V → Hp → VK → Prop := fun x xs H Q => ∃ (a : Str) (i : Int) (f : Str), x = .str a ∧ xs = [.int i, .str f] ∧ PadOk i = true ∧ f.length = 1 ∧ Q (.str (Txt.rjustF a i (f.cps.getD 0 0))) H
theorem mt_rjust2 {X : Cx} : MtR X "str.rjust" rRjust := by
  intro pins s σ H x xs v us Q I rx rs h
  obtain ⟨a, i, f, rfl, rfl, hp, hf, h⟩ := h
  obtain ⟨t, rfl⟩ := rx
  cases rs with
  | cons r1 rs =>
    cases rs with
    | cons r2 rs =>
      cases rs
      obtain ⟨u, rfl⟩ := r1
      obtain ⟨z, rfl⟩ := r2
      exact rjust_fill hp hf fun t' k => ⟨V.str (Txt.rjustF a i (f.cps.getD 0 0)), H, I.tok k, ⟨t', rfl⟩, h⟩
theorem os_rjust : OpN rRjust opRjust := fun {B F Γ σ H fp x ys d1 ds} k Q r b1 b2 z c => by
  cases b1 with
  | str a ha =>
    cases b2 with
    | cons h1 b2 =>
      cases b2 with
      | cons h2 b2 =>
        cases b2 with
        | nil =>
          cases h1 with
          | int i =>
            cases h2 with
            | str f hf =>
              obtain ⟨z1, z2⟩ := z
              split at z2
              · rename_i ch hc
                have e := one_of hc
                subst e
                have hch := strOk_iff.mp hf ch (by simp)
                refine ⟨a, i, _, rfl, rfl, z1, rfl, ?_⟩
                refine op_sc r (.str _ (strOk_iff.mpr fun d hd => ?_)) c z2
                rw [rjustF_list] at hd
                rcases List.mem_append.mp hd with hd | hd
                · rw [List.eq_of_mem_replicate hd]
                  exact hch
                · exact strOk_iff.mp ha d hd
              · exact z2.elim
            | _ => exact z.elim
          | _ => cases h2 <;> exact z.elim
        | cons h3 b2 => cases h1 <;> cases h2 <;> exact z.elim
      | nil => cases h1 <;> exact z.elim
    | nil => exact z.elim
  | _ => exact z.elim
theorem d_rjust {apos : Pos} (ha : DE X W a ta pa) (hb : DA X W (e :: es) tr pr)
    (hbase : attributeBase a "rjust" X.env (eval a X.env) = eval a X.env := by rfl)
    (hfew : ((backTo pos (starEach (e :: es) X.env)).all (fun x => !x.1) && (backToKw pos (keywordEach [] X.env)).all (fun x => x.1.isSome)
      && decide ((e :: es).length + ([] : List Keyword).length + (if ([] : List Keyword).isEmpty then 0 else 1) < 30)) = true := by rfl)
    (hline : (apos.endLine == pos.line) = true := by rfl) (hs : starEach (e :: es) X.env = (false, eval e X.env) :: starEach es X.env := by rfl) (hplain : (backTo pos (starEach es X.env)).any (·.1) = false := by rfl) :
    DE X W (.Call (.Attribute a "rjust" apos) (e :: es) [] pos) (tBM X.K "str" rRjust ta tr) (qBM opRjust pa pr) :=
  ⟨pe_bm PySem.F.plainAttrs_str F.slot_str_rjust F.type_str_rjust mt_rjust2 ha.pe hb.pa hbase hfew hline hs hplain, se_bm os_rjust ha.se hb.sa⟩
/-! ### str(n), int(text), list(range(..)), constants -/
def opStr : OP1 := fun d k => match d with
  | .int i => i.natAbs.log2 < 1920 ∧ k (.sh (.str (toString i : String)))
  | _ => False
theorem us_str : UnS (fun x H Q => (fun xs H (Q : VK) => ∃ i, xs = [V.int i] ∧ i.natAbs.log2 < 1920 ∧ Q (.str (toString i : String)) H) [x] H Q) opStr := fun {B F Γ σ H fp x d} k Q r b z c => by
  cases b with
  | int i => exact ⟨i, rfl, z.1, op_sc r (.str _ (strOk_lit _)) c z.2⟩
  | _ => exact z.elim
theorem d_str1 (hm : X.mg "str" = none) (ha : DE X W a ta pa) (hg : Gl X "str" := by rfl) (he : starEach [a] X.env = (false, eval a X.env) :: starEach [] X.env := by rfl) (hpl : (backTo pos (starEach [] X.env)).any (·.1) = false := by rfl) :
    DE X W (.Call (.Name "str" p) [a] [] pos) (tCB (fun xs H Q => ∃ i, xs = [V.int i] ∧ i.natAbs.log2 < 1920 ∧ Q (.str (toString i : String)) H) (tCons ta tNil)) (qUn opStr pa) := d_ty1 call_str_int us_str hm (by decide +kernel) ha hg (by decide) (by decide) he hpl
def opIntS : OP1 := fun d k => match d with
  | .str x => x.length ≤ 640 ∧ (match PySem.intText? x with
    | some n => k (.sh (.int n))
    | none => False)
  | _ => False
theorem us_intS : UnS (fun x H Q => (fun xs H (Q : VK) => ∃ a n, xs = [V.str a] ∧ PySem.intText? a = some n ∧ a.length ≤ 640 ∧ Q (.int n) H) [x] H Q) opIntS := fun {B F Γ σ H fp x d} k Q r b z c => by
  cases b with
  | str a ha =>
    obtain ⟨z1, z2⟩ := z
    split at z2
    · rename_i n hn
      exact ⟨a, n, rfl, hn, z1, op_sc r (.int _) c z2⟩
    · exact z2.elim
  | _ => exact z.elim
theorem d_intS (hm : X.mg "int" = none) (ha : DE X W a ta pa) (hg : Gl X "int" := by rfl) (he : starEach [a] X.env = (false, eval a X.env) :: starEach [] X.env := by rfl) (hpl : (backTo pos (starEach [] X.env)).any (·.1) = false := by rfl) :
    DE X W (.Call (.Name "int" p) [a] [] pos) (tCB (fun xs H Q => ∃ a n, xs = [V.str a] ∧ PySem.intText? a = some n ∧ a.length ≤ 640 ∧ Q (.int n) H) (tCons ta tNil)) (qUn opIntS pa) := d_ty1 call_int_str us_intS hm (by decide +kernel) ha hg (by decide) (by decide) he hpl
def rgD (a b : Int) : List D := (List.range (b - a).toNat).map fun i : Nat => .int (a + (i : Int))
def opRgL (d1 d2 : D) (k : Wv → Prop) : Prop := match d1, d2 with
  | .int i, .int j => (-(2 ^ 62) ≤ i ∧ i < 2 ^ 62 ∧ -(2 ^ 62) ≤ j ∧ j < 2 ^ 62 ∧ (j - i).toNat ≤ 2 ^ 24) ∧ k (.ow (.l (rgD i j)))
  | _, _ => False
theorem rpa_rg {F : Hp} (a b : Int) : RpA F (rgV a b) (rgD a b) := RpA.map _ _ _ fun i _ => .int _
def qRgL2 (pa pb : QE) : QE := qOp opRgL pa pb
def qRgL1 (pa : QE) : QE := qUn (fun d k => opRgL (.int 0) d k) pa
theorem d_listR2 {p2 pos2 : Pos} (hc : X.calm = true) (hm : X.mg "list" = none) (hm2 : X.mg "range" = none) (ha : DE X W a ta pa) (hb : DE X W b tb pb) (hg : Gl X "list" := by rfl) (hg2 : Gl X "range" := by rfl)
    (na : starEach [a, b] X.env = (false, eval a X.env) :: starEach [b] X.env := by rfl) (nb : starEach [b] X.env = (false, eval b X.env) :: starEach [] X.env := by rfl)
    (nc : starEach [.Call (.Name "range" p2) [a, b] [] pos2] X.env = (false, eval (.Call (.Name "range" p2) [a, b] [] pos2) X.env) :: starEach [] X.env := by rfl)
    (np : (backTo pos2 (starEach [b] X.env)).any (·.1) = false := by rfl) :
    DE X W (.Call (.Name "list" p) [.Call (.Name "range" p2) [a, b] [] pos2] [] pos) (tLstRg (tRg2 ta tb)) (qRgL2 pa pb) := ⟨pe_listRg hc hg hm (prg_2 hg2 hm2 ha.pe hb.pe na nb np) nc, fun {B F Γ σ H fp} R EX Q rr h k e => by
  refine se_two ha.se hb.se rr h (Z := fun w1 w2 Γ2 => bor w1 Γ2 fun d1 => bor w2 Γ2 fun d2 => opRgL d1 d2 fun w => R w Γ2) (fun w1 w2 Γ' x y F' H' fp' x1 r1 v1 v2 z => ?_) e
  obtain ⟨d1, b1, z⟩ := bor_rb r1 v1 z
  obtain ⟨d2, b2, z⟩ := bor_rb r1 v2 z
  cases b1 with
  | int i =>
    cases b2 with
    | int j =>
      refine ⟨i, j, rfl, rfl, z.1, fun q hq => ?_⟩
      obtain ⟨r2, v2⟩ := new_lst r1 (rpa_rg (F := F') i j) hq
      exact k _ _ _ _ _ _ x1 r2 v2 z.2
    | _ => exact z.elim
  | _ => cases b2 <;> exact z.elim⟩
theorem d_listR1 {p2 pos2 : Pos} (hc : X.calm = true) (hm : X.mg "list" = none) (hm2 : X.mg "range" = none) (ha : DE X W a ta pa) (hg : Gl X "list" := by rfl) (hg2 : Gl X "range" := by rfl)
    (na : starEach [a] X.env = (false, eval a X.env) :: starEach [] X.env := by rfl)
    (nc : starEach [.Call (.Name "range" p2) [a] [] pos2] X.env = (false, eval (.Call (.Name "range" p2) [a] [] pos2) X.env) :: starEach [] X.env := by rfl) :
    DE X W (.Call (.Name "list" p) [.Call (.Name "range" p2) [a] [] pos2] [] pos) (tLstRg (tRg1 ta)) (qRgL1 pa) := ⟨pe_listRg hc hg hm (prg_1 hg2 hm2 ha.pe na) nc, fun {B F Γ σ H fp} R EX Q rr h k e => by
  refine ha.se _ EX _ rr h (fun w1 Γ1 x F1 H1 fp1 x1 r1 v1 h1 => ?_) e
  obtain ⟨d, b, z⟩ := bor_rb r1 v1 h1
  cases b with
  | int j =>
    refine ⟨j, rfl, z.1, fun q hq => ?_⟩
    obtain ⟨r2, v2⟩ := new_lst r1 (rpa_rg (F := F1) 0 j) hq
    exact k _ _ _ _ _ _ x1 r2 v2 z.2
  | _ => exact z.elim⟩
theorem d_gsx {x y : Str} (hm : ∃ t, X.mg x = some (.str y t)) (h : PyData.strOk y = true := by decide +kernel) (hg : Gl X x := by rfl) (hd : (x == ("__debug__" : Str)) = false := by decide) : DE X W (.Name x pos) (tC (.str y)) (qC (.str y)) := hm.elim fun t e => d_gs e h hg hd
theorem d_gix {x : Str} {i : Int} (hm : ∃ t, X.mg x = some (.int i t)) (hg : Gl X x := by rfl) (hd : (x == ("__debug__" : Str)) = false := by decide) : DE X W (.Name x pos) (tC (.int i)) (qC (.int i)) := hm.elim fun t e => d_gi e hg hd
end
end PL

namespace L2
open PySem PySem.Spec PyProof.Rows
/-! ### for k, v in d.items(), the keys tuples (the dict is locked) -/
def Itit (d : Addr) (o : Obj) (kvs : List (List Key × V)) : It :=
  ⟨fun i H => H d = some (.frz o (.dT kvs)) ∧ i < kvs.length, fun i H x H' => ∃ (T : Addr) (k : List Key) (v : V) (q : Addr), kvs[i]? = some (k, v) ∧ x = .ref T ∧ H T = none ∧ H q = some (.tup (k.map kV)) ∧ H' = upd H T (.tup [.ref q, v]), fun i H => H d = some (.frz o (.dT kvs)) ∧ kvs.length ≤ i⟩
section
variable {X : Cx} {pins : List (Addr × Obj)} {σ : St} {H : Hp} {s : Shared} {d : Addr} {o : Obj}
theorem Inv.frzT2 {kvs : List (List Key × V)} (I : Inv X pins σ H s) (h : H d = some (.frz o (.dT kvs))) :
    (d == sysModules) = false ∧ s.heap.get? d = some o ∧ o.ExactDict ∧ ∃ (es : Array DictEntry) (ep : Nat), o.data = .dict es ep ∧ es.size = kvs.length ∧
      ∀ (i : Nat) (k : List Key) (v : V), kvs[i]? = some (k, v) → ∃ (en : DictEntry) (q : Addr), es[i]? = some en ∧ en.key = .ref q ∧ H q = some (.tup (k.map kV)) ∧ RelV v en.val := by
  obtain ⟨hd, z, hs, xs, pr, o', es, ep, ho, hx, hdt, he, _⟩ := I.hok d _ h
  rw [hd] at ho
  cases ho
  refine ⟨hs, hd, hx, es, ep, hdt, ?_, fun i k v e => ?_⟩
  · have l1 : es.size = xs.length := size_of_entries he
    have l2 : kvs.length = xs.length := Paired.length pr
    omega
  · obtain ⟨b, hb, e1, e2, e3⟩ := paired_get pr e
    have q := entry_at he i
    rw [hb] at q
    exact ⟨_, b.2.1, q, rfl, e2, e3⟩
end
section
variable {P : Program} {w : World} {K : PySem.W.Frag} {d : Addr} {o : Obj} {es : Array DictEntry} {ep : Nat}
theorem turn_itemsT {kvs : List (List Key × V)} {elts : List Expr} {kk : Nat} {tpos : Pos} (it : Addr) (hod : o.data = .dict es ep) :
    Turn P w K (.Tuple elts kk tpos) (Itit d o kvs) [it] it (fun i h => ∃ ok ov, IsItemIter h it d i kvs.length ep ok ov) where
  mem := by simp
  obj := fun i h st b hb => by
    have e : b = it := by simpa using hb
    subst e
    obtain ⟨ok, ov, e⟩ := st
    exact ⟨_, e, fun v z => nomatch z⟩
  keep := fun i h h' st k => let ⟨ok, ov, e⟩ := st; ⟨ok, ov, k it (by simp) _ e⟩
  item := by
    intro X hP hw hK hc i pins s σ H E I hf st hg
    subst hP hw hK
    obtain ⟨hd, hi⟩ := hg
    obtain ⟨hs, hgd, hx, es', ep', hdt, hsz, ent⟩ := I.frzT2 hd
    obtain ⟨rfl, rfl⟩ := dict_ep hod hdt
    obtain ⟨⟨k, v⟩, hkv⟩ : ∃ p, kvs[i]? = some p := ⟨kvs[i], List.getElem?_eq_getElem hi⟩
    obtain ⟨en, q, hen, hkey, hq, hv⟩ := ent i k v hkv
    obtain ⟨ok, ov, he⟩ := st
    rw [← hsz] at he
    have hlt : it < s.heap.objs.size := Heap.lt_size he
    obtain ⟨hie, hee⟩ := Array.getElem?_eq_some_iff.mp hen
    refine DT.nextI he ⟨o, hgd, hx, hdt⟩ hie fun h' ho hT hz hk => ?_
    rw [hee] at ho hT
    refine ⟨_, rfl, wpAny_letOwnedTupleGo_items (s := { s with heap := h' }) ho fun h'' he' sb => ?_⟩
    have hT2 : h''.get? s.heap.objs.size = some { cls := .type "tuple", data := .seq #[en.key, en.val] } := (sb.2 _ (Nat.ne_of_gt hlt)).trans hT
    have new : ObjOk X.prog X.w (upd H s.heap.objs.size (.tup [.ref q, v])) h'' s.heap.objs.size (.tup [.ref q, v]) :=
      ⟨by show 2 ≤ sizeLine; decide, [en.key, en.val], .cons hkey (.cons hv .nil), ⟨_, hT2, rfl, _, rfl⟩⟩
    have I1 : Inv X pins σ (upd H s.heap.objs.size (.tup [.ref q, v])) { s with heap := h'' } :=
      I.turnedNew (t' := s.toks) (ch := [it]) (fun b ob hb e => (sb.2 b (by simpa using hb)).trans (hk b ob (by simpa using hb) e)) hf (Nat.le_refl _) new
    refine ⟨.ref s.heap.objs.size, _, I1, rfl, ⟨_, k, v, q, hkv, rfl, I.hok.fresh (Nat.le_refl _), hq, rfl⟩, ⟨en.key, en.val, ?_⟩, fun b hb => ?_⟩
    · rw [← hsz]; exact he'
    · have e : b = it := by simpa using hb
      rw [e, upd_ne (Nat.ne_of_lt hlt)]
      exact (hf it (by simp)).1
  done := by
    intro X hP hw hK hc i pins s σ H E I hf st hg
    subst hP hw hK
    obtain ⟨hd, hi⟩ := hg
    obtain ⟨f0, f1, f2, f3, f4, f5⟩ := hf it (by simp)
    obtain ⟨hs, hgd, hx, es', ep', hdt, hsz, ent⟩ := I.frzT2 hd
    obtain ⟨rfl, rfl⟩ := dict_ep hod hdt
    obtain ⟨ok, ov, he⟩ := st
    rw [← hsz] at he
    exact DT.endI (I.ok.hd hc) he ⟨o, hgd, hx, hdt⟩ (by omega) fun h' eb => ⟨rfl, I.turned (t' := s.toks) (fun b ob hb e => eb b ob hb e) f0 f1 f3 f4 f5⟩
  self := fun A i s Q E st h => let ⟨_, _, e⟩ := st; PySem.W.kcp_self e h
end
def iItemsT (td : TE) : TI := fun σ H R => td σ H fun x H1 => ∃ d o kvs, x = .ref d ∧ H1 d = some (.frz o (.dT kvs)) ∧ R (Itit d o kvs) H1
section
variable {X : Cx} {tg e : Expr} {td : TE} {apos cpos : Pos}
theorem pi_itemsT {elts : List Expr} {kk : Nat} {tpos : Pos} (he : PE X e td) (hbase : attributeBase e "items" X.env (eval e X.env) = eval e X.env := by rfl) (hline : (apos.endLine == cpos.line) = true := by rfl) :
    PI X (.Tuple elts kk tpos) (.Call (.Attribute e "items" apos) [] [] cpos) (iItemsT td) := by
  refine ⟨fun pins s σ H R I h => ?_⟩
  refine wpAny_Call_method (T := "dict") (id := "dict.items") hbase rfl hline F.plainAttrs_dict F.slot_dict_items F.type_dict_items (thn (he.run pins s σ H _ I h) fun u s1 ⟨x, H1, I1, rx, d, o, kvs, ex, hd, q⟩ => ?_)
  subst ex
  obtain rfl : u = Value.ref d := rx
  obtain ⟨hs, hgd, hx, es, ep, hdt, hsz, ent⟩ := I1.frzT2 hd
  have raw : DT.Raw s1.heap d es ep := ⟨o, hgd, hx, hdt⟩
  refine ⟨raw.typeIs, ?_, ?_⟩
  · exact fun a e => by
      cases e
      exact ⟨o, hgd, hx.2.1⟩
  have I2 : Inv X pins σ H1 { s1 with heap := s1.heap.push { cls := .type "dict_items", data := .fields #[.ref d] } } := I1.kept (t' := s1.toks) fun b ob q => Heap.get?_push_of_some _ q
  have fin : wpAny (model X.prog X.w) X.A (pyIter (.ref s1.heap.objs.size)) (PIE X pins σ (.Tuple elts kk tpos) R) X.xe { s1 with heap := s1.heap.push { cls := .type "dict_items", data := .fields #[.ref d] } } := by
    refine DT.iterI (d := d) ⟨_, Heap.get?_push_size _ rfl, rfl, rfl⟩ (raw.push _) (pi_one (tk := s1.toks) I2 _ (turn_itemsT _ hdt) ⟨.none, .none, ?_⟩ q)
    rw [← hsz]
    exact Heap.get?_push_size _ rfl
  show wpAny _ _ (callWith cpos (.builtin "dict.items") [.ref d] [] []) _ X.xe s1
  exact method_meetsIn F.slot_dict_items F.entry_dict_items rfl (PySem.evalArgs_none ⟨rfl, raw.typeIs, F.args_dict_items_1 _, _, DT.meetsItems (es := es) (ep := ep) hs, raw, fin⟩)
end
end L2
namespace PL
open PySem PySem.Spec PyProof.Rows L2
/-! ### a frozen dict is set aside -/
def rmF (F : Hp) (a : Addr) : Hp := fun b => if b = a then none else F b
theorem rmF_ne {F : Hp} {a b : Addr} (h : b ≠ a) : rmF F a b = F b := if_neg h
theorem rmF_some {F : Hp} {a b : Addr} {o : HO} (h : rmF F a b = some o) : b ≠ a ∧ F b = some o := by
  unfold rmF at h
  split at h
  · cases h
  · rename_i q
    exact ⟨q, h⟩
section
variable {F : Hp} {a0 : Addr} {kv0 : List (List Key × V)} (e0 : F a0 = some (.dT kv0))
mutual
theorem Rp.rm (e0 : F a0 = some (.dT kv0)) : ∀ {v : V} {d : D}, Rp F v d → d.hasDict = false → Rp (rmF F a0) v d
  | _, _, .non, _ => .non
  | _, _, .bl b, _ => .bl b
  | _, _, .int i, _ => .int i
  | _, _, .str x h, _ => .str x h
  | _, _, .lst h r, e => .lst (by rw [rmF_ne fun z => by rw [z, e0] at h; cases h]; exact h) (RpA.rm e0 r (by simpa [PyData.hasDict] using e))
  | _, _, .tup h r, e => .tup (by rw [rmF_ne fun z => by rw [z, e0] at h; cases h]; exact h) (RpA.rm e0 r (by simpa [PyData.hasDict] using e))
  | _, _, .dk _ _, e => by simp [PyData.hasDict] at e
  | _, _, .fz _ _, e => by simp [PyData.hasDict] at e
  | _, _, .rg _, e => by simp [PyData.hasDict] at e
  | _, _, .dt _ _, e => by simp [PyData.hasDict] at e
theorem RpA.rm (e0 : F a0 = some (.dT kv0)) : ∀ {vs : List V} {ds : List D}, RpA F vs ds → PyData.hasDictAll ds = false → RpA (rmF F a0) vs ds
  | _, _, .nil, _ => .nil
  | _, _, .cons h r, e => by
    simp only [PyData.hasDictAll, Bool.or_eq_false_iff] at e
    exact .cons (Rp.rm e0 h e.1) (RpA.rm e0 r e.2)
end
def noDictV (ds : List (D × D)) : Prop := ∀ p ∈ ds, p.2.hasDict = false
theorem RpK.rm (e0 : F a0 = some (.dT kv0)) : ∀ {kvs : List (Key × V)} {ds : List (D × D)}, RpK F kvs ds → noDictV ds → RpK (rmF F a0) kvs ds
  | _, _, .nil, _ => .nil
  | _, _, .cons h r, e => .cons (h.rm e0 (e _ List.mem_cons_self)) (RpK.rm e0 r fun p hp => e p (List.mem_cons_of_mem _ hp))
theorem RpT.rm (e0 : F a0 = some (.dT kv0)) : ∀ {kvs : List (List Key × V)} {ds : List (D × D)}, RpT F kvs ds → noDictV ds → RpT (rmF F a0) kvs ds
  | _, _, .nil, _ => .nil
  | _, _, .cons h r, e => .cons (h.rm e0 (e _ List.mem_cons_self)) (RpT.rm e0 r fun p hp => e p (List.mem_cons_of_mem _ hp))
end
def oNoD : O → Prop
  | .l ds => PyData.hasDictAll ds = false
  | .k ds => noDictV ds
  | .t ds => noDictV ds
  | .dp _ => False
def slNoD : Sl → Prop
  | .sh d => d.hasDict = false
  | .ow o => oNoD o
  | _ => True
def allNoD : Ev → Prop
  | [] => True
  | s :: r => slNoD s ∧ allNoD r
/-- no slot but i holds a dict -/
def maskOk : Nat → Ev → Prop
  | _, [] => True
  | 0, _ :: r => allNoD r
  | i + 1, s :: r => slNoD s ∧ maskOk i r
theorem allNoD_get : ∀ {Γ : Ev} {j : Nat} {s : Sl}, allNoD Γ → Γ[j]? = some s → slNoD s
  | [], _, _, _, e => by simp at e
  | s :: r, 0, _, h, e => by
    simp at e
    subst e
    exact h.1
  | s :: r, j + 1, _, h, e => allNoD_get h.2 (by simpa using e)
theorem maskOk_get : ∀ {Γ : Ev} {i j : Nat} {s : Sl}, maskOk i Γ → j ≠ i → Γ[j]? = some s → slNoD s
  | [], _, _, _, _, _, e => by simp at e
  | s :: r, 0, 0, _, _, n, _ => absurd rfl n
  | s :: r, 0, j + 1, _, h, _, e => allNoD_get (show allNoD r from h) (by simpa using e)
  | s :: r, i + 1, 0, _, h, _, e => by
    simp at e
    subst e
    exact h.1
  | s :: r, i + 1, j + 1, _, h, n, e => maskOk_get (show maskOk i r from h.2) (fun z => n (congrArg (· + 1) z)) (by simpa using e)
/-- the body's environment: the dict at slot i is locked -/
def pairsD (ds : List (D × D)) : List D := ds.map fun p => .tuple [p.1, p.2]
def keyOkD : D → Prop
  | .tuple ks => ∀ k ∈ ks, (match k with
    | .str x => PyData.strOk x = true
    | _ => True)
  | _ => True
def qForIt (i : Nat) (g : QG) (t : QS) : QS := fun P Γ => match Γ[i]? with
  | some (.sh (.dict ds)) => kindOf ds = some true ∧ maskOk i Γ ∧ noDictV ds ∧ (∀ p ∈ ds, keyOkD p.1) ∧ ∀ a : Addr,
      forGo g t { nx := fun Γ' => Γ'[i]? = some (.ex a) ∧ P.nx (Γ'.set i (.sh (.dict ds))), rt := fun _ _ => False, bk := fun _ => False, ct := fun _ => False, ex := noEX } (pairsD ds) (Γ.set i (.ex a))
  | _ => False
section
variable {B F F2 : Hp} {Γ Γ' : Ev} {σ σ' : L2.St} {H H2 : Hp} {fp fp' : Nat → List Addr} {i : Nat} {ad : Addr} {od : Obj} {kvs : List (List Key × V)} {ds : List (D × D)}
theorem upd_some {F : Hp} {a b : Addr} {o u : HO} (h : upd F a o b = some u) : (b = a ∧ u = o) ∨ (b ≠ a ∧ F b = some u) := by
  by_cases e : b = a
  · subst e
    rw [upd_same] at h
    cases h
    exact .inl ⟨rfl, rfl⟩
  · rw [upd_ne e] at h
    exact .inr ⟨e, h⟩
theorem RO.rm {v : V} {o : O} {f : List Addr} {H' : Hp} (e0 : F ad = some (.dT kvs)) (r : RO F H v o f) (n : oNoD o) (hc : ∀ a ∈ f, H' a = H a) : RO (rmF F ad) H' v o f := by
  cases r with
  | l h r => exact .l (by rw [hc _ (by simp)]; exact h) (RpA.rm e0 r n)
  | k h r => exact .k (by rw [hc _ (by simp)]; exact h) (RpK.rm e0 r n)
  | t h r => exact .t (by rw [hc _ (by simp)]; exact h) (RpT.rm e0 r n)
  | dp _ _ => exact n.elim
theorem Rel.lockD (r : Rel B F Γ σ H fp) (hv : σ[i]? = some (some (.ref ad))) (e0 : F ad = some (.dT kvs)) (hm : maskOk i Γ) :
    Rel (upd B ad (.frz od (.dT kvs))) (rmF F ad) (Γ.set i (.ex ad)) σ (upd H ad (.frz od (.dT kvs))) fp := by
  have ne : ∀ j a, a ∈ fp j → a ≠ ad := fun j a ha z => by
    have := (r.nb j a ha).2.1
    rw [z, e0] at this
    cases this
  refine ⟨fun c o q => ?_, fun c o q => ?_, by rw [List.length_set]; exact r.len, fun j d q => ?_, fun j o q => ?_, fun j a ha => ?_, r.dj, fun j c q => ?_⟩
  · rcases upd_some q with ⟨rfl, rfl⟩ | ⟨h, q⟩
    · exact upd_same
    · rw [upd_ne h]
      exact r.bx c o q
  · obtain ⟨h, q⟩ := rmF_some q
    rw [upd_ne h]
    exact r.fx c o q
  · rcases set_get q with ⟨_, h⟩ | ⟨h, q⟩
    · cases h
    · obtain ⟨v, g1, g2⟩ := r.sh j d q
      exact ⟨v, g1, g2.rm e0 (maskOk_get hm (fun z => h z.symm) q)⟩
  · rcases set_get q with ⟨_, h⟩ | ⟨h, q⟩
    · cases h
    · obtain ⟨v, g1, g2⟩ := r.ow j o q
      exact ⟨v, g1, g2.rm e0 (maskOk_get hm (fun z => h z.symm) q) fun a ha => upd_ne (ne j a ha)⟩
  · obtain ⟨b, c, d⟩ := r.nb j a ha
    have h := ne j a ha
    exact ⟨by rw [upd_ne h]; exact b, by rw [rmF_ne h]; exact c, by rw [upd_ne h]; exact d⟩
  · rcases set_get q with ⟨rfl, h⟩ | ⟨h, q⟩
    · cases h
      exact hv
    · exact r.ex j c q
theorem Rel.unlockD (r : Rel B F Γ σ H fp) (e0 : F ad = some (.dT kvs)) (t : RpT F kvs ds) (x : Ext (upd B ad (.frz od (.dT kvs))) (rmF F ad) F2)
    (r2 : Rel (upd B ad (.frz od (.dT kvs))) F2 Γ' σ' H2 fp') (e : Γ'[i]? = some (.ex ad)) :
    Ext B F (upd F2 ad (.dT kvs)) ∧ Rel B (upd F2 ad (.dT kvs)) (Γ'.set i (.sh (.dict ds))) σ' (upd H2 ad (.dT kvs)) fp' := by
  have hH : H2 ad = some (.frz od (.dT kvs)) := r2.bx _ _ upd_same
  have hn : F2 ad = none := by
    cases q : F2 ad with
    | none => rfl
    | some u =>
      rcases x.new ad (by rw [q]; exact fun z => nomatch z) (if_pos rfl) with z | ⟨xs, z⟩
      · rw [upd_same] at z
        cases z
      · have := r2.fx _ _ z
        rw [hH] at this
        cases this
  have s2 : Same F2 (upd F2 ad (.dT kvs)) := fun c o q => by
    rw [upd_ne fun z => by rw [z, hn] at q; cases q]
    exact q
  have s0 : Same F (upd F2 ad (.dT kvs)) := fun c o q => by
    by_cases h : c = ad
    · subst h
      rw [e0] at q
      cases q
      exact upd_same
    · exact s2 c o (x.same c o (by rw [rmF_ne h]; exact q))
  have ne : ∀ j a, a ∈ fp' j → a ≠ ad := fun j a ha z => by
    have := (r2.nb j a ha).1
    rw [z, upd_same] at this
    cases this
  refine ⟨⟨s0, fun c q z => ?_⟩, ⟨fun c o q => ?_, fun c o q => ?_, by rw [List.length_set]; exact r2.len, fun j d q => ?_, fun j o q => ?_, fun j a ha => ?_, r2.dj, fun j c q => ?_⟩⟩
  · have h : c ≠ ad := fun h => by rw [h, e0] at z; cases z
    rw [upd_ne h] at q ⊢
    rcases x.new c q (by rw [rmF_ne h]; exact z) with z | z
    · rw [upd_ne h] at z
      exact .inl z
    · exact .inr z
  · by_cases h : c = ad
    · subst h
      have := r.bx _ _ q
      rw [r.fx _ _ e0] at this
      cases this
      exact upd_same
    · rw [upd_ne h]
      exact r2.bx c o (by rw [upd_ne h]; exact q)
  · rcases upd_some q with ⟨rfl, rfl⟩ | ⟨h, q⟩
    · exact upd_same
    · rw [upd_ne h]
      exact r2.fx c o q
  · rcases set_get q with ⟨rfl, h⟩ | ⟨h, q⟩
    · cases h
      exact ⟨_, r2.ex i ad e, .dt upd_same (t.mono s0)⟩
    · obtain ⟨v, g1, g2⟩ := r2.sh j d q
      exact ⟨v, g1, g2.mono s2⟩
  · rcases set_get q with ⟨_, h⟩ | ⟨h, q⟩
    · cases h
    · obtain ⟨v, g1, g2⟩ := r2.ow j o q
      exact ⟨v, g1, g2.mono s2 fun a ha => upd_ne (ne j a ha)⟩
  · obtain ⟨b, c, d⟩ := r2.nb j a ha
    have h := ne j a ha
    rw [upd_ne h] at b
    exact ⟨b, by rw [upd_ne h]; exact c, by rw [upd_ne h]; exact d⟩
  · rcases set_get q with ⟨_, h⟩ | ⟨_, q⟩
    · cases h
    · exact r2.ex j c q
theorem RpT.get {kvs : List (List Key × V)} {ds : List (D × D)} (t : RpT F kvs ds) : ∀ {j : Nat} {k : List Key} {v : V}, kvs[j]? = some (k, v) → ∃ d, ds[j]? = some (.tuple (k.map keyD), d) ∧ Rp F v d := by
  induction kvs generalizing ds with
  | nil => intro j k v e; simp at e
  | cons p r ih =>
    intro j k v e
    cases j with
    | zero =>
      obtain rfl : p = (k, v) := by simpa using e
      cases t with
      | cons h t => exact ⟨_, rfl, h⟩
    | succ j =>
      cases t with
      | cons h t => exact ih t (by simpa using e)
theorem rp_keys {F : Hp} : ∀ (ks : List Key), keyOkD (.tuple (ks.map keyD)) → RpA F (ks.map kV) (ks.map keyD)
  | [], _ => .nil
  | .inl n :: r, h => .cons (.int n) (rp_keys r fun k hk => h k (List.mem_cons_of_mem _ hk))
  | .inr x :: r, h => .cons (.str x (h (.str x) (by simp [keyD]))) (rp_keys r fun k hk => h k (List.mem_cons_of_mem _ hk))
/-- a tuple of the heap becomes frozen -/
theorem Rel.frzTup (r : Rel B F Γ σ H fp) {q : Addr} {xs : List V} (h : H q = some (.tup xs)) : ∃ F' fp', Ext B F F' ∧ Rel B F' Γ σ H fp' ∧ F' q = some (.tup xs) := by
  cases e : F q with
  | some o =>
    have := r.fx _ _ e
    rw [h] at this
    cases this
    exact ⟨F, fp, .refl, r, e⟩
  | none =>
    have hf : ∀ a ∈ [q], F a = none ∧ ∀ i, a ∉ normF Γ fp i := fun a ha => by
      have : a = q := by simpa using ha
      subst this
      exact ⟨e, fun i hi => r.no_tup hi xs h⟩
    refine ⟨frz F H [q], normF Γ fp, ⟨frz_same fun a ha => (hf a ha).1, fun a z z2 => ?_⟩, r.norm.freeze hf, by unfold frz; rw [if_pos (by simp)]; exact h⟩
    unfold frz at z ⊢
    split at z
    · rename_i hm
      have : a = q := by simpa using hm
      subst this
      rw [if_pos hm]
      exact .inr ⟨xs, h⟩
    · exact absurd z2 z
end
section
variable {X : Cx} {W : WX} {pos : Pos} {ts : TS} {ps : QS}
theorem ds_forIt (i : Nat) {x : Str} {px apos cpos tpos : Pos} {elts : List Expr} {kk : Nat} {body : List Stmt} {g : TG} {qg : QG} {js : List Nat} (hp : PassesOwn (model X.prog X.w) X.A X.env X.xe) (hc : X.calm = true)
    (hg : DG X (.Tuple elts kk tpos) g qg js) (hb : DSs X W body ts ps) (hN : X.N[i]? = some x := by rfl) (hvis : Vis X.env.scope x := by first | exact Or.inl rfl | exact Or.inr (Or.inl rfl) | exact Or.inr (Or.inr rfl)) (hd : (x == ("__debug__" : Str)) = false := by decide)
    (hcd : (x == ("__classdict__" : Str)) = false := by decide) (hbase : attributeBase (.Name x px) "items" X.env (eval (.Name x px) X.env) = eval (.Name x px) X.env := by rfl) (hline : (apos.endLine == cpos.line) = true := by rfl)
    (hs : ∀ y, foldedSetIterable (.Call (.Attribute (.Name x px) "items" apos) [] [] cpos) X.env y = pure y := by intro _; rfl) :
    DS X W (.For (.Tuple elts kk tpos) (.Call (.Attribute (.Name x px) "items" apos) [] [] cpos) body [] pos) (tLock (tFor (iItemsT (tVar i)) g ts)) (qForIt i qg ps) :=
  ⟨ps_lock (ps_for hp hc (pi_itemsT (pe_var hN hvis hd hcd) hbase hline) hg.pg hb.ps hs), fun {B F Γ σ H fp} P D r q a => by
  unfold qForIt at q
  split at q
  · rename_i ds e
    obtain ⟨hk, hm, hnd, hok, hq⟩ := q
    obtain ⟨v, hv, hr⟩ := r.sh i _ e
    obtain ⟨ad, kvs, rfl, e0, t⟩ : ∃ ad kvs, v = .ref ad ∧ F ad = some (.dT kvs) ∧ RpT F kvs ds := by
      cases hr with
      | @dk a kvs ds e1 t =>
        cases t with
        | nil => cases hk
        | cons h r =>
          simp only [kindOf, keyK_D, if_true] at hk
          cases hk
      | @dt a kvs ds e1 t => exact ⟨a, kvs, rfl, e1, t⟩
      | fz e1 t => cases hk
      | rg e1 => cases hk
    refine ⟨ad, .dT kvs, r.fx _ _ e0, trivial, fun od => ?_⟩
    refine ⟨.ref ad, hv, ad, od, kvs, rfl, upd_same, ?_⟩
    have hq := hq ad
    generalize hPP : ({ nx := fun Γ' => Γ'[i]? = some (.ex ad) ∧ P.nx (Γ'.set i (.sh (.dict ds))), rt := fun _ _ => False, bk := fun _ => False, ct := fun _ => False, ex := noEX } : PEnds) = PP at hq
    have r1 : Rel (upd B ad (.frz od (.dT kvs))) (rmF F ad) (Γ.set i (.ex ad)) σ (upd H ad (.frz od (.dT kvs))) fp := r.lockD hv e0 hm
    have hlen : kvs.length = ds.length := t.length
    refine ⟨fun k m σ' H' => m + k = ds.length ∧ ∃ Γ' F' fp', Ext (upd B ad (.frz od (.dT kvs))) (rmF F ad) F' ∧ Rel (upd B ad (.frz od (.dT kvs))) F' Γ' σ' H' fp' ∧ forGo qg ps PP ((pairsD ds).drop k) Γ', ⟨ds.length, rfl, _, rmF F ad, fp, .refl, r1, hq⟩, ?_⟩
    rintro k m σ' H' ⟨hmk, Γ', F', fp', x, r', hf⟩
    have hd' : H' ad = some (.frz od (.dT kvs)) := r'.bx _ _ upd_same
    by_cases hlt : k < ds.length
    · refine .inr ⟨⟨hd', by omega⟩, fun σ2 H2 => ∃ m', m' < m ∧ (m' + (k + 1) = ds.length ∧ ∃ Γ' F' fp', Ext (upd B ad (.frz od (.dT kvs))) (rmF F ad) F' ∧ Rel (upd B ad (.frz od (.dT kvs))) F' Γ' σ2 H2 fp' ∧ forGo qg ps PP ((pairsD ds).drop (k + 1)) Γ'), fun σ2 H2 h => h, fun y H2 hy => ?_⟩
      obtain ⟨T, ky, v, q, hkv, rfl, hT, hq2, rfl⟩ := hy
      obtain ⟨d, hd2, hv2⟩ := t.get hkv
      obtain ⟨F1, fp1, x1, r1', hF1⟩ := r'.frzTup hq2
      obtain ⟨x2, r2⟩ := r1'.newF (o := .tup [.ref q, v]) hT
      have hmem := List.mem_of_getElem? hd2
      have hv3 : Rp (rmF F ad) v d := hv2.rm e0 (hnd _ hmem)
      have b2 : Rp (upd F1 T (.tup [.ref q, v])) (.ref T) (.tuple [.tuple (ky.map keyD), d]) :=
        .tup upd_same (.cons (.tup (x2.same _ _ hF1) (rp_keys ky (hok _ hmem))) (.cons (((hv3.mono x.same).mono x1.same).mono x2.same) .nil))
      have hlt2 : k < (pairsD ds).length := by simpa [pairsD] using hlt
      have hpk : (pairsD ds)[k] = .tuple [.tuple (ky.map keyD), d] := by
        obtain ⟨l1, l2⟩ := List.getElem?_eq_some_iff.mp hd2
        simp [pairsD, l2]
      rw [List.drop_eq_getElem_cons hlt2, hpk] at hf
      refine hg.sg _ _ r2 (.sh b2) hf fun Γ3 F3 σ3 fp3 x3 r3 _ h3 => ?_
      have xx := ((x.trans x1).trans x2).trans x3
      subst hPP
      refine hb.ss _ _ r3 h3 ⟨fun Γ4 F4 σ4 H4 fp4 x4 r4 h4 => ⟨m - 1, by omega, by omega, Γ4, F4, fp4, xx.trans x4, r4, h4⟩, fun _ _ _ _ _ _ _ _ _ _ z => z.elim, fun Γ4 F4 σ4 H4 fp4 x4 r4 h4 => ?_, fun Γ4 F4 σ4 H4 fp4 x4 r4 h4 => ⟨m - 1, by omega, by omega, Γ4, F4, fp4, xx.trans x4, r4, h4⟩, fun _ _ _ _ _ _ _ _ z => z.elim⟩
      obtain ⟨y3, r5⟩ := r.unlockD e0 t (xx.trans x4) r4 h4.1
      exact ⟨r4.bx _ _ upd_same, a.nx _ _ σ4 _ fp4 y3 r5 h4.2⟩
    · refine .inl ⟨⟨hd', by omega⟩, ?_⟩
      rw [List.drop_of_length_le (by simp [pairsD]; omega)] at hf
      subst hPP
      obtain ⟨y3, r5⟩ := r.unlockD e0 t x r' hf.1
      exact ⟨hd', a.nx _ _ σ' _ fp' y3 r5 hf.2⟩
  · exact q.elim⟩
end
end PL

namespace L2
open PySem PySem.Spec PyProof.Rows
/-! ### {k: v}, the key a tuple -/
def tDispT (tk tv : TE) : TE := fun σ H Q => ∀ p, H p = none → tk σ (upd H p (.dT [])) fun x H1 => tv σ H1 fun y H2 => H2 p = some (.dT []) ∧ ∃ (b : Addr) (ks : List Key), x = .ref b ∧ H2 b = some (.tup (ks.map kV)) ∧ Q (.ref p) (upd H2 p (.dT [(ks, y)]))
theorem wp_disp {prog : Program} {w : World} {K : Type} [DecidableEq K] {knd : HeapKind prog w K} {A : Around} {E : Value → Shared → Prop} {s : Shared} {env : Env} {keys : List (Option Expr)} {values : List Expr} {pos : Pos} {Q : Value → Shared → Prop} (hu : knd.room A)
    (hall : keys.all (·.isSome) = true) (hl : keys.length = values.length) (h0 : keys ≠ []) (hlen : keys.length ≤ 15)
    (h : wpAny (model prog w) A (evalPairs (pairTrees keys values env pos)) (fun vs s₁ => ∃ ps, CarriesH knd s₁.heap vs ps ∧ s₁.heap.DictOfH knd s.heap.objs.size [] ∧
      ∀ h' tk, h'.DictOfH knd s.heap.objs.size (storedAllH [] ps) → Heap.SameBut s.heap.objs.size s₁.heap h' → Q (.ref s.heap.objs.size) { s₁ with heap := h', toks := tk }) E
      { s with heap := s.heap.push { cls := .type "dict", data := .dict #[] } }) :
    wpAny (model prog w) A (eval (.Dict keys values pos) env) Q E s := by
  have hn := pairTrees_length keys values env pos hall hl
  have h1 : pairTrees keys values env pos ≠ [] := fun he => by
    rw [he] at hn
    exact h0 (List.length_eq_zero_iff.mp hn.symm)
  rw [arm_eval_Dict, zip_pairTrees keys values env pos hall hl, dictDisplay_pairs _ h1 (by omega)]
  exact wpAny_bind (wpAny_standAt (wpAny_bind (wpAny_subDictH (knd := knd) (Q := fun d s' => wpAny (model prog w) A (pure (Value.ref d)) Q E s') hu (by omega)
    (wpAny_mono h (fun vs s₁ h₁ => by obtain ⟨ps, hc, hm, hq⟩ := h₁; exact ⟨ps, hc, hm, fun h' tk a b => wpAny_pure (hq h' tk a b)⟩) fun _ _ e => e))))
theorem pe_dispT {X : Cx} {pos : Pos} {k v : Expr} {tk tv : TE} (hu : X.A.units + 1 < cLine) (hk : PE X k tk) (hv : PE X v tv) : PE X (.Dict [some k] [v] pos) (tDispT tk tv) := by
  refine ⟨fun pins s σ H Q I q => ?_⟩
  have hn := I.hok.fresh (Nat.le_refl s.heap.objs.size)
  have I1 := I.laid (a := s.heap.objs.size) (o := .dT []) (h' := s.heap.push { cls := .type "dict", data := .dict #[] }) (t' := s.toks) (fun _ _ q => Heap.get?_push_of_some _ q) (Nat.le_refl _) (dt_empty s.heap I.big)
  have room : (tupleKind (mixKind X.prog X.w)).room X.A := (show X.A.units < cLine from by omega)
  refine wp_disp (knd := tupleKind (mixKind X.prog X.w)) room rfl rfl (fun z => nomatch z) (by decide : 1 ≤ 15) ?_
  refine pairTrees_cons_walk (thn (hk.run pins _ σ _ _ I1 (q _ hn)) fun u s1 ⟨x, H1, I2, rx, q1⟩ => thn (hv.run pins s1 σ H1 _ I2 q1) fun w s2 ⟨y, H2, I3, ry, q2⟩ => pairTrees_nil_walk ?_)
  obtain ⟨e, b, ks, rfl, eb, q3⟩ := q2
  obtain rfl : u = Value.ref b := rx
  obtain ⟨z, hd, xs, r0, dd⟩ := dt_of I3.hok e
  cases r0
  refine ⟨[(ks, b, w)], ⟨rfl, rfl, key_of I3.hok eb, trivial⟩, dd, fun h' tk dd' hs => ⟨.ref s.heap.objs.size, _, ?_, rfl, q3⟩⟩
  obtain ⟨q, es, ep, hq, h2, h3, h4, _, h5⟩ := dd'
  refine d_write I3 (by rw [e]; exact True.intro) hs ⟨q, hq⟩ ⟨by show 1 ≤ sizeLine; decide, hd, [(ks, b, w)], .cons ⟨rfl, ?_, ry⟩ .nil, q, es, ep, hq, h2, h3, h4, h5⟩
  rw [upd_ne (ne_of eb e (fun z => nomatch z))]
  exact eb
end L2
namespace PL
open PySem PySem.Spec PyProof.Rows L2
section
variable {B F : Hp} {Γ : Ev} {σ : L2.St} {H : Hp} {fp : Nat → List Addr}
/-- a cell that nothing else holds is written -/
theorem Rel.free {p : Addr} {o : HO} (r : Rel B F Γ σ H fp) (hb : B p = none) (hF : F p = none) (hf : ∀ i, p ∉ fp i) : Rel B F Γ σ (upd H p o) fp :=
  ⟨fun a u e => by
    rw [upd_ne fun z => by rw [z, hb] at e; cases e]
    exact r.bx a u e, fun a u e => by
    rw [upd_ne fun z => by rw [z, hF] at e; cases e]
    exact r.fx a u e, r.len, r.sh, fun i o' e => by
    obtain ⟨v, h1, h2⟩ := r.ow i o' e
    refine ⟨v, h1, h2.mono (Same.refl F) fun a ha => upd_ne fun z => hf i (z ▸ ha)⟩, fun i a ha => by
    obtain ⟨b, c, d⟩ := r.nb i a ha
    refine ⟨b, c, ?_⟩
    have n : a ≠ p := fun z => hf i (z ▸ ha)
    rw [upd_ne n]
    exact d, r.dj, r.ex⟩
end
section
variable {X : Cx} {W : WX} {pos p : Pos} {a b c e f : Expr} {ta tb tc te tf : TE} {pa pb pc pe pf : QE}
def qDispT (pk pv : QE) : QE := fun Γ R E => pk Γ (fun w1 Γ1 => shr w1 Γ1 fun k Γ2 => keyT k = true ∧ pv Γ2 (fun w2 Γ3 => shr w2 Γ3 fun d Γ4 => R (.ow (.t [(k, d)])) Γ4) E) E
theorem d_dispT {j : Nat} (hr : Room j X.A) (ha : DE X W a ta pa) (hb : DE X W b tb pb) : DE X W (.Dict [some a] [b] pos) (tDispT ta tb) (qDispT pa pb) := ⟨pe_dispT (hu_of hr) ha.pe hb.pe, fun {B F Γ σ H fp} R EX Q r q k0 ex p hp => by
  obtain ⟨r0, v0⟩ := new_t r hp
  obtain ⟨B', r1, g⟩ := r0.guard v0
  refine ha.se _ EX _ r1 q (fun w1 Γ1 x F1 H1 fp1 x1 r1 v1 h1 => ?_) (fun c Γ' F' H' fp' x2 r2 q => ?_)
  · obtain ⟨d, Γ2, F2, fp2, x2, r2, b2, hk, h2⟩ := shr_ok r1 v1 h1
    refine hb.se _ EX _ r2 h2 (fun w2 Γ3 y F3 H3 fp3 x3 r3 v3 h3 => ?_) (fun c Γ' F' H' fp' x3 r3 q => ?_)
    · obtain ⟨d2, Γ4, F4, fp4, x4, r4, b4, h4⟩ := shr_ok r3 v3 h3
      obtain ⟨xx, r5, v5, _⟩ := g F4 Γ4 H3 fp4 (((x1.trans x2).trans x3).trans x4) r4
      cases v5 with
      | @ow o f0 hro hfree =>
        cases hro with
        | @t a kvs ds e1 t =>
          cases t
          obtain ⟨f1, f2, f3⟩ := hfree p (by simp)
          have bk : Rp F4 x d := (b2.mono x3.same).mono x4.same
          have b4' : Rp F4 y d2 := b4
          obtain ⟨bq, ks, rfl, e4, rfl⟩ := bk.keyT hk
          refine ⟨e1, bq, ks, rfl, r5.fx _ _ e4, ?_⟩
          refine k0 _ Γ4 _ F4 _ fp4 xx (r5.free f1 f2 f3) (.ow (f := [p]) (.t upd_same (.cons b4' .nil)) fun a ha => ?_) h4
          simp only [List.mem_singleton] at ha
          subst ha
          exact ⟨f1, f2, f3⟩
    · obtain ⟨xx, r5, _, _⟩ := g F' Γ' H' fp' ((x1.trans x2).trans x3) r3
      exact ex c Γ' F' H' fp' xx r5 q
  · obtain ⟨xx, r5, _, _⟩ := g F' Γ' H' fp' x2 r2
    exact ex c Γ' F' H' fp' xx r5 q⟩
/-- d.get(k, x) -/
def qGet2 (pd py px : QE) : QE := fun Γ R E => pd Γ (fun w1 Γ1 => (dic w1 Γ1).isSome = true ∧ py Γ1 (fun w2 Γ2 => shr w2 Γ2 fun dk Γ3 => px Γ3 (fun w3 Γ4 => shr w3 Γ4 fun dx Γ5 => dget w1 Γ5 dk fun o => R (.sh (o.getD dx)) Γ5) E) E) E
theorem d_get2 {j : Nat} {apos : Pos} (hr : Room j X.A) (ha : DE X W a ta pa) (hb : DE X W b tb pb) (hc : DE X W c tc pc) (m : M2 X a "get" apos b c pos := by exact ⟨rfl, rfl, rfl, rfl⟩) : DE X W (.Call (.Attribute a "get" apos) [b, c] [] pos) (tDGet2 ta tb tc) (qGet2 pa pb pc) := ⟨pe_dget2 (hu_of hr) ha.pe hb.pe hc.pe m, fun {B F Γ σ H fp} R EX Q rr h k e => by
  refine ha.se _ EX _ rr h (fun w1 Γ1 x F1 H1 fp1 x1 r1 v1 h1 => ?_) e
  obtain ⟨hd, h1⟩ := h1
  obtain ⟨⟨bb, ds⟩, hd⟩ := Option.isSome_iff_exists.mp hd
  obtain ⟨a, rfl, d⟩ := dic_ok r1 v1 hd
  refine ⟨a, rfl, dic_isD d, ?_⟩
  obtain ⟨B', r1', g⟩ := r1.guard v1
  refine hb.se _ EX _ r1' h1 (fun w2 Γ2 y F2 H2 fp2 x2 r2 v2 h2 => ?_) fun c Γ' F' H' fp' x2 r2 q => ?_
  · obtain ⟨dk, Γ3, F3, fp3, x3, r3, b3, h3⟩ := shr_ok r2 v2 h2
    refine hc.se _ EX _ r3 h3 (fun w3 Γ4 z F4 H4 fp4 x4 r4 v4 h4 => ?_) fun c Γ' F' H' fp' x4 r4 q => ?_
    · obtain ⟨dx, Γ5, F5, fp5, x5, r5, b5, h5⟩ := shr_ok r4 v4 h4
      obtain ⟨xx, r6, v6, _⟩ := g F5 Γ5 H4 fp5 (((x2.trans x3).trans x4).trans x5) r5
      obtain ⟨a', o, e', _, gg, z'⟩ := dget_ok r6 v6 (((b3.mono x4.same).mono x5.same).rb r6.fx) h5
      cases e'
      refine ⟨o, gg, ?_⟩
      rcases z' with ⟨rfl, z'⟩ | ⟨u, x', rfl, hu, z'⟩
      · exact k _ Γ5 _ F5 H4 fp5 (x1.trans xx) r6 (.sh b5) z'
      · exact k _ Γ5 _ F5 H4 fp5 (x1.trans xx) r6 (.sh hu) z'
    · obtain ⟨xx, r6, _, _⟩ := g F' Γ' H' fp' ((x2.trans x3).trans x4) r4
      exact e c Γ' F' H' fp' (x1.trans xx) r6 q
  · obtain ⟨x3, r3, _, _⟩ := g F' Γ' H' fp' x2 r2
    exact e c Γ' F' H' fp' (x1.trans x3) r3 q⟩
/-- for x in reversed(range(n)) -/
def qiRev (p : QE) : QI := fun Γ R E => p Γ (fun w Γ1 => match w with
  | .sh (.int n) => 0 ≤ n ∧ n < 2 ^ 62 ∧ R ((List.range n.toNat).map fun (i : Nat) => .int (n - 1 - (i : Int))) Γ1
  | _ => False) E
theorem it_rangeC {F : Hp} (lo c : Int) (n : Nat) (f : Nat → D) (hf : ∀ i, f i = .int (lo + (i : Nat) * c)) : ItOk (Itc lo c n) F ((List.range n).map f) := fun B3 F3 Γ3 σ3 H3 fp3 s3 r3 i => by
  refine ⟨fun d hd => ?_, fun hi => show n ≤ i by simpa using hi⟩
  rw [List.getElem?_map] at hd
  have hi : i < n := by
    cases z : (List.range n)[i]? with
    | none =>
      rw [z] at hd
      cases hd
    | some c => simpa using (List.getElem?_eq_some_iff.mp z).1
  rw [List.getElem?_range hi] at hd
  refine ⟨hi, fun y H4 ⟨e4, ey⟩ => ?_⟩
  subst e4 ey
  have hd' : f i = d := Option.some.inj hd
  rw [← hd', hf]
  exact ⟨F3, .refl, r3, .int _⟩
theorem di_revR {tg : Expr} {p p2 pos2 : Pos} (hm : X.mg "reversed" = none) (hm2 : X.mg "range" = none) (ha : DE X W a ta pa) (hg : Gl X "reversed" := by rfl) (hg2 : Gl X "range" := by rfl) (na : starEach [a] X.env = (false, eval a X.env) :: starEach [] X.env := by rfl)
    (hs : starEach [(.Call (.Name "range" p2) [a] [] pos2)] X.env = (false, eval (.Call (.Name "range" p2) [a] [] pos2) X.env) :: starEach [] X.env := by rfl) :
    DI X W tg (.Call (.Name "reversed" p) [.Call (.Name "range" p2) [a] [] pos2] [] pos) (iRevR (tRg1 ta)) (qiRev pa) := ⟨pi_revR hg hm (prg_1 hg2 hm2 ha.pe na) hs, fun {B F Γ σ H fp} R EX Q r q k e => by
  refine ha.se _ _ _ r q (fun w Γ1 v F1 H1 fp1 x1 r1 v1 h1 => ?_) e
  split at h1
  · rename_i n
    obtain ⟨h2, h3, h4⟩ := h1
    cases v1 with
    | sh hv =>
      cases hv
      refine ⟨n, rfl, by omega, by omega, by omega, h3, ?_⟩
      have e1 : (n - 0).toNat = n.toNat := by rw [Int.sub_zero]
      rw [e1]
      refine k _ Γ1 _ F1 H1 fp1 x1 r1 (it_rangeC _ _ _ _ fun i => ?_) h4
      have : ((n.toNat : Nat) : Int) = n := Int.toNat_of_nonneg h2
      rw [this]
      congr 1
      omega
  · exact h1.elim⟩
/-- x += e -/
def rIAdd : R2 := fun x y H Q => L2.rAdd x y H Q ∨ rAddS x y H Q
theorem or_iadd : OpR X (inplaceOp .Add) rIAdd := OpR.or (fun pins s σ H x y v u Q I rx ry h => in_add pins s σ H x y v u Q I rx ry h) fun pins s σ H x y v u Q I rx ry h => in_addS pins s σ H x y v u Q I rx ry h
def opIAdd : OP2 := fun d1 d2 k => match d1, d2 with
  | .int i, .int j => k (.sh (.int (i + j)))
  | .str a, .str b => a.length + b.length ≤ sizeLine ∧ k (.sh (.str (a ++ b)))
  | _, _ => False
theorem os_iadd : OpS rIAdd opIAdd := fun {B F Γ σ H fp x y d1 d2} k Q r b1 b2 z c => by
  cases b1 with
  | int i =>
    cases b2 with
    | int j => exact .inl ⟨i, j, rfl, rfl, op_sc r (.int _) c z⟩
    | _ => exact z.elim
  | str a ha =>
    cases b2 with
    | str b hb => exact .inr ⟨a, b, rfl, rfl, z.1, op_sc r (.str _ (strOk_app ha hb)) c z.2⟩
    | _ => exact z.elim
  | _ => exact z.elim
end
end PL

namespace PL
open PySem PySem.Spec PyProof.Rows L2
/-! ### the data of a value are its own -/
theorem keyD_inj {a b : Key} (h : keyD a = keyD b) : a = b := by
  cases a <;> cases b <;> simp [keyD] at h <;> simp [h]
mutual
theorem Rp.func {H : Hp} : ∀ {v : V} {d d' : D}, Rp H v d → Rp H v d' → d = d'
  | _, _, _, .non, h => by cases h; rfl
  | _, _, _, .bl _, h => by cases h; rfl
  | _, _, _, .int _, h => by cases h; rfl
  | _, _, _, .str _ _, h => by cases h; rfl
  | _, _, _, .lst e r, h => by
    cases h with
    | lst e' r' =>
      rw [e] at e'
      cases e'
      rw [RpA.func r r']
    | tup e' _ => rw [e] at e'; cases e'
    | dk e' _ => rw [e] at e'; cases e'
    | dt e' _ => rw [e] at e'; cases e'
    | fz e' _ => rw [e] at e'; cases e'
    | rg e' => rw [e] at e'; cases e'
  | _, _, _, .fz e r, h => by
    cases h with
    | fz e' r' =>
      rw [e] at e'
      cases e'
      rw [RpA.func r r']
    | tup e' _ => rw [e] at e'; cases e'
    | dk e' _ => rw [e] at e'; cases e'
    | dt e' _ => rw [e] at e'; cases e'
    | lst e' _ => rw [e] at e'; cases e'
    | rg e' => rw [e] at e'; cases e'
  | _, _, _, .rg e, h => by
    cases h with
    | rg e' =>
      rw [e] at e'
      cases e'
      rfl
    | fz e' _ => rw [e] at e'; cases e'
    | tup e' _ => rw [e] at e'; cases e'
    | dk e' _ => rw [e] at e'; cases e'
    | dt e' _ => rw [e] at e'; cases e'
    | lst e' _ => rw [e] at e'; cases e'
  | _, _, _, .tup e r, h => by
    cases h with
    | tup e' r' =>
      rw [e] at e'
      cases e'
      rw [RpA.func r r']
    | fz e' _ => rw [e] at e'; cases e'
    | rg e' => rw [e] at e'; cases e'
    | dk e' _ => rw [e] at e'; cases e'
    | dt e' _ => rw [e] at e'; cases e'
    | lst e' _ => rw [e] at e'; cases e'
  | _, _, _, .dk e r, h => by
    cases h with
    | dk e' r' =>
      rw [e] at e'
      cases e'
      rw [RpK.func r r']
    | fz e' _ => rw [e] at e'; cases e'
    | rg e' => rw [e] at e'; cases e'
    | tup e' _ => rw [e] at e'; cases e'
    | dt e' _ => rw [e] at e'; cases e'
    | lst e' _ => rw [e] at e'; cases e'
  | _, _, _, .dt e r, h => by
    cases h with
    | dt e' r' =>
      rw [e] at e'
      cases e'
      rw [RpT.func r r']
    | fz e' _ => rw [e] at e'; cases e'
    | rg e' => rw [e] at e'; cases e'
    | tup e' _ => rw [e] at e'; cases e'
    | dk e' _ => rw [e] at e'; cases e'
    | lst e' _ => rw [e] at e'; cases e'
theorem RpA.func {H : Hp} : ∀ {vs : List V} {ds ds' : List D}, RpA H vs ds → RpA H vs ds' → ds = ds'
  | _, _, _, .nil, h => by cases h; rfl
  | _, _, _, .cons h r, h' => by
    cases h' with
    | cons h1 r1 => rw [Rp.func h h1, RpA.func r r1]
theorem RpK.func {H : Hp} : ∀ {vs : List (Key × V)} {ds ds' : List (D × D)}, RpK H vs ds → RpK H vs ds' → ds = ds'
  | _, _, _, .nil, h => by cases h; rfl
  | _, _, _, .cons h r, h' => by
    cases h' with
    | cons h1 r1 => rw [Rp.func h h1, RpK.func r r1]
theorem RpT.func {H : Hp} : ∀ {vs : List (List Key × V)} {ds ds' : List (D × D)}, RpT H vs ds → RpT H vs ds' → ds = ds'
  | _, _, _, .nil, h => by cases h; rfl
  | _, _, _, .cons h r, h' => by
    cases h' with
    | cons h1 r1 => rw [Rp.func h h1, RpT.func r r1]
end
/-! ### what a call gives is new: no list of the arguments is like its lists -/
mutual
def freeD (Q : List D → Prop) : D → Prop
  | .list xs => ¬ Q xs ∧ freeA Q xs
  | .tuple xs => freeA Q xs
  | .dict kvs => freeK Q kvs
  | _ => True
def freeA (Q : List D → Prop) : List D → Prop
  | [] => True
  | x :: r => freeD Q x ∧ freeA Q r
def freeK (Q : List D → Prop) : List (D × D) → Prop
  | [] => True
  | (_, x) :: r => freeD Q x ∧ freeK Q r
end
mutual
def allD (Q : List D → Prop) : D → Prop
  | .list xs => Q xs ∧ allA Q xs
  | .tuple xs => allA Q xs
  | .dict _ => False
  | _ => True
def allA (Q : List D → Prop) : List D → Prop
  | [] => True
  | x :: r => allD Q x ∧ allA Q r
end
open Classical in
noncomputable def cutQ (F H : Hp) (Q : List D → Prop) : Hp := fun a => match F a with
  | some (.lst us) => if ∃ (H' : Hp) (ys : List D), Same H H' ∧ RpA H' us ys ∧ Q ys then none else some (.lst us)
  | o => o
theorem cutQ_sub {F H : Hp} {Q : List D → Prop} : Same (cutQ F H Q) F := fun a o h => by
  unfold cutQ at h
  split at h
  · rename_i us e
    split at h
    · cases h
    · rw [e]
      exact h
  · exact h
theorem cutQ_ne {F H : Hp} {Q : List D → Prop} {a : Addr} {o : HO} (h : F a = some o) (n : ∀ us, o ≠ .lst us) : cutQ F H Q a = some o := by
  unfold cutQ
  split
  · rename_i us e
    rw [h] at e
    injection e with e
    exact absurd e (n us)
  · exact h
mutual
theorem Rp.cutN {F H : Hp} {Q : List D → Prop} (s : Same F H) : ∀ {v : V} {d : D}, Rp F v d → freeD Q d → Rp (cutQ F H Q) v d
  | _, _, .non, _ => .non
  | _, _, .bl _, _ => .bl _
  | _, _, .int _, _ => .int _
  | _, _, .str _ h, _ => .str _ h
  | _, _, .lst (xs := us) (ds := ds) e r, q => by
    simp only [freeD] at q
    refine .lst ?_ (RpA.cutN s r q.2)
    unfold cutQ
    rw [e]
    simp only
    rw [if_neg]
    rintro ⟨H', ys, s', r', q'⟩
    have : ys = ds := RpA.func r' (r.mono (s.trans s'))
    subst this
    exact q.1 q'
  | _, _, .fz e r, q => by
    simp only [freeD, freeK] at q
    exact .fz (cutQ_ne e fun _ z => nomatch z) (RpA.cutN s r q.1.2)
  | _, _, .rg e, q => by
    exact .rg (cutQ_ne e fun _ z => nomatch z)
  | _, _, .tup e r, q => by
    simp only [freeD] at q
    exact .tup (cutQ_ne e fun _ z => nomatch z) (RpA.cutN s r q)
  | _, _, .dk e r, q => by
    simp only [freeD] at q
    exact .dk (cutQ_ne e fun _ z => nomatch z) (RpK.cutN s r q)
  | _, _, .dt e r, q => by
    simp only [freeD] at q
    exact .dt (cutQ_ne e fun _ z => nomatch z) (RpT.cutN s r q)
theorem RpA.cutN {F H : Hp} {Q : List D → Prop} (s : Same F H) : ∀ {vs : List V} {ds : List D}, RpA F vs ds → freeA Q ds → RpA (cutQ F H Q) vs ds
  | _, _, .nil, _ => .nil
  | _, _, .cons h r, q => by
    simp only [freeA] at q
    exact .cons (Rp.cutN s h q.1) (RpA.cutN s r q.2)
theorem RpK.cutN {F H : Hp} {Q : List D → Prop} (s : Same F H) : ∀ {vs : List (Key × V)} {ds : List (D × D)}, RpK F vs ds → freeK Q ds → RpK (cutQ F H Q) vs ds
  | _, _, .nil, _ => .nil
  | _, _, .cons h r, q => by
    simp only [freeK] at q
    exact .cons (Rp.cutN s h q.1) (RpK.cutN s r q.2)
theorem RpT.cutN {F H : Hp} {Q : List D → Prop} (s : Same F H) : ∀ {vs : List (List Key × V)} {ds : List (D × D)}, RpT F vs ds → freeK Q ds → RpT (cutQ F H Q) vs ds
  | _, _, .nil, _ => .nil
  | _, _, .cons h r, q => by
    simp only [freeK] at q
    exact .cons (Rp.cutN s h q.1) (RpT.cutN s r q.2)
end
/-- F and the new tuples of F2 -/
def tupF (F F2 : Hp) : Hp := fun a => match F a with
  | some o => some o
  | none => (match F2 a with
    | some (.tup xs) => some (.tup xs)
    | _ => none)
theorem tupF_same {F F2 : Hp} : Same F (tupF F F2) := fun a o h => by
  unfold tupF
  rw [h]
theorem tupF_new {F F2 : Hp} {a : Addr} {o : HO} (h : tupF F F2 a = some o) (e : F a = none) : ∃ xs, o = .tup xs ∧ F2 a = some (.tup xs) := by
  unfold tupF at h
  rw [e] at h
  simp only at h
  split at h
  · rename_i xs q
    cases h
    exact ⟨xs, rfl, q⟩
  · cases h
theorem tupF_sub {F F2 H : Hp} (s : Same F H) (s2 : Same F2 H) : Same (tupF F F2) H := fun a o h => by
  cases e : F a with
  | some u =>
    have := tupF_same (F2 := F2) a u e
    rw [this] at h
    cases h
    exact s a _ e
  | none =>
    obtain ⟨xs, rfl, q⟩ := tupF_new h e
    exact s2 a _ q
theorem frz_app {F H : Hp} {f g : List Addr} (s : Same F H) : Same (frz F H f) (frz F H (f ++ g)) ∧ Same (frz F H g) (frz F H (f ++ g)) := by
  have one : ∀ f' : List Addr, (∀ a ∈ f', a ∈ f ++ g) → Same (frz F H f') (frz F H (f ++ g)) := fun f' hf a o h => by
    unfold frz at h ⊢
    by_cases m : a ∈ f'
    · rw [if_pos m] at h
      rw [if_pos (hf a m)]
      exact h
    · rw [if_neg m] at h
      split
      · exact s a o h
      · exact h
  exact ⟨one f fun a h => List.mem_append_left _ h, one g fun a h => List.mem_append_right _ h⟩
section
variable {F1 F2 H1 H2 : Hp} {Q : List D → Prop}
mutual
theorem Rp.ownN (s1 : Same F1 H2) (s2 : Same F2 H2) (s12 : Same H1 H2) (x : Ext H1 (cutQ F1 H1 Q) F2) : ∀ {v : V} {d : D}, Rp F2 v d → allD Q d → ∃ f : List Addr, (∀ a ∈ f, H1 a = none ∧ F2 a ≠ none ∧ ∃ xs, H2 a = some (.lst xs)) ∧ Rp (frz (tups (tupF F1 F2)) H2 f) v d
  | _, _, .non, _ => ⟨[], by simp, .non⟩
  | _, _, .bl _, _ => ⟨[], by simp, .bl _⟩
  | _, _, .int _, _ => ⟨[], by simp, .int _⟩
  | _, _, .str _ h, _ => ⟨[], by simp, .str _ h⟩
  | _, _, .lst (a := a) (xs := us) (ds := ds) e r, q => by
    simp only [allD] at q
    obtain ⟨f, h1, h2⟩ := RpA.ownN s1 s2 s12 x r q.2
    have hn : H1 a = none := by
      have hc : cutQ F1 H1 Q a = none := by
        cases z : cutQ F1 H1 Q a with
        | none => rfl
        | some o =>
          have e2 := x.same a o z
          rw [e] at e2
          cases e2
          unfold cutQ at z
          split at z
          · rename_i us' e3
            split at z
            · cases z
            · rename_i hno
              cases z
              exact absurd ⟨H2, ds, s12, r.mono s2, q.1⟩ hno
          · rename_i o' hno
            exact absurd z (hno us)
      rcases x.new a (by rw [e]; exact fun z => nomatch z) hc with z | ⟨xs, z⟩
      · exact z
      · rw [e] at z
        cases z
    have st : Same (tups (tupF F1 F2)) H2 := tups_sub.trans (tupF_sub s1 s2)
    obtain ⟨g1, g2⟩ := frz_app (f := [a]) (g := f) st
    refine ⟨[a] ++ f, fun b hb => ?_, .lst ?_ (h2.mono g2)⟩
    · rcases List.mem_append.mp hb with hb | hb
      · have : b = a := by simpa using hb
        subst this
        exact ⟨hn, by rw [e]; exact (fun z => nomatch z), us, s2 _ _ e⟩
      · exact h1 b hb
    · unfold frz
      rw [if_pos (by simp)]
      exact s2 _ _ e
  | _, _, .fz _ _, q => by simp only [allD] at q
  | _, _, .rg _, q => by simp only [allD] at q
  | _, _, .tup (a := a) (xs := us) e r, q => by
    simp only [allD] at q
    obtain ⟨f, h1, h2⟩ := RpA.ownN s1 s2 s12 x r q
    refine ⟨f, h1, .tup ?_ h2⟩
    unfold frz
    split
    · exact s2 _ _ e
    · refine tups_of ?_
      cases z : F1 a with
      | some o =>
        have e1 := s1 a o z
        rw [s2 _ _ e] at e1
        cases e1
        exact tupF_same a _ z
      | none =>
        unfold tupF
        rw [z, e]
  | _, _, .dk _ _, q => by simp only [allD] at q
  | _, _, .dt _ _, q => by simp only [allD] at q
theorem RpA.ownN (s1 : Same F1 H2) (s2 : Same F2 H2) (s12 : Same H1 H2) (x : Ext H1 (cutQ F1 H1 Q) F2) : ∀ {vs : List V} {ds : List D}, RpA F2 vs ds → allA Q ds → ∃ f : List Addr, (∀ a ∈ f, H1 a = none ∧ F2 a ≠ none ∧ ∃ xs, H2 a = some (.lst xs)) ∧ RpA (frz (tups (tupF F1 F2)) H2 f) vs ds
  | _, _, .nil, _ => ⟨[], by simp, .nil⟩
  | _, _, .cons h r, q => by
    simp only [allA] at q
    obtain ⟨f, h1, h2⟩ := Rp.ownN s1 s2 s12 x h q.1
    obtain ⟨g, h3, h4⟩ := RpA.ownN s1 s2 s12 x r q.2
    obtain ⟨g1, g2⟩ := frz_app (f := f) (g := g) (tups_sub.trans (tupF_sub s1 s2))
    exact ⟨f ++ g, fun b hb => (List.mem_append.mp hb).elim (h1 b) (h3 b), .cons (h2.mono g1) (h4.mono g2)⟩
end
end
/-- a call that gives new data -/
def qCallD (n : Nat) (p : PD) (a : QA) : QE := fun Γ R E => a Γ (fun ds Γ1 => ds.length = n ∧ ∃ Q : List D → Prop, freeA Q ds ∧ p ds fun w => match w with
  | .sh d => allD Q d ∧ R (.ow (.dp d)) Γ1
  | _ => False) E
theorem se_callD {W : WX} {ta : TA} {pa : QA} {n : Nat} {p : PD} {E : XK} (ha : SA W ta pa) : SE W (tCall (spD n p) [] E ta) (qCallD n p pa) := fun {B F Γ σ H fp} R EX Q r q k e => by
  refine ha _ _ _ r q (fun ds Γ1 vs F1 H1 fp1 x1 r1 b1 h1 => ?_) e
  rw [List.append_nil]
  obtain ⟨hl, Qd, hq, hp⟩ := h1
  refine ⟨cutQ F1 H1 Qd, ds, _, cutQ_sub.trans r1.fx, b1.cutN r1.fx hq, hl, hp, fun w v F2 H2 x2 s2 f2 rr hw => ?_⟩
  cases rr with
  | ow _ _ => exact hw.elim
  | @sh d hv =>
    obtain ⟨hall, hw⟩ := hw
    obtain ⟨f, g1, g2⟩ := hv.ownN (r1.fx.trans s2) f2 s2 x2 hall
    have nf : ∀ i a, a ∈ normF Γ1 fp1 i → tupF F1 F2 a = none := fun i a hi => by
      obtain ⟨_, e, h⟩ := r1.nb i a (normF_mem hi).1
      cases z : tupF F1 F2 a with
      | none => rfl
      | some u =>
        obtain ⟨xs, rfl, q⟩ := tupF_new z e
        cases q2 : H1 a with
        | none => exact absurd q2 h
        | some u2 =>
          have e1 := s2 a u2 q2
          rw [f2 a _ q] at e1
          cases e1
          exact absurd q2 (r1.no_tup hi xs)
    have xx : Ext B F1 (tupF F1 F2) := ⟨tupF_same, fun a h e => by
      cases z : tupF F1 F2 a with
      | none => exact absurd z h
      | some u =>
        obtain ⟨xs, rfl, _⟩ := tupF_new z e
        exact .inr ⟨xs, rfl⟩⟩
    have r1 := r1.norm
    have r2 : Rel B (tupF F1 F2) Γ1 σ H2 (normF Γ1 fp1) := ⟨r1.bx.trans s2, tupF_sub (r1.fx.trans s2) f2, r1.len, fun i d e => by
      obtain ⟨v, g1, g2⟩ := r1.sh i d e
      exact ⟨v, g1, g2.mono tupF_same⟩, fun i o e => by
      obtain ⟨v, g1, g2⟩ := r1.ow i o e
      refine ⟨v, g1, g2.mono tupF_same fun a ha => ?_⟩
      cases z : H1 a with
      | none => exact absurd z (r1.nb i a ha).2.2
      | some u => exact s2 a u z, fun i a ha => by
      obtain ⟨b, c, d⟩ := r1.nb i a ha
      refine ⟨b, nf i a ha, fun z => d (s2.free z)⟩, r1.dj, r1.ex⟩
    refine k _ Γ1 v (tupF F1 F2) H2 _ (x1.trans xx) r2 (.ow (.dp g2 fun a ha => (g1 a ha).2.2) fun a ha => ?_) hw
    obtain ⟨e1, e2, xs, e3⟩ := g1 a ha
    refine ⟨r1.bx.free e1, ?_, fun i hi => (r1.nb i a hi).2.2 e1⟩
    cases z : tupF F1 F2 a with
    | none => rfl
    | some u =>
      obtain ⟨ys, rfl, q⟩ := tupF_new z (r1.fx.free e1)
      rw [f2 a _ q] at e3
      cases e3
section
variable {X : Cx} {W : WX} {pos p : Pos} {a b e : Expr} {es : List Expr} {ta te : TA} {tb : TE} {pa : QA} {pb : QE} {n : Nat} {q : PD} {x : Str} {j k : Nat}
theorem d_callD (c : Cal X.prog X.w X.K X.mg X.base k x (spD n q)) (hr : Room j X.A) (ha : DA X W (e :: es) ta pa) (hk : k ≤ j := by decide) (hg : Gl X x := by rfl) (hdb : (x == ("__debug__" : Str)) = false := by decide)
    (he : starEach (e :: es) X.env = (false, eval e X.env) :: starEach es X.env := by rfl) (hpl : (backTo pos (starEach es X.env)).any (·.1) = false := by rfl) :
    DE X W (.Call (.Name x p) (e :: es) [] pos) (tCall (spD n q) [] E0 ta) (qCallD n q pa) := ⟨by
  obtain ⟨f, fd, ps, F, hm, kp, b⟩ := c.ex
  exact pe_call F (hr.mono hk) hg hm kp b .nil pass0 ha.pa hdb he hpl, se_callD ha.sa⟩
/-! ### a call that only looks at what names hold -/
def datOf : Option Sl → Option D
  | some (.sh d) => some d
  | some (.ow o) => some o.toD
  | _ => none
def tVars : List Nat → TA
  | [] => tNil
  | i :: r => tCons (tVar i) (tVars r)
def datsOf (Γ : Ev) : List Nat → Option (List D)
  | [] => some []
  | i :: r => (datOf Γ[i]?).bind fun d => (datsOf Γ r).map (d :: ·)
theorem vars_ok {B F : Hp} {Γ : Ev} {σ : L2.St} {H : Hp} {fp : Nat → List Addr} (r : Rel B F Γ σ H fp) : ∀ {is : List Nat} {ds : List D} {Q : List V → Hp → Prop}, datsOf Γ is = some ds → (∀ vs, RpA H vs ds → Q vs H) → tVars is σ H Q
  | [], ds, Q, e, h => by
    cases e
    exact h [] .nil
  | i :: is, ds, Q, e, h => by
    unfold datsOf at e
    cases h1 : datOf Γ[i]? with
    | none =>
      rw [h1] at e
      cases e
    | some d =>
      rw [h1] at e
      cases h2 : datsOf Γ is with
      | none =>
        rw [h2] at e
        cases e
      | some ds2 =>
        rw [h2] at e
        cases e
        obtain ⟨v, hv, hr⟩ : ∃ v, σ[i]? = some (some v) ∧ Rp H v d := by
          unfold datOf at h1
          split at h1
          · rename_i d' q
            cases h1
            obtain ⟨v, g1, g2⟩ := r.sh i _ q
            exact ⟨v, g1, g2.mono r.fx⟩
          · rename_i o q
            cases h1
            obtain ⟨v, g1, g2⟩ := r.ow i _ q
            exact ⟨v, g1, g2.rp r.fx⟩
          · cases h1
        exact ⟨v, hv, vars_ok r h2 fun vs hvs => h (v :: vs) (.cons hr hvs)⟩
def atomD : D → Bool
  | .none => true
  | .bool _ => true
  | .int _ => true
  | .str _ => true
  | _ => false
theorem atom_rp {F F' : Hp} {v : V} {d : D} (h : Rp F v d) (e : atomD d = true) : Rp F' v d := by
  cases h with
  | non => exact .non
  | bl b => exact .bl b
  | int i => exact .int i
  | str x h => exact .str x h
  | _ => cases e
def qCallB (n : Nat) (p : PD) (is : List Nat) : QE := fun Γ R E => match datsOf Γ is with
  | some ds => ds.length = n ∧ p ds fun w => match w with
    | .sh d => atomD d = true ∧ R (.sh d) Γ
    | _ => False
  | none => False
theorem se_callB {n : Nat} {p : PD} {E : XK} {is : List Nat} : SE W (tCall (spD n p) [] E (tVars is)) (qCallB n p is) := fun {B F Γ σ H fp} R EX Q r q k e => by
  unfold qCallB at q
  split at q
  · rename_i ds hds
    obtain ⟨hl, hp⟩ := q
    refine vars_ok r hds fun vs hvs => ?_
    rw [List.append_nil]
    refine ⟨H, ds, _, Same.refl H, hvs, hl, hp, fun w v F2 H2 x2 s2 f2 rr hw => ?_⟩
    cases rr with
    | ow _ _ => exact hw.elim
    | @sh d hv =>
      obtain ⟨ha, hw⟩ := hw
      have r2 : Rel B F Γ σ H2 fp := ⟨r.bx.trans s2, r.fx.trans s2, r.len, r.sh, fun i o e => by
        obtain ⟨v, g1, g2⟩ := r.ow i o e
        refine ⟨v, g1, g2.mono (Same.refl F) fun a ha => ?_⟩
        cases z : H a with
        | none => exact absurd z (g2.mem a ha)
        | some u => exact s2 a u z, fun i a ha => by
        obtain ⟨b, c, d⟩ := r.nb i a ha
        exact ⟨b, c, fun z => d (s2.free z)⟩, r.dj, r.ex⟩
      exact k _ Γ v F H2 fp .refl r2 (.sh (atom_rp hv ha)) hw
  · exact q.elim
/-- the names of the arguments -/
structure DNs (X : Cx) (es : List Expr) (is : List Nat) : Prop where
  pa : PA X es (tVars is)
theorem dn_nil : DNs X [] [] := ⟨pa_nil⟩
theorem dn_cons {i : Nat} {is : List Nat} {y : Str} {py : Pos} (h : DNs X es is) (hN : X.N[i]? = some y := by rfl) (hv : Vis X.env.scope y := by first | exact Or.inl rfl | exact Or.inr (Or.inl rfl) | exact Or.inr (Or.inr rfl)) (hd : (y == ("__debug__" : Str)) = false := by decide)
    (hcd : (y == ("__classdict__" : Str)) = false := by decide) (hs : starEach (.Name y py :: es) X.env = (false, eval (.Name y py) X.env) :: starEach es X.env := by rfl) : DNs X (.Name y py :: es) (i :: is) := ⟨pa_cons (pe_var hN hv hd hcd) h.pa hs⟩
theorem d_callB {is : List Nat} (c : Cal X.prog X.w X.K X.mg X.base k x (spD n q)) (hr : Room j X.A) (ha : DNs X (e :: es) is) (hk : k ≤ j := by decide) (hg : Gl X x := by rfl) (hdb : (x == ("__debug__" : Str)) = false := by decide)
    (he : starEach (e :: es) X.env = (false, eval e X.env) :: starEach es X.env := by rfl) (hpl : (backTo pos (starEach es X.env)).any (·.1) = false := by rfl) :
    DE X W (.Call (.Name x p) (e :: es) [] pos) (tCall (spD n q) [] E0 (tVars is)) (qCallB n q is) := ⟨by
  obtain ⟨f, fd, ps, F, hm, kp, b⟩ := c.ex
  exact pe_call F (hr.mono hk) hg hm kp b .nil pass0 ha.pa hdb he hpl, se_callB⟩
end
end PL

namespace PL
open PySem PySem.Spec PyProof.Rows L2
section
variable {X : Cx} {W : WX} {pos p : Pos} {a b e : Expr} {es : List Expr} {ta te : TE} {tb : TE} {pa pe : QE} {n : Nat} {x : Str} {j k : Nat}
/-! ### sorted, of ints -/
def opSortI : OP1 := fun d k => match d with
  | .list ds => (match intsOf ds with
    | some ns => ∀ ms : List Int, ms.Perm ns → ms.Pairwise (· ≤ ·) → k (.ow (.l (ms.map .int)))
    | none => False)
  | _ => False
theorem us_sortI {K : PySem.W.Frag} : UnS (fun x H Q => rSortedI K [x] H Q) opSortI := fun {B F Γ σ H fp x d} k Q r b z c => by
  cases b with
  | @lst a xs ds e t =>
    unfold opSortI at z
    simp only at z
    split at z
    · rename_i ns hns
      have := ints_rp t hns
      subst this
      refine ⟨a, ns, rfl, .inl (.inl e), fun ms p h1 h2 hp => ?_⟩
      obtain ⟨r5, v5⟩ := new_lst r (rpa_ints ms) hp
      exact c _ _ F _ .refl r5 v5 (z ms h1 h2)
    · exact z.elim
  | _ => exact z.elim
theorem d_sortI (hm : X.mg "sorted" = none) (ha : DE X W a ta pa) (hg : Gl X "sorted" := by rfl) (he : starEach [a] X.env = (false, eval a X.env) :: starEach [] X.env := by rfl) (hpl : (backTo pos (starEach [] X.env)).any (·.1) = false := by rfl) :
    DE X W (.Call (.Name "sorted" p) [a] [] pos) (tCB (rSortedI X.K) (tCons ta tNil)) (qUn opSortI pa) := d_bi1 cr_sortedI us_sortI hm (by decide +kernel) ha hg (by decide) (by decide) he hpl
/-! ### xs.pop(i), xs.remove(k), xs an own list -/
def qPopAt (i : Nat) (p : QE) : QE := fun Γ R E => isOwL Γ[i]? = true ∧ p Γ (fun w Γ1 => bor w Γ1 fun d => match d with
  | .int m => -(2 ^ 62) ≤ m ∧ m < 2 ^ 62 ∧ (match Γ1[i]? with
    | some (.ow (.l ds)) => (match ixN ds.length m with
      | some j => (match ds[j]? with
        | some y => R (.sh y) (Γ1.set i (.ow (.l (ds.eraseIdx j))))
        | none => False)
      | none => False)
    | _ => False)
  | _ => False) E
theorem RpA.erase {F : Hp} : ∀ {vs : List V} {ds : List D} (j : Nat), RpA F vs ds → RpA F (vs.eraseIdx j) (ds.eraseIdx j)
  | _, _, j, .nil => by simp; exact .nil
  | _, _, 0, .cons h r => by simpa using r
  | _, _, j + 1, .cons h r => by
    simp only [List.eraseIdx_cons_succ]
    exact .cons h (RpA.erase j r)
theorem se_popAt {K : PySem.W.Frag} {i : Nat} (ha : SE W ta pa) : SE W (tBM K "list" rPopAt (tVar i) (tCons ta tNil)) (qPopAt i pa) := fun {B F Γ σ H fp} R EX Q r q k e => by
  obtain ⟨v, h1, h2⟩ := own_ty (K := K) r q.1
  refine ⟨v, h1, h2, ha _ _ _ r q.2 (fun w Γ1 y F1 H1 fp1 x1 r1 v1 h3 => ?_) e⟩
  obtain ⟨d, b, z⟩ := bor_rb r1 v1 h3
  cases b with
  | int m =>
    obtain ⟨m1, m2, z⟩ := z
    split at z
    · rename_i ds hd
      split at z
      · rename_i jj hj
        split at z
        · rename_i y hy
          obtain ⟨e1, e2, e3, e4⟩ := ixN_seq hj
          obtain ⟨u, z1, z2⟩ := r1.ow i _ hd
          rw [h1] at z1
          cases z1
          generalize hf : fp1 i = f at z2
          cases z2 with
          | @l a xs ds e5 t5 =>
            obtain ⟨yv, g1, g2⟩ := t5.get hy
            obtain ⟨a', xs', ea, e6, t6, r6⟩ := r1.mutL hd h1 (t5.erase jj)
            cases ea
            exact ⟨a, xs, m, jj, yv, rfl, rfl, e5, by omega, by omega, by rw [t5.length]; exact e1, g1, k _ _ _ F1 _ fp1 x1 r6 (.sh g2) z⟩
        · exact z.elim
      · exact z.elim
    · exact z.elim
  | _ => exact z.elim
theorem d_popAt (i : Nat) {px apos : Pos} (ha : DE X W a ta pa) (hN : X.N[i]? = some x := by rfl) (hv : Vis X.env.scope x := by first | exact Or.inl rfl | exact Or.inr (Or.inl rfl) | exact Or.inr (Or.inr rfl)) (hd : (x == ("__debug__" : Str)) = false := by decide)
    (hcd : (x == ("__classdict__" : Str)) = false := by decide) (hbase : attributeBase (.Name x px) "pop" X.env (eval (.Name x px) X.env) = eval (.Name x px) X.env := by rfl)
    (hfew : ((backTo pos (starEach [a] X.env)).all (fun x => !x.1) && (backToKw pos (keywordEach [] X.env)).all (fun x => x.1.isSome) && decide ([a].length + ([] : List Keyword).length + (if ([] : List Keyword).isEmpty then 0 else 1) < 30)) = true := by rfl)
    (hline : (apos.endLine == pos.line) = true := by rfl) (hs : starEach [a] X.env = (false, eval a X.env) :: starEach [] X.env := by rfl) (hpl : (backTo pos (starEach [] X.env)).any (·.1) = false := by rfl) :
    DE X W (.Call (.Attribute (.Name x px) "pop" apos) [a] [] pos) (tBM X.K "list" rPopAt (tVar i) (tCons ta tNil)) (qPopAt i pa) :=
  ⟨pe_bm PySem.F.plainAttrs_list PySem.F.slot_list_pop PySem.F.type_list_pop mt_popAt (pe_var hN hv hd hcd) (pa_cons ha.pe pa_nil hs) hbase hfew hline hs hpl, se_popAt ha.se⟩
def qRem (i : Nat) (p : QE) : QE := fun Γ R E => isOwL Γ[i]? = true ∧ p Γ (fun w Γ1 => bor w Γ1 fun d => match d with
  | .int m => (match Γ1[i]? with
    | some (.ow (.l ds)) => (match intsOf ds with
      | some ns => m ∈ ns ∧ R (.sh .none) (Γ1.set i (.ow (.l ((ns.erase m).map .int))))
      | none => False)
    | _ => False)
  | _ => False) E
theorem erase_ix (m : Int) : ∀ ns : List Int, m ∈ ns → ∃ j, ns[j]? = some m ∧ (∀ i : Nat, i < j → ns[i]? ≠ some m) ∧ ns.eraseIdx j = ns.erase m
  | [], h => by cases h
  | a :: r, h => by
    by_cases e : a = m
    · subst e
      exact ⟨0, rfl, fun i hi => absurd hi (by omega), by simp⟩
    · have hr : m ∈ r := by
        rcases List.mem_cons.mp h with h | h
        · exact absurd h.symm e
        · exact h
      obtain ⟨j, h1, h2, h3⟩ := erase_ix m r hr
      refine ⟨j + 1, by simpa using h1, fun i hi => ?_, ?_⟩
      · cases i with
        | zero => simpa using e
        | succ i => simpa using h2 i (by omega)
      · have b : (a == m) = false := by simpa using e
        rw [List.eraseIdx_cons_succ, h3, List.erase_cons, b]
        rfl
theorem se_rem {K : PySem.W.Frag} {i : Nat} (ha : SE W ta pa) : SE W (tBM K "list" rRemI (tVar i) (tCons ta tNil)) (qRem i pa) := fun {B F Γ σ H fp} R EX Q r q k e => by
  obtain ⟨v, h1, h2⟩ := own_ty (K := K) r q.1
  refine ⟨v, h1, h2, ha _ _ _ r q.2 (fun w Γ1 y F1 H1 fp1 x1 r1 v1 h3 => ?_) e⟩
  obtain ⟨d, b, z⟩ := bor_rb r1 v1 h3
  cases b with
  | int m =>
    simp only at z
    split at z
    · rename_i ds hd
      split at z
      · rename_i ns hns
        obtain ⟨hm, z⟩ := z
        obtain ⟨jj, g1, g2, g3⟩ := erase_ix m ns hm
        obtain ⟨u, z1, z2⟩ := r1.ow i _ hd
        rw [h1] at z1
        cases z1
        generalize hf : fp1 i = f at z2
        cases z2 with
        | @l a xs ds e5 t5 =>
          have := ints_rp t5 hns
          subst this
          obtain ⟨a', xs', ea, e6, t6, r6⟩ := r1.mutL hd h1 (rpa_ints (F := F1) (ns.erase m))
          cases ea
          refine ⟨a, ns, m, jj, rfl, rfl, e5, g1, g2, ?_⟩
          rw [g3]
          exact k _ _ _ F1 _ fp1 x1 r6 (.sh .non) z
      · exact z.elim
    · exact z.elim
  | _ => exact z.elim
theorem d_remI (i : Nat) {px apos : Pos} (ha : DE X W a ta pa) (hN : X.N[i]? = some x := by rfl) (hv : Vis X.env.scope x := by first | exact Or.inl rfl | exact Or.inr (Or.inl rfl) | exact Or.inr (Or.inr rfl)) (hd : (x == ("__debug__" : Str)) = false := by decide)
    (hcd : (x == ("__classdict__" : Str)) = false := by decide) (hbase : attributeBase (.Name x px) "remove" X.env (eval (.Name x px) X.env) = eval (.Name x px) X.env := by rfl)
    (hfew : ((backTo pos (starEach [a] X.env)).all (fun x => !x.1) && (backToKw pos (keywordEach [] X.env)).all (fun x => x.1.isSome) && decide ([a].length + ([] : List Keyword).length + (if ([] : List Keyword).isEmpty then 0 else 1) < 30)) = true := by rfl)
    (hline : (apos.endLine == pos.line) = true := by rfl) (hs : starEach [a] X.env = (false, eval a X.env) :: starEach [] X.env := by rfl) (hpl : (backTo pos (starEach [] X.env)).any (·.1) = false := by rfl) :
    DE X W (.Call (.Attribute (.Name x px) "remove" apos) [a] [] pos) (tBM X.K "list" rRemI (tVar i) (tCons ta tNil)) (qRem i pa) :=
  ⟨pe_bm PySem.F.plainAttrs_list PySem.F.slot_list_remove PySem.F.type_list_remove mt_remove (pe_var hN hv hd hcd) (pa_cons ha.pe pa_nil hs) hbase hfew hline hs hpl, se_rem ha.se⟩
/-! ### a list inside own data is changed, and the data are forgotten -/
def ixP (c : Nat) : D → Option D
  | .list xs => xs[c]?
  | .tuple xs => xs[c]?
  | _ => none
structure DPath (X : Cx) (i : Nat) (e : Expr) (to : TE) (g : D → Option D) : Prop where
  pe : PE X e to
  run : ∀ {G H : Hp} {σ : L2.St} {v : V} {d d' : D} {Q : VK}, σ[i]? = some (some v) → Rp G v d → Same G H → g d = some d' → (∀ u, Rp G u d' → Q u H) → to σ H Q
theorem path_0 (i : Nat) {px : Pos} (hN : X.N[i]? = some x := by rfl) (hv : Vis X.env.scope x := by first | exact Or.inl rfl | exact Or.inr (Or.inl rfl) | exact Or.inr (Or.inr rfl)) (hd : (x == ("__debug__" : Str)) = false := by decide)
    (hcd : (x == ("__classdict__" : Str)) = false := by decide) : DPath X i (.Name x px) (tVar i) some := ⟨pe_var hN hv hd hcd, fun hσ hr _ hg h => by
  cases hg
  exact ⟨_, hσ, h _ hr⟩⟩
theorem path_s {i c : Nat} {to : TE} {g : D → Option D} {o : Expr} {jj : Nat} {p2 : Pos} (h : DPath X i o to g) (hx : PlainIx (.Constant (.int (c : Int)) jj p2) := by exact fun _ _ => rfl) :
    DPath X i (.Subscript o (.Constant (.int (c : Int)) jj p2) pos) (tOp (rIx X.K) to (tC (.int (c : Int)))) (fun d => (g d).bind (ixP c)) := ⟨pe_ix ix_seq h.pe pe_int hx, fun {G H σ v d d' Q} hσ hr s hg hq => by
  cases hgd : g d with
  | none =>
    rw [hgd] at hg
    cases hg
  | some d1 =>
    rw [hgd] at hg
    refine h.run hσ hr s hgd fun u hu => ?_
    have hg : ixP c d1 = some d' := hg
    cases hu with
    | @lst a xs ds e t =>
      obtain ⟨w, g1, g2⟩ := t.get (show ds[c]? = some d' from hg)
      exact .inl ⟨a, xs, c, w, rfl, rfl, .inl (.inl (s _ _ e)), (ixD_eq xs (c : Int)).trans g1, hq w g2⟩
    | @tup a xs ds e t =>
      obtain ⟨w, g1, g2⟩ := t.get (show ds[c]? = some d' from hg)
      exact .inr (.inl ⟨a, xs, c, w, rfl, rfl, .inl (.inl (s _ _ e)), (ixD_eq xs (c : Int)).trans g1, hq w g2⟩)
    | _ => cases hg⟩
def qFgt (i : Nat) (g : D → Option D) : QE := fun Γ R _ => match Γ[i]? with
  | some (.ow (.dp d)) => (match g d with
    | some (.list xs) => xs.length < sizeLine ∧ R (.sh .none) (Γ.set i .un)
    | _ => False)
  | _ => False
/-- what an argument of that must be -/
structure PConst (X : Cx) (e : Expr) (te : TE) : Prop where
  pe : PE X e te
  run : ∀ {σ : L2.St} {H : Hp} {Q : VK}, (∀ v H', Same H H' → Q v H') → te σ H Q
theorem pc_int {i : Int} {jj} : PConst X (.Constant (.int i) jj pos) (tC (.int i)) := ⟨pe_int, fun {σ H Q} h => h _ H (Same.refl H)⟩
theorem pc_str {y : Str} {jj} : PConst X (.Constant (.str y) jj pos) (tC (.str y)) := ⟨pe_str, fun {σ H Q} h => h _ H (Same.refl H)⟩
theorem pc_nil : PConst X (.List [] pos) (tLst tNil) := ⟨pe_lst pa_nil, fun {σ H Q} h => ⟨by decide, fun p hp => h _ _ fun a u e => by rw [upd_ne (ne_of_none e hp)]; exact e⟩⟩
theorem se_fgt {K : PySem.W.Frag} {i : Nat} {o : Expr} {to : TE} {g : D → Option D} (hp : DPath X i o to g) (hc : PConst X a ta) : SE W (tBM K "list" rAppend to (tCons ta tNil)) (qFgt i g) := fun {B F Γ σ H fp} R EX Q r q k _ => by
  unfold qFgt at q
  split at q
  · rename_i d hd
    split at q
    · rename_i ds hg
      obtain ⟨hl, hR⟩ := q
      obtain ⟨v, h1, h2⟩ := r.ow i _ hd
      generalize hf : fp i = f at h2
      cases h2 with
      | dp h3 h4 =>
        have sG : Same (frz (tups F) H f) H := fun a o q => by
          unfold frz at q
          split at q
          · exact q
          · exact r.fx a o (tups_sub a o q)
        refine hp.run h1 h3 sG hg fun u hu => ?_
        cases hu with
        | @lst ad us ds e t =>
          have hm : ad ∈ f := by
            apply Classical.byContradiction
            intro n
            unfold frz at e
            rw [if_neg n] at e
            obtain ⟨xs, z⟩ := tups_is e
            cases z
          refine ⟨.inl ⟨rfl, us, .inl (.inl (sG _ _ e))⟩, hc.run fun y H2 s2 => ?_⟩
          have e2 : H2 ad = some (.lst us) := s2 _ _ (sG _ _ e)
          refine ⟨ad, us, y, rfl, rfl, e2, by rw [t.length]; exact hl, ?_⟩
          rw [← hf] at hm
          obtain ⟨b1, b2, b3⟩ := r.nb i ad hm
          have cell : ∀ j c, c ∈ fp j → j ≠ i → upd H2 ad (.lst (us ++ [y])) c = H c := fun j c hcj hj => by
            have hne : c ≠ ad := fun z => hj (r.dj j i c hcj (z ▸ hm))
            rw [upd_ne hne]
            cases z : H c with
            | none => exact absurd z (r.nb j c hcj).2.2
            | some u => exact s2 c u z
          refine k _ (Γ.set i .un) _ F _ (dropF fp i) .refl ⟨fun c o q => ?_, fun c o q => ?_, by rw [List.length_set]; exact r.len, fun j d q => ?_, fun j o q => ?_, fun j c hc => ?_, fun j1 j2 c h1 h2 => r.dj j1 j2 c (mem_dropF h1).2 (mem_dropF h2).2, fun j c q => r.ex j c (ex_ne (fun _ => Sl.noConfusion) q).2⟩ (.sh .non) hR
          · rw [upd_ne fun z => by rw [z, b1] at q; cases q]
            exact s2 c o (r.bx c o q)
          · rw [upd_ne fun z => by rw [z, b2] at q; cases q]
            exact s2 c o (r.fx c o q)
          · rcases set_get q with ⟨_, h⟩ | ⟨h, q⟩
            · cases h
            · exact r.sh j d q
          · rcases set_get q with ⟨_, h⟩ | ⟨h, q⟩
            · cases h
            · obtain ⟨w, g1, g2⟩ := r.ow j o q
              refine ⟨w, g1, ?_⟩
              rw [dropF_ne (fun z => h z.symm)]
              exact g2.mono (Same.refl F) fun c hc => cell j c hc (fun z => h z.symm)
          · obtain ⟨hj, hcj⟩ := mem_dropF hc
            obtain ⟨c1, c2, c3⟩ := r.nb j c hcj
            exact ⟨c1, c2, by rw [cell j c hcj hj]; exact c3⟩
    · exact q.elim
  · exact q.elim
theorem d_fgt {i : Nat} {o : Expr} {to : TE} {g : D → Option D} {apos : Pos} (hp : DPath X i o to g) (hc : PConst X a ta) (hbase : attributeBase o "append" X.env (eval o X.env) = eval o X.env := by rfl)
    (hfew : ((backTo pos (starEach [a] X.env)).all (fun x => !x.1) && (backToKw pos (keywordEach [] X.env)).all (fun x => x.1.isSome) && decide ([a].length + ([] : List Keyword).length + (if ([] : List Keyword).isEmpty then 0 else 1) < 30)) = true := by rfl)
    (hline : (apos.endLine == pos.line) = true := by rfl) (hs : starEach [a] X.env = (false, eval a X.env) :: starEach [] X.env := by rfl) (hpl : (backTo pos (starEach [] X.env)).any (·.1) = false := by rfl) :
    DE X W (.Call (.Attribute o "append" apos) [a] [] pos) (tBM X.K "list" rAppend to (tCons ta tNil)) (qFgt i g) :=
  ⟨pe_bm PySem.F.plainAttrs_list PySem.F.slot_list_append PySem.F.type_list_append mt_append hp.pe (pa_cons hc.pe pa_nil hs) hbase hfew hline hs hpl, se_fgt hp hc⟩
end
end PL

namespace PL
open PySem PySem.Spec PyProof.Rows L2
/-! ### comprehensions over the keys of an own dict -/
section
variable {W : WX} {g : TG} {qg : QG} {js : List Nat} {tt : TT} {qt : QT} {te : TE} {qe : QE} {vs : List Nat} {B F1 H1 : Hp} {Γ1 : Ev} {σ : L2.St} {fp1 : Nat → List Addr} {J : It} {ds : List D} {R : List D → Ev → Prop} {Q : VK}
theorem lc_body (r1 : Rel B F1 Γ1 σ H1 fp1) (ok : ItOk J F1 ds) (ho : noOw Γ1 vs = true) (h1 : lcGo vs qg qt qe R ds [] (wipEv vs Γ1)) (hg : SG g qg js) (ht : ST (fun _ _ _ _ => False) tt qt) (he : SE (fun _ _ _ _ => False) te qe) (hj : ∀ j ∈ js, j ∈ vs)
    (k : ∀ acc Γ2 Dl F' H' fp', Ext B F1 F' → Rel B F' (backEv Γ1 vs Γ2) σ H' fp' → RW B F' (backEv Γ1 vs Γ2) σ H' fp' (.ref Dl) (.ow (.l acc)) → R acc Γ2 → Q (.ref Dl) H') : tLc (fun _ H R => R J H) g tt te vs σ H1 Q := by
  intro Dl hD
  have r2 : Rel B F1 (wipEv vs Γ1) (wipe σ vs) H1 fp1 := r1.wip vs
  obtain ⟨r3, v3⟩ := new_lst r2 (.nil) hD
  refine ⟨fun i m H' => m + i = ds.length ∧ ∃ Γ' F' fp' acc, Ext B F1 F' ∧ Rel B F' Γ' (wipe σ vs) H' fp' ∧ OwnV B F' H' fp' (.ref Dl) (.l acc) ∧
    lcGo vs qg qt qe R (ds.drop i) acc Γ', ⟨ds.length, rfl, _, F1, fp1, [], .refl, r3, v3.own, h1⟩, ?_⟩
  rintro i m H' ⟨hm, Γ', F', fp', acc, x, r', v', hf⟩
  obtain ⟨o1, o2⟩ := ok B F' Γ' _ H' fp' x.same r' i
  by_cases hlt : i < ds.length
  · obtain ⟨B', rB, gd⟩ := r'.hold v'
    obtain ⟨go, yld⟩ := (ok B' F' Γ' _ H' fp' x.same rB i).1 ds[i] (List.getElem?_eq_getElem hlt)
    refine .inr ⟨go, fun H2 => ∃ m', m' < m ∧ (m' + (i + 1) = ds.length ∧ ∃ Γ' F' fp' acc, Ext B F1 F' ∧ Rel B F' Γ' (wipe σ vs) H2 fp' ∧ OwnV B F' H2 fp' (.ref Dl) (.l acc) ∧
      lcGo vs qg qt qe R (ds.drop (i + 1)) acc Γ'), fun H2 h => h, fun y H2 hy => ?_⟩
    obtain ⟨F2, x2, r2, b2⟩ := yld y H2 hy
    rw [List.drop_eq_getElem_cons hlt] at hf
    refine hg _ _ r2 (.sh b2) hf fun Γ3 F3 σ3 fp3 x3 r3 c3 h3 => ?_
    have hw : wipe σ3 vs = wipe σ vs := wipe_chg c3 hj
    refine ⟨hw, ht _ noEX _ r3 h3 (fun b Γ4 F4 H4 fp4 x4 r4 h4 => ?_) afe_no⟩
    have x24 := (x2.trans x3).trans x4
    cases b with
    | true =>
      refine he _ noEX _ r4 (h4.t rfl) (fun w5 Γ5 z F5 H5 fp5 x5 r5 v5 h5 => ?_) afe_no
      obtain ⟨d6, Γ6, F6, fp6, x6, r6, b6, hsz, h6⟩ := shr_ok r5 v5 h5
      have r7 := r6.wip vs
      rw [hw] at r7
      obtain ⟨y8, r8, v8⟩ := gd F6 _ _ H5 fp6 ((x24.trans x5).trans x6) r7
      obtain ⟨xs, e9, l9, r9, v9⟩ := own_app r8 v8 b6
      exact ⟨xs, e9, by rw [l9]; exact hsz, m - 1, by omega, by omega, _, F6, fp6, _, x.trans y8, r9, v9, h6⟩
    | false =>
      have r7 := r4.wip vs
      rw [hw] at r7
      obtain ⟨y8, r8, v8⟩ := gd F4 _ _ H4 fp4 x24 r7
      exact ⟨m - 1, by omega, by omega, _, F4, fp4, acc, x.trans y8, r8, v8, h4.f rfl⟩
  · refine .inl ⟨o2 (by omega), ?_⟩
    rw [List.drop_of_length_le (by omega)] at hf
    exact k _ _ _ F' H' fp' x (r1.back ho x.same r') v'.rw hf
end
section
variable {F : Hp} {a0 : Addr} {od : Obj} {w : HO}
/-- the cell of a locked dict is no datum -/
def notL (w : HO) : Prop := ∀ xs, w ≠ .lst xs
mutual
theorem Rp.rmZ (e0 : F a0 = some (.frz od w)) (nl : notL w) : ∀ {v : V} {d : D}, Rp F v d → Rp (rmF F a0) v d
  | _, _, .non => .non
  | _, _, .bl b => .bl b
  | _, _, .int i => .int i
  | _, _, .str x h => .str x h
  | _, _, .lst h r => .lst (by rw [rmF_ne fun z => by rw [z, e0] at h; cases h]; exact h) (RpA.rmZ e0 nl r)
  | _, _, .fz h r => .fz (by rw [rmF_ne fun z => by rw [z, e0] at h; cases h; exact nl _ rfl]; exact h) (RpA.rmZ e0 nl r)
  | _, _, .rg h => .rg (by rw [rmF_ne fun z => by rw [z, e0] at h; cases h]; exact h)
  | _, _, .tup h r => .tup (by rw [rmF_ne fun z => by rw [z, e0] at h; cases h]; exact h) (RpA.rmZ e0 nl r)
  | _, _, .dk h r => .dk (by rw [rmF_ne fun z => by rw [z, e0] at h; cases h]; exact h) (RpK.rmZ e0 nl r)
  | _, _, .dt h r => .dt (by rw [rmF_ne fun z => by rw [z, e0] at h; cases h]; exact h) (RpT.rmZ e0 nl r)
theorem RpA.rmZ (e0 : F a0 = some (.frz od w)) (nl : notL w) : ∀ {vs : List V} {ds : List D}, RpA F vs ds → RpA (rmF F a0) vs ds
  | _, _, .nil => .nil
  | _, _, .cons h r => .cons (Rp.rmZ e0 nl h) (RpA.rmZ e0 nl r)
theorem RpK.rmZ (e0 : F a0 = some (.frz od w)) (nl : notL w) : ∀ {vs : List (Key × V)} {ds : List (D × D)}, RpK F vs ds → RpK (rmF F a0) vs ds
  | _, _, .nil => .nil
  | _, _, .cons h r => .cons (Rp.rmZ e0 nl h) (RpK.rmZ e0 nl r)
theorem RpT.rmZ (e0 : F a0 = some (.frz od w)) (nl : notL w) : ∀ {vs : List (List Key × V)} {ds : List (D × D)}, RpT F vs ds → RpT (rmF F a0) vs ds
  | _, _, .nil => .nil
  | _, _, .cons h r => .cons (Rp.rmZ e0 nl h) (RpT.rmZ e0 nl r)
end
end
section
variable {B F F2 : Hp} {Γ Γ' : Ev} {σ σ' : L2.St} {H H2 : Hp} {fp fp' : Nat → List Addr} {i : Nat} {ad : Addr} {od : Obj} {u w : HO} {o : O} {v : V}
theorem RO.rmZ {f : List Addr} {v : V} {o : O} (e0 : F ad = some (.frz od w)) (nl : notL w) (r : RO F H v o f) (hn : ad ∉ f) {H' : Hp} (hc : ∀ a ∈ f, H' a = H a) : RO (rmF F ad) H' v o f := by
  cases r with
  | l h r => exact .l (by rw [hc _ (by simp)]; exact h) (RpA.rmZ e0 nl r)
  | k h r => exact .k (by rw [hc _ (by simp)]; exact h) (RpK.rmZ e0 nl r)
  | t h r => exact .t (by rw [hc _ (by simp)]; exact h) (RpT.rmZ e0 nl r)
  | dp r h =>
    refine .dp (r.mono fun a u q => ?_) fun a ha => by rw [hc a ha]; exact h a ha
    unfold frz at q ⊢
    split
    · rename_i m
      rw [if_pos m] at q
      rw [hc a m]
      exact q
    · rename_i m
      rw [if_neg m] at q
      obtain ⟨xs, rfl⟩ := tups_is q
      refine tups_of ?_
      have q2 := tups_sub a _ q
      rw [rmF_ne fun z => by rw [z, e0] at q2; cases q2]
      exact q2
theorem Rel.lockO (r : Rel B F Γ σ H fp) (hd : Γ[i]? = some (.ow o)) (hf : fp i = [ad]) (hv : σ[i]? = some (some (.ref ad))) : Rel B (upd F ad u) (Γ.set i (.ex ad)) σ (upd H ad u) (dropF fp i) := by
  have hm : ad ∈ fp i := by rw [hf]; simp
  obtain ⟨b1, b2, b3⟩ := r.nb i ad hm
  have sF : Same F (upd F ad u) := fun c q e => by
    rw [upd_ne fun z => by rw [z, b2] at e; cases e]
    exact e
  have ne : ∀ j c, c ∈ fp j → j ≠ i → c ≠ ad := fun j c hc hj z => hj (r.dj j i c hc (z ▸ hm))
  refine ⟨fun c q e => ?_, fun c q e => ?_, by rw [List.length_set]; exact r.len, fun j d q => ?_, fun j q e => ?_, fun j c hc => ?_, fun j1 j2 c h1 h2 => r.dj j1 j2 c (mem_dropF h1).2 (mem_dropF h2).2, fun j c q => ?_⟩
  · rw [upd_ne fun z => by rw [z, b1] at e; cases e]
    exact r.bx c q e
  · rcases upd_some e with ⟨rfl, rfl⟩ | ⟨h, e⟩
    · exact upd_same
    · rw [upd_ne h]
      exact r.fx c q e
  · rcases set_get q with ⟨_, h⟩ | ⟨h, q⟩
    · cases h
    · obtain ⟨v, g1, g2⟩ := r.sh j d q
      exact ⟨v, g1, g2.mono sF⟩
  · rcases set_get e with ⟨_, h⟩ | ⟨h, e⟩
    · cases h
    · obtain ⟨v, g1, g2⟩ := r.ow j q e
      have hji : j ≠ i := fun z => h z.symm
      rw [dropF_ne hji]
      exact ⟨v, g1, g2.mono sF fun c hc => upd_ne (ne j c hc hji)⟩
  · obtain ⟨hj, hc⟩ := mem_dropF hc
    obtain ⟨c1, c2, c3⟩ := r.nb j c hc
    have hne := ne j c hc hj
    exact ⟨c1, by rw [upd_ne hne]; exact c2, by rw [upd_ne hne]; exact c3⟩
  · rcases set_get q with ⟨rfl, h⟩ | ⟨h, q⟩
    · cases h
      exact hv
    · exact r.ex j c q
theorem Rel.unlockO (hB : B ad = none) (hF : F ad = none) (nl : notL w) (x : Ext B (upd F ad (.frz od w)) F2) (r2 : Rel B F2 Γ' σ' H2 fp') (e : Γ'[i]? = some (.ex ad)) (ho : RO F (upd H2 ad w) (.ref ad) o [ad]) :
    Ext B F (rmF F2 ad) ∧ Rel B (rmF F2 ad) (Γ'.set i (.ow o)) σ' (upd H2 ad w) (putF fp' i [ad]) ∧ F2 ad = some (.frz od w) := by
  have e0 : F2 ad = some (.frz od w) := x.same ad _ upd_same
  have sF : Same F (rmF F2 ad) := fun c q h => by
    have hne : c ≠ ad := fun z => by rw [z, hF] at h; cases h
    rw [rmF_ne hne]
    exact x.same c q (by rw [upd_ne hne]; exact h)
  have ne : ∀ j c, c ∈ fp' j → c ≠ ad := fun j c hc z => by
    have := (r2.nb j c hc).2.1
    rw [z, e0] at this
    cases this
  have nm : ∀ j c, c ∈ putF fp' i [ad] j → (j = i ∧ c = ad) ∨ (j ≠ i ∧ c ∈ fp' j) := fun j c hc => by
    by_cases hj : j = i
    · subst hj
      rw [putF_same] at hc
      exact .inl ⟨rfl, by simpa using hc⟩
    · rw [putF_ne hj] at hc
      exact .inr ⟨hj, hc⟩
  refine ⟨⟨sF, fun c q z => ?_⟩, ⟨fun c q h => ?_, fun c q h => ?_, by rw [List.length_set]; exact r2.len, fun j d q => ?_, fun j q h => ?_, fun j c hc => ?_, fun j1 j2 c h1 h2 => ?_, fun j c q => r2.ex j c (ex_ne (fun _ => Sl.noConfusion) q).2⟩, e0⟩
  · have hne : c ≠ ad := fun h => by
      rw [h] at q
      exact q (if_pos rfl)
    rw [rmF_ne hne] at q ⊢
    exact x.new c q (by rw [upd_ne hne]; exact z)
  · rw [upd_ne fun z => by rw [z, hB] at h; cases h]
    exact r2.bx c q h
  · obtain ⟨hne, h⟩ := rmF_some h
    rw [upd_ne hne]
    exact r2.fx c q h
  · rcases set_get q with ⟨_, h⟩ | ⟨h, q⟩
    · cases h
    · obtain ⟨v, g1, g2⟩ := r2.sh j d q
      exact ⟨v, g1, g2.rmZ e0 nl⟩
  · rcases set_get h with ⟨rfl, h'⟩ | ⟨hj, h'⟩
    · cases h'
      rw [putF_same]
      exact ⟨_, r2.ex i ad e, ho.mono sF fun a _ => rfl⟩
    · obtain ⟨v, g1, g2⟩ := r2.ow j q h'
      have hji : j ≠ i := fun z => hj z.symm
      rw [putF_ne hji]
      exact ⟨v, g1, RO.rmZ e0 nl g2 (fun z => ne j ad z rfl) fun a ha => upd_ne (ne j a ha)⟩
  · rcases nm j c hc with ⟨rfl, rfl⟩ | ⟨hj, hc⟩
    · exact ⟨hB, if_pos rfl, by rw [upd_same]; exact fun z => nomatch z⟩
    · obtain ⟨c1, c2, c3⟩ := r2.nb j c hc
      have hne := ne j c hc
      exact ⟨c1, by rw [rmF_ne hne]; exact c2, by rw [upd_ne hne]; exact c3⟩
  · rcases nm j1 c h1 with ⟨e1, e2⟩ | ⟨hj, g1⟩
    · rcases nm j2 c h2 with ⟨e3, _⟩ | ⟨_, g2⟩
      · rw [e1, e3]
      · exact absurd e2 (ne j2 c g2)
    · rcases nm j2 c h2 with ⟨_, e2⟩ | ⟨_, g2⟩
      · exact absurd e2 (ne j1 c g1)
      · exact r2.dj j1 j2 c g1 g2
end
def keysD (ds : List (D × D)) : List D := ds.map (·.1)
def key1Ok : D → Prop
  | .str x => PyData.strOk x = true
  | .tuple ks => keyOkD (.tuple ks)
  | _ => True
theorem RpK.get1 {F : Hp} {kvs : List (Key × V)} {ds : List (D × D)} (t : RpK F kvs ds) : ∀ {j : Nat} {d : D}, (keysD ds)[j]? = some d → ∃ k v, kvs[j]? = some (k, v) ∧ d = keyD k := by
  induction kvs generalizing ds with
  | nil =>
    cases t
    intro j d e
    simp [keysD] at e
  | cons p r ih =>
    cases t with
    | @cons k v _ d0 ds h t =>
      intro j d e
      cases j with
      | zero => exact ⟨k, v, rfl, by simpa [keysD] using e.symm⟩
      | succ j => exact ih t (by simpa [keysD] using e)
theorem RpT.get1 {F : Hp} {kvs : List (List Key × V)} {ds : List (D × D)} (t : RpT F kvs ds) : ∀ {j : Nat} {d : D}, (keysD ds)[j]? = some d → ∃ k v, kvs[j]? = some (k, v) ∧ d = .tuple (k.map keyD) := by
  induction kvs generalizing ds with
  | nil =>
    cases t
    intro j d e
    simp [keysD] at e
  | cons p r ih =>
    cases t with
    | @cons k v _ d0 ds h t =>
      intro j d e
      cases j with
      | zero => exact ⟨k, v, rfl, by simpa [keysD] using e.symm⟩
      | succ j => exact ih t (by simpa [keysD] using e)
theorem keys_mem {ds : List (D × D)} {j : Nat} {d : D} (ok : ∀ p ∈ ds, key1Ok p.1) (e : (keysD ds)[j]? = some d) : key1Ok d := by
  obtain ⟨p, hp, rfl⟩ := List.mem_map.mp (List.mem_of_getElem? e)
  exact ok p hp
theorem it_keys {F : Hp} {ad : Addr} {od : Obj} {kvs : List (Key × V)} {ds : List (D × D)} (e : F ad = some (.frz od (.dK kvs))) (t : RpK F kvs ds) (ok : ∀ p ∈ ds, key1Ok p.1) : ItOk (Itk ad od kvs) F (keysD ds) := fun B3 F3 Γ3 σ3 H3 fp3 s3 r3 i => by
  have hH : H3 ad = some (.frz od (.dK kvs)) := r3.fx _ _ (s3 _ _ e)
  have hlen : (keysD ds).length = kvs.length := by rw [keysD, List.length_map, t.length]
  refine ⟨fun d hd => ?_, fun hi => ⟨hH, by omega⟩⟩
  have hi := (List.getElem?_eq_some_iff.mp hd).1
  obtain ⟨k, v, hk, rfl⟩ := t.get1 hd
  have hok := keys_mem ok hd
  refine ⟨⟨hH, by omega⟩, fun y H4 ⟨e4, k', v', hk', ey⟩ => ?_⟩
  subst e4 ey
  rw [hk] at hk'
  cases hk'
  refine ⟨F3, .refl, r3, ?_⟩
  cases k with
  | inl n => exact .int n
  | inr x => exact .str x hok
/-
theorem it_keysT {F : Hp} {ad : Addr} {od : Obj} {kvs : List (List Key × V)} {ds : List (D × D)} (e : F ad = some (.frz od (.dT kvs))) (t : RpT F kvs ds) (ok : ∀ p ∈ ds, key1Ok p.1) : ItOk (Itkt ad od kvs) F (keysD ds) := fun B3 F3 Γ3 σ3 H3 fp3 s3 r3 i => by
  have hH : H3 ad = some (.frz od (.dT kvs)) := r3.fx _ _ (s3 _ _ e)
  have hlen : (keysD ds).length = kvs.length := by rw [keysD, List.length_map, t.length]
  refine ⟨fun d hd => ?_, fun hi => ⟨hH, by omega⟩⟩
  have hi := (List.getElem?_eq_some_iff.mp hd).1
  obtain ⟨k, v, hk, rfl⟩ := t.get1 hd
  have hok := keys_mem ok hd
  refine ⟨⟨hH, by omega⟩, fun y H4 ⟨e4, k', v', q, hk', ey, hq⟩ => ?_⟩
  subst e4 ey
  rw [hk] at hk'
  cases hk'
  obtain ⟨F4, fp4, x4, r4, hF4⟩ := r3.frzTup hq
  sorry
-/
def qLcK (i : Nat) (vs : List Nat) (g : QG) (t : QT) (p : QE) : QE := fun Γ R _ => match Γ[i]? with
  | some (.ow (.k ds)) => (∀ p ∈ ds, key1Ok p.1) ∧ ∀ a : Addr, noOw (Γ.set i (.ex a)) vs = true ∧ lcGo vs g t p (fun acc Γ2 => (backEv (Γ.set i (.ex a)) vs Γ2)[i]? = some (.ex a) ∧ R (.ow (.l acc)) ((backEv (Γ.set i (.ex a)) vs Γ2).set i (.ow (.k ds)))) (keysD ds) [] (wipEv vs (Γ.set i (.ex a)))
  | _ => False
section
variable {W : WX} {g : TG} {qg : QG} {js : List Nat} {tt : TT} {qt : QT} {te : TE} {qe : QE} {vs : List Nat}
theorem se_lcK (i : Nat) (hg : SG g qg js) (ht : ST (fun _ _ _ _ => False) tt qt) (he : SE (fun _ _ _ _ => False) te qe) (hj : ∀ j ∈ js, j ∈ vs) : SE W (tLockE (tLc (iKeys (tVar i)) g tt te vs)) (qLcK i vs qg qt qe) := fun {B F Γ σ H fp} R EX Q r q k e => by
  unfold qLcK at q
  split at q
  · rename_i ds hd
    obtain ⟨hok, q⟩ := q
    obtain ⟨v, hv, h2⟩ := r.ow i _ hd
    generalize hf : fp i = f at h2
    cases h2 with
    | @k ad kvs ds e1 t =>
      have hm : ad ∈ fp i := by rw [hf]; simp
      obtain ⟨b1, b2, b3⟩ := r.nb i ad hm
      refine ⟨ad, .dK kvs, e1, trivial, fun od => ?_⟩
      obtain ⟨ho, q⟩ := q ad
      have r1 := r.lockO (u := .frz od (.dK kvs)) hd hf hv
      have sF : Same F (upd F ad (.frz od (.dK kvs))) := fun c q e => by
        rw [upd_ne fun z => by rw [z, b2] at e; cases e]
        exact e
      have nl : notL (.dK kvs) := fun _ z => nomatch z
      show iKeys (tVar i) σ _ _
      refine ⟨.ref ad, hv, ad, od, rfl, .inl ⟨kvs, upd_same, ?_⟩⟩
      refine lc_body (Q := fun v H' => H' ad = some (.frz od (.dK kvs)) ∧ Q v (upd H' ad (.dK kvs))) r1 (it_keys upd_same (t.mono sF) hok) ho q hg ht he hj fun acc Γ2 Dl F' H' fp' x r2 rw2 hR => ?_
      have hH : H' ad = some (.frz od (.dK kvs)) := r2.fx _ _ (x.same _ _ upd_same)
      obtain ⟨x3, r3, e0⟩ := Rel.unlockO (o := .k ds) b1 b2 nl x r2 hR.1 (.k upd_same t)
      refine ⟨hH, k _ _ (.ref Dl) (rmF F' ad) _ _ x3 r3 ?_ hR.2⟩
      cases rw2 with
      | @ow o f h hfree =>
        cases h with
        | @l a xs ds2 e5 t5 =>
          obtain ⟨f1, f2, f3⟩ := hfree Dl (by simp)
          have hne : Dl ≠ ad := fun z => by rw [z, hH] at e5; cases e5
          refine .ow (f := [Dl]) (.l (by rw [upd_ne hne]; exact e5) (t5.rmZ e0 nl)) fun c hc => ?_
          have : c = Dl := by simpa using hc
          subst this
          refine ⟨f1, by rw [rmF_ne hne]; exact f2, fun j hj2 => ?_⟩
          by_cases hji : j = i
          · subst hji
            rw [putF_same] at hj2
            exact hne (by simpa using hj2)
          · rw [putF_ne hji] at hj2
            exact f3 j hj2
  · exact q.elim
end
section
variable {X : Cx} {W : WX} {pos : Pos} {tg elt : Expr} {g : BK TG} {qg : QG} {js : List Nat} {tt : BK TT} {qt : QT} {te : BK TE} {qe : QE} {ifs : List Expr} {scope : Scope} {own : List (Str × Nat)}
/-- [.. for x in NAME], an own dict -/
theorem b_lcK (i : Nat) {x : Str} {px : Pos} (hc : X.calm = true) (hN : X.N.Nodup) (ok : BlkOk X.N X.env.scope scope own)
    (hg : ∀ (s : Shared) (H : Hp) (C : Addr) (cl : List (Str × Addr)) (fp : List Addr), DG (X.blk s H scope (compEnvC scope cl C X.env) fp) tg (g s H C cl fp) qg js)
    (ht : ∀ (s : Shared) (H : Hp) (C : Addr) (cl : List (Str × Addr)) (fp : List Addr), DTs (X.blk s H scope (compEnvC scope cl C X.env) fp) W0 ifs (tt s H C cl fp) qt)
    (he : ∀ (s : Shared) (H : Hp) (C : Addr) (cl : List (Str × Addr)) (fp : List Addr), DE (X.blk s H scope (compEnvC scope cl C X.env) fp) W0 elt (te s H C cl fp) qe)
    (h1 : ∀ s H C cl fp, g s H C cl fp = bz g := by intros; rfl) (h2 : ∀ s H C cl fp, tt s H C cl fp = bz tt := by intros; rfl) (h3 : ∀ s H C cl fp, te s H C cl fp = bz te := by intros; rfl)
    (hNi : X.N[i]? = some x := by rfl) (hv : Vis X.env.scope x := by first | exact Or.inl rfl | exact Or.inr (Or.inl rfl) | exact Or.inr (Or.inr rfl)) (hd : (x == ("__debug__" : Str)) = false := by decide)
    (hcd : (x == ("__classdict__" : Str)) = false := by decide)
    (hj : (∀ j ∈ js, j ∈ own.map (·.2)) := by decide) (hs : ∀ y, foldedSetIterable (.Name x px) X.env y = pure y := by intro _; rfl) :
    DE X W (.ListComp elt [⟨tg, .Name x px, ifs, 0⟩] scope pos) (tLockE (tLc (iKeys (tVar i)) (bz g) (bz tt) (bz te) (own.map (·.2)))) (qLcK i (own.map (·.2)) qg qt qe) :=
  ⟨pe_lock (pe_lc hc hN (pi_keys (pe_var hNi hv hd hcd)) ok (fun s H C cl fp => h1 s H C cl fp ▸ (hg s H C cl fp).pg) (fun s H C cl fp => h2 s H C cl fp ▸ (ht s H C cl fp).pt) (fun s H C cl fp => h3 s H C cl fp ▸ (he s H C cl fp).pe) hs),
   se_lcK i (hg ({} : Shared) (fun _ => none) 0 [] []).sg (ht ({} : Shared) (fun _ => none) 0 [] []).st (he ({} : Shared) (fun _ => none) 0 [] []).se hj⟩
end
end PL

namespace PL
open PySem PySem.Spec PyProof.Rows L2
section
variable {X : Cx} {W : WX} {pos p : Pos} {a : Expr} {ta : TE} {pa : QE}
/-! ### min of a list of ints -/
def opMin : OP1 := fun d k => match d with
  | .list ds => (match intsOf ds with
    | some ns => 0 < ns.length ∧ ∀ m, m ∈ ns → (∀ y, y ∈ ns → m ≤ y) → k (.sh (.int m))
    | none => False)
  | _ => False
theorem us_min {K : PySem.W.Frag} : UnS (fun x H Q => rMin K [x] H Q) opMin := fun {B F Γ σ H fp x d} k Q r b z c => by
  cases b with
  | @lst a xs ds e t =>
    unfold opMin at z
    simp only at z
    split at z
    · rename_i ns hn
      have := ints_rp t hn
      subst this
      exact ⟨a, ns, rfl, .inl (.inl e), z.1, fun m h1 h2 => op_sc r (.int _) c (z.2 m h1 h2)⟩
    · exact z.elim
  | _ => exact z.elim
theorem d_min (hc : X.calm = true) (hm : X.mg "min" = none) (ha : DE X W a ta pa) (hg : Gl X "min" := by rfl) (he : starEach [a] X.env = (false, eval a X.env) :: starEach [] X.env := by rfl) (hpl : (backTo pos (starEach [] X.env)).any (·.1) = false := by rfl) :
    DE X W (.Call (.Name "min" p) [a] [] pos) (tCB (rMin X.K) (tCons ta tNil)) (qUn opMin pa) := d_bi1 (cr_min hc) us_min hm (by decide +kernel) ha hg (by decide) (by decide) he hpl
end
end PL

namespace PL
open PySem PySem.Spec PyProof.Rows L2
/-! ### a comprehension over an own list that stays own -/
def qLcO (i : Nat) (vs : List Nat) (g : QG) (t : QT) (p : QE) : QE := fun Γ R _ => match Γ[i]? with
  | some (.ow (.l ds)) => vs.contains i = false ∧ noOw Γ vs = true ∧ lcGo vs (fun w Γ' k => Γ'[i]? = some (.ow (.l ds)) ∧ g w Γ' k) t p (fun acc Γ2 => Γ2[i]? = some (.ow (.l ds)) ∧ R (.ow (.l acc)) (backEv Γ vs Γ2)) ds [] (wipEv vs Γ)
  | _ => False
section
variable {W : WX} {g : TG} {qg : QG} {js : List Nat} {tt : TT} {qt : QT} {te : TE} {qe : QE} {vs : List Nat}
theorem se_lcO {K : PySem.W.Frag} (i : Nat) (hg : SG g qg js) (ht : ST (fun _ _ _ _ => False) tt qt) (he : SE (fun _ _ _ _ => False) te qe) (hj : ∀ j ∈ js, j ∈ vs) : SE W (tLc (iList K (tVar i)) g tt te vs) (qLcO i vs qg qt qe) := fun {B F Γ σ H fp} R EX Q r q k e => by
  unfold qLcO at q
  split at q
  · rename_i ds hd
    obtain ⟨hi, ho, q⟩ := q
    obtain ⟨v, hv, h2⟩ := r.ow i _ hd
    have hv' : (wipe σ vs)[i]? = some (some v) := by rw [wipe_out (by simpa using hi)]; exact hv
    obtain ⟨ad, rfl, hsq⟩ : ∃ ad, v = .ref ad ∧ ∃ xs, SqL K H ad xs := by
      generalize fp i = f at h2
      cases h2 with
      | @l a xs ds e t => exact ⟨a, rfl, xs, .inl (.inl e)⟩
    refine ⟨.ref ad, hv, ad, rfl, hsq, ?_⟩
    intro Dl hD
    have r2 : Rel B F (wipEv vs Γ) (wipe σ vs) H fp := r.wip vs
    obtain ⟨r3, v3⟩ := new_lst r2 (.nil) hD
    refine ⟨fun n m H' => m + n = ds.length ∧ ∃ Γ' F' fp' acc, Ext B F F' ∧ Rel B F' Γ' (wipe σ vs) H' fp' ∧ OwnV B F' H' fp' (.ref Dl) (.l acc) ∧
      lcGo vs (fun w Γ' k => Γ'[i]? = some (.ow (.l ds)) ∧ qg w Γ' k) qt qe (fun acc Γ2 => Γ2[i]? = some (.ow (.l ds)) ∧ R (.ow (.l acc)) (backEv Γ vs Γ2)) (ds.drop n) acc Γ', ⟨ds.length, rfl, _, F, fp, [], .refl, r3, v3.own, q⟩, ?_⟩
    rintro n m H' ⟨hm, Γ', F', fp', acc, x, r', v', hf⟩
    have cell : ∀ {B' : Hp}, Rel B' F' Γ' (wipe σ vs) H' fp' → Γ'[i]? = some (.ow (.l ds)) → ∃ us, H' ad = some (.lst us) ∧ RpA F' us ds := fun r' hc => by
      obtain ⟨u, z1, z2⟩ := r'.ow i _ hc
      rw [hv'] at z1
      cases z1
      generalize fp' i = f at z2
      cases z2 with
      | @l a us ds e t => exact ⟨us, e, t⟩
    by_cases hlt : n < ds.length
    · rw [List.drop_eq_getElem_cons hlt] at hf
      obtain ⟨hc, hf⟩ := hf
      obtain ⟨us, hus, tus⟩ := cell r' hc
      obtain ⟨u, g1, g2⟩ := tus.get (List.getElem?_eq_getElem hlt)
      obtain ⟨B', rB, gd⟩ := r'.hold v'
      refine .inr ⟨⟨us, u, .inl (.inl hus), g1⟩, fun H2 => ∃ m', m' < m ∧ (m' + (n + 1) = ds.length ∧ ∃ Γ' F' fp' acc, Ext B F F' ∧ Rel B F' Γ' (wipe σ vs) H2 fp' ∧ OwnV B F' H2 fp' (.ref Dl) (.l acc) ∧
        lcGo vs (fun w Γ' k => Γ'[i]? = some (.ow (.l ds)) ∧ qg w Γ' k) qt qe (fun acc Γ2 => Γ2[i]? = some (.ow (.l ds)) ∧ R (.ow (.l acc)) (backEv Γ vs Γ2)) (ds.drop (n + 1)) acc Γ'), fun H2 h => h, fun y H2 hy => ?_⟩
      obtain ⟨e4, f4⟩ := hy
      subst e4
      have hy := f4 us (.inl (.inl hus))
      rw [g1] at hy
      cases hy
      refine hg _ _ rB (.sh g2) hf fun Γ3 F3 σ3 fp3 x3 r3 c3 h3 => ?_
      have hw3 : wipe σ3 vs = wipe σ vs := wipe_chg c3 hj
      refine ⟨hw3, ht _ noEX _ r3 h3 (fun b Γ4 F4 H4 fp4 x4 r4 h4 => ?_) afe_no⟩
      have x24 := x3.trans x4
      cases b with
      | true =>
        refine he _ noEX _ r4 (h4.t rfl) (fun w5 Γ5 z F5 H5 fp5 x5 r5 v5 h5 => ?_) afe_no
        obtain ⟨d6, Γ6, F6, fp6, x6, r6, b6, hsz, h6⟩ := shr_ok r5 v5 h5
        have r7 := r6.wip vs
        rw [hw3] at r7
        obtain ⟨y8, r8, v8⟩ := gd F6 _ _ H5 fp6 ((x24.trans x5).trans x6) r7
        obtain ⟨xs, e9, l9, r9, v9⟩ := own_app r8 v8 b6
        exact ⟨xs, e9, by rw [l9]; exact hsz, m - 1, by omega, by omega, _, F6, fp6, _, x.trans y8, r9, v9, h6⟩
      | false =>
        have r7 := r4.wip vs
        rw [hw3] at r7
        obtain ⟨y8, r8, v8⟩ := gd F4 _ _ H4 fp4 x24 r7
        exact ⟨m - 1, by omega, by omega, _, F4, fp4, acc, x.trans y8, r8, v8, h4.f rfl⟩
    · rw [List.drop_of_length_le (by omega)] at hf
      obtain ⟨hc, hf⟩ := hf
      obtain ⟨us, hus, tus⟩ := cell r' hc
      refine .inl ⟨⟨us, .inl (.inl hus), by rw [tus.length]; omega⟩, ?_⟩
      exact k _ _ _ F' H' fp' x (r.back ho x.same r') v'.rw hf
  · exact q.elim
end
section
variable {X : Cx} {W : WX} {pos : Pos} {tg elt : Expr} {g : BK TG} {qg : QG} {js : List Nat} {tt : BK TT} {qt : QT} {te : BK TE} {qe : QE} {ifs : List Expr} {scope : Scope} {own : List (Str × Nat)}
/-- [.. for x in NAME], an own list, which stays own -/
theorem b_lcO (i : Nat) {x : Str} {px : Pos} (hc : X.calm = true) (hN : X.N.Nodup) (ok : BlkOk X.N X.env.scope scope own)
    (hg : ∀ (s : Shared) (H : Hp) (C : Addr) (cl : List (Str × Addr)) (fp : List Addr), DG (X.blk s H scope (compEnvC scope cl C X.env) fp) tg (g s H C cl fp) qg js)
    (ht : ∀ (s : Shared) (H : Hp) (C : Addr) (cl : List (Str × Addr)) (fp : List Addr), DTs (X.blk s H scope (compEnvC scope cl C X.env) fp) W0 ifs (tt s H C cl fp) qt)
    (he : ∀ (s : Shared) (H : Hp) (C : Addr) (cl : List (Str × Addr)) (fp : List Addr), DE (X.blk s H scope (compEnvC scope cl C X.env) fp) W0 elt (te s H C cl fp) qe)
    (h1 : ∀ s H C cl fp, g s H C cl fp = bz g := by intros; rfl) (h2 : ∀ s H C cl fp, tt s H C cl fp = bz tt := by intros; rfl) (h3 : ∀ s H C cl fp, te s H C cl fp = bz te := by intros; rfl)
    (hNi : X.N[i]? = some x := by rfl) (hv : Vis X.env.scope x := by first | exact Or.inl rfl | exact Or.inr (Or.inl rfl) | exact Or.inr (Or.inr rfl)) (hd : (x == ("__debug__" : Str)) = false := by decide)
    (hcd : (x == ("__classdict__" : Str)) = false := by decide)
    (hj : (∀ j ∈ js, j ∈ own.map (·.2)) := by decide) (hs : ∀ y, foldedSetIterable (.Name x px) X.env y = pure y := by intro _; rfl) :
    DE X W (.ListComp elt [⟨tg, .Name x px, ifs, 0⟩] scope pos) (tLc (iList X.K (tVar i)) (bz g) (bz tt) (bz te) (own.map (·.2))) (qLcO i (own.map (·.2)) qg qt qe) :=
  ⟨pe_lc hc hN (pi_list (pe_var hNi hv hd hcd)) ok (fun s H C cl fp => h1 s H C cl fp ▸ (hg s H C cl fp).pg) (fun s H C cl fp => h2 s H C cl fp ▸ (ht s H C cl fp).pt) (fun s H C cl fp => h3 s H C cl fp ▸ (he s H C cl fp).pe) hs,
   se_lcO i (hg ({} : Shared) (fun _ => none) 0 [] []).sg (ht ({} : Shared) (fun _ => none) 0 [] []).st (he ({} : Shared) (fun _ => none) 0 [] []).se hj⟩
theorem bs_setLcO (i : Nat) {i2 : Nat} {x y : Str} {px py spos : Pos} (hc : X.calm = true) (hN : X.N.Nodup) (ok : BlkOk X.N X.env.scope scope own)
    (hg : ∀ (s : Shared) (H : Hp) (C : Addr) (cl : List (Str × Addr)) (fp : List Addr), DG (X.blk s H scope (compEnvC scope cl C X.env) fp) tg (g s H C cl fp) qg js)
    (ht : ∀ (s : Shared) (H : Hp) (C : Addr) (cl : List (Str × Addr)) (fp : List Addr), DTs (X.blk s H scope (compEnvC scope cl C X.env) fp) W0 ifs (tt s H C cl fp) qt)
    (he : ∀ (s : Shared) (H : Hp) (C : Addr) (cl : List (Str × Addr)) (fp : List Addr), DE (X.blk s H scope (compEnvC scope cl C X.env) fp) W0 elt (te s H C cl fp) qe)
    (hsw : swapsWith (.ListComp elt [⟨tg, .Name x px, ifs, 0⟩] scope pos) (some (.Name y py)) spos.line X.env = pure true)
    (h1 : ∀ s H C cl fp, g s H C cl fp = bz g := by intros; rfl) (h2 : ∀ s H C cl fp, tt s H C cl fp = bz tt := by intros; rfl) (h3 : ∀ s H C cl fp, te s H C cl fp = bz te := by intros; rfl)
    (hNi : X.N[i]? = some x := by rfl) (hv : Vis X.env.scope x := by first | exact Or.inl rfl | exact Or.inr (Or.inl rfl) | exact Or.inr (Or.inr rfl)) (hd : (x == ("__debug__" : Str)) = false := by decide)
    (hcd : (x == ("__classdict__" : Str)) = false := by decide) (hy : X.N[i2]? = some y := by rfl) (hyl : X.env.scope.names.lookup y = some .local := by rfl)
    (hj : (∀ j ∈ js, j ∈ own.map (·.2)) := by decide) (hs : ∀ y, foldedSetIterable (.Name x px) X.env y = pure y := by intro _; rfl) :
    DS X W (.Assign [.Name y py] (.ListComp elt [⟨tg, .Name x px, ifs, 0⟩] scope pos) spos) (tAsg (tLc (iList X.K (tVar i)) (bz g) (bz tt) (bz te) (own.map (·.2))) (gName i2)) (qAsg (qLcO i (own.map (·.2)) qg qt qe) (qgN i2)) :=
  ⟨ps_setLc hc hN hy hyl hsw (pi_list (pe_var hNi hv hd hcd)) ok (fun s H C cl fp => h1 s H C cl fp ▸ (hg s H C cl fp).pg) (fun s H C cl fp => h2 s H C cl fp ▸ (ht s H C cl fp).pt) (fun s H C cl fp => h3 s H C cl fp ▸ (he s H C cl fp).pe) hs,
   ss_asg (se_lcO i (hg ({} : Shared) (fun _ => none) 0 [] []).sg (ht ({} : Shared) (fun _ => none) 0 [] []).st (he ({} : Shared) (fun _ => none) 0 [] []).se hj) sg_name⟩
end
end PL

namespace PL
open PySem PySem.Spec PyProof.Rows L2
section
variable {X : Cx} {W : WX} {pos p : Pos} {a b e tg : Expr} {es : List Expr} {ta te : TE} {tb : TE} {pa pe : QE} {n : Nat} {x : Str} {j k : Nat}
/-! ### range(n) as a value, and walked -/
def rngD (i j : Int) : D := .dict [(.none, .tuple [.int i, .int j])]
theorem cr_range1 : CallR X (.type "range") (fun vs H Q => ∃ j, vs = [V.int j] ∧ ∀ p, H p = none → Q (.ref p) (upd H p (.rng 0 j))) := by
  intro pins s σ H vs us Q I r h
  obtain ⟨j, rfl, q⟩ := h
  obtain ⟨u1, rfl, ri⟩ := vals1 r
  obtain ⟨t, rfl⟩ := ri
  refine call_range_1 ⟨.ref s.heap.objs.size, upd H s.heap.objs.size (.rng 0 j), I.laid (t' := s.toks + 1 + 1) (fun b o e => Heap.get?_push_of_some _ e) (Nat.le_refl _) ?_, rfl, q _ (I.hok.fresh (Nat.le_refl _))⟩
  exact ⟨s.toks, t, s.toks + 1, Heap.get?_push_size _ rfl⟩
def opRgV : OP1 := fun d k => match d with
  | .int n => k (.sh (rngD 0 n))
  | _ => False
theorem us_rgV : UnS (fun x H Q => (fun vs H (Q : VK) => ∃ j, vs = [V.int j] ∧ ∀ p, H p = none → Q (.ref p) (upd H p (.rng 0 j))) [x] H Q) opRgV := fun {B F Γ σ H fp x d} k Q r b z c => by
  cases b with
  | int i =>
    refine ⟨i, rfl, fun p hp => ?_⟩
    obtain ⟨x5, r5⟩ := r.newF (o := .rng 0 i) hp
    exact c _ _ _ _ x5 r5 (.sh (.rg upd_same)) z
  | _ => exact z.elim
theorem d_rgV (hm : X.mg "range" = none) (ha : DE X W a ta pa) (hg : Gl X "range" := by rfl) (he : starEach [a] X.env = (false, eval a X.env) :: starEach [] X.env := by rfl) (hpl : (backTo pos (starEach [] X.env)).any (·.1) = false := by rfl) :
    DE X W (.Call (.Name "range" p) [a] [] pos) (tCB (fun vs H (Q : VK) => ∃ j, vs = [V.int j] ∧ ∀ p, H p = none → Q (.ref p) (upd H p (.rng 0 j))) (tCons ta tNil)) (qUn opRgV pa) := d_ty1 cr_range1 us_rgV hm (by decide +kernel) ha hg (by decide) (by decide) he hpl
def iRgV (tl : TE) : TI := fun σ H R => tl σ H fun x H1 => ∃ a i j, x = .ref a ∧ H1 a = some (.rng i j) ∧ (-(2 ^ 62) ≤ i ∧ i < 2 ^ 62 ∧ -(2 ^ 62) ≤ j ∧ j < 2 ^ 62) ∧ R (Itr i (j - i).toNat) H1
theorem pi_rgV (hl : PE X e te) : PI X tg e (iRgV te) := by
  refine ⟨fun pins s σ H R I h => thn (hl.run pins s σ H _ I h) fun v s1 ⟨x, H1, I1, r1, a, i, j, ex, hq, ⟨h1, h2, h3, h4⟩, q⟩ => ?_⟩
  subst ex
  cases r1
  obtain ⟨t, u, w, ho⟩ := I1.hok a _ hq
  refine wpAny_pyIter_range (show IsRange s1.heap a i j 1 t u w from ho) (small_one h1 h2 h3 h4) ?_
  refine ⟨s1.heap.objs.size, [s1.heap.objs.size], _, _, H1, rfl, I1.kept (t' := s1.toks) fun b o eb => Heap.get?_push_of_some _ eb, turn_range _ i (j - i).toNat, ?_, fun b hb => ?_, q⟩
  · have e1 : i + ((0 : Nat) : Int) * 1 = i := by simp
    have e2 : (((j - i).toNat : Nat) : Int) - ((0 : Nat) : Int) = Builtin.Range.rangeSize i j 1 := by rw [rangeSize_one]; split <;> omega
    show IsRangeIter _ _ (i + ((0 : Nat) : Int) * 1) ((((j - i).toNat : Nat) : Int) - ((0 : Nat) : Int)) 1
    rw [e1, e2]
    exact Heap.get?_push_size _ rfl
  · have eb : b = s1.heap.objs.size := by simpa using hb
    subst eb
    exact I1.fpOk (Nat.le_refl _) (I1.hok.fresh (Nat.le_refl _))
def qiRgV (p : QE) : QI := fun Γ R E => p Γ (fun w Γ1 => shr w Γ1 fun d Γ2 => match d with
  | .dict [(.none, .tuple [.int i, .int j])] => (-(2 ^ 62) ≤ i ∧ i < 2 ^ 62 ∧ -(2 ^ 62) ≤ j ∧ j < 2 ^ 62) ∧ R ((List.range (j - i).toNat).map fun (k : Nat) => .int (i + (k : Int))) Γ2
  | _ => False) E
theorem RpK.keys {F : Hp} : ∀ {kvs : List (Key × V)} {ds : List (D × D)}, RpK F kvs ds → ∀ p ∈ ds, ∃ k : Key, p.1 = keyD k
  | _, _, .nil, p, h => by simp at h
  | _, _, .cons (k := k) _ r, p, h => by
    rcases List.mem_cons.mp h with q | q
    · exact ⟨k, by rw [q]⟩
    · exact r.keys p q
theorem RpT.keys {F : Hp} : ∀ {kvs : List (List Key × V)} {ds : List (D × D)}, RpT F kvs ds → ∀ p ∈ ds, ∃ k : List Key, p.1 = .tuple (k.map keyD)
  | _, _, .nil, p, h => by simp at h
  | _, _, .cons (k := k) _ r, p, h => by
    rcases List.mem_cons.mp h with q | q
    · exact ⟨k, by rw [q]⟩
    · exact r.keys p q
theorem Rp.rgOf {F : Hp} {v : V} {i j : Int} (h : Rp F v (.dict [(.none, .tuple [.int i, .int j])])) : ∃ a, v = .ref a ∧ F a = some (.rng i j) := by
  generalize hd : PyData.dict [(.none, .tuple [.int i, .int j])] = d at h
  cases h with
  | rg e =>
    cases hd
    exact ⟨_, rfl, e⟩
  | dk e t =>
    cases hd
    obtain ⟨k, hk⟩ := t.keys _ List.mem_cons_self
    cases k <;> cases hk
  | dt e t =>
    cases hd
    obtain ⟨k, hk⟩ := t.keys _ List.mem_cons_self
    cases hk
  | _ => cases hd
theorem di_rgV (h : DE X W e te pe) : DI X W tg e (iRgV te) (qiRgV pe) := ⟨pi_rgV h.pe, fun {B F Γ σ H fp} R EX Q r q k a => by
  refine h.se _ _ _ r q (fun w Γ1 v F1 H1 fp1 x1 r1 v1 h1 => ?_) a
  obtain ⟨d, Γ2, F2, fp2, x2, r2, b2, h2⟩ := shr_ok r1 v1 h1
  split at h2
  · rename_i i j
    obtain ⟨aa, rfl, e2⟩ := b2.rgOf
    exact ⟨aa, i, j, rfl, r2.fx _ _ e2, h2.1, k _ Γ2 _ F2 H1 fp2 (x1.trans x2) r2 (it_range i _ _ fun i => rfl) h2.2⟩
  · exact h2.elim⟩
/-! ### dict(pairs) -/
def pairsOf : List D → Option (List (D × D))
  | [] => some []
  | .tuple [k, v] :: r => if keyK k = true then (pairsOf r).map ((k, v) :: ·) else none
  | _ => none
def mergeD (acc more : List (D × D)) : List (D × D) := more.foldl (fun acc p => putD acc p.1 p.2) acc
theorem RpK.merge {F : Hp} : ∀ {more : List (Key × V)} {ps : List (D × D)} {acc : List (Key × V)} {ds : List (D × D)}, RpK F more ps → RpK F acc ds → RpK F (mergeK acc more) (mergeD ds ps)
  | _, _, _, _, .nil, h => h
  | _, _, acc, ds, .cons (r := m) (ds := ps) hv r, h => RpK.merge (more := m) (ps := ps) (acc := putK acc _ _) (ds := putD ds _ _) r (h.put hv)
theorem pairs_rp {K : PySem.W.Frag} {F H : Hp} (s : Same F H) : ∀ {xs : List V} {ds : List D} {ps : List (D × D)}, RpA F xs ds → pairsOf ds = some ps →
    ∃ (as : List Addr) (kvs : List (Key × V)), xs = as.map V.ref ∧ Paired (fun p kv => SqT K H p [kV kv.1, kv.2]) as kvs ∧ RpK F kvs ps
  | _, _, _, .nil, e => by
    cases e
    exact ⟨[], [], rfl, .nil, .nil⟩
  | _, _, ps, .cons (v := v) (d := d) (ds := ds) h r, e => by
    unfold pairsOf at e
    split at e
    · rename_i q; cases q
    · rename_i k w r' q
      cases q
      split at e
      · rename_i hk
        cases z : pairsOf ds with
        | none =>
          rw [z] at e
          cases e
        | some qs =>
          rw [z] at e
          cases e
          obtain ⟨as, kvs, e1, e2, e3⟩ := pairs_rp s r z
          cases h with
          | @tup a ys _ ea t =>
            cases t with
            | cons hk' t =>
              cases t with
              | cons hv' t =>
                cases t
                obtain ⟨kk, rfl, rfl⟩ := hk'.keyK hk
                exact ⟨a :: as, (kk, _) :: kvs, by rw [e1]; rfl, .cons (.inl (.inl (s _ _ ea))) e2, .cons hv' e3⟩
      · cases e
    · cases e
abbrev rDictP (K : PySem.W.Frag) : List V → Hp → VK → Prop := fun xs H Q => ∃ (a : Addr) (ps : List Addr) (kvs : List (Key × V)), xs = [.ref a] ∧ SqL K H a (ps.map V.ref) ∧ Paired (fun p kv => SqT K H p [kV kv.1, kv.2]) ps kvs ∧ ∀ p, H p = none → Q (.ref p) (upd H p (.dK (mergeK [] kvs)))
def opDictP : OP1 := fun d k => match d with
  | .list ds => (match pairsOf ds with
    | some ps => k (.ow (.k (mergeD [] ps)))
    | none => False)
  | _ => False
theorem us_dictP {K : PySem.W.Frag} : UnS (fun x H Q => rDictP K [x] H Q) opDictP := fun {B F Γ σ H fp x d} k Q r b z c => by
  cases b with
  | @lst a xs ds e t =>
    unfold opDictP at z
    simp only at z
    split at z
    · rename_i ps hps
      obtain ⟨as, kvs, rfl, hp, hr⟩ := pairs_rp (K := K) r.fx t hps
      refine ⟨a, as, kvs, rfl, .inl (.inl e), hp, fun p hpn => ?_⟩
      refine c _ _ F _ .refl (r.new hpn) (.ow (.k upd_same (RpK.merge hr .nil)) fun q hq => ?_) z
      simp only [List.mem_singleton] at hq
      subst hq
      exact free_of r hpn
    · exact z.elim
  | _ => exact z.elim
theorem d_dictP (hc : X.calm = true) (hm : X.mg "dict" = none) (ha : DE X W a ta pa) (hg : Gl X "dict" := by rfl) (he : starEach [a] X.env = (false, eval a X.env) :: starEach [] X.env := by rfl) (hpl : (backTo pos (starEach [] X.env)).any (·.1) = false := by rfl) :
    DE X W (.Call (.Name "dict" p) [a] [] pos) (tCB (rDictP X.K) (tCons ta tNil)) (qUn opDictP pa) := d_ty1 (call_dictP hc) us_dictP hm (by decide +kernel) ha hg (by decide) (by decide) he hpl
/-! ### sorted, of texts -/
def opSortS : OP1 := fun d k => match d with
  | .list ds => (match strsOf ds with
    | some ss => ss.length < 64 ∧ ∀ ts : List Str, ts.Perm ss → sortedS ts = true → k (.ow (.l (ts.map .str)))
    | none => False)
  | _ => False
theorem us_sortS {K : PySem.W.Frag} : UnS (fun x H Q => rSortedS K [x] H Q) opSortS := fun {B F Γ σ H fp x d} k Q r b z c => by
  cases b with
  | @lst a xs ds e t =>
    unfold opSortS at z
    simp only at z
    split at z
    · rename_i ss hss
      obtain ⟨rfl, hok⟩ := strs_rp t hss
      refine ⟨a, ss, rfl, .inl (.inl e), z.1, fun ts p h1 h2 hp => ?_⟩
      obtain ⟨r5, v5⟩ := new_lst r (rpa_strs ts fun y hy => hok y (h1.mem_iff.mp hy)) hp
      exact c _ _ F _ .refl r5 v5 (z.2 ts h1 h2)
    · exact z.elim
  | _ => exact z.elim
theorem d_sortS (hm : X.mg "sorted" = none) (ha : DE X W a ta pa) (hg : Gl X "sorted" := by rfl) (he : starEach [a] X.env = (false, eval a X.env) :: starEach [] X.env := by rfl) (hpl : (backTo pos (starEach [] X.env)).any (·.1) = false := by rfl) :
    DE X W (.Call (.Name "sorted" p) [a] [] pos) (tCB (rSortedS X.K) (tCons ta tNil)) (qUn opSortS pa) := d_bi1 cr_sortedS us_sortS hm (by decide +kernel) ha hg (by decide) (by decide) he hpl
/-! ### xs += ys, xs an own list -/
def qAugL (i : Nat) (pe : QE) : QS := fun P Γ => isOwL Γ[i]? = true ∧ pe Γ (fun w Γ1 => bor w Γ1 fun d => match d with
  | .list zs => (match Γ1[i]? with
    | some (.ow (.l ds)) => ds.length + zs.length ≤ sizeLine ∧ P.nx (Γ1.set i (.ow (.l (ds ++ zs))))
    | _ => False)
  | _ => False) P.ex
theorem ds_augL {i : Nat} {x : Str} {pos' : Pos} (hN : X.N.Nodup) (he : DE X W e te pe) (hi : X.N[i]? = some x := by rfl) (hx : Loc X.env.scope x := by first | exact Or.inl rfl | exact Or.inr rfl)
    (hf : X.fn x = true ∨ X.env.scope.names.lookup x = some .local := by first | exact .inl rfl | exact .inr rfl | assumption) : DS X W (.AugAssign (.Name x pos') .Add e pos) (tAug i te rExt2) (qAugL i pe) :=
  ⟨ps_aug hN hi hx he.pe (fun pins s σ H x y v u Q I rx ry h => iop_ext pins s σ H x y v u Q I rx ry h) hf, fun {B F Γ σ H fp} P D rr q a => by
  obtain ⟨hq, q⟩ := q
  obtain ⟨ds0, e0⟩ : ∃ ds, Γ[i]? = some (.ow (.l ds)) := by
    unfold isOwL at hq
    split at hq
    · rename_i ds e
      exact ⟨ds, e⟩
    · cases hq
  obtain ⟨v, h1, _⟩ := rr.ow i _ e0
  refine ⟨v, h1, he.se _ _ _ rr q (fun w2 Γ1 y F1 H1 fp1 x1 r1 v1 h3 => ?_) a.afe⟩
  obtain ⟨d2, b2, z⟩ := bor_rb r1 v1 h3
  cases b2 with
  | @lst bb zs ds2 eb tb =>
    simp only at z
    split at z
    · rename_i ds hd
      obtain ⟨u, z1, z2⟩ := r1.ow i _ hd
      rw [h1] at z1
      cases z1
      generalize hf1 : fp1 i = f at z2
      cases z2 with
      | @l aa xs ds e5 t5 =>
        obtain ⟨a', xs', ea, e6, t6, r6⟩ := r1.mutL hd h1 (t5.append tb)
        cases ea
        refine ⟨aa, bb, xs, zs, rfl, rfl, e5, eb, by rw [t5.length, tb.length]; exact z.1, ?_⟩
        have es : σ.set i (some (V.ref aa)) = σ := by
          apply List.ext_getElem?
          intro m
          by_cases hm : i = m
          · subst hm
            rw [h1, List.getElem?_set_self (List.getElem?_eq_some_iff.mp h1).1]
          · rw [List.getElem?_set_ne hm]
        show D.nx (σ.set i (some (V.ref aa))) _
        rw [es]
        exact a.nx _ _ _ _ _ x1 r6 z.2
    · exact z.elim
  | _ => exact z.elim⟩
/-! ### an atom of own deep data -/
def qIxP (i : Nat) (g : D → Option D) : QE := fun Γ R _ => match Γ[i]? with
  | some (.ow (.dp d)) => (match g d with
    | some d' => atomD d' = true ∧ R (.sh d') Γ
    | none => False)
  | _ => False
theorem d_ixP {i : Nat} {o : Expr} {to : TE} {g : D → Option D} (hp : DPath X i o to g) : DE X W o to (qIxP i g) := ⟨hp.pe, fun {B F Γ σ H fp} R EX Q r q k e => by
  unfold qIxP at q
  split at q
  · rename_i d hd
    obtain ⟨v, h1, h2⟩ := r.ow i _ hd
    split at q
    · rename_i d' hg
      generalize hf : fp i = f at h2
      cases h2 with
      | dp h _ =>
        have s : Same (frz (tups F) H f) H := fun a o q => by
          unfold frz at q
          split at q
          · exact q
          · exact r.fx a o (tups_sub a o q)
        exact hp.run h1 h s hg fun u hu => k _ Γ _ F H fp .refl r (.sh (atom_rp hu q.1)) q.2
    · exact q.elim
  · exact q.elim⟩
end
end PL

/-! ### {k: v for .. in .. if .. for .. in .. if ..}: the model's two loops -/
namespace L2
open PySem PySem.Spec PyProof.Rows
section
variable {ky vy u0 j0 u1 j1 : Expr} {fs0 fs1 : List Expr} {sc : Scope} {ps : Pos}
/-- the expression -/
abbrev dcE (ky vy u0 j0 u1 j1 : Expr) (fs0 fs1 : List Expr) (sc : Scope) (ps : Pos) : Expr := .DictComp ky vy [⟨u0, j0, fs0, 0⟩, ⟨u1, j1, fs1, 0⟩] sc ps
theorem dcTurn_a (it : Value) (Da : Addr) (en : Env) :
    compTurn (dcE ky vy u0 j0 u1 j1 fs0 fs1 sc ps) 0 it (.ref Da) en = (do
      standAt j0.pos
      match ← pyNext it with
      | none => pure (.done .next)
      | some y =>
        letOwnedTupleGo u0 it y
        assign u0 en y
        let mut good := true
        for f in fs0 do
          if good then good ← isTrue f en (eval f en)
        if good then
          let z ← eval j1 en
          standAt j1.pos
          let z ← foldedSetIterable j1 en z
          let _ ← runOwn (.compStart (dcE ky vy u0 j0 u1 j1 fs0 fs1 sc ps) 1 (← holding [z] (pyIter z)) (.ref Da) en) en
        again (.compLoop (dcE ky vy u0 j0 u1 j1 fs0 fs1 sc ps) 0 it (.ref Da) en)) := by rfl
theorem dcTurn_b (it : Value) (Da : Addr) (en : Env) :
    compTurn (dcE ky vy u0 j0 u1 j1 fs0 fs1 sc ps) 1 it (.ref Da) en = (do
      standAt j1.pos
      match ← pyNext it with
      | none => pure (.done .next)
      | some y =>
        letOwnedTupleGo u1 it y
        assign u1 en y
        let mut good := true
        for f in fs1 do
          if good then good ← isTrue f en (eval f en)
        if good then
          (do
            let kk ← eval ky en
            let vv ← holding [kk] (eval vy en)
            standAt { ky.pos with endLine := vy.pos.endLine, endCol := vy.pos.endCol }
            holding [kk, vv] (dictSet Da kk vv))
        again (.compLoop (dcE ky vy u0 j0 u1 j1 fs0 fs1 sc ps) 1 it (.ref Da) en)) := by rfl
end
section
variable {prog : Program} {w : World} {A : Around} {R : Result → Shared → Prop} {s : Shared} {ky vy u0 j0 u1 j1 : Expr} {fs0 fs1 : List Expr} {sc : Scope} {ps : Pos} {it : Value} {Da : Addr} {en : Env}
theorem dcLoop_a (hs : ∀ x, foldedSetIterable j1 en x = pure x) (J : Nat → Shared → Prop)
    (turn : ∀ n s, J n s → wpAny (model prog w) A (pyNext it) (fun r s₇ => match r with
      | none => R (.ok .next) s₇
      | some v => wpAny (model prog w) A (letOwnedTupleGo u0 it v) (fun _ s₇' => wpAny (model prog w) A (assign u0 en v) (fun _ s₈ =>
          wpAny (model prog w) A (forIn fs0 true fun c r => if r = true then do let ok ← isTrue c en (eval c en); pure (ForInStep.yield ok) else pure (ForInStep.yield r)) (fun ok s₉ =>
            if ok = true then wpAny (model prog w) A (eval j1 en) (fun x s₄ => wpAny (model prog w) A (pyIter x) (fun it1 s₅ =>
              codeAny (model prog w) A (.compStart (dcE ky vy u0 j0 u1 j1 fs0 fs1 sc ps) 1 it1 (.ref Da) en) (fun r s' => match r with
                | .ok _ => ∃ m, m < n ∧ J m s'
                | .error _ => False) s₅) (notedBy (model prog w) A en fun e s' => R (.error e) s') s₄) (notedBy (model prog w) A en fun e s' => R (.error e) s') s₉
            else ∃ m, m < n ∧ J m s₉) (notedBy (model prog w) A en fun e s' => R (.error e) s') s₈) (notedBy (model prog w) A en fun e s' => R (.error e) s') s₇') (notedBy (model prog w) A en fun e s' => R (.error e) s') s₇) (notedBy (model prog w) A en fun e s' => R (.error e) s') s)
    (n : Nat) (h : J n s) :
    codeAny (model prog w) A (.compLoop (dcE ky vy u0 j0 u1 j1 fs0 fs1 sc ps) 0 it (.ref Da) en) R s := by
  refine codeAny_loop rfl J (fun n s hJ => ?_) n h
  show wpAny _ A ((compTurn (dcE ky vy u0 j0 u1 j1 fs0 fs1 sc ps) 0 it (.ref Da) en).onRaise (fun x => do noteFrame x en; theTreesLotGoes x)) _ _ s
  refine wpAny_noted ?_
  rw [dcTurn_a]
  refine wpAny_bind (wpAny_standAt (wpAny_bind (wpAny_mono (turn n s hJ) (fun r s₇ h₇ => ?_) fun _ _ g' => g')))
  cases r with
  | none => exact wpAny_pure h₇
  | some v =>
    refine wpAny_bind (wpAny_mono h₇ (fun _ s₇' h₇' => ?_) fun _ _ g' => g')
    refine wpAny_bind (wpAny_mono h₇' (fun _ s₈ h₈ => wpAny_bind (wpAny_mono h₈ (fun ok s₉ h₉ => ?_) fun _ _ g' => g')) fun _ _ g' => g')
    cases ok with
    | false => exact wpAny_pure ⟨rfl, h₉⟩
    | true =>
      refine wpAny_bind (wpAny_mono h₉ (fun x s₄ h₄ => ?_) fun _ _ g' => g')
      refine wpAny_bind (wpAny_standAt (wpAny_bind (wpAny_of_eq (hs x) (wpAny_bind (wpAny_holding (wpAny_mono h₄ (fun it1 s₅ h₅ => ?_) fun _ _ g' => g'))))))
      refine wpAny_bind (wpAny_runOwn ?_)
      rw [Around.mark_none]
      refine codeAny_mono h₅ fun r s' hr => ?_
      cases r with
      | ok f =>
        first
          | exact wpAny_pure ⟨rfl, hr⟩
          | exact wpAny_bind (wpAny_pure (wpAny_pure ⟨rfl, hr⟩))
      | error e => exact hr.elim
theorem dcLoop_b (J : Nat → Shared → Prop)
    (turn : ∀ n s, J n s → wpAny (model prog w) A (pyNext it) (fun r s₇ => match r with
      | none => R (.ok .next) s₇
      | some v => wpAny (model prog w) A (letOwnedTupleGo u1 it v) (fun _ s₇' => wpAny (model prog w) A (assign u1 en v) (fun _ s₈ =>
          wpAny (model prog w) A (forIn fs1 true fun c r => if r = true then do let ok ← isTrue c en (eval c en); pure (ForInStep.yield ok) else pure (ForInStep.yield r)) (fun ok s₉ =>
            if ok = true then wpAny (model prog w) A (eval ky en) (fun kk s₄ => wpAny (model prog w) A (eval vy en) (fun vv s₅ =>
              wpAny (model prog w) A (dictSet Da kk vv) (fun _ s₆ => ∃ m, m < n ∧ J m s₆) (notedBy (model prog w) A en fun e s' => R (.error e) s') s₅) (notedBy (model prog w) A en fun e s' => R (.error e) s') s₄) (notedBy (model prog w) A en fun e s' => R (.error e) s') s₉
            else ∃ m, m < n ∧ J m s₉) (notedBy (model prog w) A en fun e s' => R (.error e) s') s₈) (notedBy (model prog w) A en fun e s' => R (.error e) s') s₇') (notedBy (model prog w) A en fun e s' => R (.error e) s') s₇) (notedBy (model prog w) A en fun e s' => R (.error e) s') s)
    (n : Nat) (h : J n s) :
    codeAny (model prog w) A (.compLoop (dcE ky vy u0 j0 u1 j1 fs0 fs1 sc ps) 1 it (.ref Da) en) R s := by
  refine codeAny_loop rfl J (fun n s hJ => ?_) n h
  show wpAny _ A ((compTurn (dcE ky vy u0 j0 u1 j1 fs0 fs1 sc ps) 1 it (.ref Da) en).onRaise (fun x => do noteFrame x en; theTreesLotGoes x)) _ _ s
  refine wpAny_noted ?_
  rw [dcTurn_b]
  refine wpAny_bind (wpAny_standAt (wpAny_bind (wpAny_mono (turn n s hJ) (fun r s₇ h₇ => ?_) fun _ _ g' => g')))
  cases r with
  | none => exact wpAny_pure h₇
  | some v =>
    refine wpAny_bind (wpAny_mono h₇ (fun _ s₇' h₇' => ?_) fun _ _ g' => g')
    refine wpAny_bind (wpAny_mono h₇' (fun _ s₈ h₈ => wpAny_bind (wpAny_mono h₈ (fun ok s₉ h₉ => ?_) fun _ _ g' => g')) fun _ _ g' => g')
    cases ok with
    | false => exact wpAny_pure ⟨rfl, h₉⟩
    | true =>
      exact wpAny_bind (wpAny_bind (wpAny_mono h₉ (fun kk s₄ h₄ => wpAny_bind (wpAny_holding (wpAny_mono h₄ (fun vv s₅ h₅ => wpAny_bind (wpAny_standAt (wpAny_holding (wpAny_mono h₅ (fun _ s₆ h₆ => wpAny_pure ⟨rfl, h₆⟩) fun _ _ g' => g')))) fun _ _ g' => g'))) fun _ _ g' => g'))
theorem dcStart_b (h0 : codeAny (model prog w) A (.compLoop (dcE ky vy u0 j0 u1 j1 fs0 fs1 sc ps) 1 it (.ref Da) en) R s)
    (h : wpAny (model prog w) A (pyIter it) (fun it' s' => codeAny (model prog w) A (.compLoop (dcE ky vy u0 j0 u1 j1 fs0 fs1 sc ps) 1 it' (.ref Da) en) R s')
      (notedBy (model prog w) A en fun x s' => R (.error x) s') s) :
    codeAny (model prog w) A (.compStart (dcE ky vy u0 j0 u1 j1 fs0 fs1 sc ps) 1 it (.ref Da) en) R s := by
  refine codeAny_of_tree ?_
  show wpAny _ _ ((compStart (dcE ky vy u0 j0 u1 j1 fs0 fs1 sc ps) 1 it (.ref Da) en).onRaise (fun x => do noteFrame x en; standAt theWindowsPlace)) _ _ s
  refine wpAny_notedAt ?_
  unfold compStart
  show wpAny _ _ (ask >>= _) _ _ s
  refine wpAny_bind (wpAny_askSetting (wpAny_ite ?_))
  split
  · first
      | exact wpAny_bind (wpAny_pure (wpAny_pure (And.intro rfl h0)))
      | exact wpAny_pure (And.intro rfl h0)
  · first
      | exact wpAny_bind (wpAny_rule (wpAny_bind (wpAny_standAt (wpAny_bind (wpAny_mono h (fun it' s' g' => wpAny_pure (And.intro rfl g')) fun _ _ x => x)))))
      | (refine wpAny_bind (wpAny_rule ?_); show wpAny _ _ (standAt j1.pos >>= _) _ _ s; exact wpAny_bind (wpAny_standAt (wpAny_bind (wpAny_mono h (fun it' s' g' => wpAny_pure (And.intro rfl g')) fun _ _ x => x))))
end
section
variable {X : Cx}
/-- the block of two clauses: the second source is walked behind the first one's store and tests -/
def tDc2 (b : Bool) (wi : TI) (g : TG) (tt : TT) (wi1 : TI) (g1 : TG) (tt1 : TT) (tk tv : TE) (vs vs1 : List Nat) : TE := fun σ H Q => wi σ H fun J H1 => ∀ D, H1 D = none → ∃ W : Nat → Nat → Hp → Prop, (∃ m, W 0 m (upd H1 D (PL.dic0 b))) ∧ ∀ i m H, W i m H →
  (J.stop i H ∧ Q (.ref D) H) ∨ (J.go i H ∧ ∃ Nx : Hp → Prop, (∀ H', Nx H' → ∃ m', m' < m ∧ W (i + 1) m' H') ∧ ∀ x H', J.yld i H x H' → g x (wipe σ vs) H' fun σ2 H2 => wipe σ2 vs = wipe σ vs ∧ tt σ2 H2 fun c H3 =>
    if c = true then wi1 σ2 H3 fun J1 H4 => ∃ W1 : Nat → Nat → Hp → Prop, (∃ m, W1 0 m H4) ∧ ∀ j k H, W1 j k H →
      (J1.stop j H ∧ Nx H) ∨ (J1.go j H ∧ ∃ Nx1 : Hp → Prop, (∀ H', Nx1 H' → ∃ k', k' < k ∧ W1 (j + 1) k' H') ∧ ∀ x H', J1.yld j H x H' → g1 x (wipe σ2 vs1) H' fun σ3 H5 => wipe σ3 vs1 = wipe σ2 vs1 ∧ tt1 σ3 H5 fun c H6 =>
        if c = true then tk σ3 H6 fun y H7 => tv σ3 H7 fun z H8 => ∃ H9, DPut H8 D y z H9 ∧ Nx1 H9 else Nx1 H6)
    else Nx H3)
open PL in
theorem dc2_core {pins : List (Addr × Obj)} {s : Shared} {σ : St} {H : Hp} {Q : VK} {kd : Bool} {kx vx tg iter tg1 iter1 : Expr} {ifs ifs1 : List Expr} {scope : Scope} {own : List (Str × Nat)} {vs1 : List Nat} {pos pos' : Pos} {wi wi1 : TI} {g g1 : TG} {tt tt1 : TT} {tk tv : TE} {use : Option (Value → Sem Unit)} {Qf : Value → Shared → Prop}
    (hu : X.A.units + 1 < cLine) (hc : X.calm = true) (hN : X.N.Nodup) (I : Inv X pins σ H s) (hi : PI X tg iter wi) (ok : BlkOk X.N X.env.scope scope own) (hv : ∀ i ∈ vs1, i ∈ own.map (·.2))
    (hg : ∀ (s : Shared) (H : Hp) (C : Addr) (cl : List (Str × Addr)) (fp : List Addr), PG (X.blk s H scope (compEnvC scope cl C X.env) fp) tg g) (ht : ∀ (s : Shared) (H : Hp) (C : Addr) (cl : List (Str × Addr)) (fp : List Addr), PTs (X.blk s H scope (compEnvC scope cl C X.env) fp) ifs tt)
    (hk : ∀ (s : Shared) (H : Hp) (C : Addr) (cl : List (Str × Addr)) (fp : List Addr), PE (X.blk s H scope (compEnvC scope cl C X.env) fp) kx tk)
    (hw : ∀ (s : Shared) (H : Hp) (C : Addr) (cl : List (Str × Addr)) (fp : List Addr), PE (X.blk s H scope (compEnvC scope cl C X.env) fp) vx tv) (hs : ∀ x, foldedSetIterable iter X.env x = pure x)
    (hi1 : ∀ (s : Shared) (H : Hp) (C : Addr) (cl : List (Str × Addr)) (fp : List Addr), PI (X.blk s H scope (compEnvC scope cl C X.env) fp) tg1 iter1 wi1)
    (hg1 : ∀ (s : Shared) (H : Hp) (C : Addr) (cl : List (Str × Addr)) (fp : List Addr), PG (X.blk s H scope (compEnvC scope cl C X.env) fp) tg1 g1)
    (ht1 : ∀ (s : Shared) (H : Hp) (C : Addr) (cl : List (Str × Addr)) (fp : List Addr), PTs (X.blk s H scope (compEnvC scope cl C X.env) fp) ifs1 tt1)
    (hs1 : ∀ env x, foldedSetIterable iter1 env x = pure x)
    (h : tDc2 kd wi g tt wi1 g1 tt1 tk tv (own.map (·.2)) vs1 σ H Q)
    (hR0 : ∀ D C s' m H', Inv X pins σ H' s' → Q (.ref D) H' → s'.heap.Ns C m → FpOk X pins H' C → compPost (model X.prog X.w) X.A X.xe use Qf (.ref D) C (.ok .next) s') :
    wpAny (model X.prog X.w) X.A (comprehension (dcE kx vx tg iter tg1 iter1 ifs ifs1 scope pos) scope X.env pos' newDict false (eval iter X.env) use) Qf X.xe s := by
  have frees : ∀ y ∈ scope.names, y.2 = .free → ∃ c, X.env.cells.lookup y.1 = some c := fun y hy e => by
    rcases ok.free y hy e with k | k
    · exact I.ok.has _ (.inl k)
    · exact I.ok.has _ (.inr k)
  refine wpAny_comprehension_free (use := use) rfl hs (closure_ok frees) ok.kind (fun y hy e => by rw [ok.uniq y hy, e])
    (thn (hi.run pins s σ H _ I h) fun xv s1 hx => thn hx fun itv s2 h2 => ?_)
  obtain ⟨it, fp, tn, J, H2, e, I2, T, st2, f2, q⟩ := h2
  cases e
  refine wpAny_newObj_type (newEnv_comp ?_)
  generalize hD : s2.heap.objs.size = D
  have nDa : H2 D = none := I2.hok.fresh (Nat.le_of_eq hD)
  obtain ⟨W, ⟨m0, w0⟩, trnA⟩ := q D nDa
  generalize hs3 : ({ s2 with heap := s2.heap.push { cls := .type "dict", data := .dict #[] } } : Shared) = s3
  have I3 : Inv X pins σ (upd H2 D (dic0 kd)) s3 := by
    rw [← hs3]
    exact hD ▸ I2.laid (t' := s2.toks) (fun _ _ eq => Heap.get?_push_of_some _ eq) (Nat.le_refl _) (dic0_ok kd I2.big)
  have h3 : s3.heap = s2.heap.push { cls := .type "dict", data := .dict #[] } := by rw [← hs3]
  have szz : ∀ b ∈ fp, b < s2.heap.objs.size := fun b hb => by
    obtain ⟨o, e, _⟩ := T.obj _ _ st2 b hb
    exact Heap.lt_size e
  have ff3 : ∀ b ∈ fp, FpOk X pins (upd H2 D (dic0 kd)) b ∧ b < s3.heap.objs.size := fun b hb => by
    have hlt := szz b hb
    refine ⟨⟨?_, (f2 b hb).2⟩, by rw [h3, Heap.size_push]; exact Nat.lt_succ_of_lt hlt⟩
    rw [upd_ne (by rw [← hD]; exact Nat.ne_of_lt hlt)]
    exact (f2 b hb).1
  have su3 : tn 0 s3.heap := T.keep _ _ _ st2 fun b _ o e => by rw [h3]; exact Heap.get?_push_of_some _ e
  have I4 := block_start I3 ok hN ff3
  have pg := hg s3 (upd H2 D (dic0 kd)) s3.heap.objs.size (cellsFrom (s3.heap.objs.size + 1) scope.names (cloFrom X.env.cells scope.names [])) fp
  have pt := ht s3 (upd H2 D (dic0 kd)) s3.heap.objs.size (cellsFrom (s3.heap.objs.size + 1) scope.names (cloFrom X.env.cells scope.names [])) fp
  have pe := hw s3 (upd H2 D (dic0 kd)) s3.heap.objs.size (cellsFrom (s3.heap.objs.size + 1) scope.names (cloFrom X.env.cells scope.names [])) fp
  have pk := hk s3 (upd H2 D (dic0 kd)) s3.heap.objs.size (cellsFrom (s3.heap.objs.size + 1) scope.names (cloFrom X.env.cells scope.names [])) fp
  have pi1 := hi1 s3 (upd H2 D (dic0 kd)) s3.heap.objs.size (cellsFrom (s3.heap.objs.size + 1) scope.names (cloFrom X.env.cells scope.names [])) fp
  have pg1 := hg1 s3 (upd H2 D (dic0 kd)) s3.heap.objs.size (cellsFrom (s3.heap.objs.size + 1) scope.names (cloFrom X.env.cells scope.names [])) fp
  have pt1 := ht1 s3 (upd H2 D (dic0 kd)) s3.heap.objs.size (cellsFrom (s3.heap.objs.size + 1) scope.names (cloFrom X.env.cells scope.names [])) fp
  show codeAny _ _ (.compStart (dcE kx vx tg iter tg1 iter1 ifs ifs1 scope pos) 0 (.ref it) (.ref D) (compEnvC scope (cellsFrom (s3.heap.objs.size + 1) scope.names (cloFrom X.env.cells scope.names [])) s3.heap.objs.size X.env)) (compPost (model X.prog X.w) X.A X.xe use Qf (.ref D) s3.heap.objs.size) { s3 with heap := pushCells (s3.heap.push { cls := .type "dict", data := .dict #[] }) scope.names }
  have nfp : ∀ b ∈ fp, (upd H2 D (dic0 kd)) b = none := fun b hb => (ff3 b hb).1.1
  generalize hce : compEnvC scope (cellsFrom (s3.heap.objs.size + 1) scope.names (cloFrom X.env.cells scope.names [])) s3.heap.objs.size X.env = ce at I4 pg pt pk pe pi1 pg1 pt1 ⊢
  have cL : ce.locals = s3.heap.objs.size := by subst hce; rfl
  generalize hH3 : upd H2 D (dic0 kd) = H3 at I3 I4 pg pt pk pe pi1 pg1 pt1 w0 nfp ff3
  generalize hs4 : ({ s3 with heap := pushCells (s3.heap.push { cls := .type "dict", data := .dict #[] }) scope.names } : Shared) = s4 at I4 ⊢
  have su4 : tn 0 s4.heap := T.keep _ _ _ su3 fun b _ o e => by rw [← hs4]; exact pushCells_keeps _ _ _ _ (Heap.get?_push_of_some _ e)
  have sta0 : ∀ {σ' : St} {H' : Hp} {s' : Shared}, Inv (X.blk s3 H3 scope ce fp) [] σ' H' s' → (∀ b ∈ fp, H' b = none) → ∀ b ∈ fp, FpOk (X.blk s3 H3 scope ce fp) [] H' b := fun {σ' H' s'} I' hn b hb =>
    ⟨hn b hb, (I'.ok.exf b hb).1, I'.ok.exfs b hb, .inl hb, fun x c e => (I'.ok.exf b hb).2 x c e, fun p hp => absurd (show p ∈ ([] : List (Addr × Obj)) ++ [] from hp) (by simp)⟩
  have lpA : codeAny (model X.prog X.w) X.A (.compLoop (dcE kx vx tg iter tg1 iter1 ifs ifs1 scope pos) 0 (.ref it) (.ref D) ce) (compPost (model X.prog X.w) X.A X.xe use Qf (.ref D) s3.heap.objs.size) s4 := by
    refine dcLoop_a (hs1 ce) (fun n s' => ∃ i H', Inv (X.blk s3 H3 scope ce fp) [] (wipe σ (own.map (·.2))) H' s' ∧ tn i s'.heap ∧ (∀ b ∈ fp, H' b = none) ∧ W i n H') ?_ m0 ⟨0, H3, I4, su4, nfp, w0⟩
    rintro n s5 ⟨i, H5, I5, su5, n5, w5⟩
    rcases trnA i n H5 w5 with ⟨stop, qq⟩ | ⟨go, Nx, nxA, step⟩
    · have tdn := T.done (X.blk s3 H3 scope ce fp) rfl rfl rfl hc i [] s5 _ H5 (fun _ _ => False) I5 (sta0 I5 n5) su5 stop
      refine thnF tdn fun r s6 ⟨hr, I6⟩ => ?_
      subst hr
      have I7 : Inv X pins σ H5 s6 := I3.call' (ch := fp) I6.os I6.base I6.hok I6.bare fun b hb => ⟨(ff3 b hb).1.2.2.2.1, (ff3 b hb).1.2.1, (ff3 b hb).1.2.2.2.2.1, (ff3 b hb).1.2.2.2.2.2⟩
      have nC : H5 s3.heap.objs.size = none := by
        have z : H5 ce.locals = none := I6.free
        rw [cL] at z
        exact z
      obtain ⟨m, hn, _⟩ := I6.loc
      have hn : s6.heap.Ns ce.locals m := hn
      rw [cL] at hn
      exact hR0 D s3.heap.objs.size s6 m H5 I7 qq hn (I3.fpOk (Nat.le_refl _) nC)
    · have tit := T.item (X.blk s3 H3 scope ce fp) rfl rfl rfl hc i [] s5 _ H5 (fun _ _ => False) I5 (sta0 I5 n5) su5 go
      refine thnF tit fun r s6 ⟨u, hr, h6⟩ => ?_
      subst hr
      refine thnF h6 fun _ s7 ⟨x, H7, I7, r7, y7, su7, n7⟩ => ?_
      have Ip7 := I7.pinned (sta0 I7 n7) (T.obj _ _ su7)
      refine thnF (pg.run _ s7 _ H7 x u _ Ip7 r7 (step x H7 y7)) fun _ s8 ⟨σ8, H8, I8, hw8, q8⟩ => ?_
      refine thnF (pt.run _ s8 σ8 H8 _ I8 q8) fun b s9 ⟨H9, I9, q9⟩ => ?_
      have endA : ∀ {σ9 : St} {s' : Shared} {H' : Hp}, Inv (X.blk s3 H3 scope ce fp) ([] ++ pinsAt fp s7.heap) σ9 H' s' → (wipe σ (own.map (·.2))).length = σ9.length → (∀ (j : Nat) v, (wipe σ (own.map (·.2)))[j]? = some (some v) → σ9[j]? = some (some v)) → Nx H' →
          ∃ m, m < n ∧ ∃ i H', Inv (X.blk s3 H3 scope ce fp) [] (wipe σ (own.map (·.2))) H' s' ∧ tn i s'.heap ∧ (∀ b ∈ fp, H' b = none) ∧ W i m H' := fun {σ9 s' H'} I' hl hk nx => by
        obtain ⟨m', hm, w'⟩ := nxA H' nx
        have pnn : ∀ b ∈ fp, ∀ o, s7.heap.get? b = some o → s'.heap.get? b = some o ∧ H' b = none := fun b hb o e =>
          let z := I'.pin (b, o) (List.mem_append_right _ (List.mem_append_right _ (mem_pinsAt hb e)))
          ⟨z.1, z.2.1⟩
        refine ⟨m', hm, i + 1, H', (I'.unpinned (pins := [])).weak hl hk, T.keep _ _ _ su7 fun b hb o e => (pnn b hb o e).1, fun b hb => ?_, w'⟩
        obtain ⟨o, e, _⟩ := T.obj _ _ su7 b hb
        exact (pnn b hb o e).2
      have ln8 : (wipe σ (own.map (·.2))).length = σ8.length := by rw [← hw8, wipe_length]
      have kp8 : ∀ (j : Nat) v, (wipe σ (own.map (·.2)))[j]? = some (some v) → σ8[j]? = some (some v) := fun j v e => by
        rw [← hw8] at e
        exact (wipe_some e).1
      have kp9 : ∀ (j : Nat) v, (wipe σ (own.map (·.2)))[j]? = some (some v) → (wipe σ8 vs1)[j]? = some (some v) := fun j v e => by
        rw [← hw8] at e
        obtain ⟨e1, e2⟩ := wipe_some e
        rw [wipe_out fun z => e2 (hv j z)]
        exact e1
      cases b with
      | false =>
        simp only [Bool.false_eq_true, if_false] at q9 ⊢
        exact endA I9 ln8 kp8 q9
      | true =>
        simp only [if_true] at q9 ⊢
        refine thnF (pi1.run _ s9 σ8 H9 _ I9 q9) fun xv s10 hx => thnF hx fun itv s11 h11 => ?_
        obtain ⟨it1, fp1, tn1, J1, H11, e1, I11, T1, su11, f11, W1, ⟨m1, w1⟩, trnB⟩ := h11
        subst e1
        have sta1 : ∀ {H' : Hp}, (∀ b ∈ fp1, H' b = none) → ∀ b ∈ fp1, FpOk (X.blk s3 H3 scope ce fp) ([] ++ pinsAt fp s7.heap) H' b := fun hn b hb => ⟨hn b hb, (f11 b hb).2⟩
        have lpB : codeAny (model X.prog X.w) X.A (.compLoop (dcE kx vx tg iter tg1 iter1 ifs ifs1 scope pos) 1 (.ref it1) (.ref D) ce)
            (fun r s' => match r with
              | .ok _ => ∃ m, m < n ∧ ∃ i H', Inv (X.blk s3 H3 scope ce fp) [] (wipe σ (own.map (·.2))) H' s' ∧ tn i s'.heap ∧ (∀ b ∈ fp, H' b = none) ∧ W i m H'
              | .error _ => False) s11 := by
          refine dcLoop_b (fun k s' => ∃ j H', Inv (X.blk s3 H3 scope ce fp) ([] ++ pinsAt fp s7.heap) (wipe σ8 vs1) H' s' ∧ tn1 j s'.heap ∧ (∀ b ∈ fp1, H' b = none) ∧ W1 j k H') ?_ m1 ⟨0, H11, I11.weak (wipe_length _ _) (fun j v e => (wipe_some e).1), su11, fun b hb => (f11 b hb).1, w1⟩
          rintro k s12 ⟨j, H12, I12, su12, n12, w12⟩
          rcases trnB j k H12 w12 with ⟨stop1, nx1⟩ | ⟨go1, Nx1, nxB, step1⟩
          · refine thnF (T1.done (X.blk s3 H3 scope ce fp) rfl rfl rfl hc j _ s12 (wipe σ8 vs1) H12 (fun _ _ => False) I12 (sta1 n12) su12 stop1) fun r s13 ⟨hr, I13⟩ => ?_
            subst hr
            exact endA I13 (ln8.trans (wipe_length σ8 vs1).symm) kp9 nx1
          · refine thnF (T1.item (X.blk s3 H3 scope ce fp) rfl rfl rfl hc j _ s12 (wipe σ8 vs1) H12 (fun _ _ => False) I12 (sta1 n12) su12 go1) fun r s13 ⟨u1, hr, h13⟩ => ?_
            subst hr
            refine thnF h13 fun _ s14 ⟨x1, H14, I14, r14, y14, su14, n14⟩ => ?_
            have Ip14 := I14.pinned (sta1 n14) (T1.obj _ _ su14)
            refine thnF (pg1.run _ s14 (wipe σ8 vs1) H14 x1 u1 _ Ip14 r14 (step1 x1 H14 y14)) fun _ s15 ⟨σ15, H15, I15, hw15, q15⟩ => ?_
            refine thnF (pt1.run _ s15 σ15 H15 _ I15 q15) fun b1 s16 ⟨H16, I16, q16⟩ => ?_
            have endB : ∀ {s' : Shared} {H' : Hp}, Inv (X.blk s3 H3 scope ce fp) (([] ++ pinsAt fp s7.heap) ++ pinsAt fp1 s14.heap) σ15 H' s' → Nx1 H' → ∃ m, m < k ∧ ∃ j H', Inv (X.blk s3 H3 scope ce fp) ([] ++ pinsAt fp s7.heap) (wipe σ8 vs1) H' s' ∧ tn1 j s'.heap ∧ (∀ b ∈ fp1, H' b = none) ∧ W1 j m H' := fun {s' H'} I' nx => by
              obtain ⟨m', hm, w'⟩ := nxB H' nx
              have pnn : ∀ b ∈ fp1, ∀ o, s14.heap.get? b = some o → s'.heap.get? b = some o ∧ H' b = none := fun b hb o e =>
                let z := I'.pin (b, o) (List.mem_append_right _ (List.mem_append_right _ (mem_pinsAt hb e)))
                ⟨z.1, z.2.1⟩
              refine ⟨m', hm, j + 1, H', I'.unpinned.weak (by rw [← hw15, wipe_length]) (fun j v e => by rw [← hw15] at e; exact (wipe_some e).1), T1.keep _ _ _ su14 fun b hb o e => (pnn b hb o e).1, fun b hb => ?_, w'⟩
              obtain ⟨o, e, _⟩ := T1.obj _ _ su14 b hb
              exact (pnn b hb o e).2
            cases b1 with
            | false =>
              simp only [Bool.false_eq_true, if_false] at q16 ⊢
              exact endB I16 q16
            | true =>
              simp only [if_true] at q16 ⊢
              refine thnF (pk.run _ s16 σ15 H16 _ I16 q16) fun _ s17 ⟨yk, H17, I17, r17, q17⟩ => ?_
              refine thnF (pe.run _ s17 σ15 H17 _ I17 q17) fun _ s18 ⟨yv, H18, I18, r18, H19, put, nx⟩ => ?_
              exact put_ok (X := X.blk s3 H3 scope ce fp) hu I18 put r17 r18 fun s19 I19 => endB I19 nx
        exact dcStart_b lpB (T1.self X.A 0 _ _ _ su11 lpB)
  exact codeAny_compStart_dict lpA (T.self X.A 0 _ _ _ su4 lpA)
variable {b : Bool} {kx vx tg iter tg1 iter1 : Expr} {ifs ifs1 : List Expr} {scope : Scope} {own : List (Str × Nat)} {vs1 : List Nat} {pos : Pos} {wi wi1 : TI} {g g1 : TG} {tt tt1 : TT} {tk tv : TE}
theorem pe_dc2 (hu : X.A.units + 1 < cLine) (hc : X.calm = true) (hN : X.N.Nodup) (hi : PI X tg iter wi) (ok : BlkOk X.N X.env.scope scope own) (hv : ∀ i ∈ vs1, i ∈ own.map (·.2))
    (hg : ∀ (s : Shared) (H : Hp) (C : Addr) (cl : List (Str × Addr)) (fp : List Addr), PG (X.blk s H scope (compEnvC scope cl C X.env) fp) tg g)
    (ht : ∀ (s : Shared) (H : Hp) (C : Addr) (cl : List (Str × Addr)) (fp : List Addr), PTs (X.blk s H scope (compEnvC scope cl C X.env) fp) ifs tt)
    (hk : ∀ (s : Shared) (H : Hp) (C : Addr) (cl : List (Str × Addr)) (fp : List Addr), PE (X.blk s H scope (compEnvC scope cl C X.env) fp) kx tk)
    (hw : ∀ (s : Shared) (H : Hp) (C : Addr) (cl : List (Str × Addr)) (fp : List Addr), PE (X.blk s H scope (compEnvC scope cl C X.env) fp) vx tv)
    (hi1 : ∀ (s : Shared) (H : Hp) (C : Addr) (cl : List (Str × Addr)) (fp : List Addr), PI (X.blk s H scope (compEnvC scope cl C X.env) fp) tg1 iter1 wi1)
    (hg1 : ∀ (s : Shared) (H : Hp) (C : Addr) (cl : List (Str × Addr)) (fp : List Addr), PG (X.blk s H scope (compEnvC scope cl C X.env) fp) tg1 g1)
    (ht1 : ∀ (s : Shared) (H : Hp) (C : Addr) (cl : List (Str × Addr)) (fp : List Addr), PTs (X.blk s H scope (compEnvC scope cl C X.env) fp) ifs1 tt1)
    (hs : ∀ x, foldedSetIterable iter X.env x = pure x) (hs1 : ∀ env x, foldedSetIterable iter1 env x = pure x) :
    PE X (dcE kx vx tg iter tg1 iter1 ifs ifs1 scope pos) (tDc2 b wi g tt wi1 g1 tt1 tk tv (own.map (·.2)) vs1) := ⟨fun pins s σ H Q I h => by
  rw [arm_eval_DictComp]
  refine dc2_core hu hc hN I hi ok hv hg ht hk hw hs hi1 hg1 ht1 hs1 h fun D C s' m H' I' q hn ⟨f0, f1, f2, f3, f4, f5⟩ => ⟨m, hn, fun h'' sb => ?_⟩
  exact ⟨.ref D, H', I'.turned (t' := s'.toks) (fun b o hb e => (sb.2 b hb).trans e) f0 f1 f3 f4 f5, rfl, q⟩⟩
theorem ps_setDc2 {i : Nat} {y : Str} {py spos : Pos} (hu : X.A.units + 1 < cLine) (hc : X.calm = true) (hN : X.N.Nodup) (hy : X.N[i]? = some y) (hyl : X.env.scope.names.lookup y = some .local)
    (hsw : swapsWith (dcE kx vx tg iter tg1 iter1 ifs ifs1 scope pos) (some (.Name y py)) spos.line X.env = pure true) (hi : PI X tg iter wi) (ok : BlkOk X.N X.env.scope scope own) (hv : ∀ i ∈ vs1, i ∈ own.map (·.2))
    (hg : ∀ (s : Shared) (H : Hp) (C : Addr) (cl : List (Str × Addr)) (fp : List Addr), PG (X.blk s H scope (compEnvC scope cl C X.env) fp) tg g)
    (ht : ∀ (s : Shared) (H : Hp) (C : Addr) (cl : List (Str × Addr)) (fp : List Addr), PTs (X.blk s H scope (compEnvC scope cl C X.env) fp) ifs tt)
    (hk : ∀ (s : Shared) (H : Hp) (C : Addr) (cl : List (Str × Addr)) (fp : List Addr), PE (X.blk s H scope (compEnvC scope cl C X.env) fp) kx tk)
    (hw : ∀ (s : Shared) (H : Hp) (C : Addr) (cl : List (Str × Addr)) (fp : List Addr), PE (X.blk s H scope (compEnvC scope cl C X.env) fp) vx tv)
    (hi1 : ∀ (s : Shared) (H : Hp) (C : Addr) (cl : List (Str × Addr)) (fp : List Addr), PI (X.blk s H scope (compEnvC scope cl C X.env) fp) tg1 iter1 wi1)
    (hg1 : ∀ (s : Shared) (H : Hp) (C : Addr) (cl : List (Str × Addr)) (fp : List Addr), PG (X.blk s H scope (compEnvC scope cl C X.env) fp) tg1 g1)
    (ht1 : ∀ (s : Shared) (H : Hp) (C : Addr) (cl : List (Str × Addr)) (fp : List Addr), PTs (X.blk s H scope (compEnvC scope cl C X.env) fp) ifs1 tt1)
    (hs : ∀ x, foldedSetIterable iter X.env x = pure x) (hs1 : ∀ env x, foldedSetIterable iter1 env x = pure x) :
    PS X (.Assign [.Name y py] (dcE kx vx tg iter tg1 iter1 ifs ifs1 scope pos) spos) (tAsg (tDc2 b wi g tt wi1 g1 tt1 tk tv (own.map (·.2)) vs1) (gName i)) := by
  refine ⟨fun pins s σ H D I h => ?_⟩
  rw [exec_Assign_Name_used _ _ _ _ hsw]
  refine wpAny_bind (wpAny_standAt (wpAny_bind ?_))
  show wpAny _ X.A (do let _ ← comprehension (dcE kx vx tg iter tg1 iter1 ifs ifs1 scope pos) scope X.env (firstIterPos [⟨tg, iter, ifs, 0⟩, ⟨tg1, iter1, ifs1, 0⟩] pos) newDict false (eval iter X.env) (some (assign (.Name y py) X.env))) _ _ s
  have h : tDc2 b wi g tt wi1 g1 tt1 tk tv (own.map (·.2)) vs1 σ H (fun x H1 => gName i x σ H1 D.nx) := h
  refine wpAny_bind (thn (dc2_core (Qf := fun _ s' => SP X pins D .next s') hu hc hN I hi ok hv hg ht hk hw hs hi1 hg1 ht1 hs1 h fun L C s' m H' I' q hn f => ?_) fun _ s' hq => wpAny_pure (wpAny_pure hq))
  show wpAny _ _ (assign (.Name y py) X.env (.ref L)) _ _ _
  refine wpAny_assign_Name (store_ok2 (v := V.ref L) I' hN hy (.inl hyl) rfl (fun s2 I2 ⟨a, sb, ha⟩ => ?_) (.inr hyl))
  obtain ⟨f0, f1, f2, f3, f4, f5⟩ := f
  have haC : C ≠ a := by
    rcases ha with z | z
    · rw [z]; exact f1
    · exact fun e => f4 y a z e.symm
  refine ⟨m, hn.sameBut sb haC, fun h3 sb3 => ?_⟩
  exact ⟨_, H', I2.turned (t' := s2.toks) (fun b o hb e => (sb3.2 b hb).trans e) f0 f1 f3 f4 f5, q⟩
end
end L2
namespace PL
open PySem PySem.Spec PyProof.Rows L2
def dc2Go (b : Bool) (vs vs1 : List Nat) (g : QG) (t : QT) (i1 : QI) (g1 : QG) (t1 : QT) (pk pv : QE) (k : List (D × D) → Ev → Prop) : List D → List (D × D) → Ev → Prop
  | [], acc, Γ => k acc Γ
  | d :: r, acc, Γ => g (.sh d) Γ fun Γ1 => t Γ1 (fun c Γ2 => Cif c (i1 Γ2 (fun ds1 Γ3 => dcGo b vs1 g1 t1 pk pv (fun acc' Γ4 => dc2Go b vs vs1 g t i1 g1 t1 pk pv k r acc' (wipEv vs Γ4)) ds1 acc (wipEv vs1 Γ3)) noEX)
      (dc2Go b vs vs1 g t i1 g1 t1 pk pv k r acc (wipEv vs Γ2))) noEX
def qDc2 (b : Bool) (vs vs1 : List Nat) (i : QI) (g : QG) (t : QT) (i1 : QI) (g1 : QG) (t1 : QT) (pk pv : QE) : QE := fun Γ R E => i Γ (fun ds Γ1 => noOw Γ1 vs = true ∧ dc2Go b vs vs1 g t i1 g1 t1 pk pv (fun acc Γ2 => R (.ow (dicO b acc)) (backEv Γ1 vs Γ2)) ds [] (wipEv vs Γ1)) E
section
variable {W : WX} {wi wi1 : TI} {qi qi1 : QI} {g g1 : TG} {qg qg1 : QG} {js js1 : List Nat} {tt tt1 : TT} {qt qt1 : QT} {tk tv : TE} {qk qv : QE} {b : Bool} {vs vs1 : List Nat}
theorem se_dc2 (hi : SI W wi qi) (hg : SG g qg js) (ht : ST W0 tt qt) (hi1 : SI W0 wi1 qi1) (hg1 : SG g1 qg1 js1) (ht1 : ST W0 tt1 qt1) (hk : SE W0 tk qk) (hve : SE W0 tv qv) (hj : ∀ j ∈ js, j ∈ vs) (hj1 : ∀ j ∈ js1, j ∈ vs1) (hv : ∀ j ∈ vs1, j ∈ vs) :
    SE W (tDc2 b wi g tt wi1 g1 tt1 tk tv vs vs1) (qDc2 b vs vs1 qi qg qt qi1 qg1 qt1 qk qv) := fun {B F Γ σ H fp} R EX Q r q k e => by
  refine hi _ _ _ r q (fun ds Γ1 J F1 H1 fp1 x1 r1 ok h1 => ?_) e
  obtain ⟨ho, h1⟩ := h1
  intro Dl hD
  have r2 : Rel B F1 (wipEv vs Γ1) (wipe σ vs) H1 fp1 := r1.wip vs
  obtain ⟨r3, v3⟩ := new_d b r2 hD
  generalize hKK : (fun (acc : List (D × D)) (Γ2 : Ev) => R (.ow (dicO b acc)) (backEv Γ1 vs Γ2)) = KK at h1
  refine ⟨fun i m H' => m + i = ds.length ∧ ∃ Γ' F' fp' acc, Ext B F1 F' ∧ Rel B F' Γ' (wipe σ vs) H' fp' ∧ OwnV B F' H' fp' (.ref Dl) (dicO b acc) ∧
    dc2Go b vs vs1 qg qt qi1 qg1 qt1 qk qv KK (ds.drop i) acc Γ', ⟨ds.length, rfl, _, F1, fp1, [], .refl, r3, v3, h1⟩, ?_⟩
  rintro i m H' ⟨hm, Γ', F', fp', acc, x, r', v', hf⟩
  obtain ⟨o1, o2⟩ := ok B F' Γ' _ H' fp' x.same r' i
  by_cases hlt : i < ds.length
  · obtain ⟨B', rB, gd⟩ := r'.hold v'
    obtain ⟨go, yld⟩ := (ok B' F' Γ' _ H' fp' x.same rB i).1 ds[i] (List.getElem?_eq_getElem hlt)
    refine .inr ⟨go, fun H2 => ∃ m', m' < m ∧ (m' + (i + 1) = ds.length ∧ ∃ Γ' F' fp' acc, Ext B F1 F' ∧ Rel B F' Γ' (wipe σ vs) H2 fp' ∧ OwnV B F' H2 fp' (.ref Dl) (dicO b acc) ∧
      dc2Go b vs vs1 qg qt qi1 qg1 qt1 qk qv KK (ds.drop (i + 1)) acc Γ'), fun H2 h => h, fun y H2 hy => ?_⟩
    obtain ⟨F2, x2, r2, b2⟩ := yld y H2 hy
    rw [List.drop_eq_getElem_cons hlt] at hf
    refine hg _ _ r2 (.sh b2) hf fun Γ3 F3 σ3 fp3 x3 r3 c3 h3 => ?_
    have hw : wipe σ3 vs = wipe σ vs := wipe_chg c3 hj
    refine ⟨hw, ht _ noEX _ r3 h3 (fun b4 Γ4 F4 H4 fp4 x4 r4 h4 => ?_) afe_no⟩
    have x24 := (x2.trans x3).trans x4
    cases b4 with
    | true =>
      refine hi1 _ noEX _ r4 (h4.t rfl) (fun ds1 Γ5 J1 F5 H5 fp5 x5 r5 ok1 h5 => ?_) afe_no
      have r5w := r5.wip vs1
      obtain ⟨y5, r5b, v5⟩ := gd F5 _ _ H5 fp5 (x24.trans x5) r5w
      refine ⟨fun i' m' H' => m' + i' = ds1.length ∧ ∃ Γ' F' fp' acc, Ext B F5 F' ∧ Rel B F' Γ' (wipe σ3 vs1) H' fp' ∧ OwnV B F' H' fp' (.ref Dl) (dicO b acc) ∧
        dcGo b vs1 qg1 qt1 qk qv (fun acc' Γ4 => dc2Go b vs vs1 qg qt qi1 qg1 qt1 qk qv KK (ds.drop (i + 1)) acc' (wipEv vs Γ4)) (ds1.drop i') acc Γ', ⟨ds1.length, rfl, _, F5, fp5, acc, .refl, r5b, v5, h5⟩, ?_⟩
      rintro i' m' Hi ⟨hm', Γi, Fi, fpi, acci, xi, ri, vi, hfi⟩
      obtain ⟨p1, p2⟩ := ok1 B Fi Γi _ Hi fpi xi.same ri i'
      by_cases hlt' : i' < ds1.length
      · obtain ⟨Bi, rBi, gdi⟩ := ri.hold vi
        obtain ⟨goi, yldi⟩ := (ok1 Bi Fi Γi _ Hi fpi xi.same rBi i').1 ds1[i'] (List.getElem?_eq_getElem hlt')
        refine .inr ⟨goi, fun H2 => ∃ m'', m'' < m' ∧ (m'' + (i' + 1) = ds1.length ∧ ∃ Γ' F' fp' acc, Ext B F5 F' ∧ Rel B F' Γ' (wipe σ3 vs1) H2 fp' ∧ OwnV B F' H2 fp' (.ref Dl) (dicO b acc) ∧
          dcGo b vs1 qg1 qt1 qk qv (fun acc' Γ4 => dc2Go b vs vs1 qg qt qi1 qg1 qt1 qk qv KK (ds.drop (i + 1)) acc' (wipEv vs Γ4)) (ds1.drop (i' + 1)) acc Γ'), fun H2 h => h, fun y H6 hy => ?_⟩
        obtain ⟨F6, x6, r6, b6⟩ := yldi y H6 hy
        rw [List.drop_eq_getElem_cons hlt'] at hfi
        refine hg1 _ _ r6 (.sh b6) hfi fun Γ7 F7 σ7 fp7 x7 r7 c7 h7 => ?_
        have hw1 : wipe σ7 vs1 = wipe σ3 vs1 := wipe_chg c7 hj1
        refine ⟨hw1, ht1 _ noEX _ r7 h7 (fun b8 Γ8 F8 H8 fp8 x8 r8 h8 => ?_) afe_no⟩
        have x68 := (x6.trans x7).trans x8
        cases b8 with
        | true =>
          refine hk _ noEX _ r8 (h8.t rfl) (fun w9 Γ9 zk F9 H9 fp9 x9 r9 v9 h9 => ?_) afe_no
          obtain ⟨d0, Γ0, F0, fp0, x0, r0, b0, h0⟩ := shr_ok r9 v9 h9
          refine hve _ noEX _ r0 h0 (fun wa Γa zv Fa Ha fpa xa ra va ha => ?_) afe_no
          obtain ⟨dc, Γc, Fc, fpc, xc, rc, bc, hkk, hsz, hc⟩ := shr_ok ra va ha
          have r1w := rc.wip vs1
          rw [hw1] at r1w
          obtain ⟨ya, rd, vd⟩ := gdi Fc _ _ Ha fpc (((((x68.trans x9).trans x0).trans xa).trans xc)) r1w
          obtain ⟨He, put, re, ve⟩ := own_put rd vd ((b0.mono xa.same).mono xc.same) bc hkk hsz
          exact ⟨He, put, m' - 1, by omega, by omega, _, Fc, fpc, _, xi.trans ya, re, ve, hc⟩
        | false =>
          have r1w := r8.wip vs1
          rw [hw1] at r1w
          obtain ⟨ya, ra, va⟩ := gdi F8 _ _ H8 fp8 x68 r1w
          exact ⟨m' - 1, by omega, by omega, _, F8, fp8, acci, xi.trans ya, ra, va, h8.f rfl⟩
      · refine .inl ⟨p2 (by omega), ?_⟩
        have e0 : ds1.drop i' = [] := List.drop_of_length_le (by omega)
        rw [e0] at hfi
        have rw2 := ri.wip vs
        rw [wipe_wipe hv, hw] at rw2
        exact ⟨m - 1, by omega, by omega, _, Fi, fpi, acci, (x.trans y5).trans xi, rw2, vi, hfi⟩
    | false =>
      have r7 := r4.wip vs
      rw [hw] at r7
      obtain ⟨y8, r8, v8⟩ := gd F4 _ _ H4 fp4 x24 r7
      exact ⟨m - 1, by omega, by omega, _, F4, fp4, acc, x.trans y8, r8, v8, h4.f rfl⟩
  · refine .inl ⟨o2 (by omega), ?_⟩
    rw [List.drop_of_length_le (by omega)] at hf
    subst hKK
    exact k _ _ _ F' H' fp' (x1.trans x) (r1.back ho x.same r') v'.rw hf
end
section
variable {X : Cx} {W : WX} {pos : Pos} {kx vx tg iter tg1 iter1 : Expr} {wi : TI} {qi qi1 : QI} {qg qg1 : QG} {js js1 : List Nat} {qt qt1 : QT} {qk qv : QE} {ifs ifs1 : List Expr} {scope : Scope} {own : List (Str × Nat)}
theorem b_dc2 (b : Bool) (vs1 : List Nat) {g : Shared → Hp → Addr → List (Str × Addr) → List Addr → TG} {tt : Shared → Hp → Addr → List (Str × Addr) → List Addr → TT} {wi1 : Shared → Hp → Addr → List (Str × Addr) → List Addr → TI} {g1 : Shared → Hp → Addr → List (Str × Addr) → List Addr → TG} {tt1 : Shared → Hp → Addr → List (Str × Addr) → List Addr → TT} {tk : Shared → Hp → Addr → List (Str × Addr) → List Addr → TE} {tv : Shared → Hp → Addr → List (Str × Addr) → List Addr → TE} {j : Nat} (hr : Room j X.A) (hc : X.calm = true) (hN : X.N.Nodup) (hi : DI X W tg iter wi qi) (ok : BlkOk X.N X.env.scope scope own)
    (hg : ∀ (s : Shared) (H : Hp) (C : Addr) (cl : List (Str × Addr)) (fp : List Addr), DG (X.blk s H scope (compEnvC scope cl C X.env) fp) tg (g s H C cl fp) qg js)
    (ht : ∀ (s : Shared) (H : Hp) (C : Addr) (cl : List (Str × Addr)) (fp : List Addr), DTs (X.blk s H scope (compEnvC scope cl C X.env) fp) W0 ifs (tt s H C cl fp) qt)
    (hi1 : ∀ (s : Shared) (H : Hp) (C : Addr) (cl : List (Str × Addr)) (fp : List Addr), DI (X.blk s H scope (compEnvC scope cl C X.env) fp) W0 tg1 iter1 (wi1 s H C cl fp) qi1)
    (hg1 : ∀ (s : Shared) (H : Hp) (C : Addr) (cl : List (Str × Addr)) (fp : List Addr), DG (X.blk s H scope (compEnvC scope cl C X.env) fp) tg1 (g1 s H C cl fp) qg1 js1)
    (ht1 : ∀ (s : Shared) (H : Hp) (C : Addr) (cl : List (Str × Addr)) (fp : List Addr), DTs (X.blk s H scope (compEnvC scope cl C X.env) fp) W0 ifs1 (tt1 s H C cl fp) qt1)
    (hk : ∀ (s : Shared) (H : Hp) (C : Addr) (cl : List (Str × Addr)) (fp : List Addr), DE (X.blk s H scope (compEnvC scope cl C X.env) fp) W0 kx (tk s H C cl fp) qk)
    (hw : ∀ (s : Shared) (H : Hp) (C : Addr) (cl : List (Str × Addr)) (fp : List Addr), DE (X.blk s H scope (compEnvC scope cl C X.env) fp) W0 vx (tv s H C cl fp) qv)
    (e0 : ∀ s H C cl fp, g s H C cl fp = bz g := by intros; rfl) (e1 : ∀ s H C cl fp, tt s H C cl fp = bz tt := by intros; rfl) (e2 : ∀ s H C cl fp, wi1 s H C cl fp = bz wi1 := by intros; rfl) (e3 : ∀ s H C cl fp, g1 s H C cl fp = bz g1 := by intros; rfl) (e4 : ∀ s H C cl fp, tt1 s H C cl fp = bz tt1 := by intros; rfl) (e5 : ∀ s H C cl fp, tk s H C cl fp = bz tk := by intros; rfl) (e6 : ∀ s H C cl fp, tv s H C cl fp = bz tv := by intros; rfl)
    (hj : (∀ j ∈ js, j ∈ own.map (·.2)) := by decide) (hj1 : (∀ j ∈ js1, j ∈ vs1) := by decide) (hv : (∀ j ∈ vs1, j ∈ own.map (·.2)) := by decide) (hs : ∀ x, foldedSetIterable iter X.env x = pure x := by intro _; rfl) (hs1 : ∀ env x, foldedSetIterable iter1 env x = pure x := by intro _ _; rfl) :
    DE X W (dcE kx vx tg iter tg1 iter1 ifs ifs1 scope pos) (tDc2 b wi (bz g) (bz tt) (bz wi1) (bz g1) (bz tt1) (bz tk) (bz tv) (own.map (·.2)) vs1) (qDc2 b (own.map (·.2)) vs1 qi qg qt qi1 qg1 qt1 qk qv) :=
  ⟨pe_dc2 (hu_of hr) hc hN hi.pi ok hv (fun s H C cl fp => e0 s H C cl fp ▸ (hg s H C cl fp).pg) (fun s H C cl fp => e1 s H C cl fp ▸ (ht s H C cl fp).pt) (fun s H C cl fp => e5 s H C cl fp ▸ (hk s H C cl fp).pe) (fun s H C cl fp => e6 s H C cl fp ▸ (hw s H C cl fp).pe) (fun s H C cl fp => e2 s H C cl fp ▸ (hi1 s H C cl fp).pi) (fun s H C cl fp => e3 s H C cl fp ▸ (hg1 s H C cl fp).pg) (fun s H C cl fp => e4 s H C cl fp ▸ (ht1 s H C cl fp).pt) hs hs1, se_dc2 hi.si (e0 ({} : Shared) (fun _ => none) 0 [] [] ▸ (hg ({} : Shared) (fun _ => none) 0 [] []).sg) (e1 ({} : Shared) (fun _ => none) 0 [] [] ▸ (ht ({} : Shared) (fun _ => none) 0 [] []).st) (e2 ({} : Shared) (fun _ => none) 0 [] [] ▸ (hi1 ({} : Shared) (fun _ => none) 0 [] []).si) (e3 ({} : Shared) (fun _ => none) 0 [] [] ▸ (hg1 ({} : Shared) (fun _ => none) 0 [] []).sg) (e4 ({} : Shared) (fun _ => none) 0 [] [] ▸ (ht1 ({} : Shared) (fun _ => none) 0 [] []).st) (e5 ({} : Shared) (fun _ => none) 0 [] [] ▸ (hk ({} : Shared) (fun _ => none) 0 [] []).se) (e6 ({} : Shared) (fun _ => none) 0 [] [] ▸ (hw ({} : Shared) (fun _ => none) 0 [] []).se) hj hj1 hv⟩
theorem bs_setDc2 (b : Bool) (vs1 : List Nat) {g : Shared → Hp → Addr → List (Str × Addr) → List Addr → TG} {tt : Shared → Hp → Addr → List (Str × Addr) → List Addr → TT} {wi1 : Shared → Hp → Addr → List (Str × Addr) → List Addr → TI} {g1 : Shared → Hp → Addr → List (Str × Addr) → List Addr → TG} {tt1 : Shared → Hp → Addr → List (Str × Addr) → List Addr → TT} {tk : Shared → Hp → Addr → List (Str × Addr) → List Addr → TE} {tv : Shared → Hp → Addr → List (Str × Addr) → List Addr → TE} {i j : Nat} {y : Str} {py spos : Pos} (hr : Room j X.A) (hc : X.calm = true) (hN : X.N.Nodup) (hi : DI X W tg iter wi qi) (ok : BlkOk X.N X.env.scope scope own)
    (hg : ∀ (s : Shared) (H : Hp) (C : Addr) (cl : List (Str × Addr)) (fp : List Addr), DG (X.blk s H scope (compEnvC scope cl C X.env) fp) tg (g s H C cl fp) qg js)
    (ht : ∀ (s : Shared) (H : Hp) (C : Addr) (cl : List (Str × Addr)) (fp : List Addr), DTs (X.blk s H scope (compEnvC scope cl C X.env) fp) W0 ifs (tt s H C cl fp) qt)
    (hi1 : ∀ (s : Shared) (H : Hp) (C : Addr) (cl : List (Str × Addr)) (fp : List Addr), DI (X.blk s H scope (compEnvC scope cl C X.env) fp) W0 tg1 iter1 (wi1 s H C cl fp) qi1)
    (hg1 : ∀ (s : Shared) (H : Hp) (C : Addr) (cl : List (Str × Addr)) (fp : List Addr), DG (X.blk s H scope (compEnvC scope cl C X.env) fp) tg1 (g1 s H C cl fp) qg1 js1)
    (ht1 : ∀ (s : Shared) (H : Hp) (C : Addr) (cl : List (Str × Addr)) (fp : List Addr), DTs (X.blk s H scope (compEnvC scope cl C X.env) fp) W0 ifs1 (tt1 s H C cl fp) qt1)
    (hk : ∀ (s : Shared) (H : Hp) (C : Addr) (cl : List (Str × Addr)) (fp : List Addr), DE (X.blk s H scope (compEnvC scope cl C X.env) fp) W0 kx (tk s H C cl fp) qk)
    (hw : ∀ (s : Shared) (H : Hp) (C : Addr) (cl : List (Str × Addr)) (fp : List Addr), DE (X.blk s H scope (compEnvC scope cl C X.env) fp) W0 vx (tv s H C cl fp) qv)
    (hsw : swapsWith (dcE kx vx tg iter tg1 iter1 ifs ifs1 scope pos) (some (.Name y py)) spos.line X.env = pure true)
    (e0 : ∀ s H C cl fp, g s H C cl fp = bz g := by intros; rfl) (e1 : ∀ s H C cl fp, tt s H C cl fp = bz tt := by intros; rfl) (e2 : ∀ s H C cl fp, wi1 s H C cl fp = bz wi1 := by intros; rfl) (e3 : ∀ s H C cl fp, g1 s H C cl fp = bz g1 := by intros; rfl) (e4 : ∀ s H C cl fp, tt1 s H C cl fp = bz tt1 := by intros; rfl) (e5 : ∀ s H C cl fp, tk s H C cl fp = bz tk := by intros; rfl) (e6 : ∀ s H C cl fp, tv s H C cl fp = bz tv := by intros; rfl)
    (hy : X.N[i]? = some y := by rfl) (hyl : X.env.scope.names.lookup y = some .local := by rfl) (hj : (∀ j ∈ js, j ∈ own.map (·.2)) := by decide) (hj1 : (∀ j ∈ js1, j ∈ vs1) := by decide) (hv : (∀ j ∈ vs1, j ∈ own.map (·.2)) := by decide) (hs : ∀ x, foldedSetIterable iter X.env x = pure x := by intro _; rfl) (hs1 : ∀ env x, foldedSetIterable iter1 env x = pure x := by intro _ _; rfl) :
    DS X W (.Assign [.Name y py] (dcE kx vx tg iter tg1 iter1 ifs ifs1 scope pos) spos) (tAsg (tDc2 b wi (bz g) (bz tt) (bz wi1) (bz g1) (bz tt1) (bz tk) (bz tv) (own.map (·.2)) vs1) (gName i)) (qAsg (qDc2 b (own.map (·.2)) vs1 qi qg qt qi1 qg1 qt1 qk qv) (qgN i)) :=
  ⟨ps_setDc2 (hu_of hr) hc hN hy hyl hsw hi.pi ok hv (fun s H C cl fp => e0 s H C cl fp ▸ (hg s H C cl fp).pg) (fun s H C cl fp => e1 s H C cl fp ▸ (ht s H C cl fp).pt) (fun s H C cl fp => e5 s H C cl fp ▸ (hk s H C cl fp).pe) (fun s H C cl fp => e6 s H C cl fp ▸ (hw s H C cl fp).pe) (fun s H C cl fp => e2 s H C cl fp ▸ (hi1 s H C cl fp).pi) (fun s H C cl fp => e3 s H C cl fp ▸ (hg1 s H C cl fp).pg) (fun s H C cl fp => e4 s H C cl fp ▸ (ht1 s H C cl fp).pt) hs hs1, ss_asg (se_dc2 hi.si (e0 ({} : Shared) (fun _ => none) 0 [] [] ▸ (hg ({} : Shared) (fun _ => none) 0 [] []).sg) (e1 ({} : Shared) (fun _ => none) 0 [] [] ▸ (ht ({} : Shared) (fun _ => none) 0 [] []).st) (e2 ({} : Shared) (fun _ => none) 0 [] [] ▸ (hi1 ({} : Shared) (fun _ => none) 0 [] []).si) (e3 ({} : Shared) (fun _ => none) 0 [] [] ▸ (hg1 ({} : Shared) (fun _ => none) 0 [] []).sg) (e4 ({} : Shared) (fun _ => none) 0 [] [] ▸ (ht1 ({} : Shared) (fun _ => none) 0 [] []).st) (e5 ({} : Shared) (fun _ => none) 0 [] [] ▸ (hk ({} : Shared) (fun _ => none) 0 [] []).se) (e6 ({} : Shared) (fun _ => none) 0 [] [] ▸ (hw ({} : Shared) (fun _ => none) 0 [] []).se) hj hj1 hv) sg_name⟩
end
section
variable {X : Cx} {W : WX} {pos p : Pos} {a b c e f : Expr} {ta tb tc te tf : TE} {pa pb pc pe pf : QE}
def qDispK (pk pv : QE) : QE := fun Γ R E => pk Γ (fun w1 Γ1 => shr w1 Γ1 fun k Γ2 => keyK k = true ∧ pv Γ2 (fun w2 Γ3 => shr w2 Γ3 fun d Γ4 => R (.ow (.k [(k, d)])) Γ4) E) E
theorem d_dispK (ha : DE X W a ta pa) (hb : DE X W b tb pb) : DE X W (.Dict [some a] [b] pos) (tDisp [(ta, tb)]) (qDispK pa pb) := ⟨pe_disp (pps_cons ha.pe hb.pe pps_nil) rfl rfl (fun z => nomatch z) (by show 1 ≤ 15; decide), fun {B F Γ σ H fp} R EX Q r q k0 ex p hp => by
  obtain ⟨r0, v0⟩ := new_k r hp
  obtain ⟨B', r1, g⟩ := r0.guard v0
  refine ha.se _ EX _ r1 q (fun w1 Γ1 x F1 H1 fp1 x1 r1 v1 h1 => ?_) (fun c Γ' F' H' fp' x2 r2 q => ?_)
  · obtain ⟨d, Γ2, F2, fp2, x2, r2, b2, hk, h2⟩ := shr_ok r1 v1 h1
    refine hb.se _ EX _ r2 h2 (fun w2 Γ3 y F3 H3 fp3 x3 r3 v3 h3 => ?_) (fun c Γ' F' H' fp' x3 r3 q => ?_)
    · obtain ⟨d2, Γ4, F4, fp4, x4, r4, b4, h4⟩ := shr_ok r3 v3 h3
      obtain ⟨xx, r5, v5, _⟩ := g F4 Γ4 H3 fp4 (((x1.trans x2).trans x3).trans x4) r4
      cases v5 with
      | @ow o f0 hro hfree =>
        cases hro with
        | @k a kvs ds e1 t =>
          cases t
          obtain ⟨f1, f2, f3⟩ := hfree p (by simp)
          have bk : Rp F4 x d := (b2.mono x3.same).mono x4.same
          have b4' : Rp F4 y d2 := b4
          obtain ⟨ks, rfl, rfl⟩ := bk.keyK hk
          refine ⟨e1, [(ks, y)], rfl, by show 1 ≤ 15; decide, ?_⟩
          refine k0 _ Γ4 _ F4 _ fp4 xx (r5.free f1 f2 f3) (.ow (f := [p]) (.k upd_same (.cons b4' .nil)) fun a ha => ?_) h4
          simp only [List.mem_singleton] at ha
          subst ha
          exact ⟨f1, f2, f3⟩
    · obtain ⟨xx, r5, _, _⟩ := g F' Γ' H' fp' ((x1.trans x2).trans x3) r3
      exact ex c Γ' F' H' fp' xx r5 q
  · obtain ⟨xx, r5, _, _⟩ := g F' Γ' H' fp' x2 r2
    exact ex c Γ' F' H' fp' xx r5 q⟩
end
end PL

namespace PL
open PySem PySem.Spec PyProof.Rows L2
/-! ### own deep data that goes on: lists may have grown at their ends -/
mutual
inductive PreD : D → D → Prop
  | refl (d : D) : PreD d d
  | tup {ds es : List D} : PreA ds es → PreD (.tuple ds) (.tuple es)
  | lst {ds es : List D} (m : List D) : m.length ≤ 1 → PreA ds es → PreD (.list ds) (.list (es ++ m))
inductive PreA : List D → List D → Prop
  | nil : PreA [] []
  | cons {d e : D} {ds es : List D} : PreD d e → PreA ds es → PreA (d :: ds) (e :: es)
end
section
variable {G : Hp} {ad : Addr} {us : List V} {y : V} {dy : D}
mutual
theorem Rp.grow (hG : ∀ a o, G a = some o → (∃ xs, o = .lst xs) ∨ ∃ xs, o = .tup xs) (e0 : G ad = some (.lst us)) (hy : ∀ F, Rp F y dy) : ∀ {v : V} {d : D}, Rp G v d → ∃ d', Rp (upd G ad (.lst (us ++ [y]))) v d' ∧ PreD d d'
  | _, _, .non => ⟨_, .non, .refl _⟩
  | _, _, .bl b => ⟨_, .bl b, .refl _⟩
  | _, _, .int i => ⟨_, .int i, .refl _⟩
  | _, _, .str x h => ⟨_, .str x h, .refl _⟩
  | _, _, .lst (a := a) (xs := xs) h r => by
    obtain ⟨es, re, pe⟩ := RpA.grow hG e0 hy r
    by_cases ha : a = ad
    · subst ha
      rw [e0] at h
      cases h
      exact ⟨_, .lst upd_same (re.append (.cons (hy _) .nil)), .lst [dy] (Nat.le_refl _) pe⟩
    · refine ⟨.list (es ++ []), .lst (by rw [upd_ne ha]; exact h) (by rw [List.append_nil]; exact re), .lst [] (Nat.zero_le _) pe⟩
  | _, _, .tup (a := a) h r => by
    obtain ⟨es, re, pe⟩ := RpA.grow hG e0 hy r
    have ha : a ≠ ad := fun z => by rw [z, e0] at h; cases h
    exact ⟨_, .tup (by rw [upd_ne ha]; exact h) re, .tup pe⟩
  | _, _, .dk h _ => by rcases hG _ _ h with ⟨xs, z⟩ | ⟨xs, z⟩ <;> cases z
  | _, _, .dt h _ => by rcases hG _ _ h with ⟨xs, z⟩ | ⟨xs, z⟩ <;> cases z
  | _, _, .fz h _ => by rcases hG _ _ h with ⟨xs, z⟩ | ⟨xs, z⟩ <;> cases z
  | _, _, .rg h => by rcases hG _ _ h with ⟨xs, z⟩ | ⟨xs, z⟩ <;> cases z
theorem RpA.grow (hG : ∀ a o, G a = some o → (∃ xs, o = .lst xs) ∨ ∃ xs, o = .tup xs) (e0 : G ad = some (.lst us)) (hy : ∀ F, Rp F y dy) : ∀ {vs : List V} {ds : List D}, RpA G vs ds → ∃ es, RpA (upd G ad (.lst (us ++ [y]))) vs es ∧ PreA ds es
  | _, _, .nil => ⟨_, .nil, .nil⟩
  | _, _, .cons h r => by
    obtain ⟨e, re, pe⟩ := Rp.grow hG e0 hy h
    obtain ⟨es, rs, ps⟩ := RpA.grow hG e0 hy r
    exact ⟨_, .cons re rs, .cons pe ps⟩
end
end
section
variable {X : Cx} {W : WX} {pos p : Pos} {a b e : Expr} {es : List Expr} {ta te : TE} {tb : TE} {pa pe : QE} {n : Nat} {x : Str} {j k : Nat}
def qFgtK (i : Nat) (g : D → Option D) : QE := fun Γ R _ => match Γ[i]? with
  | some (.ow (.dp d)) => (match g d with
    | some (.list xs) => xs.length < sizeLine ∧ ∀ d', PreD d d' → R (.sh .none) (Γ.set i (.ow (.dp d')))
    | _ => False)
  | _ => False
/-- a written atom -/
structure PAtom (X : Cx) (e : Expr) (te : TE) : Prop where
  pe : PE X e te
  run : ∃ (v : V) (d : D), (∀ F, Rp F v d) ∧ ∀ {σ : L2.St} {H : Hp} {Q : VK}, Q v H → te σ H Q
theorem pa_int {i : Int} {jj} : PAtom X (.Constant (.int i) jj pos) (tC (.int i)) := ⟨pe_int, .int i, .int i, fun _ => .int i, fun {σ H Q} h => h⟩
theorem pa_str {y : Str} {jj} (h : PyData.strOk y = true := by decide +kernel) : PAtom X (.Constant (.str y) jj pos) (tC (.str y)) := ⟨pe_str, .str y, .str y, fun _ => .str y h, fun {σ H Q} h => h⟩
theorem se_fgtK {K : PySem.W.Frag} {i : Nat} {o : Expr} {to : TE} {g : D → Option D} (hp : DPath X i o to g) (hc : PAtom X a ta) : SE W (tBM K "list" rAppend to (tCons ta tNil)) (qFgtK i g) := fun {B F Γ σ H fp} R EX Q r q k _ => by
  obtain ⟨y, dy, hy, hrun⟩ := hc.run
  unfold qFgtK at q
  split at q
  · rename_i d hd
    split at q
    · rename_i ds hg
      obtain ⟨hl, hR⟩ := q
      obtain ⟨v, h1, h2⟩ := r.ow i _ hd
      generalize hf : fp i = f at h2
      cases h2 with
      | dp h3 h4 =>
        have sG : Same (frz (tups F) H f) H := fun a o q => by
          unfold frz at q
          split at q
          · exact q
          · exact r.fx a o (tups_sub a o q)
        refine hp.run h1 h3 sG hg fun u hu => ?_
        cases hu with
        | @lst ad us ds e t =>
          have hm : ad ∈ f := by
            apply Classical.byContradiction
            intro n
            unfold frz at e
            rw [if_neg n] at e
            obtain ⟨xs, z⟩ := tups_is e
            cases z
          refine ⟨.inl ⟨rfl, us, .inl (.inl (sG _ _ e))⟩, hrun ?_⟩
          have e2 : H ad = some (.lst us) := sG _ _ e
          refine ⟨ad, us, y, rfl, rfl, e2, by rw [t.length]; exact hl, ?_⟩
          have hG : ∀ a o, frz (tups F) H f a = some o → (∃ xs, o = .lst xs) ∨ ∃ xs, o = .tup xs := fun a o q => by
            unfold frz at q
            split at q
            · rename_i m
              obtain ⟨xs, z⟩ := h4 a m
              rw [z] at q
              cases q
              exact .inl ⟨xs, rfl⟩
            · exact .inr (tups_is q)
          obtain ⟨d', r', pre⟩ := h3.grow hG e hy
          rw [← hf] at hm
          obtain ⟨b1, b2, b3⟩ := r.nb i ad hm
          have cell : ∀ j c, c ∈ fp j → j ≠ i → upd H ad (.lst (us ++ [y])) c = H c := fun j c hcj hj => by
            have hne : c ≠ ad := fun z => hj (r.dj j i c hcj (z ▸ hm))
            rw [upd_ne hne]
          have il : i < Γ.length := (List.getElem?_eq_some_iff.mp hd).1
          refine k _ (Γ.set i (.ow (.dp d'))) _ F _ fp .refl ⟨fun c o q => ?_, fun c o q => ?_, by rw [List.length_set]; exact r.len, fun j d q => ?_, fun j o q => ?_, fun j c hc => ?_, r.dj, fun j c q => r.ex j c (ex_ne (fun _ => Sl.noConfusion) q).2⟩ (.sh .non) (hR d' pre)
          · rw [upd_ne fun z => by rw [z, b1] at q; cases q]
            exact r.bx c o q
          · rw [upd_ne fun z => by rw [z, b2] at q; cases q]
            exact r.fx c o q
          · rcases set_get q with ⟨_, h⟩ | ⟨h, q⟩
            · cases h
            · exact r.sh j d q
          · rcases set_get q with ⟨h, h'⟩ | ⟨h, q⟩
            · cases h'
              subst h
              refine ⟨v, h1, ?_⟩
              rw [hf]
              refine .dp (r'.mono fun c o q => ?_) fun c hc => ?_
              · by_cases hca : c = ad
                · subst hca
                  rw [upd_same] at q
                  unfold frz
                  rw [if_pos (by rw [← hf]; exact hm), upd_same]
                  exact q
                · rw [upd_ne hca] at q
                  unfold frz at q ⊢
                  split at q
                  · rename_i m
                    rw [if_pos m, upd_ne hca]
                    exact q
                  · rename_i m
                    rw [if_neg m]
                    exact q
              · by_cases hca : c = ad
                · subst hca
                  exact ⟨_, upd_same⟩
                · rw [upd_ne hca]
                  exact h4 c hc
            · obtain ⟨w, g1, g2⟩ := r.ow j o q
              exact ⟨w, g1, g2.mono (Same.refl F) fun c hc => cell j c hc (fun z => h z.symm)⟩
          · obtain ⟨c1, c2, c3⟩ := r.nb j c hc
            refine ⟨c1, c2, ?_⟩
            by_cases hca : c = ad
            · subst hca
              rw [upd_same]
              exact fun z => nomatch z
            · rw [upd_ne hca]
              exact c3
    · exact q.elim
  · exact q.elim
theorem d_fgtK {i : Nat} {o : Expr} {to : TE} {g : D → Option D} {apos : Pos} (hp : DPath X i o to g) (hc : PAtom X a ta) (hbase : attributeBase o "append" X.env (eval o X.env) = eval o X.env := by rfl)
    (hfew : ((backTo pos (starEach [a] X.env)).all (fun x => !x.1) && (backToKw pos (keywordEach [] X.env)).all (fun x => x.1.isSome) && decide ([a].length + ([] : List Keyword).length + (if ([] : List Keyword).isEmpty then 0 else 1) < 30)) = true := by rfl)
    (hline : (apos.endLine == pos.line) = true := by rfl) (hs : starEach [a] X.env = (false, eval a X.env) :: starEach [] X.env := by rfl) (hpl : (backTo pos (starEach [] X.env)).any (·.1) = false := by rfl) :
    DE X W (.Call (.Attribute o "append" apos) [a] [] pos) (tBM X.K "list" rAppend to (tCons ta tNil)) (qFgtK i g) :=
  ⟨pe_bm PySem.F.plainAttrs_list PySem.F.slot_list_append PySem.F.type_list_append mt_append hp.pe (pa_cons hc.pe pa_nil hs) hbase hfew hline hs hpl, se_fgtK hp hc⟩
/-! ### min of a list with one item -/
def rMin1 (K : PySem.W.Frag) : List V → Hp → VK → Prop := fun vs H Q => ∃ (a : Addr) (x : V) (d : D), vs = [.ref a] ∧ SqL K H a [x] ∧ Dp K H x d ∧ PySem.W.AlikeAll [d] ∧ d.depth ≤ 60 ∧ Q x H
theorem cr_min1 {j : Nat} (hr : Room j X.A) (hc : X.calm = true) : CallR X (.builtin "min") (rMin1 X.K) := by
  intro pins s σ H vs us Q I r h
  obtain ⟨a, x, d, rfl, hs, hd, hal, hdp, q⟩ := h
  obtain ⟨its, rv, hl, _⟩ := I.list hs
  rw [Vals.ref1 r]
  obtain ⟨as, ra⟩ := Dp.readsAll I [d] [x] its (.cons hd .nil) rv
  refine PySem.W.min_list_data (I.ok.hd hc) hl.isList (by rw [List.toList_toArray]; exact ra) hal ?_ fun i v h' tk bs hv hrd hk => ?_
  · have := hr.un
    show X.A.units + 1 + PyData.depthAll [d] < cLine
    simp only [PyData.depthAll]
    omega
  · cases rv with
    | @cons _ b0 _ _ hx t =>
      cases t
      have hv : v = b0 := by
        cases i with
        | zero => simpa using hv.symm
        | succ i => simp at hv
      subst hv
      exact ⟨x, H, I.kept hk, hx, q⟩
def opMin1 : OP1 := fun d k => match d with
  | .list [e] => flat 60 e = true ∧ PySem.W.alike e e = true ∧ e ≠ .none ∧ k (.sh e)
  | _ => False
theorem us_min1 {K : PySem.W.Frag} : UnS (fun x H Q => rMin1 K [x] H Q) opMin1 := fun {B F Γ σ H fp x d} k Q r b z c => by
  cases b with
  | @lst a xs ds e t =>
    unfold opMin1 at z
    split at z
    · rename_i e' q
      cases q
      obtain ⟨hf, ha, hn, z⟩ := z
      cases t with
      | @cons v _ _ _ h t =>
        cases t
        refine ⟨a, v, e', rfl, .inl (.inl e), (h.mono r.fx).dpf hf, ⟨fun x hx y hy => by simp at hx hy; subst hx hy; exact ha, fun x hx => by simp at hx; subst hx; exact hn⟩, ?_, op_sc r h c z⟩
        simp only [flat, Bool.and_eq_true, decide_eq_true_eq] at hf
        exact hf.2
    · exact z.elim
  | _ => exact z.elim
theorem d_min1 (hr : Room j X.A) (hc : X.calm = true) (hm : X.mg "min" = none) (ha : DE X W a ta pa) (hg : Gl X "min" := by rfl) (he : starEach [a] X.env = (false, eval a X.env) :: starEach [] X.env := by rfl) (hpl : (backTo pos (starEach [] X.env)).any (·.1) = false := by rfl) :
    DE X W (.Call (.Name "min" p) [a] [] pos) (tCB (rMin1 X.K) (tCons ta tNil)) (qUn opMin1 pa) := d_bi1 (cr_min1 hr hc) us_min1 hm (by decide +kernel) ha hg (by decide) (by decide) he hpl
end
end PL

namespace PL
open PySem PySem.Spec PyProof.Rows L2
abbrev tl (x : Str) : List Nat := x.cps.toList
theorem idxOf?_mem {l : List Nat} {c : Nat} (h : c ∈ l) : l.idxOf? c = some (l.idxOf c) := List.findIdx?_eq_some_iff_findIdx_eq.mpr ⟨List.idxOf_lt_length_iff.mpr h, rfl⟩
theorem str_ext {x y : Str} (h : tl x = tl y) : x = y := by
  cases x
  cases y
  congr 1
  exact Array.toList_inj.mp h
theorem tl_app (x y : Str) : tl (x ++ y) = tl x ++ tl y := by
  show (x.cps ++ y.cps).toList = _
  rw [Array.toList_append]
theorem ixD_map {α : Type} {xs : List α} {p : Nat} {a : α} (f : α → D) (h : xs[p]? = some a) : ixD (xs.map f) (p : Int) = some (f a) := by
  show (xs.map f)[p]? = _
  rw [List.getElem?_map, h]
  rfl
theorem ixD_nat {α : Type} {xs : List α} {p : Nat} {a : α} (h : xs[p]? = some a) : ixD xs (p : Int) = some a := h
theorem tl_len (x : Str) : (tl x).length = x.length := by simp [tl, Str.length]
def natD (n : Nat) : D := .int n
theorem intsOf_map' {α : Type} (g : α → Int) : ∀ xs : List α, intsOf (xs.map fun x => .int (g x)) = some (xs.map g)
  | [] => rfl
  | x :: r => by simp [intsOf, intsOf_map' g r]
theorem app_len (x y : Str) : (x ++ y).length = x.length + y.length := by
  rw [← tl_len, tl_app, List.length_append, tl_len, tl_len]
theorem hasDict_keys : ∀ k : List Key, PyData.hasDictAll (k.map keyD) = false
  | [] => by simp [PyData.hasDictAll]
  | .inl i :: r => by simp [PyData.hasDictAll, keyD, PyData.hasDict, hasDict_keys r]
  | .inr i :: r => by simp [PyData.hasDictAll, keyD, PyData.hasDict, hasDict_keys r]
theorem depth_keys : ∀ k : List Key, PyData.depthAll (k.map keyD) ≤ 1
  | [] => by simp [PyData.depthAll]
  | .inl i :: r => by
    have := depth_keys r
    simp only [List.map_cons, keyD, PyData.depthAll, PyData.depth]
    omega
  | .inr i :: r => by
    have := depth_keys r
    simp only [List.map_cons, keyD, PyData.depthAll, PyData.depth]
    omega
theorem flat_keys (k : List Key) : flat 60 (.tuple (k.map keyD)) = true := by
  have := depth_keys k
  have e : (PyData.tuple (k.map keyD)).depth = PyData.depthAll (k.map keyD) + 1 := by simp [PyData.depth]
  simp only [flat, PyData.hasDict, hasDict_keys, e, Bool.not_false, Bool.true_and, decide_eq_true_eq]
  omega
theorem boolsOf_map' {α : Type} (g : α → Bool) : ∀ xs : List α, boolsOf (xs.map fun x => .bool (g x)) = some (xs.map g)
  | [] => rfl
  | x :: r => by simp [boolsOf, boolsOf_map' g r]
theorem flat_int (i : Int) : flat 60 (.int i) = true := rfl
theorem eqv_nat (a b : Nat) : PyData.eqv (.int a) (.int b) = (a == b) := by
  have := eqv_keyD (.inl (a : Int)) (.inl (b : Int))
  show PyData.eqv (keyD (.inl (a : Int))) (keyD (.inl (b : Int))) = _
  rw [this, Bool.beq_eq_decide_eq]
  apply decide_eq_decide.mpr
  simp
  omega
theorem eqv_int (a b : Int) : PyData.eqv (.int a) (.int b) = decide (a = b) := by
  have := eqv_keyD (.inl a) (.inl b)
  show PyData.eqv (keyD (.inl a)) (keyD (.inl b)) = _
  rw [this]
  apply decide_eq_decide.mpr
  simp
theorem eqv_str (a b : Str) : PyData.eqv (.str a) (.str b) = decide (a = b) := by
  have := eqv_keyD (.inr a) (.inr b)
  show PyData.eqv (keyD (.inr a)) (keyD (.inr b)) = _
  rw [this]
  apply decide_eq_decide.mpr
  simp
theorem sign_inj (a b : Nat) : decide ((⟨#[a]⟩ : Str) = ⟨#[b]⟩) = decide (a = b) := by
  apply decide_eq_decide.mpr
  simp
theorem Cif.tt {c : Bool} {A B : Prop} (e : c = true) (h : A) : Cif c A B := by
  subst e
  exact Cif.yes h
theorem Cif.ff {c : Bool} {A B : Prop} (e : c = false) (h : B) : Cif c A B := by
  subst e
  exact Cif.no h
def intsD (ns : List Int) : D := .list (ns.map .int)
def scrD (ns : List Int) : D := .dict [(.none, intsD ns)]
theorem map_snoc (ns : List Int) (x : Int) : ns.map PyData.int ++ [.int x] = (ns ++ [x]).map .int := by simp
theorem app_in {ns : List Int} {l x : Int} (h : ∀ x ∈ ns, 0 ≤ x ∧ x < l) (h0 : 0 ≤ x) (h1 : x < l) : ∀ y ∈ ns ++ [x], 0 ≤ y ∧ y < l := by
  intro y hy
  rcases List.mem_append.mp hy with hy | hy
  · exact h y hy
  · simp at hy
    subst hy
    exact ⟨h0, h1⟩
def sameOk : Nat → D → Bool
  | 0, _ => false
  | n + 1, d => match d with
    | .list xs => decide (xs.length ≤ 1000000) && xs.all (sameOk n)
    | .tuple xs => decide (xs.length ≤ 1000000) && xs.all (sameOk n)
    | .dict _ => false
    | _ => true
theorem eqv_bool (a b : Bool) : PyData.eqv (.bool a) (.bool b) = decide (a = b) := by
  cases a <;> cases b <;> rfl
theorem strsOf_map' {α : Type} (g : α → Str) : ∀ xs : List α, strsOf (xs.map fun x => .str (g x)) = some (xs.map g)
  | [] => rfl
  | x :: r => by simp [strsOf, strsOf_map' g r]
theorem join_signs : ∀ cs : List Nat, tl (Str.join Str.empty (cs.map fun c => ⟨#[c]⟩)) = cs
  | [] => rfl
  | [c] => rfl
  | c :: d :: r => by
    have ih := join_signs (d :: r)
    show tl ((⟨#[c]⟩ : Str) ++ Str.empty ++ Str.join Str.empty ((d :: r).map fun c => ⟨#[c]⟩)) = _
    rw [tl_app, tl_app, ih]
    rfl
theorem nodup_inj {l : List Nat} (h : l.Nodup) {i j : Nat} {hi : i < l.length} {hj : j < l.length} (e : l[i] = l[j]) : i = j := by
  have p := List.pairwise_iff_getElem.mp h
  rcases Nat.lt_trichotomy i j with q | q | q
  · exact absurd e (p i j hi hj q)
  · exact q
  · exact absurd e.symm (p j i hj hi q)
theorem ixN_lt {n i : Nat} (h : i < n) : ixN n (i : Int) = some i := by
  unfold ixN
  rw [if_pos (by omega), if_pos (by omega)]
  simp
theorem enumD_map {α : Type} (g : α → D) : ∀ (xs : List α) (k : Nat), enumD k (xs.map g) = (xs.zipIdx k).map fun p => .tuple [.int (p.2 : Int), g p.1]
  | [], _ => rfl
  | x :: r, k => by simp [enumD, enumD_map g r]
theorem drop_cons {k n : Nat} {i : Nat} {r : List Nat} (h : (List.range n).drop k = i :: r) : k < n ∧ i = k ∧ r = (List.range n).drop (k + 1) := by
  by_cases hk : k < n
  · rw [List.drop_eq_getElem_cons (by simpa using hk)] at h
    simp only [List.getElem_range, List.cons.injEq] at h
    exact ⟨hk, h.1.symm, h.2.symm⟩
  · rw [List.drop_eq_nil_of_le (by simpa using hk)] at h
    cases h
theorem filter_one : ∀ (n p : Nat), p < n → ((List.range n).filter fun k => k == p) = [p]
  | 0, p, h => by omega
  | n + 1, p, h => by
    rw [List.range_succ, List.filter_append]
    by_cases e : p = n
    · subst e
      rw [List.filter_eq_nil_iff.mpr fun k hk => by simp only [List.mem_range] at hk; simp; omega]
      simp
    · rw [filter_one n p (by omega)]
      have : (n == p) = false := beq_eq_false_iff_ne.mpr (by omega)
      simp [this]
theorem nodup_le {α : Type} [DecidableEq α] : ∀ {l l' : List α}, l.Nodup → (∀ x ∈ l, x ∈ l') → l.length ≤ l'.length
  | [], _, _, _ => Nat.zero_le _
  | a :: r, l', h, hs => by
    have h := List.nodup_cons.mp h
    have ha := hs a (by simp)
    have := nodup_le (l := r) (l' := l'.erase a) h.2 fun x hx => (List.mem_erase_of_ne fun z => h.1 (by rw [← z]; exact hx)).mpr (hs x (List.mem_cons_of_mem _ hx))
    rw [List.length_erase_of_mem ha] at this
    have := List.length_pos_of_mem ha
    simp only [List.length_cons]
    omega
theorem ixD_last {α : Type} {xs : List α} {k : Nat} {a : α} (hl : xs.length = k + 1) (h : xs[k]? = some a) : ixD xs (-1) = some a := by
  show (if 0 < xs.length then xs[xs.length - 1 - 0]? else none) = _
  rw [if_pos (by omega), show xs.length - 1 - 0 = k by omega, h]
theorem plain_ints : ∀ ns : List Int, PyData.plainAll (ns.map .int) = true
  | [] => rfl
  | n :: r => by simp [PyData.plainAll, PyData.plain, plain_ints r]
theorem seq_i {p q : QS} {P : PEnds} {Γ : Ev} (h : p { P with nx := q P } Γ) : qSeq p q P Γ := h
end PL

namespace PL
open PySem PySem.Spec PyProof.Rows L2
/-! ### plain data that can be shown: no dict, depth k, weight w -/
structure Pd (k w : Nat) (d : D) : Prop where
  hd : d.hasDict = false
  dp : d.depth ≤ k
  wt : d.weight ≤ w
  sh : d.showable = true
  is : d.intsShort 13 = true
structure PdA (k w : Nat) (ds : List D) : Prop where
  hd : PyData.hasDictAll ds = false
  dp : PyData.depthAll ds ≤ k
  wt : PyData.weightAll ds ≤ w
  sh : PyData.showableAll ds = true
  is : PyData.intsShortAll 13 ds = true
theorem Pd.mono {k w k' w' : Nat} {d : D} (h : Pd k w d) (hk : k ≤ k') (hw : w ≤ w') : Pd k' w' d := ⟨h.hd, Nat.le_trans h.dp hk, Nat.le_trans h.wt hw, h.sh, h.is⟩
theorem PdA.mono {k w k' w' : Nat} {d : List D} (h : PdA k w d) (hk : k ≤ k') (hw : w ≤ w') : PdA k' w' d := ⟨h.hd, Nat.le_trans h.dp hk, Nat.le_trans h.wt hw, h.sh, h.is⟩
theorem Pd.non : Pd 0 0 .none := ⟨rfl, Nat.le_refl _, Nat.le_refl _, rfl, rfl⟩
theorem Pd.bool {b : Bool} : Pd 0 0 (.bool b) := ⟨rfl, Nat.le_refl _, Nat.le_refl _, rfl, rfl⟩
theorem Pd.int {i : Int} (h : -999999999999 ≤ i ∧ i ≤ 999999999999) : Pd 0 40 (.int i) := by
  have hlog : i ≠ 0 → i.natAbs.log2 < 40 := fun hz => (Nat.log2_lt (n := i.natAbs) (k := 40) (by omega)).mpr (by omega)
  refine ⟨rfl, Nat.le_refl _, ?_, ?_, ?_⟩
  · simp only [PyData.weight]
    split
    · omega
    · rename_i hz
      have := hlog (by simpa using hz)
      omega
  · simp only [PyData.showable, decide_eq_true_eq]
    by_cases hz : i = 0
    · subst hz
      decide
    · have := hlog hz
      omega
  · have := PyProof.Rows.intsShortAll_ints2 [i] (by simpa using h)
    simpa [PyData.intsShortAll] using this
theorem Pd.str {x : Str} : Pd 0 x.length (.str x) := ⟨rfl, Nat.le_refl _, by simp [PyData.weight, Str.length], rfl, rfl⟩
theorem PdA.nil {k : Nat} : PdA k 0 [] := ⟨rfl, Nat.zero_le _, Nat.le_refl _, rfl, rfl⟩
theorem PdA.cons {k w w' : Nat} {d : D} {ds : List D} (h : Pd k w d) (r : PdA k w' ds) : PdA k (w + w' + 1) (d :: ds) := by
  refine ⟨by simp [PyData.hasDictAll, h.hd, r.hd], ?_, ?_, by simp [PyData.showableAll, h.sh, r.sh], by simp [PyData.intsShortAll, h.is, r.is]⟩
  · have := h.dp
    have := r.dp
    simp only [PyData.depthAll]
    omega
  · have := h.wt
    have := r.wt
    simp only [PyData.weightAll]
    omega
theorem Pd.lst {k w : Nat} {ds : List D} (h : PdA k w ds) : Pd (k + 1) w (.list ds) := ⟨by simpa [PyData.hasDict] using h.hd, by have := h.dp; simp only [PyData.depth]; omega, by simpa [PyData.weight] using h.wt, by simpa [PyData.showable] using h.sh, by simpa [PyData.intsShort] using h.is⟩
theorem Pd.tup {k w : Nat} {ds : List D} (h : PdA k w ds) : Pd (k + 1) w (.tuple ds) := ⟨by simpa [PyData.hasDict] using h.hd, by have := h.dp; simp only [PyData.depth]; omega, by simpa [PyData.weight] using h.wt, by simpa [PyData.showable] using h.sh, by simpa [PyData.intsShort] using h.is⟩
theorem PdA.map {α : Type} {k w : Nat} (f : α → D) : ∀ (xs : List α), (∀ x ∈ xs, Pd k w (f x)) → PdA k ((w + 1) * xs.length) (xs.map f)
  | [], _ => .nil
  | x :: r, h => (PdA.cons (h x List.mem_cons_self) (PdA.map f r fun y hy => h y (List.mem_cons_of_mem _ hy))).mono (Nat.le_refl _) (by rw [List.length_cons, Nat.mul_succ]; omega)
theorem PdA.mapL {α : Type} {k w n : Nat} (f : α → D) (xs : List α) (h : ∀ x ∈ xs, Pd k w (f x)) (hn : xs.length ≤ n) : PdA k ((w + 1) * n) (xs.map f) := (PdA.map f xs h).mono (Nat.le_refl _) (Nat.mul_le_mul_left _ hn)
theorem PdA.app {k w w' : Nat} : ∀ {ds es : List D}, PdA k w ds → PdA k w' es → PdA k (w + w') (ds ++ es)
  | [], es, _, e => by
    rw [List.nil_append]
    exact e.mono (Nat.le_refl _) (Nat.le_add_left _ _)
  | d :: ds, es, h, e => by
    have h1 := h.hd
    have h2 := h.dp
    have h3 := h.wt
    have h4 := h.sh
    have h5 := h.is
    simp only [PyData.hasDictAll, Bool.or_eq_false_iff] at h1
    simp only [PyData.depthAll] at h2
    simp only [PyData.weightAll] at h3
    simp only [PyData.showableAll, Bool.and_eq_true] at h4
    simp only [PyData.intsShortAll, Bool.and_eq_true] at h5
    rw [List.cons_append]
    have ih := PdA.app (k := k) (w := PyData.weightAll ds) (w' := w') (ds := ds) ⟨h1.2, by omega, Nat.le_refl _, h4.2, h5.2⟩ e
    exact (PdA.cons (w := d.weight) ⟨h1.1, by omega, Nat.le_refl _, h4.1, h5.1⟩ ih).mono (Nat.le_refl _) (by omega)
theorem Pd.flat {k w : Nat} {d : D} (h : Pd k w d) (hk : k ≤ 60) : flat 60 d = true := by
  have := h.dp
  have e : d.depth ≤ 60 := by omega
  simp [PL.flat, h.hd, e]
theorem Pd.shown {k w : Nat} {d : D} (h : Pd k w d) (hw : w ≤ 60000) (hc : d.canLay0 = true) : d.shown.length + 64 ≤ sizeLine := by
  have h1 := PyData.shown_le 13 (by decide) d (PyData.leavesShort_of_canLay0 13 d hc h.is)
  have := h.wt
  have : d.weight ≤ 60000 := by omega
  have := Nat.mul_le_mul_left 15 this
  rw [sizeLine_eq]
  omega
theorem Pd.show {k w : Nat} {d : D} (h : Pd k w d) (hk : k ≤ 60) (hw : w ≤ 60000) : d.showable = true ∧ PL.flat 60 d = true ∧ (d.canLay0 = true → d.shown.length + 64 ≤ sizeLine) := ⟨h.sh, h.flat hk, h.shown hw⟩
/-! ### slices of typed lists -/
def cutG {α : Type} (v : List α) (lo hi : Option Int) : List α := (v.drop (HT.sIx v.length 0 lo)).take (HT.sIx v.length v.length hi - HT.sIx v.length 0 lo)
theorem cutD_map {α : Type} (f : α → D) (v : List α) (lo hi : Option Int) : cutD (v.map f) lo hi = (cutG v lo hi).map f := by
  unfold cutD cutG
  rw [List.length_map, List.map_take, List.map_drop]
theorem cutG_to {α : Type} (v : List α) (k : Nat) : cutG v (some 0) (some (k : Int)) = v.take k := by
  unfold cutG
  rw [show (0 : Int) = ((0 : Nat) : Int) from rfl, HT.sIx_nat, HT.sIx_nat, Nat.zero_min, List.drop_zero, Nat.sub_zero, List.take_eq_take_iff]
  omega
theorem cutG_to0 {α : Type} (v : List α) (k : Nat) : cutG v none (some (k : Int)) = v.take k := by
  unfold cutG
  rw [HT.sIx_none, HT.sIx_nat, List.drop_zero, Nat.sub_zero, List.take_eq_take_iff]
  omega
theorem cutG_from {α : Type} (v : List α) (k : Nat) : cutG v (some (k : Int)) none = v.drop k := by
  unfold cutG
  rw [HT.sIx_nat, HT.sIx_none]
  by_cases h : k ≤ v.length
  · rw [Nat.min_eq_left h, List.take_of_length_le (by rw [List.length_drop]; omega)]
  · rw [Nat.min_eq_right (by omega), List.drop_of_length_le (Nat.le_refl _), List.drop_of_length_le (by omega), List.take_nil]
theorem cutG_btw {α : Type} (v : List α) (a b : Nat) : cutG v (some (a : Int)) (some (b : Int)) = (v.drop a).take (b - a) := by
  unfold cutG
  rw [HT.sIx_nat, HT.sIx_nat]
  by_cases h : a ≤ v.length
  · rw [Nat.min_eq_left h, List.take_eq_take_iff, List.length_drop]
    omega
  · rw [Nat.min_eq_right (a := a) (b := v.length) (by omega), List.drop_of_length_le (Nat.le_refl _), List.drop_of_length_le (by omega), List.take_nil, List.take_nil]
theorem mem_cutG {α : Type} {v : List α} {lo hi : Option Int} {x : α} (h : x ∈ cutG v lo hi) : x ∈ v := List.mem_of_mem_drop (List.mem_of_mem_take h)
theorem len_cutG {α : Type} (v : List α) (lo hi : Option Int) : (cutG v lo hi).length ≤ v.length := by
  unfold cutG
  rw [List.length_take, List.length_drop]
  omega
end PL

namespace PL
open PySem PySem.Spec PyProof.Rows L2
/-! ### typed dicts -/
section
variable {κ α : Type} [DecidableEq κ]
def lkG (ps : List (κ × α)) (x : κ) : Option α := (ps.find? fun p => decide (p.1 = x)).map (·.2)
def putG (ps : List (κ × α)) (x : κ) (v : α) : List (κ × α) := if x ∈ ps.map (·.1) then ps.map (fun p => if p.1 = x then (p.1, v) else p) else ps ++ [(x, v)]
def kdG (e : κ → D) (f : α → D) (ps : List (κ × α)) : List (D × D) := ps.map fun p => (e p.1, f p.2)
variable {e : κ → D} {f : α → D}
theorem any_kdG (he : ∀ a b, PyData.eqv (e a) (e b) = decide (a = b)) (x : κ) : ∀ ps : List (κ × α), ((kdG e f ps).any fun p => PyData.eqv p.1 (e x)) = decide (x ∈ ps.map (·.1))
  | [] => by simp [kdG]
  | p :: r => by
    have ih := any_kdG he x r
    unfold kdG at ih ⊢
    rw [List.map_cons, List.any_cons, ih, he]
    by_cases z : p.1 = x
    · subst z
      simp
    · have z' : x ≠ p.1 := fun y => z y.symm
      simp [z, z']
theorem look_kdG (he : ∀ a b, PyData.eqv (e a) (e b) = decide (a = b)) (x : κ) : ∀ ps : List (κ × α), lookD (kdG e f ps) (e x) = (lkG ps x).map f
  | [] => rfl
  | p :: r => by
    have ih := look_kdG he x r
    unfold lookD kdG lkG at ih ⊢
    simp only [List.map_cons, List.find?_cons, he]
    by_cases z : p.1 = x
    · simp [z]
    · simp only [z, decide_false]
      exact ih
theorem put_kdG (he : ∀ a b, PyData.eqv (e a) (e b) = decide (a = b)) (x : κ) (v : α) (ps : List (κ × α)) : putD (kdG e f ps) (e x) (f v) = kdG e f (putG ps x v) := by
  unfold putD putG
  rw [any_kdG he]
  by_cases z : x ∈ ps.map (·.1)
  · rw [if_pos (by simpa using z), if_pos z]
    unfold kdG
    rw [List.map_map, List.map_map]
    apply List.map_congr_left
    intro p _
    simp only [Function.comp_apply, he]
    by_cases w : p.1 = x
    · simp [w]
    · simp [w]
  · rw [if_neg (by simpa using z), if_neg z]
    unfold kdG
    simp
theorem len_kdG (ps : List (κ × α)) : (kdG e f ps).length = ps.length := List.length_map _
theorem keys_putG (ps : List (κ × α)) (x : κ) (v : α) : (putG ps x v).map (·.1) = if x ∈ ps.map (·.1) then ps.map (·.1) else ps.map (·.1) ++ [x] := by
  unfold putG
  split
  · rw [List.map_map]
    apply List.map_congr_left
    intro p _
    simp only [Function.comp_apply]
    split <;> rfl
  · simp
theorem lk_putG (ps : List (κ × α)) (x y : κ) (v : α) : lkG (putG ps x v) y = if x = y then some v else lkG ps y := by
  unfold putG
  split
  · rename_i h
    induction ps with
    | nil => simp at h
    | cons p r ih =>
      unfold lkG at ih ⊢
      rw [List.map_cons, List.find?_cons, List.find?_cons]
      by_cases hp : p.1 = x
      · subst hp
        simp only [if_true]
        by_cases hy : p.1 = y
        · simp [hy]
        · simp only [hy, decide_false, if_false]
          by_cases hr : p.1 ∈ r.map (·.1)
          · have := ih hr
            simp only [hy, if_false] at this
            exact this
          · have e : (r.map fun q => if q.1 = p.1 then (q.1, v) else q) = r := by
              conv => rhs; rw [← List.map_id r]
              apply List.map_congr_left
              intro q hq
              rw [if_neg fun z => hr (List.mem_map.mpr ⟨q, hq, z⟩)]
              rfl
            rw [e]
      · have hr : x ∈ r.map (·.1) := by
          rcases List.mem_cons.mp h with q | q
          · exact absurd q.symm hp
          · exact q
        have := ih hr
        simp only [hp, if_false]
        by_cases hy : p.1 = y
        · have : ¬ x = y := fun z => hp (hy.trans z.symm)
          simp [hy, this]
        · simp only [hy, decide_false]
          exact this
  · rename_i h
    unfold lkG
    rw [List.find?_append]
    by_cases hy : x = y
    · subst hy
      have : ps.find? (fun p => decide (p.1 = x)) = none := by
        rw [List.find?_eq_none]
        intro p hp z
        exact h (List.mem_map.mpr ⟨p, hp, by simpa using z⟩)
      simp [this]
    · simp [hy]
theorem lkG_some {ps : List (κ × α)} {x : κ} : (lkG ps x).isSome = decide (x ∈ ps.map (·.1)) := by
  unfold lkG
  induction ps with
  | nil => rfl
  | cons p r ih =>
    rw [List.find?_cons]
    by_cases h : p.1 = x
    · subst h
      simp
    · have h' : x ≠ p.1 := fun z => h z.symm
      simp only [h, decide_false]
      rw [ih]
      simp [h']
theorem lkG_mem {ps : List (κ × α)} (hn : (ps.map (·.1)).Nodup) {p : κ × α} (hp : p ∈ ps) : lkG ps p.1 = some p.2 := by
  induction ps with
  | nil => simp at hp
  | cons q r ih =>
    unfold lkG
    rw [List.find?_cons]
    rw [List.map_cons, List.nodup_cons] at hn
    rcases List.mem_cons.mp hp with z | z
    · subst z
      simp
    · have : ¬ q.1 = p.1 := fun e => hn.1 (List.mem_map.mpr ⟨p, z, e.symm⟩)
      simp only [this, decide_false]
      exact ih hn.2 z
/-- the pairs of a list with different keys -/
theorem merge_kdG (he : ∀ a b, PyData.eqv (e a) (e b) = decide (a = b)) : ∀ (more ps : List (κ × α)), ((ps ++ more).map (·.1)).Nodup → mergeD (kdG e f ps) (kdG e f more) = kdG e f (ps ++ more)
  | [], ps, _ => by simp [mergeD, kdG]
  | p :: r, ps, h => by
    have hp : p.1 ∉ ps.map (·.1) := by
      intro z
      rw [List.map_append, List.nodup_append] at h
      exact h.2.2 _ z p.1 (by simp) rfl
    have e1 : mergeD (kdG e f ps) (kdG e f (p :: r)) = mergeD (putD (kdG e f ps) (e p.1) (f p.2)) (kdG e f r) := rfl
    rw [e1, put_kdG he, show putG ps p.1 p.2 = ps ++ [p] by unfold putG; rw [if_neg hp], merge_kdG he r (ps ++ [p]) (by simpa using h)]
    simp
end
/-! ### lists of texts -/
def txtsD (ss : List Str) : D := .list (ss.map .str)
theorem strs_pd {ss : List Str} {n m : Nat} (h : ∀ s ∈ ss, s.length ≤ m) (hn : ss.length ≤ n) : Pd 1 ((m + 1) * n) (txtsD ss) := .lst (PdA.mapL PyData.str ss (fun s hs => Pd.str.mono (Nat.le_refl _) (h s hs)) hn)
theorem dict_strs : ∀ ws : List Str, PyData.hasDictAll (ws.map .str) = false
  | [] => by simp [PyData.hasDictAll]
  | a :: r => by simp [PyData.hasDictAll, PyData.hasDict, dict_strs r]
theorem depth_strs : ∀ ws : List Str, PyData.depthAll (ws.map .str) = 0
  | [] => by simp [PyData.depthAll]
  | a :: r => by simp [PyData.depthAll, PyData.depth, depth_strs r]
theorem flat_strs (ws : List Str) : flat 60 (.list (ws.map .str)) = true := by
  have e1 : (PyData.list (ws.map .str)).hasDict = false := by simp [PyData.hasDict, dict_strs]
  have e2 : (PyData.list (ws.map .str)).depth ≤ 60 := by simp [PyData.depth, depth_strs]
  simp [flat, e1, e2]
theorem in_strs (x : Str) (ws : List Str) : inD (.str x) (ws.map .str) = decide (x ∈ ws) := by
  unfold inD
  induction ws with
  | nil => simp
  | cons a r ih =>
    rw [List.map_cons, List.any_cons, ih, eqv_str]
    by_cases z : a = x
    · subst z
      simp
    · have z' : x ≠ a := fun y => z y.symm
      simp [z, z']
theorem hasDict_nats : ∀ c : List Nat, PyData.hasDictAll (c.map natD) = false
  | [] => rfl
  | a :: r => by simp [PyData.hasDictAll, natD, PyData.hasDict, hasDict_nats r]
theorem depth_nats : ∀ c : List Nat, PyData.depthAll (c.map natD) = 0
  | [] => rfl
  | a :: r => by simp [PyData.depthAll, natD, PyData.depth, depth_nats r]
theorem flat_nats (c : List Nat) : flat 60 (.list (c.map natD)) = true := by
  have e1 : (PyData.list (c.map natD)).hasDict = false := by simp [PyData.hasDict, hasDict_nats]
  have e2 : (PyData.list (c.map natD)).depth ≤ 60 := by simp [PyData.depth, depth_nats]
  simp [flat, e1, e2]
theorem in_nats' (x : Nat) (ws : List Nat) : inD (.int (x : Int)) (ws.map natD) = decide (x ∈ ws) := by
  unfold inD
  induction ws with
  | nil => simp
  | cons a r ih =>
    rw [List.map_cons, List.any_cons, ih, show PyData.eqv (natD a) (.int (x : Int)) = (a == x) from eqv_nat a x]
    by_cases z : a = x
    · subst z
      simp
    · have z' : x ≠ a := fun y => z y.symm
      simp [z, z']
theorem ints_nat (c : List Nat) : intsOf (c.map natD) = some (c.map fun n : Nat => (n : Int)) := by
  have := intsOf_map' (fun n : Nat => (n : Int)) c
  exact this
theorem ints_at {ns : List Int} {n : Nat} (h : ns.length = n) {k : Nat} (hk : k < n) {l : Int} (hr : ∀ x ∈ ns, 0 ≤ x ∧ x < l) : ∃ x : Nat, ixD (ns.map PyData.int) (k : Int) = some (.int (x : Int)) ∧ (x : Int) < l := by
  have hk : k < ns.length := by omega
  obtain ⟨h0, h1⟩ := hr _ (List.getElem_mem hk)
  refine ⟨ns[k].toNat, ?_, by omega⟩
  rw [ixD_map _ (List.getElem?_eq_getElem hk)]
  congr 2
  omega
theorem nats_ints (c : List Nat) : c.map natD = (c.map fun n : Nat => (n : Int)).map PyData.int := by
  rw [List.map_map]
  rfl
theorem eqv_strD (a b : Str) : PyData.eqv (.str a) (.str b) = decide (a = b) := eqv_str a b
theorem eqv_natD (a b : Nat) : PyData.eqv (natD a) (natD b) = decide (a = b) := by
  rw [show PyData.eqv (natD a) (natD b) = (a == b) from eqv_nat a b]
  by_cases h : a = b <;> simp [h]
mutual
theorem plain_nd : ∀ d : D, d.hasDict = false → d.plain = true
  | .none, _ => rfl
  | .bool _, _ => rfl
  | .int _, _ => rfl
  | .str _, _ => rfl
  | .list xs, h => by simpa [PyData.plain] using plain_ndA xs (by simpa [PyData.hasDict] using h)
  | .tuple xs, h => by simpa [PyData.plain] using plain_ndA xs (by simpa [PyData.hasDict] using h)
  | .dict _, h => by simp [PyData.hasDict] at h
theorem plain_ndA : ∀ ds : List D, PyData.hasDictAll ds = false → PyData.plainAll ds = true
  | [], _ => rfl
  | d :: r, h => by
    simp only [PyData.hasDictAll, Bool.or_eq_false_iff] at h
    simp [PyData.plainAll, plain_nd d h.1, plain_ndA r h.2]
end
theorem Pd.refl {k w : Nat} {d : D} (h : Pd k w d) : PyData.eqv d d = true := PySem.SeqAt.eqv_refl_plain d (plain_nd d h.hd)
def NoO (a : Sl) : Prop := a = .un ∨ ∃ d, a = .sh d
theorem ixN_mod {n : Nat} {a : Int} (h : 0 < n) : ∃ j : Nat, ixN n (a % (n : Int)) = some j ∧ j < n ∧ a % (n : Int) = (j : Int) := by
  have h1 := Int.emod_nonneg a (b := (n : Int)) (by omega)
  have h2 := Int.emod_lt_of_pos a (b := (n : Int)) (by omega)
  refine ⟨(a % (n : Int)).toNat, ?_, by omega, by omega⟩
  have e : a % (n : Int) = (((a % (n : Int)).toNat : Nat) : Int) := by omega
  rw [e]
  exact ixN_lt (by omega)
end PL

namespace PL
open PySem PySem.Spec PyProof.Rows L2
section
variable {α : Type} {b : Bool} {vs vs1 : List Nat} {g g1 : QG} {t1 : QT} {i1 : QI} {pk pv : QE} {k : List (D × D) → Ev → Prop} {Γ : Ev}
theorem Cif.eta {A B : Ev → Prop} : (fun Γ1 => Cif true (A Γ1) (B Γ1)) = A := by
  funext Γ1
  exact propext ⟨fun h => h.t rfl, Cif.yes⟩
theorem dcGo_inv (enc : α → D) (I : List α → List (D × D) → Prop) (h0 : ∀ acc, I [] acc → k acc Γ)
    (hs : ∀ x r acc (K : List (D × D) → Ev → Prop), I (x :: r) acc → (∀ acc', I r acc' → K acc' Γ) → g (.sh (enc x)) Γ fun Γ1 => pk Γ1 (fun w Γ3 => shr w Γ3 fun dk Γ4 => pv Γ4 (fun w Γ5 => shr w Γ5 fun dv Γ6 => (if b = true then keyT dk else keyK dk) = true ∧ acc.length < sizeLine ∧ K (putD acc dk dv) (wipEv vs Γ6)) noEX) noEX) :
    ∀ (xs : List α) (acc : List (D × D)), I xs acc → dcGo b vs g qYes pk pv k (xs.map enc) acc Γ
  | [], acc, h => h0 acc h
  | x :: r, acc, h => by
    have := hs x r acc (fun acc' Γ' => dcGo b vs g qYes pk pv k (r.map enc) acc' Γ') h fun acc' h' => dcGo_inv enc I h0 hs r acc' h'
    show g (.sh (enc x)) Γ fun Γ1 => Cif true _ _
    rw [Cif.eta]
    exact this
theorem dc2Go_inv (enc : α → D) (I : List α → List (D × D) → Prop) (h0 : ∀ acc, I [] acc → k acc Γ)
    (hs : ∀ x r acc (K : List (D × D) → Ev → Prop), I (x :: r) acc → (∀ acc', I r acc' → K acc' Γ) → g (.sh (enc x)) Γ fun Γ1 => i1 Γ1 (fun ds1 Γ3 => dcGo b vs1 g1 t1 pk pv (fun acc' Γ4 => K acc' (wipEv vs Γ4)) ds1 acc (wipEv vs1 Γ3)) noEX) :
    ∀ (xs : List α) (acc : List (D × D)), I xs acc → dc2Go b vs vs1 g qYes i1 g1 t1 pk pv k (xs.map enc) acc Γ
  | [], acc, h => h0 acc h
  | x :: r, acc, h => by
    have := hs x r acc (fun acc' Γ' => dc2Go b vs vs1 g qYes i1 g1 t1 pk pv k (r.map enc) acc' Γ') h fun acc' h' => dc2Go_inv enc I h0 hs r acc' h'
    show g (.sh (enc x)) Γ fun Γ1 => Cif true _ _
    rw [Cif.eta]
    exact this
end
end PL

namespace PL
open PySem PySem.Spec PyProof.Rows L2
theorem eqv_intsL (a b : List Int) : PyData.eqv (.list (a.map .int)) (.list (b.map .int)) = decide (a = b) := by
  have e : ∀ c : List Int, c.map PyData.int = (c.map Sum.inl : List Key).map keyD := fun c => by simp [keyD, Function.comp_def]
  rw [e a, e b, PyData.eqv, eqv_keysD]
  exact decide_eq_decide.mpr (List.map_inj_right fun x y h => Sum.inl.inj h)
theorem hasDict_ints : ∀ c : List Int, PyData.hasDictAll (c.map .int) = false
  | [] => by simp [PyData.hasDictAll]
  | n :: r => by simp [PyData.hasDictAll, PyData.hasDict, hasDict_ints r]
theorem depth_ints : ∀ c : List Int, PyData.depthAll (c.map .int) = 0
  | [] => by simp [PyData.depthAll]
  | n :: r => by simp [PyData.depthAll, PyData.depth, depth_ints r]
theorem flat_ints (c : List Int) : flat 60 (.list (c.map .int)) = true := by
  have e1 : (PyData.list (c.map .int)).hasDict = false := by simp [PyData.hasDict, hasDict_ints]
  have e2 : (PyData.list (c.map .int)).depth ≤ 60 := by simp [PyData.depth, depth_ints]
  simp [flat, e1, e2]
theorem sorted_eq {ms l mv : List Int} (h1 : ms.Perm l) (h2 : ms.Pairwise (· ≤ ·)) (h3 : mv.Pairwise (· ≤ ·)) : decide (ms = mv) = decide (l.Perm mv) := by
  apply decide_eq_decide.mpr
  constructor
  · intro e
    subst e
    exact h1.symm
  · intro e
    exact List.Perm.eq_of_pairwise (le := (· ≤ ·)) (fun a b _ _ x y => Int.le_antisymm x y) h2 h3 (h1.trans e)
theorem rgD_nat (n : Nat) : rgD 0 (n : Int) = (List.range n).map natD := by
  unfold rgD
  simp [natD]
def rangeI (n : Nat) : List Int := (List.range n).map fun k : Nat => (k : Int)
theorem rgD_int (n : Nat) : rgD 0 (n : Int) = (rangeI n).map .int := by
  rw [rgD_nat, nats_ints]
  rfl
theorem rangeI_sorted (n : Nat) : (rangeI n).Pairwise (· ≤ ·) := by
  unfold rangeI
  rw [List.pairwise_map]
  exact (List.pairwise_lt_range).imp fun h => by omega
theorem in_intN (b : Int) (l : List Nat) : inD (.int b) (l.map natD) = decide (b ∈ l.map fun n : Nat => (n : Int)) := by
  unfold inD
  induction l with
  | nil => simp
  | cons a r ih =>
    rw [List.map_cons, List.any_cons, ih, show PyData.eqv (natD a) (.int b) = decide ((a : Int) = b) from eqv_int a b]
    by_cases z : (a : Int) = b
    · subst z
      simp
    · have z' : ¬ b = (a : Int) := fun y => z y.symm
      simp [z, z']
theorem in_intsI (b : Int) (l : List Int) : inD (.int b) (l.map .int) = decide (b ∈ l) := by
  unfold inD
  induction l with
  | nil => simp
  | cons a r ih =>
    rw [List.map_cons, List.any_cons, ih, eqv_int]
    by_cases z : a = b
    · subst z
      simp
    · have z' : ¬ b = a := fun y => z y.symm
      simp [z, z']
theorem rg1_map (n : Nat) : ((List.range (((n : Nat) : Int) - 1).toNat).map fun k : Nat => PyData.int (1 + (k : Int))) = ((List.range n).drop 1).map fun j : Nat => .int (j : Int) := by
  apply List.ext_getElem
  · simp
  · intro k h1 h2
    simp only [List.getElem_map, List.getElem_range, List.getElem_drop]
    congr 1
theorem rgm_map (n : Nat) (h : 1 ≤ n) : ((List.range (((n : Nat) : Int) - 1).toNat).map fun k : Nat => PyData.int (k : Int)) = (List.range (n - 1)).map fun j : Nat => .int (j : Int) := by
  rw [show (((n : Nat) : Int) - 1).toNat = n - 1 by omega]
end PL

namespace PL
open PySem PySem.Spec PyProof.Rows L2
section
variable {α : Type} {vs : List Nat} {g : QG} {t : QT} {p : QE} {k : List D → Ev → Prop} {Γ : Ev}
/-- a comprehension by an invariant of what it has made -/
theorem lcGo_inv (enc : α → D) (I : List α → List D → Prop) (h0 : ∀ acc, I [] acc → k acc Γ)
    (hs : ∀ x r acc (K : List D → Ev → Prop), I (x :: r) acc → (∀ acc', I r acc' → K acc' Γ) → g (.sh (enc x)) Γ fun Γ1 => t Γ1 (fun b Γ2 => Cif b (p Γ2 (fun w Γ3 => shr w Γ3 fun y Γ4 => acc.length < sizeLine ∧ K (acc ++ [y]) (wipEv vs Γ4)) noEX) (K acc (wipEv vs Γ2))) noEX) :
    ∀ (xs : List α) (acc : List D), I xs acc → lcGo vs g t p k (xs.map enc) acc Γ
  | [], acc, h => h0 acc h
  | x :: r, acc, h => hs x r acc (fun acc' Γ' => lcGo vs g t p k (r.map enc) acc' Γ') h fun acc' h' => lcGo_inv enc I h0 hs r acc' h'
end
theorem cut_ints (ns : List Int) (a b : Nat) : cutD (ns.map PyData.int) (some (a : Int)) (some (b : Int)) = ((ns.drop a).take (b - a)).map .int := by rw [cutD_map, cutG_btw]
theorem map_snocS (l : List Str) (x : Str) : l.map PyData.str ++ [.str x] = (l ++ [x]).map .str := by simp
end PL

set_option pp.maxSteps 1500
namespace PL
open PySem PySem.Spec PyProof.Rows L2
local macro_rules | `(tactic| ac_rfl) => `(tactic| ((conv => whnf); repeat ((first | refine Cif.yes ?_ | refine Cif.no ?_ | (refine And.intro ?_ ?_; · first | (show _ ≤ (_ : Int); omega) | (show _ < (_ : Int); omega) | assumption | exact trivial | exact rfl | (refine small ?_; first | omega | (simp only [List.length_map, List.length_cons, List.length_nil, List.length_append]; omega)) | (refine ltsmall ?_; first | omega | (simp only [List.length_map, List.length_cons, List.length_nil, List.length_append]; omega)) | (refine cdiv ?_ ?_ <;> omega) | (refine cmulR ?_ ?_ <;> omega) | (refine cmulL ?_ ?_ <;> omega) | (refine ⟨?_, ?_, ?_, ?_⟩ <;> omega))); (conv => whnf))))
local macro_rules | `(tactic| exists $e) => `(tactic| first | exact $e | exact And.right $e | exact And.right (And.right $e) | exact And.right (And.right (And.right $e)))
/-! ### cards -/
abbrev Card := List (Str × Str)
def cpD (p : Str × Str) : D := .tuple [.str p.1, .str p.2]
def cardD (c : Card) : D := .list (c.map cpD)
def cardsD (cs : List Card) : D := .list (cs.map cardD)
def kysD (ks : List (List Str)) : D := .list (ks.map txtsD)
structure CdOk (c : Card) : Prop where
  nd : (c.map (·.1)).Nodup
  le : c.length ≤ 5
def agB (o : Card) (p : Str × Str) : Bool := decide (lkG o p.1 = some p.2)
def diB (o : Card) (p : Str × Str) : Bool := (lkG o p.1).isSome && !decide (lkG o p.1 = some p.2)
def agL (a b : Card) : List Str := (a.filter (agB b)).map (·.1)
def diL (a b : Card) : List Str := (a.filter (diB b)).map (·.1)
theorem pairs_card : ∀ c : Card, pairsOf (c.map cpD) = some (kdG .str .str c)
  | [] => rfl
  | p :: r => by
    rw [List.map_cons]
    unfold cpD
    unfold pairsOf
    rw [if_pos (show keyK (PyData.str p.1) = true from rfl), show (fun p : Str × Str => PyData.tuple [.str p.1, .str p.2]) = cpD from rfl, pairs_card r]
    rfl
theorem merge_card {c : Card} (h : CdOk c) : mergeD [] (kdG .str .str c) = kdG .str .str c := by
  have := merge_kdG (e := .str) (f := .str) eqv_str c [] (by simpa using h.nd)
  simpa [kdG] using this
-- agreed(one, other) slots: 0=one 1=other 2=worths* 3=kind 4=worth
def q_agreed : QS :=
  (qSeq (qAsg (qUn opDictP (qVar 1)) (qgN 2))
  (qRet (qLc [3, 4] (qiL (qVar 0)) (qgTup 2 (qgCons (qgN 3) (qgCons (qgN 4) qgNil))) (qAnd (qB (qDIn id (qVar 3) (qVar 2))) (qB (qOp opEq (qDGet (qVar 2) (qVar 3)) (qVar 4)))) (qVar 3))))
def P_agreed : PD := fun ds R => ∃ a b : Card, ds = [cardD a, cardD b] ∧ CdOk a ∧ CdOk b ∧ R (.ow (.l ((agL a b).map .str)))
theorem pure_agreed : ∀ ds R, ds.length = 2 → P_agreed ds R → q_agreed (endsOf R) (startEv 5 ds) := by
  rintro ds R - ⟨a, b, rfl, ha, hb, h⟩
  ac_rfl
  rw [pairs_card]
  ac_rfl
  rw [merge_card hb]
  refine lc0_fil (vs := [3, 4]) cpD (agB b) (fun p => .str p.1) a (fun p hp acc K ha hK1 hK2 => ?_) (small (by have := ha.le; omega)) ?_
  · unfold agB at hK1 hK2
    ac_rfl
    rw [look_kdG eqv_str]
    cases hl : lkG b p.1 with
    | none =>
      rw [hl] at hK1 hK2
      ac_rfl
      exact hK2 (by simp)
    | some v =>
      rw [hl] at hK1 hK2
      ac_rfl
      rw [look_kdG eqv_str, hl]
      ac_rfl
      rw [eqv_str]
      refine ⟨fun hz => ?_, fun hz => ?_⟩
      · ac_rfl
        exact hK1 (by simpa using hz)
      · exact hK2 (by simpa using hz)
  · have e : (agL a b).map PyData.str = (a.filter (agB b)).map fun p => .str p.1 := by
      unfold agL
      rw [List.map_map]
      rfl
    rw [e] at h
    exact h
-- differing(one, other) slots: 0=one 1=other 2=worths* 3=kind 4=worth
def q_differing : QS :=
  (qSeq (qAsg (qUn opDictP (qVar 1)) (qgN 2))
  (qRet (qLc [3, 4] (qiL (qVar 0)) (qgTup 2 (qgCons (qgN 3) (qgCons (qgN 4) qgNil))) (qAnd (qB (qDIn id (qVar 3) (qVar 2))) (qB (qOp opNe (qDGet (qVar 2) (qVar 3)) (qVar 4)))) (qVar 3))))
def P_differing : PD := fun ds R => ∃ a b : Card, ds = [cardD a, cardD b] ∧ CdOk a ∧ CdOk b ∧ R (.ow (.l ((diL a b).map .str)))
theorem pure_differing : ∀ ds R, ds.length = 2 → P_differing ds R → q_differing (endsOf R) (startEv 5 ds) := by
  rintro ds R - ⟨a, b, rfl, ha, hb, h⟩
  ac_rfl
  rw [pairs_card]
  ac_rfl
  rw [merge_card hb]
  refine lc0_fil (vs := [3, 4]) cpD (diB b) (fun p => .str p.1) a (fun p hp acc K ha hK1 hK2 => ?_) (small (by have := ha.le; omega)) ?_
  · unfold diB at hK1 hK2
    ac_rfl
    rw [look_kdG eqv_str]
    cases hl : lkG b p.1 with
    | none =>
      rw [hl] at hK1 hK2
      ac_rfl
      exact hK2 rfl
    | some v =>
      rw [hl] at hK1 hK2
      ac_rfl
      rw [look_kdG eqv_str, hl]
      ac_rfl
      rw [eqv_str]
      refine ⟨fun hz => ?_, fun hz => ?_⟩
      · ac_rfl
        exact hK1 (by simpa using hz)
      · exact hK2 (by simpa using hz)
  · have e : (diL a b).map PyData.str = (a.filter (diB b)).map fun p => .str p.1 := by
      unfold diL
      rw [List.map_map]
      rfl
    rw [e] at h
    exact h
theorem agL_len {a b : Card} (h : CdOk a) : (agL a b).length ≤ 5 := by
  have := h.le
  have := List.length_filter_le (agB b) a
  unfold agL
  rw [List.length_map]
  omega
theorem diL_len {a b : Card} (h : CdOk a) : (diL a b).length ≤ 5 := by
  have := h.le
  have := List.length_filter_le (diB b) a
  unfold diL
  rw [List.length_map]
  omega
def apB (a b : Card) (h : List Str) : Bool := (diL a b).any fun k => decide (k ∈ h)
-- are_apart(one, other, hard) slots: 0=one 1=other 2=hard* 3=kind
def q_are_apart : QS :=
  (qRet (qUn opAny (qLc [3] (qiL (qCall 2 P_differing (qCons (qVar 0) (qCons (qVar 1) qNil)))) (qgN 3) qYes (qOp (opInW id) (qVar 3) (qVar 2)))))
def P_are_apart : PD := fun ds R => ∃ (a b : Card) (hd : List Str), ds = [cardD a, cardD b, txtsD hd] ∧ CdOk a ∧ CdOk b ∧ R (.sh (.bool (apB a b hd)))
theorem pure_are_apart : ∀ ds R, ds.length = 3 → P_are_apart ds R → q_are_apart (endsOf R) (startEv 4 ds) := by
  rintro ds R - ⟨a, b, hd, rfl, ha, hb, h⟩
  have hl := diL_len (b := b) ha
  unfold apB at h
  ac_rfl
  refine ⟨a, b, rfl, ha, hb, ?_⟩
  ac_rfl
  refine lc0_map (vs := [3]) PyData.str (fun k => .bool (decide (k ∈ hd))) (diL a b) (fun k hk acc K ha hK => ?_) (small (by omega)) ?_
  · ac_rfl
    refine ⟨by rw [flat_strs]; rfl, ?_⟩
    rw [in_strs]
    ac_rfl
    exact hK
  · ac_rfl
    rw [boolsOf_map']
    ac_rfl
    rw [List.any_map]
    exact h
def oneB (a b : Card) (ks : List (List Str)) : Bool := ks.any fun key => key.all fun k => decide (k ∈ agL a b)
def relS (a b : Card) (h : List Str) (ks : List (List Str)) : Str := if apB a b h = true then Str.ofString "apart" else if oneB a b ks = true then Str.ofString "one" else Str.ofString "open"
structure KsOk (ks : List (List Str)) : Prop where
  le : ks.length ≤ 100
  kl : ∀ k ∈ ks, k.length ≤ 100
-- relation(one, other, hard, keys) slots: 0=one 1=other 2=hard 3=keys 4=same* 5=key 6=kind
def q_relation : QS :=
  (qSeq (qIfS (qB (qCall 3 P_are_apart (qCons (qVar 0) (qCons (qVar 1) (qCons (qVar 2) qNil)))))
   (qRet (qC (.str "apart")))
   qNext)
  (qSeq (qAsg (qCall 2 P_agreed (qCons (qVar 0) (qCons (qVar 1) qNil))) (qgN 4))
  (qFrz 4 (qSeq (qFor (qiL (qVar 3)) (qgN 5)
   (qIfS (qB (qUn opAll (qLc [6] (qiL (qVar 5)) (qgN 6) qYes (qOp (opInW id) (qVar 6) (qVar 4)))))
    (qRet (qC (.str "one")))
    qNext))
  (qRet (qC (.str "open")))))))
def P_relation : PD := fun ds R => ∃ (a b : Card) (hd : List Str) (ks : List (List Str)), ds = [cardD a, cardD b, txtsD hd, kysD ks] ∧ CdOk a ∧ CdOk b ∧ KsOk ks ∧ R (.sh (.str (relS a b hd ks)))
theorem pure_relation : ∀ ds R, ds.length = 4 → P_relation ds R → q_relation (endsOf R) (startEv 7 ds) := by
  rintro ds R - ⟨a, b, hd, ks, rfl, ha, hb, hk, h⟩
  unfold relS at h
  ac_rfl
  refine ⟨a, b, hd, rfl, ha, hb, ?_⟩
  ac_rfl
  refine ⟨fun hz => ?_, fun hz => ?_⟩
  · rw [if_pos hz] at h
    ac_rfl
    exact h
  · rw [if_neg (by rw [hz]; simp)] at h
    ac_rfl
    refine ⟨a, b, rfl, ha, hb, ?_⟩
    ac_rfl
    refine forGo_ok txtsD (fun r Γ => ∃ (x5 : Sl), Γ = [.sh (cardD a), .sh (cardD b), .sh (txtsD hd), .sh (kysD ks), .sh (.list ((agL a b).map .str)), x5, .un] ∧ oneB a b ks = oneB a b r ∧ ∀ k ∈ r, k.length ≤ 100) ?_ ?_ ks _ ⟨_, rfl, rfl, hk.kl⟩
    · rintro Γ ⟨x5, rfl, ho, _⟩
      rw [ho] at h
      ac_rfl
      exact h
    · rintro key r Γ K ⟨x5, rfl, ho, hl⟩ hK
      have hkl := hl key (by simp)
      have hoc : oneB a b (key :: r) = ((key.all fun k => decide (k ∈ agL a b)) || oneB a b r) := by unfold oneB; rw [List.any_cons]
      rw [hoc] at ho
      ac_rfl
      refine lc0_map (vs := [6]) PyData.str (fun k => .bool (decide (k ∈ agL a b))) key (fun k hk acc K ha hK => ?_) (small (by omega)) ?_
      · ac_rfl
        refine ⟨by rw [flat_strs]; rfl, ?_⟩
        rw [in_strs]
        ac_rfl
        exact hK
      · ac_rfl
        rw [boolsOf_map']
        ac_rfl
        rw [List.all_map]
        refine ⟨fun hz => ?_, fun hz => ?_⟩
        · rw [ho, show (key.all fun k => decide (k ∈ agL a b)) = true from hz, Bool.true_or, if_pos rfl] at h
          ac_rfl
          exact h
        · rw [show (key.all fun k => decide (k ∈ agL a b)) = false from hz, Bool.false_or] at ho
          ac_rfl
          exact hK _ ⟨_, rfl, ho, fun k hk => hl k (List.mem_cons_of_mem _ hk)⟩
end PL

namespace PL
open PySem PySem.Spec PyProof.Rows L2
local macro_rules | `(tactic| ac_rfl) => `(tactic| ((conv => whnf); repeat ((first | refine Cif.yes ?_ | refine Cif.no ?_ | (refine And.intro ?_ ?_; · first | (show _ ≤ (_ : Int); omega) | (show _ < (_ : Int); omega) | assumption | exact trivial | exact rfl | (refine small ?_; first | omega | (simp only [List.length_map, List.length_cons, List.length_nil, List.length_append]; omega)) | (refine ltsmall ?_; first | omega | (simp only [List.length_map, List.length_cons, List.length_nil, List.length_append]; omega)) | (refine cdiv ?_ ?_ <;> omega) | (refine cmulR ?_ ?_ <;> omega) | (refine cmulL ?_ ?_ <;> omega) | (refine ⟨?_, ?_, ?_, ?_⟩ <;> omega))); (conv => whnf))))
local macro_rules | `(tactic| exists $e) => `(tactic| first | exact $e | exact And.right $e | exact And.right (And.right $e) | exact And.right (And.right (And.right $e)))
def optS : Option Str → D
  | none => .none
  | some v => .str v
-- _law_value(card, kind) slots: 0=card 1=kind 2=one 3=value
def q__law_value : QS :=
  (qSeq (qFor (qiL (qVar 0)) (qgTup 2 (qgCons (qgN 2) (qgCons (qgN 3) qgNil)))
   (qIfS (qB (qOp opEq (qVar 2) (qVar 1)))
    (qRet (qVar 3))
    qNext))
  (qRet (qC .none)))
def P__law_value : PD := fun ds R => ∃ (c : Card) (k : Str), ds = [cardD c, .str k] ∧ c.length ≤ 5 ∧ R (.sh (optS (lkG c k)))
theorem pure__law_value : ∀ ds R, ds.length = 2 → P__law_value ds R → q__law_value (endsOf R) (startEv 4 ds) := by
  rintro ds R - ⟨c, k, rfl, hc, h⟩
  ac_rfl
  refine forGo_ok cpD (fun r Γ => ∃ (x2 x3 : Sl), Γ = [.sh (cardD c), .sh (.str k), x2, x3] ∧ lkG c k = lkG r k) ?_ ?_ c _ ⟨_, _, rfl, rfl⟩
  · rintro Γ ⟨x2, x3, rfl, ho⟩
    rw [ho] at h
    ac_rfl
    exact h
  · rintro p r Γ K ⟨x2, x3, rfl, ho⟩ hK
    have e1 : lkG (p :: r) k = if p.1 = k then some p.2 else lkG r k := by
      unfold lkG
      rw [List.find?_cons]
      by_cases z : p.1 = k <;> simp [z]
    rw [e1] at ho
    ac_rfl
    rw [eqv_str]
    refine ⟨fun hz => ?_, fun hz => ?_⟩
    · rw [ho, if_pos (by simpa using hz)] at h
      ac_rfl
      exact h
    · rw [if_neg (by simpa using hz)] at ho
      ac_rfl
      exact hK _ ⟨_, _, rfl, ho⟩
theorem eqv_opt (o : Option Str) (v : Str) : PyData.eqv (optS o) (.str v) = decide (o = some v) := by
  cases o with
  | none => rfl
  | some w =>
    show PyData.eqv (.str w) (.str v) = _
    rw [eqv_str]
    simp
theorem flat_opt (o : Option Str) : flat 60 (optS o) = true := by cases o <;> rfl
-- _law_agreed(one, other) slots: 0=one 1=other* 2=kind 3=value
def q__law_agreed : QS :=
  (qRet (qLc [2, 3] (qiL (qVar 0)) (qgTup 2 (qgCons (qgN 2) (qgCons (qgN 3) qgNil))) (qB (qOp opEq (qCall 2 P__law_value (qCons (qVar 1) (qCons (qVar 2) qNil))) (qVar 3))) (qVar 2)))
def P__law_agreed : PD := fun ds R => ∃ a b : Card, ds = [cardD a, cardD b] ∧ CdOk a ∧ CdOk b ∧ R (.ow (.l ((agL a b).map .str)))
theorem pure__law_agreed : ∀ ds R, ds.length = 2 → P__law_agreed ds R → q__law_agreed (endsOf R) (startEv 4 ds) := by
  rintro ds R - ⟨a, b, rfl, ha, hb, h⟩
  ac_rfl
  refine lc0_fil (vs := [2, 3]) cpD (agB b) (fun p => .str p.1) a (fun p hp acc K ha hK1 hK2 => ?_) (small (by have := ha.le; omega)) ?_
  · unfold agB at hK1 hK2
    ac_rfl
    refine ⟨b, p.1, rfl, hb.le, ?_⟩
    ac_rfl
    refine ⟨by rw [flat_opt]; rfl, ?_⟩
    rw [eqv_opt]
    ac_rfl
    refine ⟨fun hz => ?_, fun hz => ?_⟩
    · ac_rfl
      exact hK1 hz
    · exact hK2 hz
  · have e : (agL a b).map PyData.str = (a.filter (agB b)).map fun p => .str p.1 := by
      unfold agL
      rw [List.map_map]
      rfl
    rw [e] at h
    exact h
-- _law_differing(one, other) slots: 0=one 1=other* 2=kind 3=value
def q__law_differing : QS :=
  (qRet (qLc [2, 3] (qiL (qVar 0)) (qgTup 2 (qgCons (qgN 2) (qgCons (qgN 3) qgNil))) (qAnd (qB (qOp opIsNot (qCall 2 P__law_value (qCons (qVar 1) (qCons (qVar 2) qNil))) (qC .none))) (qB (qOp opNe (qCall 2 P__law_value (qCons (qVar 1) (qCons (qVar 2) qNil))) (qVar 3)))) (qVar 2)))
def P__law_differing : PD := fun ds R => ∃ a b : Card, ds = [cardD a, cardD b] ∧ CdOk a ∧ CdOk b ∧ R (.ow (.l ((diL a b).map .str)))
theorem pure__law_differing : ∀ ds R, ds.length = 2 → P__law_differing ds R → q__law_differing (endsOf R) (startEv 4 ds) := by
  rintro ds R - ⟨a, b, rfl, ha, hb, h⟩
  ac_rfl
  refine lc0_fil (vs := [2, 3]) cpD (diB b) (fun p => .str p.1) a (fun p hp acc K ha hK1 hK2 => ?_) (small (by have := ha.le; omega)) ?_
  · unfold diB at hK1 hK2
    ac_rfl
    refine ⟨b, p.1, rfl, hb.le, ?_⟩
    cases hl : lkG b p.1 with
    | none =>
      rw [hl] at hK2
      ac_rfl
      exact hK2 rfl
    | some v =>
      rw [hl] at hK1 hK2
      ac_rfl
      refine ⟨b, p.1, rfl, hb.le, ?_⟩
      rw [hl]
      ac_rfl
      rw [eqv_opt]
      refine ⟨fun hz => ?_, fun hz => ?_⟩
      · ac_rfl
        exact hK1 (by simpa using hz)
      · exact hK2 (by simpa using hz)
  · have e : (diL a b).map PyData.str = (a.filter (diB b)).map fun p => .str p.1 := by
      unfold diL
      rw [List.map_map]
      rfl
    rw [e] at h
    exact h
theorem any_fil {α : Type} (p : α → Bool) (l : List α) : decide ((0 : Int) < ((l.filter p).length : Nat)) = l.any p := by
  rw [Bool.eq_iff_iff, decide_eq_true_iff, List.any_eq_true]
  constructor
  · intro h
    have : l.filter p ≠ [] := fun z => by rw [z] at h; simp at h
    obtain ⟨x, hx⟩ := List.exists_mem_of_ne_nil _ this
    exact ⟨x, (List.mem_filter.mp hx).1, (List.mem_filter.mp hx).2⟩
  · rintro ⟨x, hx, hp⟩
    have := List.length_pos_of_mem (List.mem_filter.mpr ⟨hx, hp⟩)
    omega
theorem none_fil {α : Type} (p : α → Bool) (l : List α) : decide ((((l.filter p).length : Nat) : Int) = 0) = l.all fun x => !p x := by
  have h := any_fil p l
  rw [List.all_eq_not_any_not]
  simp only [Bool.not_not]
  rw [← h]
  rw [Bool.eq_iff_iff]
  simp
-- _law_relation(one, other, hard, keys) slots: 0=one 1=other 2=hard* 3=keys 4=same* 5=key 6=kind
def q__law_relation : QS :=
  (qSeq (qIfS (qB (qOp opGt (qUn opLen (qLc [6] (qiL (qCall 2 P__law_differing (qCons (qVar 0) (qCons (qVar 1) qNil)))) (qgN 6) (qB (qOp (opInW id) (qVar 6) (qVar 2))) (qVar 6))) (qC (.int 0))))
   (qRet (qC (.str "apart")))
   qNext)
  (qSeq (qAsg (qCall 2 P__law_agreed (qCons (qVar 0) (qCons (qVar 1) qNil))) (qgN 4))
  (qFrz 4 (qSeq (qFor (qiL (qVar 3)) (qgN 5)
   (qIfS (qB (qOp opEq (qUn opLen (qLc [6] (qiL (qVar 5)) (qgN 6) (qB (qOp (opInW not) (qVar 6) (qVar 4))) (qVar 6))) (qC (.int 0))))
    (qRet (qC (.str "one")))
    qNext))
  (qRet (qC (.str "open")))))))
def P__law_relation : PD := fun ds R => ∃ (a b : Card) (hd : List Str) (ks : List (List Str)), ds = [cardD a, cardD b, txtsD hd, kysD ks] ∧ CdOk a ∧ CdOk b ∧ KsOk ks ∧ R (.sh (.str (relS a b hd ks)))
theorem pure__law_relation : ∀ ds R, ds.length = 4 → P__law_relation ds R → q__law_relation (endsOf R) (startEv 7 ds) := by
  rintro ds R - ⟨a, b, hd, ks, rfl, ha, hb, hk, h⟩
  have hdl := diL_len (b := b) ha
  unfold relS at h
  ac_rfl
  refine ⟨a, b, rfl, ha, hb, ?_⟩
  ac_rfl
  refine lc0_fil (vs := [6]) PyData.str (fun k => decide (k ∈ hd)) PyData.str (diL a b) (fun k hk acc K ha hK1 hK2 => ?_) (small (by omega)) ?_
  · ac_rfl
    refine ⟨by rw [flat_strs]; rfl, ?_⟩
    rw [in_strs]
    ac_rfl
    refine ⟨fun hz => ?_, fun hz => ?_⟩
    · ac_rfl
      exact hK1 hz
    · exact hK2 hz
  · ac_rfl
    rw [List.length_map]
    have ea := any_fil (fun k => decide (k ∈ hd)) (diL a b)
    refine ⟨fun hz => ?_, fun hz => ?_⟩
    · have hz : apB a b hd = true := ea.symm.trans hz
      rw [if_pos hz] at h
      ac_rfl
      exact h
    · have hz : apB a b hd = false := ea.symm.trans hz
      rw [if_neg (by rw [hz]; simp)] at h
      ac_rfl
      refine ⟨a, b, rfl, ha, hb, ?_⟩
      ac_rfl
      refine forGo_ok txtsD (fun r Γ => ∃ (x5 : Sl), Γ = [.sh (cardD a), .sh (cardD b), .sh (txtsD hd), .sh (kysD ks), .sh (.list ((agL a b).map .str)), x5, .un] ∧ oneB a b ks = oneB a b r ∧ ∀ k ∈ r, k.length ≤ 100) ?_ ?_ ks _ ⟨_, rfl, rfl, hk.kl⟩
      · rintro Γ ⟨x5, rfl, ho, _⟩
        rw [ho] at h
        ac_rfl
        exact h
      · rintro key r Γ K ⟨x5, rfl, ho, hl⟩ hK
        have hkl := hl key (by simp)
        have hoc : oneB a b (key :: r) = ((key.all fun k => decide (k ∈ agL a b)) || oneB a b r) := by unfold oneB; rw [List.any_cons]
        rw [hoc] at ho
        ac_rfl
        refine lc0_fil (vs := [6]) PyData.str (fun k => !decide (k ∈ agL a b)) PyData.str key (fun k hk acc K ha hK1 hK2 => ?_) (small (by omega)) ?_
        · ac_rfl
          refine ⟨by rw [flat_strs]; rfl, ?_⟩
          rw [in_strs]
          ac_rfl
          refine ⟨fun hz => ?_, fun hz => ?_⟩
          · ac_rfl
            exact hK1 hz
          · exact hK2 hz
        · ac_rfl
          rw [List.length_map, eqv_int]
          have en := none_fil (fun k => !decide (k ∈ agL a b)) key
          simp only [Bool.not_not] at en
          rw [en]
          refine ⟨fun hz => ?_, fun hz => ?_⟩
          · rw [ho, hz, Bool.true_or, if_pos rfl] at h
            ac_rfl
            exact h
          · rw [hz, Bool.false_or] at ho
            ac_rfl
            exact hK _ ⟨_, rfl, ho, fun k hk => hl k (List.mem_cons_of_mem _ hk)⟩
/-! ### who is one with whom -/
abbrev Gr := List (List Nat)
def natsD (l : List Nat) : D := .list (l.map natD)
def onD (on : Gr) : D := .list (on.map natsD)
def cdAt (cs : List Card) (k : Nat) : Card := cs[k]?.getD []
def oneAt (cs : List Card) (h : List Str) (ks : List (List Str)) (k j : Nat) : Bool := decide (j ≠ k) && decide (relS (cdAt cs k) (cdAt cs j) h ks = Str.ofString "one")
def rowL (cs : List Card) (h : List Str) (ks : List (List Str)) (k : Nat) : List Nat := (List.range cs.length).filter (oneAt cs h ks k)
def onesL (cs : List Card) (h : List Str) (ks : List (List Str)) : Gr := (List.range cs.length).map (rowL cs h ks)
structure CsOk (cs : List Card) : Prop where
  le : cs.length ≤ 12
  ok : ∀ c ∈ cs, CdOk c
theorem cd_ix {cs : List Card} {k : Nat} (h : k < cs.length) : ixD (cs.map cardD) (k : Int) = some (cardD (cdAt cs k)) := by
  have e : cs[k]? = some cs[k] := List.getElem?_eq_getElem h
  rw [ixD_map _ e]
  unfold cdAt
  rw [e]
  rfl
theorem CsOk.at {cs : List Card} (h : CsOk cs) {k : Nat} (hk : k < cs.length) : CdOk (cdAt cs k) := by
  unfold cdAt
  rw [List.getElem?_eq_getElem hk]
  exact h.ok _ (List.getElem_mem hk)
theorem rgV_map (n : Nat) : ((List.range ((n : Int) - 0).toNat).map fun k : Nat => PyData.int (0 + (k : Int))) = (List.range n).map fun k : Nat => .int (k : Int) := by
  rw [show ((n : Int) - 0).toNat = n by omega]
  apply List.map_congr_left
  intro k _
  rw [Int.zero_add]
-- ones_of(cards, hard, keys) slots: 0=cards* 1=hard* 2=keys* 3=count* 4=k 5=j
def q_ones_of : QS :=
  (qSeq (qAsg (qUn opRgV (qUn opLen (qVar 0))) (qgN 3))
  (qRet (qLc [4] (qiRgV (qVar 3)) (qgN 4) qYes (qLc [5] (qiRgV (qVar 3)) (qgN 5) (qAnd (qB (qOp opNe (qVar 5) (qVar 4))) (qB (qOp opEq (qCall 4 P_relation (qCons (qOp opIx (qVar 0) (qVar 4)) (qCons (qOp opIx (qVar 0) (qVar 5)) (qCons (qVar 1) (qCons (qVar 2) qNil))))) (qC (.str "one"))))) (qVar 5)))))
def P_ones_of : PD := fun ds R => ∃ (cs : List Card) (h : List Str) (ks : List (List Str)), ds = [cardsD cs, txtsD h, kysD ks] ∧ CsOk cs ∧ KsOk ks ∧ R (.ow (.l ((onesL cs h ks).map natsD)))
theorem pure_ones_of : ∀ ds R, ds.length = 3 → P_ones_of ds R → q_ones_of (endsOf R) (startEv 6 ds) := by
  rintro ds R - ⟨cs, hd, ks, rfl, hc, hk, h⟩
  have hn := hc.le
  have hcl : (cs.map cardD).length = cs.length := List.length_map _
  ac_rfl
  rw [hcl]
  rw [rgV_map]
  ac_rfl
  refine lc0_map (vs := [4]) (fun i : Nat => .int (i : Int)) (fun k => natsD (rowL cs hd ks k)) (List.range cs.length) (fun k hk1 acc K ha hK => ?_) (small (by simp; omega)) ?_
  · have hk1 : k < cs.length := by simpa using hk1
    unfold rowL natsD at hK
    ac_rfl
    rw [rgV_map]
    ac_rfl
    refine lc0_fil (vs := [5]) (fun i : Nat => .int (i : Int)) (oneAt cs hd ks k) natD (List.range cs.length) (fun j hj acc K ha hK1 hK2 => ?_) (small (by simp; omega)) ?_
    · have hj : j < cs.length := by simpa using hj
      unfold oneAt at hK1 hK2
      ac_rfl
      rw [eqv_int]
      refine ⟨fun hz => ?_, fun hz => ?_⟩
      · have hz : j ≠ k := by
          intro z
          subst z
          simp at hz
        ac_rfl
        rw [cd_ix hk1]
        ac_rfl
        rw [cd_ix hj]
        ac_rfl
        refine ⟨_, _, hd, ks, rfl, hc.at hk1, hc.at hj, hk, ?_⟩
        ac_rfl
        rw [eqv_str]
        refine ⟨fun hy => ?_, fun hy => ?_⟩
        · ac_rfl
          exact hK1 (by simpa [hz] using hy)
        · exact hK2 (by simpa [hz] using hy)
      · have hz : j = k := by
          have : (j : Int) = k := by simpa using hz
          omega
        ac_rfl
        exact hK2 (by simp [hz])
    · ac_rfl
      exact hK
  · have e : (onesL cs hd ks).map natsD = (List.range cs.length).map fun k => natsD (rowL cs hd ks k) := by
      unfold onesL
      rw [List.map_map]
      rfl
    rw [e] at h
    exact h
-- _law_ones(cards, hard, keys) slots: 0=cards* 1=hard* 2=keys* 3=found 4=k* 5=j
def q__law_ones : QS :=
  (qSeq (qAsg (qLst qNil) (qgN 3))
  (qSeq (qFor (qiR1 (qCons (qUn opLen (qVar 0)) qNil)) (qgN 4)
   (qDrop (qApp 3 (qLc [5] (qiR1 (qCons (qUn opLen (qVar 0)) qNil)) (qgN 5) (qAnd (qB (qOp opNe (qVar 5) (qVar 4))) (qB (qOp opEq (qCall 4 P__law_relation (qCons (qOp opIx (qVar 0) (qVar 4)) (qCons (qOp opIx (qVar 0) (qVar 5)) (qCons (qVar 1) (qCons (qVar 2) qNil))))) (qC (.str "one"))))) (qVar 5)))))
  (qRet (qVar 3))))
def P__law_ones : PD := P_ones_of
theorem pure__law_ones : ∀ ds R, ds.length = 3 → P__law_ones ds R → q__law_ones (endsOf R) (startEv 6 ds) := by
  rintro ds R - ⟨cs, hd, ks, rfl, hc, hk, h⟩
  have hn := hc.le
  have hcl : (cs.map cardD).length = cs.length := List.length_map _
  ac_rfl
  rw [hcl]
  refine forGo_ok (fun i : Nat => .int (i : Int)) (fun r Γ => ∃ (k : Nat) (x4 : Sl), Γ = [.sh (cardsD cs), .sh (txtsD hd), .sh (kysD ks), .ow (.l (((List.range k).map (rowL cs hd ks)).map natsD)), x4, .un] ∧ r = (List.range cs.length).drop k ∧ k ≤ cs.length) ?_ ?_ (List.range cs.length) _ ⟨0, _, rfl, rfl, by omega⟩
  · rintro Γ ⟨k, x4, rfl, hr, hkn⟩
    have : k = cs.length := by
      have := congrArg List.length hr
      simp at this
      omega
    subst this
    ac_rfl
    exact h
  · rintro k r Γ K ⟨k', x4, rfl, hr, hkn⟩ hK
    obtain ⟨hk1, rfl, rfl⟩ := drop_cons hr.symm
    have hal : (((List.range k).map (rowL cs hd ks)).map natsD).length ≤ 12 := by simp; omega
    have fin := hK [.sh (cardsD cs), .sh (txtsD hd), .sh (kysD ks), .ow (.l (((List.range k).map (rowL cs hd ks)).map natsD ++ [natsD (rowL cs hd ks k)])), .sh (.int (k : Nat)), .un] ⟨k + 1, _, by rw [List.range_succ, List.map_append, List.map_append]; rfl, rfl, by omega⟩
    clear hK h
    unfold rowL at fin
    unfold natsD at fin
    ac_rfl
    rw [hcl]
    refine lc0_fil (vs := [5]) (fun i : Nat => .int (i : Int)) (oneAt cs hd ks k) natD (List.range cs.length) (fun j hj acc K ha hK1 hK2 => ?_) (small (by simp; omega)) ?_
    · have hj : j < cs.length := by simpa using hj
      unfold oneAt at hK1 hK2
      ac_rfl
      rw [eqv_int]
      refine ⟨fun hz => ?_, fun hz => ?_⟩
      · have hz : j ≠ k := by
          intro z
          subst z
          simp at hz
        ac_rfl
        rw [cd_ix hk1]
        ac_rfl
        rw [cd_ix hj]
        ac_rfl
        refine ⟨_, _, hd, ks, rfl, hc.at hk1, hc.at hj, hk, ?_⟩
        ac_rfl
        rw [eqv_str]
        refine ⟨fun hy => ?_, fun hy => ?_⟩
        · ac_rfl
          exact hK1 (by simpa [hz] using hy)
        · exact hK2 (by simpa [hz] using hy)
      · have hz : j = k := by
          have : (j : Int) = k := by simpa using hz
          omega
        ac_rfl
        exact hK2 (by simp [hz])
    · ac_rfl
      exact fin
end PL

namespace PL
open PySem PySem.Spec PyProof.Rows L2
local macro_rules | `(tactic| ac_rfl) => `(tactic| ((conv => whnf); repeat ((first | refine Cif.yes ?_ | refine Cif.no ?_ | (refine And.intro ?_ ?_; · first | (show _ ≤ (_ : Int); omega) | (show _ < (_ : Int); omega) | assumption | exact trivial | exact rfl | (refine small ?_; first | omega | (simp only [List.length_map, List.length_cons, List.length_nil, List.length_append]; omega)) | (refine ltsmall ?_; first | omega | (simp only [List.length_map, List.length_cons, List.length_nil, List.length_append]; omega)) | (refine cdiv ?_ ?_ <;> omega) | (refine cmulR ?_ ?_ <;> omega) | (refine cmulL ?_ ?_ <;> omega) | (refine ⟨?_, ?_, ?_, ?_⟩ <;> omega))); (conv => whnf))))
local macro_rules | `(tactic| exists $e) => `(tactic| first | exact $e | exact And.right $e | exact And.right (And.right $e) | exact And.right (And.right (And.right $e)))
/-! ### groups -/
def nb (on : Gr) (k : Nat) : List Nat := on[k]?.getD []
structure GrOk (on : Gr) : Prop where
  le : on.length ≤ 12
  lt : ∀ k, ∀ x ∈ nb on k, x < on.length
  nd : ∀ k, (nb on k).Nodup
theorem in_natsD (x : Nat) (ws : List Nat) : inD (natD x) (ws.map natD) = decide (x ∈ ws) := in_nats' x ws
theorem range_le {c : List Nat} {n : Nat} (h : c.Nodup) (hl : ∀ a ∈ c, a < n) : c.length ≤ n := by
  have := nodup_le (l' := List.range n) h fun x hx => List.mem_range.mpr (hl x hx)
  simpa using this
theorem GrOk.row {on : Gr} (h : GrOk on) (k : Nat) : (nb on k).length ≤ 12 := Nat.le_trans (range_le (h.nd k) (h.lt k)) h.le
theorem on_ix {on : Gr} {k : Nat} (h : k < on.length) : ixD (on.map natsD) (k : Int) = some (natsD (nb on k)) := by
  have e : on[k]? = some on[k] := List.getElem?_eq_getElem h
  rw [ixD_map _ e]
  unfold nb
  rw [e]
  rfl
def growL (on : Gr) (g : List Nat) (x : Nat) : List Nat := g ++ (nb on x).filter fun y => !decide (y ∈ g)
def grpF (on : Gr) : Nat → Nat → List Nat → List Nat
  | 0, _, g => g
  | m + 1, i, g => match g[i]? with
    | none => g
    | some x => grpF on m (i + 1) (growL on g x)
def grpG (on : Gr) (c : Nat) : List Nat := grpF on on.length 0 [c]
theorem grow_nd {on : Gr} (ok : GrOk on) {g : List Nat} (h : g.Nodup) (x : Nat) : (growL on g x).Nodup := by
  unfold growL
  rw [List.nodup_append]
  exact ⟨h, (ok.nd x).sublist List.filter_sublist, fun a ha b hb z => by have := (List.mem_filter.mp hb).2; simp at this; exact this (z ▸ ha)⟩
theorem grow_lt {on : Gr} (ok : GrOk on) {g : List Nat} (h : ∀ y ∈ g, y < on.length) (x : Nat) : ∀ y ∈ growL on g x, y < on.length := fun y hy => by
  unfold growL at hy
  rcases List.mem_append.mp hy with q | q
  · exact h y q
  · exact ok.lt x y (List.mem_filter.mp q).1
theorem grpF_stop {on : Gr} {i : Nat} {g : List Nat} (h : g.length ≤ i) : ∀ m, grpF on m i g = g
  | 0 => rfl
  | m + 1 => by
    unfold grpF
    rw [List.getElem?_eq_none h]
-- group_of(ones, card) slots: 0=ones 1=card 2=group* 3=at 4=other
def q_group_of : QS :=
  (qSeq (qAsg (qLst (qCons (qVar 1) qNil)) (qgN 2))
  (qSeq (qAsg (qC (.int 0)) (qgN 3))
  (qSeq (qWhile (qB (qOp opLt (qVar 3) (qUn opLen (qVar 2))))
   (qSeq (qAugL 2 (qLc [4] (qiL (qOp opIx (qVar 0) (qOp opIx (qVar 2) (qVar 3)))) (qgN 4) (qB (qOp (opInW not) (qVar 4) (qVar 2))) (qVar 4)))
   (qAug 3 opIAdd (qC (.int 1)))))
  (qRet (qVar 2)))))
def P_group_of : PD := fun ds R => ∃ (on : Gr) (c : Nat), ds = [onD on, .int c] ∧ GrOk on ∧ c < on.length ∧ R (.ow (.l ((grpG on c).map natD)))
theorem pure_group_of : ∀ ds R, ds.length = 2 → P_group_of ds R → q_group_of (endsOf R) (startEv 5 ds) := by
  rintro ds R - ⟨on, c, rfl, ok, hc, h⟩
  have hn := ok.le
  ac_rfl
  refine ⟨fun m Γ => ∃ (i : Nat) (g : List Nat), Γ = [.sh (onD on), .sh (.int (c : Nat)), .ow (.l (g.map natD)), .sh (.int (i : Nat)), .un] ∧ i + m = on.length ∧ g.Nodup ∧ (∀ x ∈ g, x < on.length) ∧ grpF on m i g = grpG on c, ⟨on.length, 0, [c], rfl, by omega, by simp, by simpa using hc, rfl⟩, ?_⟩
  rintro m Γ ⟨i, g, rfl, hm, hnd, hlt, ho⟩
  have hgl := range_le hnd hlt
  have hlm : (g.map natD).length = g.length := List.length_map _
  ac_rfl
  rw [hlm]
  refine ⟨fun hz => ?_, fun hz => ?_⟩
  · have hz : i < g.length := by
      have := of_decide_eq_true hz
      omega
    obtain ⟨m', rfl⟩ : ∃ q, m = q + 1 := ⟨m - 1, by omega⟩
    have e : g[i]? = some g[i] := List.getElem?_eq_getElem hz
    have hx := hlt _ (List.getElem_mem hz)
    have hrow := ok.row g[i]
    have hfl : ((nb on g[i]).filter fun y => !decide (y ∈ g)).length ≤ 12 := Nat.le_trans (List.length_filter_le _ _) hrow
    unfold grpF at ho
    rw [e] at ho
    dsimp only at ho
    ac_rfl
    rw [ixD_map _ e]
    ac_rfl
    rw [on_ix hx]
    ac_rfl
    refine lc0_fil (vs := [4]) natD (fun y => !decide (y ∈ g)) natD (nb on g[i]) (fun y hy acc K ha hK1 hK2 => ?_) (small (by omega)) ?_
    · ac_rfl
      refine ⟨by rw [flat_nats]; rfl, ?_⟩
      rw [in_natsD]
      ac_rfl
      refine ⟨fun hz => ?_, fun hz => ?_⟩
      · ac_rfl
        exact hK1 hz
      · exact hK2 hz
    · ac_rfl
      refine ⟨m', by omega, i + 1, growL on g g[i], ?_, by omega, grow_nd ok hnd _, grow_lt ok hlt _, ho⟩
      unfold growL
      rw [List.map_append]
      rfl
  · have hz : g.length ≤ i := by
      have := of_decide_eq_false hz
      omega
    rw [grpF_stop hz] at ho
    rw [← ho] at h
    ac_rfl
    exact h
theorem grp_nd {on : Gr} (ok : GrOk on) : ∀ (m i : Nat) (g : List Nat), g.Nodup → (∀ x ∈ g, x < on.length) → (grpF on m i g).Nodup ∧ ∀ x ∈ grpF on m i g, x < on.length
  | 0, _, g, h1, h2 => ⟨h1, h2⟩
  | m + 1, i, g, h1, h2 => by
    unfold grpF
    cases g[i]? with
    | none => exact ⟨h1, h2⟩
    | some x => exact grp_nd ok m (i + 1) _ (grow_nd ok h1 x) (grow_lt ok h2 x)
theorem grpG_ok {on : Gr} (ok : GrOk on) {c : Nat} (hc : c < on.length) : (grpG on c).Nodup ∧ ∀ x ∈ grpG on c, x < on.length := grp_nd ok _ _ _ (by simp) (by simpa using hc)
def addG (on : Gr) (fd : List (List Nat)) (k : Nat) : List (List Nat) := if k ∈ fd.flatten then fd else fd ++ [grpG on k]
def groupsL (on : Gr) : List (List Nat) := (List.range on.length).foldl (addG on) []
def grsD (gs : List (List Nat)) : D := .list (gs.map natsD)
-- groups_of(ones) slots: 0=ones 1=found 2=seen 3=card 4=group 5=one
def q_groups_of : QS :=
  (qSeq (qAsg (qLst qNil) (qgN 1))
  (qSeq (qAsg (qOwn (.k [])) (qgN 2))
  (qSeq (qFor (qiR1 (qCons (qUn opLen (qVar 0)) qNil)) (qgN 3)
   (qIfS (qB (qDIn not (qVar 3) (qVar 2)))
    (qSeq (qAsg (qCall 2 P_group_of (qCons (qVar 0) (qCons (qVar 3) qNil))) (qgN 4))
    (qFrz 4 (qSeq (qDrop (qApp 1 (qVar 4)))
    (qFor (qiL (qVar 4)) (qgN 5)
     (qDPut 2 (qVar 5) (qC (.bool true)))))))
    qNext))
  (qRet (qVar 1)))))
def P_groups_of : PD := fun ds R => ∃ on : Gr, ds = [onD on] ∧ GrOk on ∧ R (.ow (.l ((groupsL on).map natsD)))
theorem pure_groups_of : ∀ ds R, ds.length = 1 → P_groups_of ds R → q_groups_of (endsOf R) (startEv 6 ds) := by
  rintro ds R - ⟨on, rfl, ok, h⟩
  have hn := ok.le
  have hol : (on.map natsD).length = on.length := List.length_map _
  ac_rfl
  rw [hol]
  refine forGo_ok (fun i : Nat => .int (i : Int)) (fun r Γ => ∃ (k : Nat) (fd : List (List Nat)) (sn : List (Nat × Bool)) (x3 x4 x5 : Sl), Γ = [.sh (onD on), .ow (.l (fd.map natsD)), .ow (.k (kdG natD .bool sn)), x3, x4, x5] ∧ r = (List.range on.length).drop k ∧ k ≤ on.length ∧ fd.length ≤ k ∧ (∀ x, x ∈ sn.map (·.1) ↔ x ∈ fd.flatten) ∧ (sn.map (·.1)).Nodup ∧ (∀ x ∈ sn.map (·.1), x < on.length) ∧ r.foldl (addG on) fd = groupsL on) ?_ ?_ (List.range on.length) _ ⟨0, [], [], _, _, _, rfl, rfl, by omega, by simp, by simp, by simp, by simp, rfl⟩
  · rintro Γ ⟨k, fd, sn, x3, x4, x5, rfl, hr, hk, hfl, hsn, hnd, hlt, ho⟩
    have ho : fd = groupsL on := ho
    subst ho
    ac_rfl
    exact h
  · rintro k r Γ K ⟨k', fd, sn, x3, x4, x5, rfl, hr, hk, hfl, hsn, hnd, hlt, ho⟩ hK
    obtain ⟨hk1, rfl, rfl⟩ := drop_cons hr.symm
    clear h
    rw [List.foldl_cons] at ho
    unfold addG at ho
    ac_rfl
    rw [show PyData.int (k : Int) = natD k from rfl, look_kdG eqv_natD]
    rw [Option.isSome_map, lkG_some]
    by_cases hin : k ∈ sn.map (·.1)
    · rw [if_pos ((hsn k).mp hin)] at ho
      rw [decide_eq_true hin]
      ac_rfl
      exact hK _ ⟨k + 1, fd, sn, _, _, _, rfl, rfl, by omega, by omega, hsn, hnd, hlt, ho⟩
    · rw [if_neg fun z => hin ((hsn k).mpr z)] at ho
      rw [decide_eq_false hin]
      obtain ⟨gnd, glt⟩ := grpG_ok ok hk1
      have ggl := range_le gnd glt
      have hfm : (fd.map natsD).length ≤ 12 := by rw [List.length_map]; omega
      ac_rfl
      refine ⟨on, k, rfl, ok, hk1, ?_⟩
      ac_rfl
      refine forGo_ok natD (fun q Γ => ∃ (sn : List (Nat × Bool)) (x5 : Sl) (dn : List Nat), Γ = [.sh (onD on), .ow (.l (fd.map natsD ++ [natsD (grpG on k)])), .ow (.k (kdG natD .bool sn)), .sh (.int (k : Nat)), .sh (natsD (grpG on k)), x5] ∧ dn ++ q = grpG on k ∧ (∀ x, x ∈ sn.map (·.1) ↔ x ∈ fd.flatten ∨ x ∈ dn) ∧ (sn.map (·.1)).Nodup ∧ ∀ x ∈ sn.map (·.1), x < on.length) ?_ ?_ (grpG on k) _ ⟨sn, _, [], rfl, rfl, by simpa using hsn, hnd, hlt⟩
      · rintro Γ ⟨sn, x5, dn, rfl, hq, hsn, hnd, hlt⟩
        rw [List.append_nil] at hq
        subst hq
        ac_rfl
        refine hK _ ⟨k + 1, fd ++ [grpG on k], sn, _, _, _, by rw [List.map_append]; rfl, rfl, by omega, by simp; omega, fun x => ?_, hnd, hlt, ho⟩
        rw [hsn]
        simp
      · rintro y q Γ K2 ⟨sn, x5, dn, rfl, hq, hsn, hnd, hlt⟩ hK2
        have hy : y ∈ grpG on k := by rw [← hq]; simp
        have hsl : sn.length ≤ 12 := by
          have := range_le hnd hlt
          rw [List.length_map] at this
          omega
        have hsl2 : (kdG natD PyData.bool sn).length ≤ 12 := by rw [len_kdG]; exact hsl
        clear hK
        ac_rfl
        rw [show PyData.bool true = PyData.bool true from rfl, put_kdG eqv_natD]
        refine hK2 _ ⟨putG sn y true, _, dn ++ [y], rfl, by rw [List.append_assoc]; exact hq, fun x => ?_, ?_, ?_⟩
        · rw [keys_putG]
          split
          · rename_i hm
            rw [hsn]
            constructor
            · rintro (z | z)
              · exact .inl z
              · exact .inr (List.mem_append_left _ z)
            · rintro (z | z)
              · exact .inl z
              · rcases List.mem_append.mp z with z | z
                · exact .inr z
                · simp at z
                  rw [z]
                  exact (hsn y).mp hm
          · rw [List.mem_append, hsn]
            simp [or_assoc]
        · rw [keys_putG]
          split
          · exact hnd
          · rename_i hm
            rw [List.nodup_append]
            exact ⟨hnd, by simp, fun a ha b hb z => hm (by simp at hb; rw [← hb, ← z]; exact ha)⟩
        · rw [keys_putG]
          intro x hx
          split at hx
          · exact hlt x hx
          · rcases List.mem_append.mp hx with z | z
            · exact hlt x z
            · simp at z
              rw [z]
              exact glt y hy
end PL

namespace PL
open PySem PySem.Spec PyProof.Rows L2
/-! ### graphs -/
def SymG (on : Gr) : Prop := ∀ x y, y ∈ nb on x → x ∈ nb on y
inductive Reach (on : Gr) : Nat → Nat → Prop
  | refl (a : Nat) : Reach on a a
  | tail {a b c : Nat} : Reach on a b → c ∈ nb on b → Reach on a c
theorem Reach.trans {on : Gr} {a b c : Nat} (h : Reach on a b) (h' : Reach on b c) : Reach on a c := by
  induction h' with
  | refl => exact h
  | tail _ hc ih => exact ih.tail hc
theorem Reach.symm {on : Gr} (sy : SymG on) {a b : Nat} (h : Reach on a b) : Reach on b a := by
  induction h with
  | refl => exact .refl _
  | tail _ hc ih => exact (Reach.tail (.refl _) (sy _ _ hc)).trans ih
def Closed (on : Gr) (g : List Nat) : Prop := ∀ x ∈ g, ∀ y ∈ nb on x, y ∈ g
theorem Closed.reach {on : Gr} {g : List Nat} (h : Closed on g) {a b : Nat} (r : Reach on a b) (ha : a ∈ g) : b ∈ g := by
  induction r with
  | refl => exact ha
  | tail _ hc ih => exact h _ ih _ hc
theorem mem_grow {on : Gr} {g : List Nat} {x y : Nat} : y ∈ growL on g x ↔ y ∈ g ∨ y ∈ nb on x := by
  unfold growL
  rw [List.mem_append, List.mem_filter]
  constructor
  · rintro (h | h)
    · exact .inl h
    · exact .inr h.1
  · rintro (h | h)
    · exact .inl h
    · by_cases z : y ∈ g
      · exact .inl z
      · exact .inr ⟨h, by simpa using z⟩
theorem grpF_spec {on : Gr} (ok : GrOk on) (c : Nat) : ∀ (m i : Nat) (g : List Nat), i + m = on.length → g.Nodup → (∀ x ∈ g, x < on.length) → (∀ j x, j < i → g[j]? = some x → ∀ y ∈ nb on x, y ∈ g) → (∀ x ∈ g, Reach on c x) →
    Closed on (grpF on m i g) ∧ (∀ x ∈ grpF on m i g, Reach on c x) ∧ ∀ x ∈ g, x ∈ grpF on m i g
  | 0, i, g, hm, hnd, hlt, hcl, hre => by
    refine ⟨fun x hx y hy => ?_, hre, fun x h => h⟩
    obtain ⟨j, hj⟩ := List.getElem?_of_mem hx
    have hjl : j < g.length := (List.getElem?_eq_some_iff.mp hj).1
    have := range_le hnd hlt
    exact hcl j x (by omega) hj y hy
  | m + 1, i, g, hm, hnd, hlt, hcl, hre => by
    unfold grpF
    cases e : g[i]? with
    | none =>
      refine ⟨fun x hx y hy => ?_, hre, fun x h => h⟩
      obtain ⟨j, hj⟩ := List.getElem?_of_mem hx
      have hjl : j < g.length := (List.getElem?_eq_some_iff.mp hj).1
      have := List.getElem?_eq_none_iff.mp e
      exact hcl j x (by omega) hj y hy
    | some x =>
      have il := (List.getElem?_eq_some_iff.mp e).1
      have := grpF_spec ok c m (i + 1) (growL on g x) (by omega) (grow_nd ok hnd x) (grow_lt ok hlt x) (fun j z hj hz y hy => ?_) (fun y hy => ?_)
      · exact ⟨this.1, this.2.1, fun z hz => this.2.2 z (mem_grow.mpr (.inl hz))⟩
      · have hjl : j < g.length := by omega
        have hz' : g[j]? = some z := by
          unfold growL at hz
          rw [List.getElem?_append_left hjl] at hz
          exact hz
        by_cases hji : j = i
        · subst hji
          rw [e] at hz'
          cases hz'
          exact mem_grow.mpr (.inr hy)
        · exact mem_grow.mpr (.inl (hcl j z (by omega) hz' y hy))
      · rcases mem_grow.mp hy with q | q
        · exact hre y q
        · exact (hre x (List.mem_of_getElem? e)).tail q
theorem grpG_spec {on : Gr} (ok : GrOk on) {c : Nat} (hc : c < on.length) : Closed on (grpG on c) ∧ (∀ x ∈ grpG on c, Reach on c x) ∧ c ∈ grpG on c := by
  have := grpF_spec ok c on.length 0 [c] (by omega) (by simp) (by simpa using hc) (by intro j x h; omega) (by intro x hx; simp at hx; rw [hx]; exact .refl c)
  exact ⟨this.1, this.2.1, this.2.2 c (by simp)⟩
/-- what the groups so far are -/
structure GsOk (on : Gr) (fd : List (List Nat)) : Prop where
  nd : fd.flatten.Nodup
  lt : ∀ x ∈ fd.flatten, x < on.length
  cl : ∀ g ∈ fd, Closed on g
  re : ∀ g ∈ fd, ∀ x ∈ g, ∀ y ∈ g, Reach on x y
  ne : ∀ g ∈ fd, g ≠ []
theorem addG_ok {on : Gr} (ok : GrOk on) (sy : SymG on) {fd : List (List Nat)} (h : GsOk on fd) {k : Nat} (hk : k < on.length) : GsOk on (addG on fd k) ∧ k ∈ (addG on fd k).flatten ∧ ∀ x ∈ fd.flatten, x ∈ (addG on fd k).flatten := by
  unfold addG
  split
  · rename_i hin
    exact ⟨h, hin, fun x hx => hx⟩
  · rename_i hin
    obtain ⟨c1, c2, c3⟩ := grpG_spec ok hk
    obtain ⟨n1, n2⟩ := grpG_ok ok hk
    have fl : (fd ++ [grpG on k]).flatten = fd.flatten ++ grpG on k := by simp
    rw [fl]
    refine ⟨⟨?_, ?_, ?_, ?_, ?_⟩, List.mem_append_right _ c3, fun x hx => List.mem_append_left _ hx⟩
    · rw [fl, List.nodup_append]
      refine ⟨h.nd, n1, fun a ha b hb z => hin ?_⟩
      subst z
      obtain ⟨g, hg, hag⟩ := List.mem_flatten.mp ha
      exact List.mem_flatten.mpr ⟨g, hg, (h.cl g hg).reach ((c2 a hb).symm sy) hag⟩
    · rw [fl]
      intro x hx
      rcases List.mem_append.mp hx with q | q
      · exact h.lt x q
      · exact n2 x q
    · intro g hg
      rcases List.mem_append.mp hg with q | q
      · exact h.cl g q
      · simp at q
        rw [q]
        exact c1
    · intro g hg x hx y hy
      rcases List.mem_append.mp hg with q | q
      · exact h.re g q x hx y hy
      · simp at q
        rw [q] at hx hy
        exact ((c2 x hx).symm sy).trans (c2 y hy)
    · intro g hg
      rcases List.mem_append.mp hg with q | q
      · exact h.ne g q
      · simp at q
        rw [q]
        intro z
        rw [z] at c3
        simp at c3
theorem groups_fold {on : Gr} (ok : GrOk on) (sy : SymG on) : ∀ (l : List Nat) (fd : List (List Nat)), (∀ k ∈ l, k < on.length) → GsOk on fd → GsOk on (l.foldl (addG on) fd) ∧ ∀ x, x ∈ l ∨ x ∈ fd.flatten → x ∈ (l.foldl (addG on) fd).flatten
  | [], fd, _, h => ⟨h, fun x hx => by simpa using hx⟩
  | k :: r, fd, hl, h => by
    obtain ⟨a1, a2, a3⟩ := addG_ok ok sy h (hl k List.mem_cons_self)
    obtain ⟨b1, b2⟩ := groups_fold ok sy r (addG on fd k) (fun z hz => hl z (List.mem_cons_of_mem _ hz)) a1
    refine ⟨b1, fun x hx => b2 x ?_⟩
    rcases hx with hx | hx
    · rcases List.mem_cons.mp hx with q | q
      · exact .inr (q ▸ a2)
      · exact .inl q
    · exact .inr (a3 x hx)
theorem groups_ok {on : Gr} (ok : GrOk on) (sy : SymG on) : GsOk on (groupsL on) ∧ ∀ x < on.length, x ∈ (groupsL on).flatten := by
  obtain ⟨h1, h2⟩ := groups_fold ok sy (List.range on.length) [] (fun k hk => List.mem_range.mp hk) ⟨by simp, by simp, by simp, by simp, by simp⟩
  exact ⟨h1, fun x hx => h2 x (.inl (List.mem_range.mpr hx))⟩
/-- two in one group -/
def sameG (gs : List (List Nat)) (i j : Nat) : Bool := gs.any fun g => decide (i ∈ g) && decide (j ∈ g)
theorem sameG_iff {on : Gr} (ok : GrOk on) (sy : SymG on) {i j : Nat} (hi : i < on.length) : sameG (groupsL on) i j = true ↔ Reach on i j := by
  obtain ⟨h1, h2⟩ := groups_ok ok sy
  unfold sameG
  rw [List.any_eq_true]
  constructor
  · rintro ⟨g, hg, hb⟩
    simp only [Bool.and_eq_true, decide_eq_true_eq] at hb
    exact h1.re g hg i hb.1 j hb.2
  · intro r
    obtain ⟨g, hg, hig⟩ := List.mem_flatten.mp (h2 i hi)
    exact ⟨g, hg, by simp [hig, (h1.cl g hg).reach r hig]⟩
/-! ### walks, the least shortest one -/
inductive Walk (on : Gr) : Nat → Nat → List Nat → Prop
  | one (a : Nat) : Walk on a a [a]
  | cons {a b c : Nat} {p : List Nat} : b ∈ nb on a → Walk on b c p → Walk on a c (a :: p)
def lexle : List Nat → List Nat → Prop
  | [], _ => True
  | _ :: _, [] => False
  | a :: r, b :: s => a < b ∨ (a = b ∧ lexle r s)
theorem lexle_refl : ∀ l, lexle l l
  | [] => trivial
  | a :: r => .inr ⟨rfl, lexle_refl r⟩
theorem lexle_anti : ∀ {l m : List Nat}, lexle l m → lexle m l → l = m
  | [], [], _, _ => rfl
  | [], _ :: _, _, h => h.elim
  | _ :: _, [], h, _ => h.elim
  | a :: r, b :: s, h, h' => by
    rcases h with h | ⟨e, h⟩
    · rcases h' with h' | ⟨e', _⟩
      · omega
      · omega
    · subst e
      rcases h' with h' | ⟨_, h'⟩
      · omega
      · rw [lexle_anti h h']
structure LexSP (on : Gr) (a b : Nat) (ch : List Nat) : Prop where
  w : Walk on a b ch
  le : ∀ p, Walk on a b p → ch.length ≤ p.length
  lx : ∀ p, Walk on a b p → p.length = ch.length → lexle ch p
theorem LexSP.uniq {on : Gr} {a b : Nat} {c d : List Nat} (h : LexSP on a b c) (h' : LexSP on a b d) : c = d := by
  have e : c.length = d.length := Nat.le_antisymm (h.le d h'.w) (h'.le c h.w)
  exact lexle_anti (h.lx d h'.w e.symm) (h'.lx c h.w e)
theorem Walk.lt {on : Gr} (ok : GrOk on) {a b : Nat} {p : List Nat} (h : Walk on a b p) (ha : a < on.length) : ∀ x ∈ p, x < on.length := by
  induction h with
  | one => simpa using ha
  | cons hb _ ih =>
    intro x hx
    rcases List.mem_cons.mp hx with q | q
    · rw [q]; exact ha
    · exact ih (ok.lt _ _ hb) x q
theorem Walk.reach {on : Gr} {a b : Nat} {p : List Nat} (h : Walk on a b p) : Reach on a b := by
  induction h with
  | one => exact .refl _
  | cons hb _ ih => exact (Reach.tail (.refl _) hb).trans ih
theorem Walk.hd {on : Gr} {a b : Nat} {p : List Nat} (h : Walk on a b p) : ∃ r, p = a :: r := by cases h <;> exact ⟨_, rfl⟩
theorem Walk.snoc {on : Gr} {a b c : Nat} {p : List Nat} (h : Walk on a b p) (hc : c ∈ nb on b) : Walk on a c (p ++ [c]) := by
  induction h with
  | one => exact .cons hc (.one _)
  | cons hb _ ih => exact .cons hb (ih hc)
theorem Walk.last {on : Gr} {a b : Nat} {p : List Nat} (h : Walk on a b p) : p[p.length - 1]? = some b := by
  induction h with
  | one => rfl
  | @cons a b c p hb hw ih =>
    obtain ⟨r, rfl⟩ := hw.hd
    simpa using ih
/-! ### the distances -/
abbrev Sts := List (Nat × Nat)
def stepW (on : Gr) (s : Sts) (x d : Nat) : Sts := s ++ ((nb on x).filter fun y => !decide (y ∈ s.map (·.1))).map fun y => (y, d + 1)
def waysF (on : Gr) : Nat → Nat → Sts → Sts
  | 0, _, s => s
  | m + 1, i, s => match s[i]? with
    | none => s
    | some p => waysF on m (i + 1) (stepW on s p.1 p.2)
def waysG (on : Gr) (c : Nat) : Sts := waysF on on.length 0 [(c, 0)]
theorem stepW_keys (on : Gr) (s : Sts) (x d : Nat) : (stepW on s x d).map (·.1) = growL on (s.map (·.1)) x := by
  unfold stepW growL
  rw [List.map_append, List.map_map]
  congr 1
  conv => rhs; rw [← List.map_id ((nb on x).filter _)]
  rfl
/-- what the steps so far are -/
structure WOk (on : Gr) (c : Nat) (i : Nat) (s : Sts) : Prop where
  nd : (s.map (·.1)).Nodup
  lt : ∀ x ∈ s.map (·.1), x < on.length
  z : s[0]? = some (c, 0)
  par : ∀ (j : Nat) (p : Nat × Nat), s[j]? = some p → 0 < j → ∃ q, q ∈ s ∧ p.2 = q.2 + 1 ∧ p.1 ∈ nb on q.1
  mon : ∀ (j k : Nat) (p q : Nat × Nat), j ≤ k → s[j]? = some p → s[k]? = some q → p.2 ≤ q.2
  top : ∀ (j k : Nat) (p q : Nat × Nat), s[j]? = some p → j ≤ i → s[k]? = some q → i ≤ j → q.2 ≤ p.2 + 1
  dn : ∀ (j : Nat) (p : Nat × Nat), j < i → s[j]? = some p → ∀ y ∈ nb on p.1, ∃ q ∈ s, q.1 = y ∧ q.2 ≤ p.2 + 1
theorem stepW_ok {on : Gr} (ok : GrOk on) {c i : Nat} {s : Sts} {x d : Nat} (h : WOk on c i s) (e : s[i]? = some (x, d)) : WOk on c (i + 1) (stepW on s x d) := by
  have il := (List.getElem?_eq_some_iff.mp e).1
  have key : ∀ k q, (stepW on s x d)[k]? = some q → (k < s.length ∧ s[k]? = some q) ∨ (s.length ≤ k ∧ q.2 = d + 1 ∧ q.1 ∈ nb on x) := fun k q hq => by
    unfold stepW at hq
    by_cases hk : k < s.length
    · rw [List.getElem?_append_left hk] at hq
      exact .inl ⟨hk, hq⟩
    · rw [List.getElem?_append_right (by omega), List.getElem?_map] at hq
      cases z : ((nb on x).filter fun y => !decide (y ∈ s.map (·.1)))[k - s.length]? with
      | none =>
        rw [z] at hq
        cases hq
      | some y =>
        rw [z] at hq
        cases hq
        exact .inr ⟨by omega, rfl, (List.mem_filter.mp (List.mem_of_getElem? z)).1⟩
  have old : ∀ q ∈ s, q ∈ stepW on s x d := fun q hq => List.mem_append_left _ hq
  refine ⟨?_, ?_, ?_, fun j p hp hj => ?_, fun j k p q hjk hp hq => ?_, fun j k p q hp hj hq hi => ?_, fun j p hj hp y hy => ?_⟩
  · rw [stepW_keys]
    exact grow_nd ok h.nd x
  · rw [stepW_keys]
    exact grow_lt ok h.lt x
  · unfold stepW
    rw [List.getElem?_append_left (by omega)]
    exact h.z
  · rcases key j p hp with ⟨hl, hp⟩ | ⟨hl, h2, h3⟩
    · obtain ⟨q, q1, q2⟩ := h.par j p hp hj
      exact ⟨q, old q q1, q2⟩
    · exact ⟨(x, d), old _ (List.mem_of_getElem? e), h2, h3⟩
  · rcases key j p hp with ⟨hl, hp⟩ | ⟨hl, h2, h3⟩
    · rcases key k q hq with ⟨hl', hq⟩ | ⟨hl', h2', h3'⟩
      · exact h.mon j k p q hjk hp hq
      · by_cases hji : j ≤ i
        · have := h.mon j i p (x, d) hji hp e
          simp only at this
          omega
        · have := h.top i j (x, d) p e (Nat.le_refl _) hp (Nat.le_refl _)
          simp only at this
          omega
    · rcases key k q hq with ⟨hl', hq⟩ | ⟨hl', h2', h3'⟩
      · omega
      · omega
  · have hji : j = i + 1 := by omega
    subst hji
    have hp1 : d ≤ p.2 := by
      rcases key _ p hp with ⟨hl, hp⟩ | ⟨hl, h2, h3⟩
      · exact h.mon i (i + 1) (x, d) p (by omega) e hp
      · omega
    rcases key k q hq with ⟨hl', hq⟩ | ⟨hl', h2', h3'⟩
    · have := h.top i k (x, d) q e (Nat.le_refl _) hq (Nat.le_refl _)
      simp only at this
      omega
    · omega
  · rcases key j p hp with ⟨hl, hp⟩ | ⟨hl, _, _⟩
    · by_cases hji : j = i
      · subst hji
        rw [e] at hp
        cases hp
        by_cases hin : y ∈ s.map (·.1)
        · obtain ⟨q, hq, rfl⟩ := List.mem_map.mp hin
          obtain ⟨k, hk⟩ := List.getElem?_of_mem hq
          have := h.top j k (x, d) q e (Nat.le_refl _) hk (Nat.le_refl _)
          exact ⟨q, old q hq, rfl, this⟩
        · exact ⟨(y, d + 1), List.mem_append_right _ (List.mem_map.mpr ⟨y, List.mem_filter.mpr ⟨hy, by simpa using hin⟩, rfl⟩), rfl, Nat.le_refl _⟩
      · obtain ⟨q, q1, q2⟩ := h.dn j p (by omega) hp y hy
        exact ⟨q, old q q1, q2⟩
    · omega
theorem waysF_ok {on : Gr} (ok : GrOk on) {c : Nat} : ∀ (m i : Nat) (s : Sts), i + m = on.length → WOk on c i s → ∃ i', WOk on c i' (waysF on m i s) ∧ (waysF on m i s).length ≤ i'
  | 0, i, s, hm, h => ⟨i, h, by
    have := range_le h.nd h.lt
    rw [List.length_map] at this
    show s.length ≤ i
    omega⟩
  | m + 1, i, s, hm, h => by
    unfold waysF
    cases e : s[i]? with
    | none => exact ⟨i, h, List.getElem?_eq_none_iff.mp e⟩
    | some p => exact waysF_ok ok m (i + 1) _ (by omega) (stepW_ok ok h e)
/-- the distances from c -/
structure Dst (on : Gr) (c : Nat) (s : Sts) : Prop where
  nd : (s.map (·.1)).Nodup
  lt : ∀ x ∈ s.map (·.1), x < on.length
  z : (c, 0) ∈ s
  par : ∀ p ∈ s, p.1 = c ∨ ∃ q ∈ s, p.2 = q.2 + 1 ∧ p.1 ∈ nb on q.1
  dn : ∀ p ∈ s, ∀ y ∈ nb on p.1, ∃ q ∈ s, q.1 = y ∧ q.2 ≤ p.2 + 1
theorem ways_dst {on : Gr} (ok : GrOk on) {c : Nat} (hc : c < on.length) : Dst on c (waysG on c) := by
  obtain ⟨i, h, hl⟩ := waysF_ok ok on.length 0 [(c, 0)] (by omega) (c := c) ⟨by simp, by simpa using hc, rfl, fun j p hp hj => by
      have := (List.getElem?_eq_some_iff.mp hp).1
      simp at this
      omega, fun j k p q hjk hp hq => by
      have h1 := (List.getElem?_eq_some_iff.mp hp).1
      have h2 := (List.getElem?_eq_some_iff.mp hq).1
      simp at h1 h2
      subst h1 h2
      rw [hp] at hq
      cases hq
      omega, fun j k p q hp hj hq hi => by
      have h1 := (List.getElem?_eq_some_iff.mp hp).1
      have h2 := (List.getElem?_eq_some_iff.mp hq).1
      simp at h1 h2
      subst h1 h2
      rw [hp] at hq
      cases hq
      omega, fun j p hj => by omega⟩
  refine ⟨h.nd, h.lt, List.mem_of_getElem? h.z, fun p hp => ?_, fun p hp y hy => ?_⟩
  · obtain ⟨j, hj⟩ := List.getElem?_of_mem hp
    cases j with
    | zero =>
      have := h.z
      rw [show waysG on c = waysF on on.length 0 [(c, 0)] from rfl, this] at hj
      cases hj
      exact .inl rfl
    | succ j => exact .inr (h.par (j + 1) p hj (by omega))
  · obtain ⟨j, hj⟩ := List.getElem?_of_mem hp
    have hjl := (List.getElem?_eq_some_iff.mp hj).1
    exact h.dn j p (Nat.lt_of_lt_of_le hjl hl) hj y hy
theorem Dst.fn {on : Gr} {c : Nat} {s : Sts} (h : Dst on c s) {p q : Nat × Nat} (hp : p ∈ s) (hq : q ∈ s) (e : p.1 = q.1) : p = q := by
  have h1 := lkG_mem h.nd hp
  have h2 := lkG_mem h.nd hq
  rw [e, h2] at h1
  have : q.2 = p.2 := Option.some.inj h1
  exact Prod.ext e this.symm
/-- a walk to c is not shorter than the distance -/
theorem Dst.walk {on : Gr} (sy : SymG on) {c : Nat} {s : Sts} (h : Dst on c s) {a : Nat} {p : List Nat} (w : Walk on a c p) : ∃ q ∈ s, q.1 = a ∧ q.2 + 1 ≤ p.length := by
  induction w with
  | one a => exact ⟨(a, 0), h.z, rfl, by simp⟩
  | @cons a b c p hb w ih =>
    obtain ⟨q, q1, q2, q3⟩ := ih h
    obtain ⟨r, r1, r2, r3⟩ := h.dn q q1 a (by rw [q2]; exact sy _ _ hb)
    exact ⟨r, r1, r2, by rw [List.length_cons]; omega⟩
/-- the steps that the chain takes -/
inductive Gd (on : Gr) (s : Sts) (c : Nat) : Nat → List Nat → Prop
  | one : Gd on s c c [c]
  | cons {x y d : Nat} {p : List Nat} : x ≠ c → (x, d + 1) ∈ s → (y, d) ∈ s → y ∈ nb on x → (∀ z ∈ nb on x, (z, d) ∈ s → y ≤ z) → Gd on s c y p → Gd on s c x (x :: p)
theorem Gd.lex {on : Gr} (sy : SymG on) {c : Nat} {s : Sts} (h : Dst on c s) {x : Nat} {p : List Nat} (g : Gd on s c x p) : ∃ d, (x, d) ∈ s ∧ p.length = d + 1 ∧ Walk on x c p ∧ ∀ w, Walk on x c w → w.length = p.length → lexle p w := by
  induction g with
  | one => exact ⟨0, h.z, rfl, .one _, fun w hw hl => by
      obtain ⟨r, rfl⟩ := hw.hd
      exact .inr ⟨rfl, trivial⟩⟩
  | @cons x y d p hx hxs hys hy hmin g ih =>
    obtain ⟨d', e1, e2, e3, e4⟩ := ih
    have : d' = d := congrArg Prod.snd (h.fn e1 hys rfl)
    subst this
    refine ⟨d' + 1, hxs, by simp [e2], .cons hy e3, fun w hw hl => ?_⟩
    cases hw with
    | one => exact absurd rfl hx
    | @cons _ b _ w' hb hw' =>
      obtain ⟨q, q1, q2, q3⟩ := h.walk sy hw'
      simp only [List.length_cons] at hl
      have hq2 : q.2 ≤ d' := by omega
      obtain ⟨r, r1, r2, r3⟩ := h.dn q q1 x (by rw [q2]; exact sy _ _ hb)
      have := congrArg Prod.snd (h.fn r1 hxs r2)
      simp only at this
      have hqd : q = (b, d') := Prod.ext q2 (by show q.2 = d'; omega)
      rw [hqd] at q1
      have hyb := hmin b hb q1
      refine .inr ⟨rfl, ?_⟩
      obtain ⟨p', rfl⟩ := e3.hd
      obtain ⟨w'', rfl⟩ := hw'.hd
      by_cases hyb' : y = b
      · subst hyb'
        exact e4 _ hw' (by omega)
      · exact .inl (by omega)
theorem Gd.sp {on : Gr} (sy : SymG on) {c : Nat} {s : Sts} (h : Dst on c s) {x : Nat} {p : List Nat} (g : Gd on s c x p) : LexSP on x c p := by
  obtain ⟨d, e1, e2, e3, e4⟩ := g.lex sy h
  refine ⟨e3, fun w hw => ?_, e4⟩
  obtain ⟨q, q1, q2, q3⟩ := h.walk sy hw
  have := congrArg Prod.snd (h.fn q1 e1 q2)
  simp only at this
  omega
theorem Dst.reach {on : Gr} {c : Nat} {s : Sts} (h : Dst on c s) {x : Nat} (r : Reach on c x) : x ∈ s.map (·.1) := by
  induction r with
  | refl => exact List.mem_map.mpr ⟨_, h.z, rfl⟩
  | tail _ hc ih =>
    obtain ⟨p, hp, rfl⟩ := List.mem_map.mp ih
    obtain ⟨q, q1, q2, _⟩ := h.dn p hp _ hc
    exact List.mem_map.mpr ⟨q, q1, q2⟩
end PL

namespace PL
open PySem PySem.Spec PyProof.Rows L2
local macro_rules | `(tactic| ac_rfl) => `(tactic| ((conv => whnf); repeat ((first | refine Cif.yes ?_ | refine Cif.no ?_ | (refine And.intro ?_ ?_; · first | (show _ ≤ (_ : Int); omega) | (show _ < (_ : Int); omega) | assumption | exact trivial | exact rfl | (refine small ?_; first | omega | (simp only [List.length_map, List.length_cons, List.length_nil, List.length_append]; omega)) | (refine ltsmall ?_; first | omega | (simp only [List.length_map, List.length_cons, List.length_nil, List.length_append]; omega)) | (refine cdiv ?_ ?_ <;> omega) | (refine cmulR ?_ ?_ <;> omega) | (refine cmulL ?_ ?_ <;> omega) | (refine ⟨?_, ?_, ?_, ?_⟩ <;> omega))); (conv => whnf))))
local macro_rules | `(tactic| exists $e) => `(tactic| first | exact $e | exact And.right $e | exact And.right (And.right $e) | exact And.right (And.right (And.right $e)))
-- _law_groups(ones) slots: 0=ones 1=found 2=seen 3=k 4=group 5=at 6=other
def q__law_groups : QS :=
  (qSeq (qAsg (qLst qNil) (qgN 1))
  (qSeq (qAsg (qLst qNil) (qgN 2))
  (qFrz 2 (qSeq (qFor (qiR1 (qCons (qUn opLen (qVar 0)) qNil)) (qgN 3)
   (qIfS (qB (qOp (opInW not) (qVar 3) (qVar 2)))
    (qSeq (qAsg (qLst (qCons (qVar 3) qNil)) (qgN 4))
    (qSeq (qAsg (qC (.int 0)) (qgN 5))
    (qSeq (qWhile (qB (qOp opLt (qVar 5) (qUn opLen (qVar 4))))
     (qSeq (qFor (qiL (qOp opIx (qVar 0) (qOp opIx (qVar 4) (qVar 5)))) (qgN 6)
      (qIfS (qB (qOp (opInW not) (qVar 6) (qVar 4)))
       (qDrop (qApp 4 (qVar 6)))
       qNext))
     (qAsg (qOp opAdd (qVar 5) (qC (.int 1))) (qgN 5))))
    (qSeq (qDrop (qApp 1 (qVar 4)))
    (qAsg (qOp opAdd (qVar 2) (qVar 4)) (qgN 2))))))
    qNext))
  (qRet (qVar 1))))))
def P__law_groups : PD := P_groups_of
theorem filter_snoc (g dn : List Nat) (y : Nat) (h : y ∉ dn) : (g ++ dn.filter fun z => !decide (z ∈ g)) ++ (if y ∈ g then [] else [y]) = g ++ (dn ++ [y]).filter fun z => !decide (z ∈ g) := by
  rw [List.filter_append, List.append_assoc]
  by_cases z : y ∈ g <;> simp [z]
theorem pure__law_groups : ∀ ds R, ds.length = 1 → P__law_groups ds R → q__law_groups (endsOf R) (startEv 7 ds) := by
  rintro ds R - ⟨on, rfl, ok, h⟩
  have hn := ok.le
  have hol : (on.map natsD).length = on.length := List.length_map _
  ac_rfl
  rw [hol]
  refine forGo_ok (fun i : Nat => .int (i : Int)) (fun r Γ => ∃ (k : Nat) (fd : List (List Nat)) (x2 x3 x4 x5 x6 : Sl), Γ = [.sh (onD on), .ow (.l (fd.map natsD)), x2, x3, x4, x5, x6] ∧ (x2 = .sh (natsD fd.flatten) ∨ x2 = .ow (.l (fd.flatten.map natD))) ∧ r = (List.range on.length).drop k ∧ k ≤ on.length ∧ fd.length ≤ k ∧ fd.flatten.length ≤ 12 * k ∧ r.foldl (addG on) fd = groupsL on) ?_ ?_ (List.range on.length) _ ⟨0, [], _, _, _, _, _, rfl, .inl rfl, rfl, by omega, by simp, by simp, rfl⟩
  · rintro Γ ⟨k, fd, x2, x3, x4, x5, x6, rfl, h2, hr, hk, hfl, hff, ho⟩
    have ho : fd = groupsL on := ho
    subst ho
    ac_rfl
    exact h
  · rintro k r Γ K ⟨k', fd, x2, x3, x4, x5, x6, rfl, h2, hr, hk, hfl, hff, ho⟩ hK
    obtain ⟨hk1, rfl, rfl⟩ := drop_cons hr.symm
    clear h
    rw [List.foldl_cons] at ho
    unfold addG at ho
    obtain ⟨gnd, glt⟩ := grpG_ok ok hk1
    have ggl := range_le gnd glt
    have hfm : (fd.map natsD).length ≤ 12 := by rw [List.length_map]; omega
    have hffm : (fd.flatten.map natD).length ≤ 200 := by rw [List.length_map]; omega
    -- the new group
    have fin : ∀ x2, (x2 = .sh (natsD fd.flatten) ∨ x2 = .ow (.l (fd.flatten.map natD))) → k ∉ fd.flatten → (qSeq (qAsg (qLst (qCons (qVar 3) qNil)) (qgN 4))
    (qSeq (qAsg (qC (.int 0)) (qgN 5))
    (qSeq (qWhile (qB (qOp opLt (qVar 5) (qUn opLen (qVar 4))))
     (qSeq (qFor (qiL (qOp opIx (qVar 0) (qOp opIx (qVar 4) (qVar 5)))) (qgN 6)
      (qIfS (qB (qOp (opInW not) (qVar 6) (qVar 4)))
       (qDrop (qApp 4 (qVar 6)))
       qNext))
     (qAsg (qOp opAdd (qVar 5) (qC (.int 1))) (qgN 5))))
    (qSeq (qDrop (qApp 1 (qVar 4)))
    (qAsg (qOp opAdd (qVar 2) (qVar 4)) (qgN 2)))))) { endsOf R with nx := K } [.sh (onD on), .ow (.l (fd.map natsD)), x2, .sh (.int (k : Nat)), x4, x5, x6] := fun x2 h2 hin => by
      rw [if_neg hin] at ho
      refine seq_i ?_
      ac_rfl
      refine ⟨fun m Γ => ∃ (i : Nat) (g : List Nat) (x6 : Sl), Γ = [.sh (onD on), .ow (.l (fd.map natsD)), x2, .sh (.int (k : Nat)), .ow (.l (g.map natD)), .sh (.int (i : Nat)), x6] ∧ i + m = on.length ∧ g.Nodup ∧ (∀ x ∈ g, x < on.length) ∧ grpF on m i g = grpG on k, ⟨on.length, 0, [k], _, rfl, by omega, by simp, by simpa using hk1, rfl⟩, ?_⟩
      rintro m Γ ⟨i, g, x6, rfl, hm, hnd, hlt, hgo⟩
      have hgl := range_le hnd hlt
      have hlm : (g.map natD).length = g.length := List.length_map _
      ac_rfl
      rw [hlm]
      refine ⟨fun hz => ?_, fun hz => ?_⟩
      · have hz : i < g.length := by
          have := of_decide_eq_true hz
          omega
        obtain ⟨m', rfl⟩ : ∃ q, m = q + 1 := ⟨m - 1, by omega⟩
        have e : g[i]? = some g[i] := List.getElem?_eq_getElem hz
        have hx := hlt _ (List.getElem_mem hz)
        unfold grpF at hgo
        rw [e] at hgo
        dsimp only at hgo
        clear hK
        ac_rfl
        rw [ixD_map _ e]
        ac_rfl
        rw [on_ix hx]
        ac_rfl
        refine forGo_ok natD (fun q Γ => ∃ (dn : List Nat) (x6 : Sl), Γ = [.sh (onD on), .ow (.l (fd.map natsD)), x2, .sh (.int (k : Nat)), .ow (.l ((g ++ dn.filter fun z => !decide (z ∈ g)).map natD)), .sh (.int (i : Nat)), x6] ∧ dn ++ q = nb on g[i]) ?_ ?_ (nb on g[i]) _ ⟨[], _, by rw [List.filter_nil, List.append_nil], rfl⟩
        · rintro Γ ⟨dn, x6, rfl, hq⟩
          rw [List.append_nil] at hq
          subst hq
          ac_rfl
          exact ⟨m', by omega, i + 1, growL on g g[i], _, rfl, by omega, grow_nd ok hnd _, grow_lt ok hlt _, hgo⟩
        · rintro y q Γ K2 ⟨dn, x6, rfl, hq⟩ hK2
          have hyd : y ∉ dn := fun z => by
            have := ok.nd g[i]
            rw [← hq, List.nodup_append] at this
            exact this.2.2 y z y (by simp) rfl
          have hcl : ((g ++ dn.filter fun z => !decide (z ∈ g)).map natD).length ≤ 100 := by
            have h1 := List.length_filter_le (fun z => !decide (z ∈ g)) dn
            have h2 : (dn ++ y :: q).length ≤ 12 := by rw [hq]; exact ok.row _
            rw [List.length_append] at h2
            rw [List.length_map, List.length_append]
            omega
          have hmem : (y ∈ g ++ dn.filter fun z => !decide (z ∈ g)) ↔ y ∈ g := by
            rw [List.mem_append, List.mem_filter]
            constructor
            · rintro (z | z)
              · exact z
              · exact absurd z.1 hyd
            · exact .inl
          have hs := filter_snoc g dn y hyd
          ac_rfl
          refine ⟨by rw [flat_nats]; rfl, ?_⟩
          rw [in_natsD, show decide (y ∈ g ++ dn.filter fun z => !decide (z ∈ g)) = decide (y ∈ g) from decide_eq_decide.mpr hmem]
          by_cases hy : y ∈ g
          · rw [decide_eq_true hy]
            rw [if_pos hy, List.append_nil] at hs
            ac_rfl
            exact hK2 _ ⟨dn ++ [y], _, by rw [← hs]; rfl, by rw [List.append_assoc]; exact hq⟩
          · rw [decide_eq_false hy]
            rw [if_neg hy] at hs
            ac_rfl
            refine hK2 _ ⟨dn ++ [y], .sh (natD y), ?_, by rw [List.append_assoc]; exact hq⟩
            rw [← hs, List.map_append (l₂ := [y])]
            rfl
      · have hz : g.length ≤ i := by
          have := of_decide_eq_false hz
          omega
        rw [grpF_stop hz] at hgo
        subst hgo
        have hfl2 : (grpG on k).length ≤ 12 := by omega
        have hlm2 : ((grpG on k).map natD).length ≤ 12 := by rw [List.length_map]; omega
        have e1 : fd.flatten.map natD ++ (grpG on k).map natD = (fd ++ [grpG on k]).flatten.map natD := by simp
        have next := fun (x5 x6 : Sl) => hK [.sh (onD on), .ow (.l (fd.map natsD ++ [natsD (grpG on k)])), .ow (.l (fd.flatten.map natD ++ (grpG on k).map natD)), .sh (.int (k : Nat)), .sh (natsD (grpG on k)), x5, x6] ⟨k + 1, fd ++ [grpG on k], _, _, _, _, _, by rw [List.map_append]; rfl, .inr (by rw [e1]), rfl, by omega, by simp; omega, by simp at hff ⊢; omega, ho⟩
        clear hK
        rcases h2 with rfl | rfl
        · ac_rfl
          exact next _ _
        · ac_rfl
          exact next _ _
    rcases h2 with rfl | rfl
    · ac_rfl
      refine ⟨by rw [flat_nats]; rfl, ?_⟩
      rw [in_nats']
      by_cases hin : k ∈ fd.flatten
      · rw [if_pos hin] at ho
        rw [decide_eq_true hin]
        clear fin
        ac_rfl
        exact hK _ ⟨k + 1, fd, _, _, _, _, _, rfl, .inl rfl, rfl, by omega, by omega, by omega, ho⟩
      · rw [decide_eq_false hin]
        exact Cif.yes (fin _ (.inl rfl) hin)
    · ac_rfl
      refine ⟨by rw [flat_nats]; rfl, ?_⟩
      rw [in_nats']
      by_cases hin : k ∈ fd.flatten
      · rw [if_pos hin] at ho
        rw [decide_eq_true hin]
        clear fin
        ac_rfl
        exact hK _ ⟨k + 1, fd, _, _, _, _, _, rfl, .inr rfl, rfl, by omega, by omega, by omega, ho⟩
      · rw [decide_eq_false hin]
        exact Cif.yes (fin _ (.inr rfl) hin)
end PL

namespace PL
open PySem PySem.Spec PyProof.Rows L2
local macro_rules | `(tactic| ac_rfl) => `(tactic| ((conv => whnf); repeat ((first | refine Cif.yes ?_ | refine Cif.no ?_ | (refine And.intro ?_ ?_; · first | (show _ ≤ (_ : Int); omega) | (show _ < (_ : Int); omega) | assumption | exact trivial | exact rfl | (refine small ?_; first | omega | (simp only [List.length_map, List.length_cons, List.length_nil, List.length_append]; omega)) | (refine ltsmall ?_; first | omega | (simp only [List.length_map, List.length_cons, List.length_nil, List.length_append]; omega)) | (refine cdiv ?_ ?_ <;> omega) | (refine cmulR ?_ ?_ <;> omega) | (refine cmulL ?_ ?_ <;> omega) | (refine ⟨?_, ?_, ?_, ?_⟩ <;> omega))); (conv => whnf))))
local macro_rules | `(tactic| exists $e) => `(tactic| first | exact $e | exact And.right $e | exact And.right (And.right $e) | exact And.right (And.right (And.right $e)))
-- ways_to(ones, goal) slots: 0=ones 1=goal 2=steps 3=waiting 4=at 5=here 6=card
def q_ways_to : QS :=
  (qSeq (qAsg (qDispK (qVar 1) (qC (.int 0))) (qgN 2))
  (qSeq (qAsg (qLst (qCons (qVar 1) qNil)) (qgN 3))
  (qSeq (qAsg (qC (.int 0)) (qgN 4))
  (qSeq (qWhile (qB (qOp opLt (qVar 4) (qUn opLen (qVar 3))))
   (qSeq (qAsg (qOp opIx (qVar 3) (qVar 4)) (qgN 5))
   (qSeq (qAug 4 opIAdd (qC (.int 1)))
   (qFor (qiL (qOp opIx (qVar 0) (qVar 5))) (qgN 6)
    (qIfS (qB (qDIn not (qVar 6) (qVar 2)))
     (qSeq (qDPut 2 (qVar 6) (qOp opAdd (qDGet (qVar 2) (qVar 5)) (qC (.int 1))))
     (qDrop (qApp 3 (qVar 6))))
     qNext)))))
  (qRet (qVar 2))))))
def stsD (s : Sts) : List (D × D) := kdG natD natD s
def P_ways_to : PD := fun ds R => ∃ (on : Gr) (c : Nat), ds = [onD on, .int c] ∧ GrOk on ∧ c < on.length ∧ R (.ow (.k (stsD (waysG on c))))
theorem pure_ways_to : ∀ ds R, ds.length = 2 → P_ways_to ds R → q_ways_to (endsOf R) (startEv 7 ds) := by
  rintro ds R - ⟨on, c, rfl, ok, hc, h⟩
  have hn := ok.le
  ac_rfl
  refine ⟨fun m Γ => ∃ (i : Nat) (s : Sts) (x5 x6 : Sl), Γ = [.sh (onD on), .sh (.int (c : Nat)), .ow (.k (stsD s)), .ow (.l ((s.map (·.1)).map natD)), .sh (.int (i : Nat)), x5, x6] ∧ i + m = on.length ∧ (s.map (·.1)).Nodup ∧ (∀ x ∈ s.map (·.1), x < on.length) ∧ waysF on m i s = waysG on c, ⟨on.length, 0, [(c, 0)], _, _, rfl, by omega, by simp, by simpa using hc, rfl⟩, ?_⟩
  rintro m Γ ⟨i, s, x5, x6, rfl, hm, hnd, hlt, ho⟩
  have hgl := range_le hnd hlt
  rw [List.length_map] at hgl
  have hlm : ((s.map (·.1)).map natD).length = s.length := by rw [List.length_map, List.length_map]
  ac_rfl
  rw [hlm]
  refine ⟨fun hz => ?_, fun hz => ?_⟩
  · have hz : i < s.length := by
      have := of_decide_eq_true hz
      omega
    obtain ⟨m', rfl⟩ : ∃ q, m = q + 1 := ⟨m - 1, by omega⟩
    have e : s[i]? = some s[i] := List.getElem?_eq_getElem hz
    have e1 : (s.map (·.1))[i]? = some s[i].1 := by rw [List.getElem?_map, e]; rfl
    have hx := hlt s[i].1 (List.mem_map.mpr ⟨_, List.getElem_mem hz, rfl⟩)
    have hlk := lkG_mem hnd (List.getElem_mem hz)
    unfold waysF at ho
    rw [e] at ho
    dsimp only at ho
    ac_rfl
    rw [ixD_map _ e1]
    ac_rfl
    rw [on_ix hx]
    ac_rfl
    have hnew : ∀ dn : List Nat, ((dn.filter fun z => !decide (z ∈ s.map (·.1))).map fun y => (y, s[i].2 + 1)).map (·.1) = dn.filter fun z => !decide (z ∈ s.map (·.1)) := fun dn => by
      rw [List.map_map]
      conv => rhs; rw [← List.map_id (dn.filter _)]
      rfl
    refine forGo_ok natD (fun q Γ => ∃ (dn : List Nat) (x6 : Sl), Γ = [.sh (onD on), .sh (.int (c : Nat)), .ow (.k (stsD (s ++ (dn.filter fun z => !decide (z ∈ s.map (·.1))).map fun y => (y, s[i].2 + 1)))), .ow (.l ((s.map (·.1) ++ dn.filter fun z => !decide (z ∈ s.map (·.1))).map natD)), .sh (.int ((i : Nat) + 1)), .sh (natD s[i].1), x6] ∧ dn ++ q = nb on s[i].1) ?_ ?_ (nb on s[i].1) _ ⟨[], _, by rw [List.filter_nil, List.append_nil, List.map_nil, List.append_nil]; rfl, rfl⟩
    · rintro Γ ⟨dn, x6, rfl, hq⟩
      rw [List.append_nil] at hq
      subst hq
      ac_rfl
      refine ⟨m', by omega, i + 1, stepW on s s[i].1 s[i].2, .sh (natD s[i].1), x6, ?_, by omega, by rw [stepW_keys]; exact grow_nd ok hnd _, by rw [stepW_keys]; exact grow_lt ok hlt _, ho⟩
      rw [stepW_keys]
      rfl
    · rintro y q Γ K2 ⟨dn, x6, rfl, hq⟩ hK2
      have hyd : y ∉ dn := fun z => by
        have := ok.nd s[i].1
        rw [← hq, List.nodup_append] at this
        exact this.2.2 y z y (by simp) rfl
      have hkeys : (s ++ (dn.filter fun z => !decide (z ∈ s.map (·.1))).map fun y => (y, s[i].2 + 1)).map (·.1) = s.map (·.1) ++ dn.filter fun z => !decide (z ∈ s.map (·.1)) := by rw [List.map_append, hnew]
      have hmem : (y ∈ s.map (·.1) ++ dn.filter fun z => !decide (z ∈ s.map (·.1))) ↔ y ∈ s.map (·.1) := by
        rw [List.mem_append, List.mem_filter]
        constructor
        · rintro (z | z)
          · exact z
          · exact absurd z.1 hyd
        · exact .inl
      have hlen : dn.length ≤ 12 := by
        have h2 : (dn ++ y :: q).length ≤ 12 := by rw [hq]; exact ok.row _
        rw [List.length_append] at h2
        omega
      have hfl := List.length_filter_le (fun z => !decide (z ∈ s.map (·.1))) dn
      have hcl : ((s.map (·.1) ++ dn.filter fun z => !decide (z ∈ s.map (·.1))).map natD).length ≤ 100 := by
        rw [List.length_map, List.length_append, List.length_map]
        omega
      have hcl2 : (stsD (s ++ (dn.filter fun z => !decide (z ∈ s.map (·.1))).map fun y => (y, s[i].2 + 1))).length ≤ 100 := by
        unfold stsD
        rw [len_kdG, List.length_append, List.length_map]
        omega
      have hlk2 : lkG (s ++ (dn.filter fun z => !decide (z ∈ s.map (·.1))).map fun y => (y, s[i].2 + 1)) s[i].1 = some s[i].2 := by
        unfold lkG at hlk ⊢
        rw [List.find?_append]
        cases z : s.find? fun p => decide (p.1 = s[i].1) with
        | none =>
          rw [z] at hlk
          cases hlk
        | some p =>
          rw [z] at hlk
          exact hlk
      have hs := filter_snoc (s.map (·.1)) dn y hyd
      generalize hS : (s ++ (dn.filter fun z => !decide (z ∈ s.map (·.1))).map fun y => (y, s[i].2 + 1)) = S at *
      ac_rfl
      rw [show lookD (stsD S) (natD y) = (lkG S y).map natD from look_kdG eqv_natD y S, Option.isSome_map, lkG_some, hkeys, show decide (y ∈ s.map (·.1) ++ dn.filter fun z => !decide (z ∈ s.map (·.1))) = decide (y ∈ s.map (·.1)) from decide_eq_decide.mpr hmem]
      by_cases hy : y ∈ s.map (·.1)
      · rw [decide_eq_true hy]
        rw [if_pos hy, List.append_nil] at hs
        ac_rfl
        refine hK2 _ ⟨dn ++ [y], .sh (natD y), ?_, by rw [List.append_assoc]; exact hq⟩
        have : (dn ++ [y]).filter (fun z => !decide (z ∈ s.map (·.1))) = dn.filter fun z => !decide (z ∈ s.map (·.1)) := by
          rw [List.filter_append]
          simp [hy]
        rw [this, hS]
        rfl
      · rw [decide_eq_false hy]
        have hf : (dn ++ [y]).filter (fun z => !decide (z ∈ s.map (·.1))) = (dn.filter fun z => !decide (z ∈ s.map (·.1))) ++ [y] := by
          rw [List.filter_append]
          simp [hy]
        ac_rfl
        rw [show lookD (stsD S) (natD s[i].1) = (lkG S s[i].1).map natD from look_kdG eqv_natD _ S, hlk2]
        ac_rfl
        refine hK2 _ ⟨dn ++ [y], .sh (natD y), ?_, by rw [List.append_assoc]; exact hq⟩
        have e3 : putD (stsD S) (natD y) (.int ((s[i].2 : Nat) + 1)) = stsD (S ++ [(y, s[i].2 + 1)]) := by
          have := put_kdG (e := natD) (f := natD) eqv_natD y (s[i].2 + 1) S
          unfold putG at this
          rw [hkeys, if_neg (by rw [hmem]; exact hy)] at this
          exact this
        have hw : (s.map (·.1) ++ dn.filter fun z => !decide (z ∈ s.map (·.1))).map natD ++ [natD y] = (s.map (·.1) ++ (dn ++ [y]).filter fun z => !decide (z ∈ s.map (·.1))).map natD := by
          rw [hf]
          simp only [List.map_append, List.map_cons, List.map_nil, List.append_assoc]
        have hd : putD (stsD S) (natD y) (.int ((s[i].2 : Nat) + 1)) = stsD (s ++ ((dn ++ [y]).filter fun z => !decide (z ∈ s.map (·.1))).map fun y => (y, s[i].2 + 1)) := by
          rw [e3, hf, List.map_append, ← List.append_assoc, hS]
          rfl
        show [_, _, Sl.ow (.k (putD (stsD S) (natD y) (.int ((s[i].2 : Nat) + 1)))), Sl.ow (.l ((s.map (·.1) ++ dn.filter fun z => !decide (z ∈ s.map (·.1))).map natD ++ [natD y])), _, _, _] = _
        rw [hw, hd]
  · have hz : s.length ≤ i := by
      have := of_decide_eq_false hz
      omega
    have hstop : waysF on m i s = s := by
      cases m with
      | zero => rfl
      | succ m =>
        unfold waysF
        rw [List.getElem?_eq_none hz]
    rw [hstop] at ho
    rw [← ho] at h
    ac_rfl
    exact h
end PL

namespace PL
open PySem PySem.Spec PyProof.Rows L2
local macro_rules | `(tactic| ac_rfl) => `(tactic| ((conv => whnf); repeat ((first | refine Cif.yes ?_ | refine Cif.no ?_ | (refine And.intro ?_ ?_; · first | (show _ ≤ (_ : Int); omega) | (show _ < (_ : Int); omega) | assumption | exact trivial | exact rfl | (refine small ?_; first | omega | (simp only [List.length_map, List.length_cons, List.length_nil, List.length_append]; omega)) | (refine ltsmall ?_; first | omega | (simp only [List.length_map, List.length_cons, List.length_nil, List.length_append]; omega)) | (refine cdiv ?_ ?_ <;> omega) | (refine cmulR ?_ ?_ <;> omega) | (refine cmulL ?_ ?_ <;> omega) | (refine ⟨?_, ?_, ?_, ?_⟩ <;> omega))); (conv => whnf))))
local macro_rules | `(tactic| exists $e) => `(tactic| first | exact $e | exact And.right $e | exact And.right (And.right $e) | exact And.right (And.right (And.right $e)))
theorem Dst.all {on : Gr} {c : Nat} {s : Sts} (h : Dst on c s) : ∀ (d : Nat) (p : Nat × Nat), p ∈ s → p.2 = d → ∀ e, e ≤ d → e ∈ s.map (·.2)
  | 0, p, hp, hd, e, he => by
    have : e = p.2 := by omega
    rw [this]
    exact List.mem_map.mpr ⟨p, hp, rfl⟩
  | d + 1, p, hp, hd, e, he => by
    by_cases hed : e = d + 1
    · rw [hed, ← hd]
      exact List.mem_map.mpr ⟨p, hp, rfl⟩
    · rcases h.par p hp with q | ⟨q, q1, q2, q3⟩
      · have := congrArg Prod.snd (h.fn hp h.z q)
        simp only at this
        omega
      · exact h.all d q q1 (by omega) e (by omega)
theorem Dst.bd {on : Gr} {c : Nat} {s : Sts} (h : Dst on c s) {p : Nat × Nat} (hp : p ∈ s) : p.2 < on.length := by
  have h1 : (List.range (p.2 + 1)).length ≤ (s.map (·.2)).length := nodup_le List.nodup_range fun e he => h.all p.2 p hp rfl e (by have := List.mem_range.mp he; omega)
  have h2 := range_le h.nd h.lt
  rw [List.length_map] at h1 h2
  rw [List.length_range] at h1
  omega
-- chain_between(ones, start, goal) slots: 0=ones 1=start 2=goal 3=steps* 4=chain 5=here* 6=card
def q_chain_between : QS :=
  (qSeq (qAsg (qCall 2 P_ways_to (qCons (qVar 0) (qCons (qVar 2) qNil))) (qgN 3))
  (qSeq (qAsg (qLst (qCons (qVar 1) qNil)) (qgN 4))
  (qSeq (qWhile (qB (qOp opNe (qOp opIx (qVar 4) (qUn opNeg (qC (.int 1)))) (qVar 2)))
   (qSeq (qAsg (qOp opIx (qVar 4) (qUn opNeg (qC (.int 1)))) (qgN 5))
   (qDrop (qApp 4 (qUn opMin (qLc [6] (qiL (qOp opIx (qVar 0) (qVar 5))) (qgN 6) (qB (qOp opEq (qDGet (qVar 3) (qVar 6)) (qOp opSub (qDGet (qVar 3) (qVar 5)) (qC (.int 1))))) (qVar 6)))))))
  (qRet (qVar 4)))))
def P_chain_between : PD := fun ds R => ∃ (on : Gr) (a c : Nat), ds = [onD on, .int a, .int c] ∧ GrOk on ∧ SymG on ∧ c < on.length ∧ Reach on c a ∧ ∀ ch, LexSP on a c ch → R (.ow (.l (ch.map natD)))
theorem pure_chain_between : ∀ ds R, ds.length = 3 → P_chain_between ds R → q_chain_between (endsOf R) (startEv 7 ds) := by
  rintro ds R - ⟨on, a, c, rfl, ok, sy, hc, hr, h⟩
  have hn := ok.le
  have D := ways_dst ok hc
  have ha := D.reach hr
  obtain ⟨pa, hpa, rfl⟩ := List.mem_map.mp ha
  have hbd := D.bd hpa
  ac_rfl
  refine ⟨on, c, rfl, ok, hc, ?_⟩
  generalize waysG on c = s at *
  ac_rfl
  refine ⟨fun m Γ => ∃ (acc : List Nat) (x : Nat) (x5 : Sl), Γ = [.sh (onD on), .sh (.int (pa.1 : Nat)), .sh (.int (c : Nat)), .ow (.k (stsD s)), .ow (.l ((acc ++ [x]).map natD)), x5, .un] ∧ (x, m) ∈ s ∧ acc.length + m ≤ 12 ∧ ∀ q, Gd on s c x q → Gd on s c pa.1 (acc ++ q), ⟨pa.2, [], pa.1, _, rfl, hpa, by simp; omega, fun q hq => hq⟩, ?_⟩
  rintro m Γ ⟨acc, x, x5, rfl, hx, hal, hq⟩
  have elast : ixD ((acc ++ [x]).map natD) (-1) = some (natD x) := ixD_last (k := acc.length) (by simp) (by simp)
  have hxl := D.lt x (List.mem_map.mpr ⟨_, hx, rfl⟩)
  ac_rfl
  rw [elast]
  ac_rfl
  rw [show PyData.eqv (natD x) (.int (c : Int)) = decide (x = c) from eqv_natD x c]
  by_cases hxc : x = c
  · subst hxc
    rw [decide_eq_true rfl]
    have fin := h (acc ++ [x]) ((hq _ .one).sp sy D)
    ac_rfl
    exact fin
  · rw [decide_eq_false hxc]
    clear h
    obtain ⟨q, q1, q2, q3⟩ : ∃ q ∈ s, m = q.2 + 1 ∧ x ∈ nb on q.1 := by
      rcases D.par _ hx with z | z
      · exact absurd z hxc
      · exact z
    obtain ⟨m', rfl⟩ : ∃ k, m = k + 1 := ⟨q.2, q2⟩
    have hqm : q = (q.1, m') := Prod.ext rfl (by show q.2 = m'; omega)
    have hlx := lkG_mem D.nd hx
    have hrow := ok.row x
    have hacl : ((acc ++ [x]).map natD).length ≤ 100 := by rw [List.length_map, List.length_append, List.length_singleton]; omega
    have hfl := List.length_filter_le (fun y => decide (lkG s y = some m')) (nb on x)
    ac_rfl
    rw [elast]
    ac_rfl
    rw [show ixD (on.map natsD) (x : Int) = _ from on_ix hxl]
    ac_rfl
    refine lc0_fil (vs := [6]) natD (fun y => decide (lkG s y = some m')) natD (nb on x) (fun y hy acc K ha hK1 hK2 => ?_) (small (by omega)) ?_
    · obtain ⟨r, r1, r2, r3⟩ := D.dn _ hx y hy
      have hly : lkG s y = some r.2 := by rw [← r2]; exact lkG_mem D.nd r1
      rw [hly] at hK1 hK2
      ac_rfl
      rw [show lookD (stsD s) (natD y) = (lkG s y).map natD from look_kdG eqv_natD y s, hly]
      ac_rfl
      rw [show lookD (stsD s) (natD x) = (lkG s x).map natD from look_kdG eqv_natD x s, hlx]
      ac_rfl
      rw [show PyData.eqv (natD r.2) (.int (((m' + 1 : Nat) : Int) - 1)) = decide (r.2 = m') by
        rw [show (((m' + 1 : Nat) : Int) - 1) = (m' : Int) by omega]
        exact eqv_natD r.2 m']
      refine ⟨fun hz => ?_, fun hz => ?_⟩
      · ac_rfl
        exact hK1 (by simpa using hz)
      · exact hK2 (by simpa using hz)
    · ac_rfl
      rw [ints_nat]
      have hqin : q.1 ∈ (nb on x).filter fun y => decide (lkG s y = some m') := by
        refine List.mem_filter.mpr ⟨sy _ _ q3, ?_⟩
        have := lkG_mem D.nd q1
        rw [this]
        simp
        omega
      have hpos : 0 < (((nb on x).filter fun y => decide (lkG s y = some m')).map fun n : Nat => (n : Int)).length := by
        rw [List.length_map]
        exact List.length_pos_of_mem hqin
      refine ⟨hpos, fun mm hmm hmin => ?_⟩
      obtain ⟨y, hy, rfl⟩ := List.mem_map.mp hmm
      obtain ⟨y1, y2⟩ := List.mem_filter.mp hy
      have y2 : lkG s y = some m' := by simpa using y2
      have hys : (y, m') ∈ s := by
        obtain ⟨r, r1, r2, r3⟩ := D.dn _ hx y y1
        have := lkG_mem D.nd r1
        rw [r2, y2] at this
        have : m' = r.2 := Option.some.inj this
        have e : r = (y, m') := Prod.ext r2 this.symm
        rw [← e]
        exact r1
      ac_rfl
      refine ⟨m', by omega, acc ++ [x], y, .sh (natD x), by rw [List.map_append (l₂ := [y])]; rfl, hys, by simp; omega, fun q hg => ?_⟩
      have := hq (x :: q) (.cons hxc hx hys y1 (fun z hz hzs => ?_) hg)
      · rw [List.append_assoc]
        exact this
      · have hzf : z ∈ (nb on x).filter fun y => decide (lkG s y = some m') := List.mem_filter.mpr ⟨hz, by rw [lkG_mem D.nd hzs]; simp⟩
        have := hmin (z : Int) (List.mem_map.mpr ⟨z, hzf, rfl⟩)
        omega
end PL

namespace PL
open PySem PySem.Spec PyProof.Rows L2
local macro_rules | `(tactic| ac_rfl) => `(tactic| ((conv => whnf); repeat ((first | refine Cif.yes ?_ | refine Cif.no ?_ | (refine And.intro ?_ ?_; · first | (show _ ≤ (_ : Int); omega) | (show _ < (_ : Int); omega) | assumption | exact trivial | exact rfl | (refine small ?_; first | omega | (simp only [List.length_map, List.length_cons, List.length_nil, List.length_append]; omega)) | (refine ltsmall ?_; first | omega | (simp only [List.length_map, List.length_cons, List.length_nil, List.length_append]; omega)) | (refine cdiv ?_ ?_ <;> omega) | (refine cmulR ?_ ?_ <;> omega) | (refine cmulL ?_ ?_ <;> omega) | (refine ⟨?_, ?_, ?_, ?_⟩ <;> omega))); (conv => whnf))))
local macro_rules | `(tactic| exists $e) => `(tactic| first | exact $e | exact And.right $e | exact And.right (And.right $e) | exact And.right (And.right (And.right $e)))
/-! ### the first two in one group who are apart -/
structure GpOk (n : Nat) (gs : List (List Nat)) : Prop where
  nd : gs.flatten.Nodup
  all : ∀ x < n, x ∈ gs.flatten
  lt : ∀ x ∈ gs.flatten, x < n
  le : gs.length ≤ 12
theorem GpOk.sum {n : Nat} {gs : List (List Nat)} (h : GpOk n gs) (hn : n ≤ 12) : gs.flatten.length ≤ 12 := Nat.le_trans (range_le h.nd h.lt) hn
theorem GpOk.one {n : Nat} {gs : List (List Nat)} (h : GpOk n gs) (hn : n ≤ 12) : ∀ g ∈ gs, g.length ≤ 12 := fun g hg => Nat.le_trans (range_le (h.nd.sublist (List.sublist_flatten_of_mem hg)) fun x hx => h.lt x (List.mem_flatten.mpr ⟨g, hg, hx⟩)) hn
def pairsF (n : Nat) (l : List Nat) : List (Nat × Nat) := l.flatMap fun i => ((List.range n).drop (i + 1)).map fun j => (i, j)
def confB (cs : List Card) (h : List Str) (gs : List (List Nat)) (p : Nat × Nat) : Bool := sameG gs p.1 p.2 && apB (cdAt cs p.1) (cdAt cs p.2) h
def confL (cs : List Card) (h : List Str) (gs : List (List Nat)) : Option (Nat × Nat) := (pairsF cs.length (List.range cs.length)).find? (confB cs h gs)
def pairD : Option (Nat × Nat) → D
  | none => .none
  | some p => .tuple [.int p.1, .int p.2]
def plOf (zs : List (List Nat × Nat)) : List (Nat × Nat) := zs.flatMap fun p => p.1.map fun x => (x, p.2)
theorem plOf_keys : ∀ zs : List (List Nat × Nat), (plOf zs).map (·.1) = (zs.map (·.1)).flatten
  | [] => rfl
  | p :: r => by
    have ih := plOf_keys r
    unfold plOf at ih ⊢
    rw [List.flatMap_cons, List.map_append, ih, List.map_map, List.map_cons, List.flatten_cons]
    congr 1
    conv => rhs; rw [← List.map_id p.1]
    rfl
theorem mem_plOf {gs : List (List Nat)} {x i : Nat} {g : List Nat} (hg : gs[i]? = some g) (hx : x ∈ g) : (x, i) ∈ plOf gs.zipIdx := List.mem_flatMap.mpr ⟨(g, i), List.mem_zipIdx_iff_getElem?.mpr hg, List.mem_map.mpr ⟨x, hx, rfl⟩⟩
theorem place_of {gs : List (List Nat)} (hnd : gs.flatten.Nodup) {x : Nat} (hx : x ∈ gs.flatten) : ∃ i g, gs[i]? = some g ∧ x ∈ g ∧ lkG (plOf gs.zipIdx) x = some i := by
  obtain ⟨g, hg, hxg⟩ := List.mem_flatten.mp hx
  obtain ⟨i, hi⟩ := List.getElem?_of_mem hg
  have hk : ((plOf gs.zipIdx).map (·.1)).Nodup := by
    rw [plOf_keys, List.zipIdx_map_fst]
    exact hnd
  exact ⟨i, g, hi, hxg, lkG_mem hk (mem_plOf hi hxg)⟩
theorem place_same {gs : List (List Nat)} (hnd : gs.flatten.Nodup) {x y i j : Nat} (hx : x ∈ gs.flatten) (hy : y ∈ gs.flatten) (ex : lkG (plOf gs.zipIdx) x = some i) (ey : lkG (plOf gs.zipIdx) y = some j) : decide (i = j) = sameG gs x y := by
  have hk : ((plOf gs.zipIdx).map (·.1)).Nodup := by
    rw [plOf_keys, List.zipIdx_map_fst]
    exact hnd
  unfold sameG
  rw [Bool.eq_iff_iff, decide_eq_true_iff, List.any_eq_true]
  constructor
  · rintro rfl
    obtain ⟨i', g, g1, g2, g3⟩ := place_of hnd hx
    obtain ⟨j', g', g1', g2', g3'⟩ := place_of hnd hy
    rw [ex] at g3
    rw [ey] at g3'
    cases g3
    cases g3'
    rw [g1] at g1'
    cases g1'
    exact ⟨g, List.mem_of_getElem? g1, by simp [g2, g2']⟩
  · rintro ⟨g, hg, hb⟩
    simp only [Bool.and_eq_true, decide_eq_true_eq] at hb
    obtain ⟨k, hk'⟩ := List.getElem?_of_mem hg
    have e1 := lkG_mem hk (mem_plOf hk' hb.1)
    have e2 := lkG_mem hk (mem_plOf hk' hb.2)
    rw [show ((x, k) : Nat × Nat).1 = x from rfl, ex] at e1
    rw [show ((y, k) : Nat × Nat).1 = y from rfl, ey] at e2
    have e1 := Option.some.inj e1
    have e2 := Option.some.inj e2
    simp only at e1 e2
    omega
theorem rg2_map (i n : Nat) : ((List.range (((n : Nat) : Int) - ((i : Int) + 1)).toNat).map fun k : Nat => PyData.int ((i : Int) + 1 + (k : Int))) = ((List.range n).drop (i + 1)).map fun j : Nat => .int (j : Int) := by
  apply List.ext_getElem
  · simp
    omega
  · intro k h1 h2
    simp only [List.getElem_map, List.getElem_range, List.getElem_drop]
    congr 1
-- conflict_in(cards, hard, groups) slots: 0=cards 1=hard 2=groups 3=places 4=one 5=other 6=number 7=group 8=card
def q_conflict_in : QS :=
  (qSeq (qAsg (qDc2 false [6, 7, 8] [8] (qiE (qCons (qVar 2) qNil)) (qgTup 2 (qgCons (qgN 6) (qgCons (qgN 7) qgNil))) qYes (qiL (qVar 7)) (qgN 8) qYes (qVar 8) (qVar 6)) (qgN 3))
  (qSeq (qFor (qiR1 (qCons (qUn opLen (qVar 0)) qNil)) (qgN 4)
   (qFor (qiR2 (qCons (qOp opAdd (qVar 4) (qC (.int 1))) (qCons (qUn opLen (qVar 0)) qNil))) (qgN 5)
    (qIfS (qAnd (qB (qOp opEq (qDGet (qVar 3) (qVar 4)) (qDGet (qVar 3) (qVar 5)))) (qB (qCall 3 P_are_apart (qCons (qOp opIx (qVar 0) (qVar 4)) (qCons (qOp opIx (qVar 0) (qVar 5)) (qCons (qVar 1) qNil))))))
     (qRet (qTup (qCons (qVar 4) (qCons (qVar 5) qNil))))
     qNext)))
  (qRet (qC .none))))
def P_conflict_in : PD := fun ds R => ∃ (cs : List Card) (h : List Str) (gs : List (List Nat)), ds = [cardsD cs, txtsD h, grsD gs] ∧ CsOk cs ∧ GpOk cs.length gs ∧ R (.sh (pairD (confL cs h gs)))
theorem pure_conflict_in : ∀ ds R, ds.length = 3 → P_conflict_in ds R → q_conflict_in (endsOf R) (startEv 9 ds) := by
  rintro ds R - ⟨cs, hd, gs, rfl, hc, hg, h⟩
  have hn := hc.le
  have hgl := hg.le
  have hsum := hg.sum hn
  have hcl : (cs.map cardD).length = cs.length := List.length_map _
  have hpk : (plOf gs.zipIdx).map (·.1) = gs.flatten := by rw [plOf_keys, List.zipIdx_map_fst]
  ac_rfl
  rw [enumD_map]
  refine dc2Go_inv (b := false) (vs := [6, 7, 8]) (vs1 := [8]) (fun p : List Nat × Nat => .tuple [.int (p.2 : Int), natsD p.1]) (fun r acc => ∃ dn, dn ++ r = gs.zipIdx ∧ acc = kdG natD natD (plOf dn)) ?_ ?_ gs.zipIdx _ ⟨[], rfl, rfl⟩
  · rintro acc ⟨dn, hdn, rfl⟩
    rw [List.append_nil] at hdn
    subst hdn
    ac_rfl
    rw [hcl]
    refine forGo_ok (fun i : Nat => .int (i : Int)) (fun r Γ => ∃ (k : Nat) (x4 x5 : Sl), Γ = [.sh (cardsD cs), .sh (txtsD hd), .sh (grsD gs), .ow (.k (kdG natD natD (plOf gs.zipIdx))), x4, x5, .un, .un, .un] ∧ r = (List.range cs.length).drop k ∧ confL cs hd gs = (pairsF cs.length r).find? (confB cs hd gs)) ?_ ?_ (List.range cs.length) _ ⟨0, _, _, rfl, rfl, rfl⟩
    · rintro Γ ⟨k, x4, x5, rfl, hr, ho⟩
      have ho : confL cs hd gs = none := ho
      rw [ho] at h
      ac_rfl
      exact h
    · rintro k r Γ K ⟨k', x4, x5, rfl, hr, ho⟩ hK
      obtain ⟨hk1, rfl, rfl⟩ := drop_cons hr.symm
      have hpc : pairsF cs.length (k :: (List.range cs.length).drop (k + 1)) = (((List.range cs.length).drop (k + 1)).map fun j => (k, j)) ++ pairsF cs.length ((List.range cs.length).drop (k + 1)) := by
        unfold pairsF
        rw [List.flatMap_cons]
      rw [hpc] at ho
      ac_rfl
      rw [hcl, rg2_map]
      refine forGo_ok (fun i : Nat => .int (i : Int)) (fun r2 Γ => ∃ (x5 : Sl), Γ = [.sh (cardsD cs), .sh (txtsD hd), .sh (grsD gs), .ow (.k (kdG natD natD (plOf gs.zipIdx))), .sh (.int (k : Nat)), x5, .un, .un, .un] ∧ (∀ j ∈ r2, j < cs.length) ∧ confL cs hd gs = ((r2.map fun j => (k, j)) ++ pairsF cs.length ((List.range cs.length).drop (k + 1))).find? (confB cs hd gs)) ?_ ?_ ((List.range cs.length).drop (k + 1)) _ ⟨_, rfl, fun j hj => List.mem_range.mp (List.mem_of_mem_drop hj), ho⟩
      · rintro Γ ⟨x5, rfl, _, ho⟩
        exact hK _ ⟨k + 1, _, _, rfl, rfl, ho⟩
      · rintro j r2 Γ K2 ⟨x5, rfl, hlt, ho⟩ hK2
        have hj := hlt j (by simp)
        have hlt2 : ∀ z ∈ r2, z < cs.length := fun z hz => hlt z (List.mem_cons_of_mem _ hz)
        obtain ⟨i1, g1, a1, a2, a3⟩ := place_of hg.nd (hg.all k hk1)
        obtain ⟨i2, g2, b1, b2, b3⟩ := place_of hg.nd (hg.all j hj)
        have hsame := place_same hg.nd (hg.all k hk1) (hg.all j hj) a3 b3
        rw [List.map_cons, List.cons_append, List.find?_cons] at ho
        unfold confB at ho
        rw [← hsame] at ho
        clear hK
        ac_rfl
        rw [show lookD (kdG natD natD (plOf gs.zipIdx)) (.int (k : Int)) = (lkG (plOf gs.zipIdx) k).map natD from look_kdG eqv_natD k _, a3]
        ac_rfl
        rw [show lookD (kdG natD natD (plOf gs.zipIdx)) (.int (j : Int)) = (lkG (plOf gs.zipIdx) j).map natD from look_kdG eqv_natD j _, b3]
        ac_rfl
        rw [show PyData.eqv (natD i1) (natD i2) = decide (i1 = i2) from eqv_natD i1 i2]
        by_cases hi : i1 = i2
        · rw [decide_eq_true hi] at ho ⊢
          ac_rfl
          rw [cd_ix hk1]
          ac_rfl
          rw [cd_ix hj]
          ac_rfl
          refine ⟨_, _, hd, rfl, hc.at hk1, hc.at hj, ?_⟩
          ac_rfl
          refine ⟨fun hz => ?_, fun hz => ?_⟩
          · simp only [hz, Bool.and_self] at ho
            rw [ho] at h
            ac_rfl
            exact h
          · simp only [hz, Bool.and_false] at ho
            ac_rfl
            exact hK2 _ ⟨_, rfl, hlt2, ho⟩
        · rw [decide_eq_false hi] at ho ⊢
          simp only [Bool.false_and] at ho
          ac_rfl
          exact hK2 _ ⟨_, rfl, hlt2, ho⟩
  · rintro p r acc K ⟨dn, hdn, rfl⟩ hK
    have hsub : (plOf (dn ++ [p])).map (·.1) <+: gs.flatten := by
      rw [← hpk, ← hdn, show dn ++ p :: r = (dn ++ [p]) ++ r by simp]
      unfold plOf
      rw [List.flatMap_append (xs := dn ++ [p]), List.map_append]
      exact List.prefix_append _ _
    have hpl : plOf (dn ++ [p]) = plOf dn ++ p.1.map fun x => (x, p.2) := by unfold plOf; rw [List.flatMap_append]; simp
    rw [hpl] at hsub
    have hnd := hg.nd.sublist hsub.sublist
    have hlen := hsub.length_le
    rw [List.length_map, List.length_append, List.length_map] at hlen
    ac_rfl
    refine dcGo_inv (b := false) (vs := [8]) natD (fun q acc => ∃ de, de ++ q = p.1 ∧ acc = kdG natD natD (plOf dn ++ de.map fun x => (x, p.2))) ?_ ?_ p.1 _ ⟨[], rfl, by rw [List.map_nil, List.append_nil]⟩
    · rintro acc ⟨de, hde, rfl⟩
      rw [List.append_nil] at hde
      subst hde
      exact hK _ ⟨dn ++ [p], by rw [List.append_assoc]; exact hdn, by rw [hpl]⟩
    · rintro y q acc K2 ⟨de, hde, rfl⟩ hK2
      have hlb : (kdG natD natD (plOf dn ++ de.map fun x => (x, p.2))).length ≤ 12 := by
        have : de.length ≤ p.1.length := by rw [← hde, List.length_append]; omega
        rw [len_kdG, List.length_append, List.length_map]
        omega
      have e3 : putD (kdG natD natD (plOf dn ++ de.map fun x => (x, p.2))) (natD y) (.int (p.2 : Int)) = kdG natD natD (plOf dn ++ (de ++ [y]).map fun x => (x, p.2)) := by
        have := put_kdG (e := natD) (f := natD) eqv_natD y p.2 (plOf dn ++ de.map fun x => (x, p.2))
        have hny : y ∉ (plOf dn ++ de.map fun x => (x, p.2)).map (·.1) := by
          intro z
          have h1 : ((plOf dn).map (·.1) ++ p.1).Nodup := by simpa [List.map_map, Function.comp_def] using hnd
          have z : y ∈ (plOf dn).map (·.1) ∨ y ∈ de := by simpa [List.map_map, Function.comp_def] using z
          rw [← hde] at h1
          have h2 := List.nodup_append.mp h1
          rcases z with z | z
          · exact h2.2.2 y z y (by simp) rfl
          · exact (List.nodup_append.mp h2.2.1).2.2 y z y (by simp) rfl
        unfold putG at this
        rw [if_neg hny] at this
        rw [List.map_append, ← List.append_assoc]
        exact this
      clear hK
      ac_rfl
      rw [e3]
      exact hK2 _ ⟨de ++ [y], by rw [List.append_assoc]; exact hde, rfl⟩
end PL

namespace PL
open PySem PySem.Spec PyProof.Rows L2
local macro_rules | `(tactic| ac_rfl) => `(tactic| ((conv => whnf); repeat ((first | refine Cif.yes ?_ | refine Cif.no ?_ | (refine And.intro ?_ ?_; · first | (show _ ≤ (_ : Int); omega) | (show _ < (_ : Int); omega) | assumption | exact trivial | exact rfl | (refine small ?_; first | omega | (simp only [List.length_map, List.length_cons, List.length_nil, List.length_append]; omega)) | (refine ltsmall ?_; first | omega | (simp only [List.length_map, List.length_cons, List.length_nil, List.length_append]; omega)) | (refine cdiv ?_ ?_ <;> omega) | (refine cmulR ?_ ?_ <;> omega) | (refine cmulL ?_ ?_ <;> omega) | (refine ⟨?_, ?_, ?_, ?_⟩ <;> omega))); (conv => whnf))))
local macro_rules | `(tactic| exists $e) => `(tactic| first | exact $e | exact And.right $e | exact And.right (And.right $e) | exact And.right (And.right (And.right $e)))
/-! ### who is one with whom: both ways -/
theorem lk_mem {c : Card} (h : CdOk c) {k v : Str} : lkG c k = some v ↔ (k, v) ∈ c := by
  constructor
  · intro e
    unfold lkG at e
    cases z : c.find? fun p => decide (p.1 = k) with
    | none =>
      rw [z] at e
      cases e
    | some p =>
      rw [z] at e
      have h1 := List.mem_of_find?_eq_some z
      have h2 := List.find?_some z
      have h2 : p.1 = k := by simpa using h2
      have h3 : p.2 = v := Option.some.inj e
      rw [← h2, ← h3]
      exact h1
  · intro hm
    exact lkG_mem h.nd hm
theorem mem_diL {a b : Card} (ha : CdOk a) {k : Str} : k ∈ diL a b ↔ ∃ v w, lkG a k = some v ∧ lkG b k = some w ∧ v ≠ w := by
  unfold diL diB
  rw [List.mem_map]
  constructor
  · rintro ⟨p, hp, rfl⟩
    obtain ⟨h1, h2⟩ := List.mem_filter.mp hp
    simp only [Bool.and_eq_true, Bool.not_eq_true', decide_eq_false_iff_not] at h2
    obtain ⟨w, hw⟩ := Option.isSome_iff_exists.mp h2.1
    exact ⟨p.2, w, (lk_mem ha).mpr h1, hw, fun z => h2.2 (by rw [hw, z])⟩
  · rintro ⟨v, w, h1, h2, h3⟩
    refine ⟨(k, v), List.mem_filter.mpr ⟨(lk_mem ha).mp h1, ?_⟩, rfl⟩
    simp only [h2, Option.isSome_some, Bool.true_and, Bool.not_eq_true', decide_eq_false_iff_not]
    intro z
    exact h3 (Option.some.inj z).symm
theorem mem_agL {a b : Card} (ha : CdOk a) {k : Str} : k ∈ agL a b ↔ ∃ v, lkG a k = some v ∧ lkG b k = some v := by
  unfold agL agB
  rw [List.mem_map]
  constructor
  · rintro ⟨p, hp, rfl⟩
    obtain ⟨h1, h2⟩ := List.mem_filter.mp hp
    exact ⟨p.2, (lk_mem ha).mpr h1, by simpa using h2⟩
  · rintro ⟨v, h1, h2⟩
    exact ⟨(k, v), List.mem_filter.mpr ⟨(lk_mem ha).mp h1, by simpa using h2⟩, rfl⟩
theorem di_symm {a b : Card} (ha : CdOk a) (hb : CdOk b) (k : Str) : k ∈ diL a b ↔ k ∈ diL b a := by
  rw [mem_diL ha, mem_diL hb]
  constructor
  · rintro ⟨v, w, h1, h2, h3⟩
    exact ⟨w, v, h2, h1, fun z => h3 z.symm⟩
  · rintro ⟨v, w, h1, h2, h3⟩
    exact ⟨w, v, h2, h1, fun z => h3 z.symm⟩
theorem ag_symm {a b : Card} (ha : CdOk a) (hb : CdOk b) (k : Str) : k ∈ agL a b ↔ k ∈ agL b a := by
  rw [mem_agL ha, mem_agL hb]
  constructor <;> (rintro ⟨v, h1, h2⟩; exact ⟨v, h2, h1⟩)
theorem any_congr {α : Type} {p : α → Bool} {l m : List α} (h : ∀ x, x ∈ l ↔ x ∈ m) : l.any p = m.any p := by
  rw [Bool.eq_iff_iff, List.any_eq_true, List.any_eq_true]
  constructor
  · rintro ⟨x, hx, hp⟩
    exact ⟨x, (h x).mp hx, hp⟩
  · rintro ⟨x, hx, hp⟩
    exact ⟨x, (h x).mpr hx, hp⟩
theorem ap_symm {a b : Card} (ha : CdOk a) (hb : CdOk b) (h : List Str) : apB a b h = apB b a h := any_congr (di_symm ha hb)
theorem one_symm {a b : Card} (ha : CdOk a) (hb : CdOk b) (ks : List (List Str)) : oneB a b ks = oneB b a ks := by
  have e : (fun key : List Str => key.all fun k => decide (k ∈ agL a b)) = fun key => key.all fun k => decide (k ∈ agL b a) := by
    funext key
    congr 1
    funext k
    exact decide_eq_decide.mpr (ag_symm ha hb k)
  unfold oneB
  rw [e]
theorem rel_symm {a b : Card} (ha : CdOk a) (hb : CdOk b) (h : List Str) (ks : List (List Str)) : relS a b h ks = relS b a h ks := by
  unfold relS
  rw [ap_symm ha hb, one_symm ha hb]
theorem ap_self {a : Card} (ha : CdOk a) (h : List Str) : apB a a h = false := by
  unfold apB
  rw [List.any_eq_false]
  intro k hk
  obtain ⟨v, w, h1, h2, h3⟩ := (mem_diL ha).mp hk
  rw [h1] at h2
  exact absurd (Option.some.inj h2) h3
theorem ones_len (cs : List Card) (h : List Str) (ks : List (List Str)) : (onesL cs h ks).length = cs.length := by
  unfold onesL
  rw [List.length_map, List.length_range]
theorem mem_nb {cs : List Card} {h : List Str} {ks : List (List Str)} {k j : Nat} : j ∈ nb (onesL cs h ks) k ↔ k < cs.length ∧ j < cs.length ∧ oneAt cs h ks k j = true := by
  unfold nb onesL
  by_cases hk : k < cs.length
  · have e : ((List.range cs.length).map (rowL cs h ks))[k]? = some (rowL cs h ks k) := by
      rw [List.getElem?_map, List.getElem?_range hk]
      rfl
    rw [e]
    show j ∈ rowL cs h ks k ↔ _
    unfold rowL
    rw [List.mem_filter, List.mem_range]
    simp [hk]
  · have e : ((List.range cs.length).map (rowL cs h ks))[k]? = none := List.getElem?_eq_none (by simp; omega)
    rw [e]
    simp [hk]
theorem ones_gr {cs : List Card} (hc : CsOk cs) (h : List Str) (ks : List (List Str)) : GrOk (onesL cs h ks) := by
  refine ⟨by rw [ones_len]; exact hc.le, fun k x hx => by rw [ones_len]; exact (mem_nb.mp hx).2.1, fun k => ?_⟩
  unfold nb onesL
  by_cases hk : k < cs.length
  · have e : ((List.range cs.length).map (rowL cs h ks))[k]? = some (rowL cs h ks k) := by
      rw [List.getElem?_map, List.getElem?_range hk]
      rfl
    rw [e]
    exact List.nodup_range.sublist List.filter_sublist
  · have e : ((List.range cs.length).map (rowL cs h ks))[k]? = none := List.getElem?_eq_none (by simp; omega)
    rw [e]
    simp
theorem ones_sym {cs : List Card} (hc : CsOk cs) (h : List Str) (ks : List (List Str)) : SymG (onesL cs h ks) := fun x y hy => by
  obtain ⟨h1, h2, h3⟩ := mem_nb.mp hy
  refine mem_nb.mpr ⟨h2, h1, ?_⟩
  unfold oneAt at h3 ⊢
  rw [rel_symm (hc.at h2) (hc.at h1)]
  simp only [Bool.and_eq_true, decide_eq_true_eq] at h3 ⊢
  exact ⟨fun z => h3.1 z.symm, h3.2⟩
theorem flat_len : ∀ gs : List (List Nat), (∀ g ∈ gs, g ≠ []) → gs.length ≤ gs.flatten.length
  | [], _ => by simp
  | g :: r, h => by
    have ih := flat_len r fun x hx => h x (List.mem_cons_of_mem _ hx)
    have := List.length_pos_iff.mpr (h g List.mem_cons_self)
    rw [List.flatten_cons, List.length_append, List.length_cons]
    omega
theorem groups_gp {cs : List Card} (hc : CsOk cs) (h : List Str) (ks : List (List Str)) : GpOk cs.length (groupsL (onesL cs h ks)) := by
  obtain ⟨h1, h2⟩ := groups_ok (ones_gr hc h ks) (ones_sym hc h ks)
  have hn := hc.le
  rw [ones_len] at h2
  have hlt : ∀ x ∈ (groupsL (onesL cs h ks)).flatten, x < cs.length := fun x hx => by have := h1.lt x hx; rw [ones_len] at this; exact this
  exact ⟨h1.nd, h2, hlt, by
    have := flat_len _ h1.ne
    have := range_le h1.nd hlt
    omega⟩
/-! ### the verdict -/
def hardL (a b : Card) (h : List Str) : List Str := h.filter fun k => decide (k ∈ diL a b)
def VerdD (cs : List Card) (h : List Str) (ks : List (List Str)) (d : D) : Prop := match confL cs h (groupsL (onesL cs h ks)) with
  | none => d = .tuple [.str (Str.ofString "groups"), grsD (groupsL (onesL cs h ks))]
  | some p => ∃ ch k, LexSP (onesL cs h ks) p.1 p.2 ch ∧ (hardL (cdAt cs p.1) (cdAt cs p.2) h)[0]? = some k ∧ d = .tuple [.str (Str.ofString "conflict"), natsD ch, .str k]
theorem VerdD.uniq {cs : List Card} {h : List Str} {ks : List (List Str)} {d e : D} (x : VerdD cs h ks d) (y : VerdD cs h ks e) : d = e := by
  unfold VerdD at x y
  split at x
  · rename_i z
    rw [z] at y
    exact x.trans y.symm
  · rename_i p z
    rw [z] at y
    obtain ⟨c, k, h1, h2, rfl⟩ := x
    obtain ⟨c', k', h1', h2', rfl⟩ := y
    rw [h2] at h2'
    rw [h1.uniq h1', Option.some.inj h2']
theorem pairsF_mem {n : Nat} {l : List Nat} {p : Nat × Nat} (h : p ∈ pairsF n l) : p.1 ∈ l ∧ p.1 < p.2 ∧ p.2 < n := by
  unfold pairsF at h
  obtain ⟨i, hi, hp⟩ := List.mem_flatMap.mp h
  obtain ⟨j, hj, rfl⟩ := List.mem_map.mp hp
  obtain ⟨k, hk, e⟩ := List.mem_iff_getElem.mp hj
  simp only [List.getElem_drop, List.getElem_range] at e
  simp only [List.length_drop, List.length_range] at hk
  exact ⟨hi, by show i < j; omega, by show j < n; omega⟩
theorem conf_some {cs : List Card} (hc : CsOk cs) {h : List Str} {ks : List (List Str)} {p : Nat × Nat} (e : confL cs h (groupsL (onesL cs h ks)) = some p) :
    p.1 < cs.length ∧ p.2 < cs.length ∧ p.1 < p.2 ∧ Reach (onesL cs h ks) p.1 p.2 ∧ apB (cdAt cs p.1) (cdAt cs p.2) h = true := by
  unfold confL at e
  obtain ⟨h1, h2, h3⟩ := pairsF_mem (List.mem_of_find?_eq_some e)
  have h4 := List.find?_some e
  unfold confB at h4
  simp only [Bool.and_eq_true] at h4
  have h1 := List.mem_range.mp h1
  exact ⟨h1, h3, h2, (sameG_iff (ones_gr hc h ks) (ones_sym hc h ks) (by rw [ones_len]; exact h1)).mp h4.1, h4.2⟩
theorem hard_some {a b : Card} {h : List Str} (e : apB a b h = true) : ∃ k, (hardL a b h)[0]? = some k := by
  unfold apB at e
  obtain ⟨k, hk, hk2⟩ := List.any_eq_true.mp e
  have : k ∈ hardL a b h := List.mem_filter.mpr ⟨by simpa using hk2, by simpa using hk⟩
  exact ⟨(hardL a b h)[0]'(List.length_pos_of_mem this), List.getElem?_eq_getElem _⟩
-- find_groups(cards, hard, keys) slots: 0=cards 1=hard 2=keys 3=ones 4=groups 5=pair 6=kinds* 7=kind
def q_find_groups : QS :=
  (qSeq (qAsg (qCall 3 P_ones_of (qCons (qVar 0) (qCons (qVar 1) (qCons (qVar 2) qNil)))) (qgN 3))
  (qFrz 3 (qSeq (qAsg (qCall 1 P_groups_of (qCons (qVar 3) qNil)) (qgN 4))
  (qFrz 4 (qSeq (qAsg (qCall 3 P_conflict_in (qCons (qVar 0) (qCons (qVar 1) (qCons (qVar 4) qNil)))) (qgN 5))
  (qSeq (qIfS (qB (qOp opIs (qVar 5) (qC .none)))
   (qRet (qTup (qCons (qC (.str "groups")) (qCons (qVar 4) qNil))))
   qNext)
  (qSeq (qAsg (qCall 2 P_differing (qCons (qOp opIx (qVar 0) (qOp opIx (qVar 5) (qC (.int 0)))) (qCons (qOp opIx (qVar 0) (qOp opIx (qVar 5) (qC (.int 1)))) qNil))) (qgN 6))
  (qFrz 6 (qRet (qTup (qCons (qC (.str "conflict")) (qCons (qCall 3 P_chain_between (qCons (qVar 3) (qCons (qOp opIx (qVar 5) (qC (.int 0))) (qCons (qOp opIx (qVar 5) (qC (.int 1))) qNil)))) (qCons (qOp opIx (qLc [7] (qiL (qVar 1)) (qgN 7) (qB (qOp (opInW id) (qVar 7) (qVar 6))) (qVar 7)) (qC (.int 0))) qNil)))))))))))))
def P_find_groups : PD := fun ds R => ∃ (cs : List Card) (h : List Str) (ks : List (List Str)), ds = [cardsD cs, txtsD h, kysD ks] ∧ CsOk cs ∧ KsOk ks ∧ h.length ≤ 100 ∧ ∀ d, VerdD cs h ks d → R (.sh d)
theorem pure_find_groups : ∀ ds R, ds.length = 3 → P_find_groups ds R → q_find_groups (endsOf R) (startEv 8 ds) := by
  rintro ds R - ⟨cs, hd, ks, rfl, hc, hk, hhl, h⟩
  have og := ones_gr hc hd ks
  have os := ones_sym hc hd ks
  have gg := groups_gp hc hd ks
  unfold VerdD at h
  ac_rfl
  refine ⟨cs, hd, ks, rfl, hc, hk, ?_⟩
  ac_rfl
  refine ⟨_, rfl, og, ?_⟩
  ac_rfl
  refine ⟨cs, hd, _, rfl, hc, gg, ?_⟩
  cases e : confL cs hd (groupsL (onesL cs hd ks)) with
  | none =>
    rw [e] at h
    have fin := h _ rfl
    ac_rfl
    exact fin
  | some p =>
    obtain ⟨p1, p2, p3, p4, p5⟩ := conf_some hc e
    obtain ⟨k, hk0⟩ := hard_some p5
    rw [e] at h
    have fin := fun ch hch => h _ ⟨ch, k, hch, hk0, rfl⟩
    have hdl := diL_len (b := cdAt cs p.2) (hc.at p1)
    clear h
    ac_rfl
    rw [cd_ix p1]
    ac_rfl
    rw [cd_ix p2]
    ac_rfl
    refine ⟨_, _, rfl, hc.at p1, hc.at p2, ?_⟩
    ac_rfl
    refine ⟨_, p.1, p.2, rfl, og, os, by rw [ones_len]; exact p2, p4.symm os, fun ch hch => ?_⟩
    have fin := fin ch hch
    ac_rfl
    refine lc0_fil (vs := [7]) PyData.str (fun k => decide (k ∈ diL (cdAt cs p.1) (cdAt cs p.2))) PyData.str hd (fun k hk acc K ha hK1 hK2 => ?_) (small (by omega)) ?_
    · ac_rfl
      refine ⟨by rw [flat_strs]; rfl, ?_⟩
      rw [in_strs]
      ac_rfl
      refine ⟨fun hz => ?_, fun hz => ?_⟩
      · ac_rfl
        exact hK1 hz
      · exact hK2 hz
    · ac_rfl
      rw [show ixD ((hd.filter fun k => decide (k ∈ diL (cdAt cs p.1) (cdAt cs p.2))).map PyData.str) 0 = some (.str k) from ixD_map PyData.str hk0]
      ac_rfl
      exact fin
end PL

namespace PL
open PySem PySem.Spec PyProof.Rows L2
local macro_rules | `(tactic| ac_rfl) => `(tactic| ((conv => whnf); repeat ((first | refine Cif.yes ?_ | refine Cif.no ?_ | (refine And.intro ?_ ?_; · first | (show _ ≤ (_ : Int); omega) | (show _ < (_ : Int); omega) | assumption | exact trivial | exact rfl | (refine small ?_; first | omega | (simp only [List.length_map, List.length_cons, List.length_nil, List.length_append]; omega)) | (refine ltsmall ?_; first | omega | (simp only [List.length_map, List.length_cons, List.length_nil, List.length_append]; omega)) | (refine cdiv ?_ ?_ <;> omega) | (refine cmulR ?_ ?_ <;> omega) | (refine cmulL ?_ ?_ <;> omega) | (refine ⟨?_, ?_, ?_, ?_⟩ <;> omega))); (conv => whnf))))
local macro_rules | `(tactic| exists $e) => `(tactic| first | exact $e | exact And.right $e | exact And.right (And.right $e) | exact And.right (And.right (And.right $e)))
/-! ### chains -/
def nbI (on : Gr) (a : Int) : List Int := (nb on a.toNat).map fun n : Nat => (n : Int)
theorem on_ixI {on : Gr} {a : Int} (h0 : 0 ≤ a) (h1 : a < on.length) : ixD (on.map natsD) a = some (natsD (nb on a.toNat)) := by
  have e : a = ((a.toNat : Nat) : Int) := by omega
  rw [e]
  exact on_ix (by omega)
def inR (n : Nat) (a : Int) : Bool := decide (0 ≤ a) && decide (a < (n : Int))
def adjB (on : Gr) (c : List Int) (k : Nat) : Bool := match c[k]?, c[k + 1]? with
  | some a, some b => decide (b ∈ nbI on a)
  | _, _ => false
def chainB (on : Gr) (c : List Int) : Bool := decide (2 ≤ c.length) && ((c.all (inR on.length)) && (List.range (c.length - 1)).all (adjB on c))
-- is_chain(ones, chain) slots: 0=ones* 1=chain* 2=card 3=k
def q_is_chain : QS :=
  (qSeq (qIfS (qOr (qB (qOp opLt (qUn opLen (qVar 1)) (qC (.int 2)))) (qNot (qB (qUn opAll (qLc [2] (qiL (qVar 1)) (qgN 2) qYes (qChain opLe opLt (qC (.int 0)) (qVar 2) (qUn opLen (qVar 0))))))))
   (qRet (qC (.bool false)))
   qNext)
  (qRet (qUn opAll (qLc [3] (qiR1 (qCons (qOp opSub (qUn opLen (qVar 1)) (qC (.int 1))) qNil)) (qgN 3) qYes (qOp (opInW id) (qOp opIx (qVar 1) (qOp opAdd (qVar 3) (qC (.int 1)))) (qOp opIx (qVar 0) (qOp opIx (qVar 1) (qVar 3))))))))
def P_is_chain : PD := fun ds R => ∃ (on : Gr) (c : List Int), ds = [onD on, intsD c] ∧ GrOk on ∧ c.length ≤ 1000 ∧ R (.sh (.bool (chainB on c)))
theorem pure_is_chain : ∀ ds R, ds.length = 2 → P_is_chain ds R → q_is_chain (endsOf R) (startEv 4 ds) := by
  rintro ds R - ⟨on, c, rfl, ok, hc, h⟩
  have hol : (on.map natsD).length = on.length := List.length_map _
  have hcl : (c.map PyData.int).length = c.length := List.length_map _
  unfold chainB at h
  ac_rfl
  rw [hcl]
  refine ⟨fun hz => ?_, fun hz => ?_⟩
  · have hz : ¬ 2 ≤ c.length := by
      have := of_decide_eq_true hz
      omega
    rw [decide_eq_false hz, Bool.false_and] at h
    ac_rfl
    exact h
  · have hz : 2 ≤ c.length := by
      have := of_decide_eq_false hz
      omega
    rw [decide_eq_true hz, Bool.true_and] at h
    ac_rfl
    refine lc0_map (vs := [2]) PyData.int (fun a => .bool (inR on.length a)) c (fun a ha acc K hl hK => ?_) (small (by omega)) ?_
    · unfold inR at hK
      ac_rfl
      refine ⟨fun hz => ?_, fun hz => ?_⟩
      · have hz : 0 ≤ a := of_decide_eq_true hz
        rw [decide_eq_true hz, Bool.true_and] at hK
        ac_rfl
        rw [hol]
        exact hK
      · have hz : ¬ 0 ≤ a := of_decide_eq_false hz
        rw [decide_eq_false hz, Bool.false_and] at hK
        ac_rfl
        exact hK
    · ac_rfl
      rw [boolsOf_map']
      ac_rfl
      rw [List.all_map]
      by_cases hr : c.all (inR on.length) = true
      · rw [hr, Bool.true_and] at h
        rw [show c.all (id ∘ inR on.length) = true from hr]
        have hin : ∀ (k : Nat) (a : Int), c[k]? = some a → 0 ≤ a ∧ a < on.length := fun k a e => by
          have := List.all_eq_true.mp hr a (List.mem_of_getElem? e)
          simpa [inR] using this
        ac_rfl
        rw [hcl, rgm_map c.length (by omega)]
        refine lc0_map (vs := [3]) (fun i : Nat => .int (i : Int)) (fun k => .bool (adjB on c k)) (List.range (c.length - 1)) (fun k hk acc K hl hK => ?_) (small (by simp; omega)) ?_
        · have hk : k < c.length - 1 := by simpa using hk
          have e1 : c[k]? = some c[k] := List.getElem?_eq_getElem (by omega)
          have e2 : c[k + 1]? = some c[k + 1] := List.getElem?_eq_getElem (by omega)
          obtain ⟨i1, i2⟩ := hin k _ e1
          unfold adjB at hK
          rw [e1, e2] at hK
          ac_rfl
          rw [show ((k : Int) + 1) = ((k + 1 : Nat) : Int) by omega, ixD_map _ e2]
          ac_rfl
          rw [ixD_map _ e1]
          ac_rfl
          rw [on_ixI i1 i2]
          ac_rfl
          refine ⟨by rw [flat_nats]; rfl, ?_⟩
          rw [in_intN]
          ac_rfl
          exact hK
        · ac_rfl
          rw [boolsOf_map']
          ac_rfl
          rw [List.all_map]
          exact h
      · have hr : c.all (inR on.length) = false := by simpa using hr
        rw [hr, Bool.false_and] at h
        rw [show c.all (id ∘ inR on.length) = false from hr]
        ac_rfl
        exact h
theorem chain_iff {on : Gr} {c : List Int} : chainB on c = true ↔ 2 ≤ c.length ∧ ∀ (k : Nat) (a : Int), c[k]? = some a → (0 ≤ a ∧ a < on.length) ∧ ∀ b, 0 < k → c[k - 1]? = some b → a ∈ nbI on b := by
  unfold chainB
  simp only [Bool.and_eq_true, decide_eq_true_eq, List.all_eq_true]
  constructor
  · rintro ⟨h1, h2, h3⟩
    refine ⟨h1, fun k a e => ⟨by simpa [inR] using h2 a (List.mem_of_getElem? e), fun b hk hb => ?_⟩⟩
    have hkl := (List.getElem?_eq_some_iff.mp e).1
    have := h3 (k - 1) (by simp; omega)
    unfold adjB at this
    rw [hb, show k - 1 + 1 = k by omega, e] at this
    simpa using this
  · rintro ⟨h1, h2⟩
    refine ⟨h1, fun a ha => ?_, fun k hk => ?_⟩
    · obtain ⟨k, hk⟩ := List.getElem?_of_mem ha
      simpa [inR] using (h2 k a hk).1
    · have hk : k < c.length - 1 := by simpa using hk
      have e1 : c[k]? = some c[k] := List.getElem?_eq_getElem (by omega)
      have e2 : c[k + 1]? = some c[k + 1] := List.getElem?_eq_getElem (by omega)
      unfold adjB
      rw [e1, e2]
      simpa using (h2 (k + 1) _ e2).2 c[k] (by omega) e1
-- _law_is_chain(ones, chain) slots: 0=ones 1=chain 2=k
def q__law_is_chain : QS :=
  (qSeq (qIfS (qB (qOp opLt (qUn opLen (qVar 1)) (qC (.int 2))))
   (qRet (qC (.bool false)))
   qNext)
  (qSeq (qFor (qiR1 (qCons (qUn opLen (qVar 1)) qNil)) (qgN 2)
   (qIfS (qOr (qB (qOp opLt (qOp opIx (qVar 1) (qVar 2)) (qC (.int 0)))) (qOr (qB (qOp opGe (qOp opIx (qVar 1) (qVar 2)) (qUn opLen (qVar 0)))) (qAnd (qB (qOp opGt (qVar 2) (qC (.int 0)))) (qB (qOp (opInW not) (qOp opIx (qVar 1) (qVar 2)) (qOp opIx (qVar 0) (qOp opIx (qVar 1) (qOp opSub (qVar 2) (qC (.int 1))))))))))
    (qRet (qC (.bool false)))
    qNext))
  (qRet (qC (.bool true)))))
def P__law_is_chain : PD := P_is_chain
theorem pure__law_is_chain : ∀ ds R, ds.length = 2 → P__law_is_chain ds R → q__law_is_chain (endsOf R) (startEv 3 ds) := by
  rintro ds R - ⟨on, c, rfl, ok, hc, h⟩
  have hol : (on.map natsD).length = on.length := List.length_map _
  have hcl : (c.map PyData.int).length = c.length := List.length_map _
  have hif := chain_iff (on := on) (c := c)
  ac_rfl
  rw [hcl]
  refine ⟨fun hz => ?_, fun hz => ?_⟩
  · have hz : ¬ 2 ≤ c.length := by
      have := of_decide_eq_true hz
      omega
    have e : chainB on c = false := by
      rw [Bool.eq_false_iff]
      intro z
      exact hz (hif.mp z).1
    rw [e] at h
    ac_rfl
    exact h
  · have hz : 2 ≤ c.length := by
      have := of_decide_eq_false hz
      omega
    ac_rfl
    rw [hcl]
    refine forGo_ok (fun i : Nat => .int (i : Int)) (fun r Γ => ∃ (k : Nat) (x2 : Sl), Γ = [.sh (onD on), .sh (intsD c), x2] ∧ r = (List.range c.length).drop k ∧ ∀ (j : Nat) (a : Int), j < k → c[j]? = some a → (0 ≤ a ∧ a < on.length) ∧ ∀ b, 0 < j → c[j - 1]? = some b → a ∈ nbI on b) ?_ ?_ (List.range c.length) _ ⟨0, _, rfl, rfl, fun j a hj => by omega⟩
    · rintro Γ ⟨k, x2, rfl, hr, ho⟩
      have hk : c.length ≤ k := by
        have := congrArg List.length hr
        simp at this
        omega
      have e : chainB on c = true := hif.mpr ⟨hz, fun j a e => ho j a (by have := (List.getElem?_eq_some_iff.mp e).1; omega) e⟩
      rw [e] at h
      ac_rfl
      exact h
    · rintro k r Γ K ⟨k', x2, rfl, hr, ho⟩ hK
      obtain ⟨hk1, rfl, rfl⟩ := drop_cons hr.symm
      have e1 : c[k]? = some c[k] := List.getElem?_eq_getElem (by omega)
      have bad : ¬ ((0 ≤ c[k] ∧ c[k] < on.length) ∧ ∀ b, 0 < k → c[k - 1]? = some b → c[k] ∈ nbI on b) → R (.sh (.bool false)) := fun z => by
        have e : chainB on c = false := by
          rw [Bool.eq_false_iff]
          intro y
          exact z ((hif.mp y).2 k _ e1)
        rw [e] at h
        exact h
      have good : ((0 ≤ c[k] ∧ c[k] < on.length) ∧ ∀ b, 0 < k → c[k - 1]? = some b → c[k] ∈ nbI on b) → K [.sh (onD on), .sh (intsD c), .sh (.int (k : Nat))] := fun z => hK _ ⟨k + 1, _, rfl, rfl, fun j a hj e => by
        by_cases hjk : j = k
        · subst hjk
          rw [e1] at e
          cases e
          exact z
        · exact ho j a (by omega) e⟩
      clear hK h hif
      ac_rfl
      rw [ixD_map _ e1]
      ac_rfl
      refine ⟨fun hz => ?_, fun hz => ?_⟩
      · have hz := of_decide_eq_true hz
        ac_rfl
        exact bad fun z => by omega
      · have hz := of_decide_eq_false hz
        ac_rfl
        rw [ixD_map _ e1]
        ac_rfl
        rw [hol]
        refine ⟨fun hy => ?_, fun hy => ?_⟩
        · have hy := of_decide_eq_true hy
          ac_rfl
          exact bad fun z => by omega
        · have hy := of_decide_eq_false hy
          ac_rfl
          refine ⟨fun hw => ?_, fun hw => ?_⟩
          · have hw : 0 < k := by
              have := of_decide_eq_true hw
              omega
            have e2 : c[k - 1]? = some c[k - 1] := List.getElem?_eq_getElem (by omega)
            obtain ⟨⟨b1, b2⟩, _⟩ := ho (k - 1) _ (by omega) e2
            ac_rfl
            rw [ixD_map _ e1]
            ac_rfl
            rw [show ((k : Int) - 1) = ((k - 1 : Nat) : Int) by omega, ixD_map _ e2]
            ac_rfl
            rw [on_ixI b1 b2]
            ac_rfl
            refine ⟨by rw [flat_nats]; rfl, ?_⟩
            rw [in_intN]
            by_cases hm : c[k] ∈ (nb on c[k - 1].toNat).map fun n : Nat => (n : Int)
            · rw [decide_eq_true hm]
              ac_rfl
              exact good ⟨⟨by omega, by omega⟩, fun b _ e => by rw [e2] at e; cases e; exact hm⟩
            · rw [decide_eq_false hm]
              ac_rfl
              exact bad fun z => hm (z.2 _ hw e2)
          · have hw : k = 0 := by
              have := of_decide_eq_false hw
              omega
            ac_rfl
            exact good ⟨⟨by omega, by omega⟩, fun b hb => by omega⟩
end PL

namespace PL
open PySem PySem.Spec PyProof.Rows L2
local macro_rules | `(tactic| ac_rfl) => `(tactic| ((conv => whnf); repeat ((first | refine Cif.yes ?_ | refine Cif.no ?_ | (refine And.intro ?_ ?_; · first | (show _ ≤ (_ : Int); omega) | (show _ < (_ : Int); omega) | assumption | exact trivial | exact rfl | (refine small ?_; first | omega | (simp only [List.length_map, List.length_cons, List.length_nil, List.length_append]; omega)) | (refine ltsmall ?_; first | omega | (simp only [List.length_map, List.length_cons, List.length_nil, List.length_append]; omega)) | (refine cdiv ?_ ?_ <;> omega) | (refine cmulR ?_ ?_ <;> omega) | (refine cmulL ?_ ?_ <;> omega) | (refine ⟨?_, ?_, ?_, ?_⟩ <;> omega))); (conv => whnf))))
local macro_rules | `(tactic| exists $e) => `(tactic| first | exact $e | exact And.right $e | exact And.right (And.right $e) | exact And.right (And.right (And.right $e)))
/-! ### papers with groups -/
def tiedB (on : Gr) (g : List Nat) : Bool := ((List.range g.length).drop 1).all fun k => (g.take k).any fun c => decide (c ∈ nb on (g[k]?.getD 0))
-- is_tied(ones, group) slots: 0=ones* 1=group* 2=k 3=card
def q_is_tied : QS :=
  (qRet (qUn opAll (qLc [2] (qiR2 (qCons (qC (.int 1)) (qCons (qUn opLen (qVar 1)) qNil))) (qgN 2) qYes (qUn opAny (qLc [3] (qiL (qSl (qVar 1) qoN (qoS (qVar 2)))) (qgN 3) qYes (qOp (opInW id) (qVar 3) (qOp opIx (qVar 0) (qOp opIx (qVar 1) (qVar 2)))))))))
def P_is_tied : PD := fun ds R => ∃ (on : Gr) (g : List Nat), ds = [onD on, natsD g] ∧ GrOk on ∧ (∀ x ∈ g, x < on.length) ∧ g.length ≤ 100 ∧ R (.sh (.bool (tiedB on g)))
theorem pure_is_tied : ∀ ds R, ds.length = 2 → P_is_tied ds R → q_is_tied (endsOf R) (startEv 4 ds) := by
  rintro ds R - ⟨on, g, rfl, ok, hlt, hl, h⟩
  have hgl : (g.map natD).length = g.length := List.length_map _
  unfold tiedB at h
  ac_rfl
  rw [hgl, rg1_map]
  refine lc0_map (vs := [2]) (fun i : Nat => .int (i : Int)) (fun k => .bool ((g.take k).any fun c => decide (c ∈ nb on (g[k]?.getD 0)))) ((List.range g.length).drop 1) (fun k hk acc K ha hK => ?_) (small (by simp; omega)) ?_
  · have hk : k < g.length := by simpa using List.mem_of_mem_drop hk
    have e : g[k]? = some g[k] := List.getElem?_eq_getElem hk
    have hx := hlt _ (List.getElem_mem hk)
    rw [e] at hK
    have htk : (g.take k).length ≤ 100 := by rw [List.length_take]; omega
    ac_rfl
    rw [cutD_map, cutG_to0]
    refine lc0_map (vs := [3]) natD (fun c => .bool (decide (c ∈ nb on g[k]))) (g.take k) (fun c hc acc K ha hK => ?_) (small (by omega)) ?_
    · ac_rfl
      rw [ixD_map _ e]
      ac_rfl
      rw [on_ix hx]
      ac_rfl
      refine ⟨by rw [flat_nats]; rfl, ?_⟩
      rw [in_natsD]
      ac_rfl
      exact hK
    · ac_rfl
      rw [boolsOf_map']
      ac_rfl
      rw [List.any_map]
      exact hK
  · ac_rfl
    rw [boolsOf_map']
    ac_rfl
    rw [List.all_map]
    exact h
def closB (on : Gr) (g : List Nat) : Bool := g.all fun c => (nb on c).all fun d => decide (d ∈ g)
def naB (cs : List Card) (h : List Str) (g : List Nat) : Bool := g.all fun c => g.all fun d => !apB (cdAt cs c) (cdAt cs d) h
def toN (gs : List (List Int)) : List (List Nat) := gs.map fun g => g.map Int.toNat
def partsB (cs : List Card) (h : List Str) (ks : List (List Str)) (gs : List (List Int)) : Bool :=
  decide (gs.flatten.Perm (rangeI cs.length)) && (!decide ([] ∈ gs) && ((toN gs).all (tiedB (onesL cs h ks)) && (toN gs).all fun g => closB (onesL cs h ks) g && naB cs h g))
theorem toN_spec {gs : List (List Int)} {n : Nat} (h : gs.flatten.Perm (rangeI n)) : (∀ g ∈ toN gs, ∀ x ∈ g, x < n) ∧ gs.map intsD = (toN gs).map natsD ∧ (toN gs).flatten.Perm (List.range n) := by
  have hin : ∀ g ∈ gs, ∀ x ∈ g, ∃ k : Nat, x = (k : Int) ∧ k < n := fun g hg x hx => by
    have := h.mem_iff.mp (List.mem_flatten.mpr ⟨g, hg, hx⟩)
    obtain ⟨k, hk, e⟩ := List.mem_map.mp this
    exact ⟨k, e.symm, List.mem_range.mp hk⟩
  refine ⟨fun g hg x hx => ?_, ?_, ?_⟩
  · obtain ⟨g', hg', rfl⟩ := List.mem_map.mp hg
    obtain ⟨y, hy, rfl⟩ := List.mem_map.mp hx
    obtain ⟨k, rfl, hk⟩ := hin g' hg' y hy
    simpa using hk
  · unfold toN
    rw [List.map_map]
    apply List.map_congr_left
    intro g hg
    show PyData.list (g.map .int) = .list ((g.map Int.toNat).map natD)
    rw [List.map_map]
    congr 1
    apply List.map_congr_left
    intro x hx
    obtain ⟨k, rfl, _⟩ := hin g hg x hx
    rfl
  · have := h.map Int.toNat
    rw [List.map_flatten] at this
    unfold rangeI at this
    rw [List.map_map] at this
    have e : (List.range n).map (Int.toNat ∘ fun k : Nat => (k : Int)) = List.range n := by
      conv => rhs; rw [← List.map_id (List.range n)]
      rfl
    rw [e] at this
    exact this
theorem flat_ps {k w : Nat} {d : D} (h : Pd k w d) (hk : k ≤ 60) : flat 60 d = true := h.flat hk
theorem flat_gs (gs : List (List Int)) : flat 60 (.list (gs.map intsD)) = true := by
  have h1 : ∀ gs : List (List Int), PyData.hasDictAll (gs.map intsD) = false := fun gs => by
    induction gs with
    | nil => rfl
    | cons g r ih => simp [PyData.hasDictAll, intsD, PyData.hasDict, hasDict_ints, ih]
  have h2 : ∀ gs : List (List Int), PyData.depthAll (gs.map intsD) ≤ 1 := fun gs => by
    induction gs with
    | nil => simp [PyData.depthAll]
    | cons g r ih =>
      simp only [List.map_cons, PyData.depthAll, intsD, PyData.depth, depth_ints]
      omega
  have e2 := h2 gs
  have e1 : (PyData.list (gs.map intsD)).hasDict = false := by simp [PyData.hasDict, h1]
  have e3 : (PyData.list (gs.map intsD)).depth ≤ 60 := by simp only [PyData.depth]; omega
  simp [flat, e1, e3]
theorem in_gs (g : List Int) (gs : List (List Int)) : inD (intsD g) (gs.map intsD) = decide (g ∈ gs) := by
  unfold inD
  induction gs with
  | nil => simp
  | cons a r ih =>
    rw [List.map_cons, List.any_cons, ih, show PyData.eqv (intsD a) (intsD g) = decide (a = g) from eqv_intsL a g]
    by_cases z : a = g
    · subst z
      simp
    · have z' : ¬ g = a := fun y => z y.symm
      simp [z, z']
theorem flat_map_int (gs : List (List Int)) : (gs.map fun g => g.map PyData.int).flatten = gs.flatten.map .int := by rw [List.map_flatten]
theorem intsOf_ints (c : List Int) : intsOf (c.map .int) = some c := by
  have := intsOf_map' (fun n : Int => n) c
  rw [List.map_id'] at this
  exact this
theorem bools_flat {α β : Type} (xs : α → List β) (p : α → β → Bool) : ∀ g : List α, boolsOf (g.map fun c => (xs c).map fun d => PyData.bool (p c d)).flatten = some (g.flatMap fun c => (xs c).map (p c)) := fun g => by
  have e : (g.map fun c => (xs c).map fun d => PyData.bool (p c d)).flatten = (g.flatMap fun c => (xs c).map (p c)).map .bool := by
    induction g with
    | nil => rfl
    | cons a r ih =>
      rw [List.map_cons, List.flatten_cons, ih, List.flatMap_cons, List.map_append, List.map_map]
      rfl
  rw [e]
  have := boolsOf_map' (fun b : Bool => b) (g.flatMap fun c => (xs c).map (p c))
  rw [List.map_id'] at this
  exact this
theorem any_fm {α β : Type} (xs : α → List β) (p : α → β → Bool) (g : List α) : (g.flatMap fun c => (xs c).map (p c)).any id = g.any fun c => (xs c).any (p c) := by
  induction g with
  | nil => rfl
  | cons a r ih =>
    rw [List.flatMap_cons, List.any_append, ih, List.any_cons, List.any_map]
    rfl
theorem clos_any (on : Gr) (g : List Nat) : (g.any fun c => (nb on c).any fun d => !decide (d ∈ g)) = !closB on g := by
  unfold closB
  rw [List.all_eq_not_any_not, Bool.not_not]
  congr 1
  funext c
  rw [List.all_eq_not_any_not, Bool.not_not]
theorem na_any (cs : List Card) (h : List Str) (g : List Nat) : (g.any fun c => g.any fun d => apB (cdAt cs c) (cdAt cs d) h) = !naB cs h g := by
  unfold naB
  rw [List.all_eq_not_any_not, Bool.not_not]
  congr 1
  funext c
  rw [List.all_eq_not_any_not, Bool.not_not]
  congr 1
  funext d
  rw [Bool.not_not]
-- judge_parts(cards, hard, keys, groups) slots: 0=cards* 1=hard* 2=keys 3=groups 4=ones* 5=group* 6=card 7=other
def q_judge_parts : QS :=
  (qSeq (qIfS (qOr (qB (qOp opNe (qUn opSortI (qLc2 [5, 6] [6] (qiL (qVar 3)) (qgN 5) qYes (qiL (qVar 5)) (qgN 6) qYes (qVar 6))) (qRgL1 (qUn opLen (qVar 0))))) (qB (qOp (opInW id) (qLst qNil) (qVar 3))))
   (qRet (qC (.bool false)))
   qNext)
  (qSeq (qAsg (qCall 3 P_ones_of (qCons (qVar 0) (qCons (qVar 1) (qCons (qVar 2) qNil)))) (qgN 4))
  (qFrz 4 (qSeq (qIfS (qNot (qB (qUn opAll (qLc [5] (qiL (qVar 3)) (qgN 5) qYes (qCall 2 P_is_tied (qCons (qVar 4) (qCons (qVar 5) qNil)))))))
   (qRet (qC (.bool false)))
   qNext)
  (qSeq (qFor (qiL (qVar 3)) (qgN 5)
   (qSeq (qIfS (qB (qUn opAny (qLc2 [6, 7] [7] (qiL (qVar 5)) (qgN 6) qYes (qiL (qOp opIx (qVar 4) (qVar 6))) (qgN 7) qYes (qOp (opInW not) (qVar 7) (qVar 5)))))
    (qRet (qC (.bool false)))
    qNext)
   (qIfS (qB (qUn opAny (qLc2 [6, 7] [7] (qiL (qVar 5)) (qgN 6) qYes (qiL (qVar 5)) (qgN 7) qYes (qCall 3 P_are_apart (qCons (qOp opIx (qVar 0) (qVar 6)) (qCons (qOp opIx (qVar 0) (qVar 7)) (qCons (qVar 1) qNil)))))))
    (qRet (qC (.bool false)))
    qNext)))
  (qRet (qC (.bool true))))))))
structure GsB (gs : List (List Int)) : Prop where
  le : gs.length ≤ 100
  gl : ∀ g ∈ gs, g.length ≤ 100
theorem GsB.sum {gs : List (List Int)} (h : GsB gs) : (gs.map fun g => (g.map PyData.int).length).sum ≤ 10000 := by
  have : ∀ l : List (List Int), (∀ g ∈ l, g.length ≤ 100) → (l.map fun g => (g.map PyData.int).length).sum ≤ 100 * l.length := fun l hl => by
    induction l with
    | nil => simp
    | cons g r ih =>
      have h1 := ih fun x hx => hl x (List.mem_cons_of_mem _ hx)
      have h2 := hl g List.mem_cons_self
      simp only [List.map_cons, List.sum_cons, List.length_cons, List.length_map] at h1 ⊢
      omega
  have h1 := this gs h.gl
  have h2 := h.le
  omega
def P_judge_parts : PD := fun ds R => ∃ (cs : List Card) (h : List Str) (ks : List (List Str)) (gs : List (List Int)), ds = [cardsD cs, txtsD h, kysD ks, .list (gs.map intsD)] ∧ CsOk cs ∧ KsOk ks ∧ GsB gs ∧ R (.sh (.bool (partsB cs h ks gs)))
theorem pure_judge_parts : ∀ ds R, ds.length = 4 → P_judge_parts ds R → q_judge_parts (endsOf R) (startEv 8 ds) := by
  rintro ds R - ⟨cs, hd, ks, gs, rfl, hc, hk, hg, h⟩
  have hn := hc.le
  have og := ones_gr hc hd ks
  have hcl : (cs.map cardD).length = cs.length := List.length_map _
  have hgl := hg.le
  have hgl2 := hg.gl
  unfold partsB at h
  ac_rfl
  refine lc20_app (vs := [5, 6]) (vs1 := [6]) intsD (fun g => g.map PyData.int) gs (fun g hg acc K ha hK => ?_) (small (by have := hg.sum; omega)) ?_
  · have hgg := hgl2 g hg
    ac_rfl
    refine lcGo_map (vs := [6]) PyData.int PyData.int g acc (fun x hx acc K ha hK => ?_) (by rw [List.length_map] at ha; exact ha) ?_
    · ac_rfl
      exact hK
    · exact hK
  · rw [flat_map_int]
    ac_rfl
    rw [intsOf_ints]
    intro ms hm1 hm2
    ac_rfl
    rw [hcl]
    ac_rfl
    rw [rgD_int]
    refine ⟨by rw [flat_ints, flat_ints]; rfl, ?_⟩
    rw [eqv_intsL, sorted_eq hm1 hm2 (rangeI_sorted _)]
    by_cases hp : gs.flatten.Perm (rangeI cs.length)
    · rw [decide_eq_true hp] at h ⊢
      rw [Bool.true_and] at h
      ac_rfl
      refine ⟨by rw [show flat 60 (.list (gs.map intsD)) = true from flat_gs gs]; rfl, ?_⟩
      rw [show inD (PyData.list []) (gs.map intsD) = decide ([] ∈ gs) from in_gs [] gs]
      by_cases he : [] ∈ gs
      · rw [decide_eq_true he] at h ⊢
        ac_rfl
        exact h
      · rw [decide_eq_false he] at h ⊢
        rw [Bool.not_false, Bool.true_and] at h
        obtain ⟨t1, t2, _⟩ := toN_spec hp
        have hNl : (toN gs).length ≤ 100 := by unfold toN; rw [List.length_map]; exact hgl
        have hNg : ∀ g ∈ toN gs, g.length ≤ 100 := fun g hg => by
          obtain ⟨g', hg', rfl⟩ := List.mem_map.mp hg
          rw [List.length_map]
          exact hgl2 g' hg'
        have hgd : PyData.list (gs.map intsD) = .list ((toN gs).map natsD) := congrArg PyData.list t2
        generalize toN gs = gn at *
        rw [hgd]
        clear hgd t2
        ac_rfl
        refine ⟨cs, hd, ks, rfl, hc, hk, ?_⟩
        have onl := ones_len cs hd ks
        generalize onesL cs hd ks = on at *
        ac_rfl
        refine lc0_map (vs := [5]) natsD (fun g => .bool (tiedB on g)) gn (fun g hg acc K ha hK => ?_) (small (by omega)) ?_
        · ac_rfl
          refine ⟨on, g, rfl, og, fun x hx => by rw [onl]; exact t1 g hg x hx, hNg g hg, ?_⟩
          ac_rfl
          exact hK
        · ac_rfl
          rw [boolsOf_map']
          ac_rfl
          rw [List.all_map]
          by_cases ht : gn.all (tiedB on) = true
          · rw [ht, Bool.true_and] at h
            rw [show gn.all (id ∘ fun g => tiedB on g) = true from ht]
            ac_rfl
            refine forGo_ok natsD (fun r Γ => ∃ (x5 : Sl), Γ = [.sh (cardsD cs), .sh (txtsD hd), .sh (kysD ks), .sh (.list (gn.map natsD)), .sh (onD on), x5, .un, .un] ∧ (gn.all fun g => closB on g && naB cs hd g) = (r.all fun g => closB on g && naB cs hd g) ∧ (∀ g ∈ r, ∀ x ∈ g, x < cs.length) ∧ ∀ g ∈ r, g.length ≤ 100) ?_ ?_ gn _ ⟨_, rfl, rfl, t1, hNg⟩
            · rintro Γ ⟨x5, rfl, ho, _, _⟩
              rw [ho] at h
              ac_rfl
              exact h
            · rintro g r Γ K ⟨x5, rfl, ho, hlt, hl⟩ hK
              have hltg := hlt g (by simp)
              have hlg := hl g (by simp)
              have hlt2 : ∀ z ∈ r, ∀ x ∈ z, x < cs.length := fun z hz => hlt z (List.mem_cons_of_mem _ hz)
              have hl2 : ∀ z ∈ r, z.length ≤ 100 := fun z hz => hl z (List.mem_cons_of_mem _ hz)
              rw [List.all_cons] at ho
              have hsum : (g.map fun c => ((nb on c).map fun d => PyData.bool (!decide (d ∈ g))).length).sum ≤ 1000000 := by
                have : ∀ l : List Nat, (l.map fun c => ((nb on c).map fun d => PyData.bool (!decide (d ∈ g))).length).sum ≤ 12 * l.length := fun l => by
                  induction l with
                  | nil => simp
                  | cons a r ih =>
                    have := og.row a
                    simp only [List.map_cons, List.sum_cons, List.length_cons, List.length_map] at ih ⊢
                    omega
                have := this g
                omega
              have hsum2 : (g.map fun c => (g.map fun d => PyData.bool (apB (cdAt cs c) (cdAt cs d) hd)).length).sum ≤ 1000000 := by
                have : ∀ l : List Nat, (l.map fun c => (g.map fun d => PyData.bool (apB (cdAt cs c) (cdAt cs d) hd)).length).sum ≤ 100 * l.length := fun l => by
                  induction l with
                  | nil => simp
                  | cons a r ih =>
                    simp only [List.map_cons, List.sum_cons, List.length_cons, List.length_map] at ih ⊢
                    omega
                have := this g
                omega
              ac_rfl
              refine lc20_app (vs := [6, 7]) (vs1 := [7]) natD (fun c => (nb on c).map fun d => PyData.bool (!decide (d ∈ g))) g (fun c hc acc K ha hK => ?_) (small hsum) ?_
              · have hcl := hltg c hc
                ac_rfl
                rw [show ixD (on.map natsD) (c : Int) = _ from on_ix (by rw [onl]; exact hcl)]
                ac_rfl
                refine lcGo_map (vs := [7]) natD (fun d => .bool (!decide (d ∈ g))) (nb on c) acc (fun d hd acc K ha hK => ?_) (by rw [List.length_map] at ha; exact ha) ?_
                · ac_rfl
                  refine ⟨by rw [flat_nats]; rfl, ?_⟩
                  rw [in_natsD]
                  ac_rfl
                  exact hK
                · exact hK
              · ac_rfl
                rw [bools_flat]
                ac_rfl
                rw [any_fm, clos_any]
                cases hcb : closB on g with
                | false =>
                  rw [ho, hcb, Bool.false_and, Bool.false_and] at h
                  ac_rfl
                  exact h
                | true =>
                  rw [hcb, Bool.true_and] at ho
                  ac_rfl
                  refine lc20_app (vs := [6, 7]) (vs1 := [7]) natD (fun c => g.map fun d => PyData.bool (apB (cdAt cs c) (cdAt cs d) hd)) g (fun c hc1 acc K ha hK => ?_) (small hsum2) ?_
                  · have hcl := hltg c hc1
                    ac_rfl
                    refine lcGo_map (vs := [7]) natD (fun d => .bool (apB (cdAt cs c) (cdAt cs d) hd)) g acc (fun d hd1 acc K ha hK => ?_) (by rw [List.length_map] at ha; exact ha) ?_
                    · have hdl := hltg d hd1
                      ac_rfl
                      rw [show ixD (cs.map cardD) (c : Int) = _ from cd_ix hcl]
                      ac_rfl
                      rw [show ixD (cs.map cardD) (d : Int) = _ from cd_ix hdl]
                      ac_rfl
                      refine ⟨_, _, hd, rfl, hc.at hcl, hc.at hdl, ?_⟩
                      ac_rfl
                      exact hK
                    · exact hK
                  · ac_rfl
                    rw [bools_flat (fun _ => g)]
                    ac_rfl
                    rw [any_fm (fun _ => g), na_any]
                    cases hnb : naB cs hd g with
                    | false =>
                      rw [ho, hnb, Bool.false_and] at h
                      ac_rfl
                      exact h
                    | true =>
                      rw [hnb, Bool.true_and] at ho
                      ac_rfl
                      exact hK _ ⟨_, rfl, ho, hlt2, hl2⟩
          · have ht : gn.all (tiedB on) = false := by simpa using ht
            rw [ht, Bool.false_and] at h
            rw [show gn.all (id ∘ fun g => tiedB on g) = false from ht]
            ac_rfl
            exact h
    · rw [decide_eq_false hp, Bool.false_and] at h
      rw [decide_eq_false hp]
      ac_rfl
      exact h
end PL

namespace PL
open PySem PySem.Spec PyProof.Rows L2
local macro_rules | `(tactic| ac_rfl) => `(tactic| ((conv => whnf); repeat ((first | refine Cif.yes ?_ | refine Cif.no ?_ | (refine And.intro ?_ ?_; · first | (show _ ≤ (_ : Int); omega) | (show _ < (_ : Int); omega) | assumption | exact trivial | exact rfl | (refine small ?_; first | omega | (simp only [List.length_map, List.length_cons, List.length_nil, List.length_append]; omega)) | (refine ltsmall ?_; first | omega | (simp only [List.length_map, List.length_cons, List.length_nil, List.length_append]; omega)) | (refine cdiv ?_ ?_ <;> omega) | (refine cmulR ?_ ?_ <;> omega) | (refine cmulL ?_ ?_ <;> omega) | (refine ⟨?_, ?_, ?_, ?_⟩ <;> omega))); (conv => whnf))))
local macro_rules | `(tactic| exists $e) => `(tactic| first | exact $e | exact And.right $e | exact And.right (And.right $e) | exact And.right (And.right (And.right $e)))
def confPB (cs : List Card) (h : List Str) (ks : List (List Str)) (c : List Int) (k : Str) : Bool :=
  decide (k ∈ h) && (chainB (onesL cs h ks) c && decide (k ∈ diL (cdAt cs (c[0]?.getD 0).toNat) (cdAt cs (c[c.length - 1]?.getD 0).toNat)))
theorem chain_ends {on : Gr} {c : List Int} (h : chainB on c = true) : ∃ (a b : Nat), c[0]? = some (a : Int) ∧ c[c.length - 1]? = some (b : Int) ∧ a < on.length ∧ b < on.length ∧ 2 ≤ c.length := by
  obtain ⟨h1, h2⟩ := chain_iff.mp h
  have e1 : c[0]? = some c[0] := List.getElem?_eq_getElem (by omega)
  have e2 : c[c.length - 1]? = some c[c.length - 1] := List.getElem?_eq_getElem (by omega)
  obtain ⟨a1, a2⟩ := (h2 _ _ e1).1
  obtain ⟨b1, b2⟩ := (h2 _ _ e2).1
  exact ⟨c[0].toNat, c[c.length - 1].toNat, by rw [e1]; congr 1; omega, by rw [e2]; congr 1; omega, by omega, by omega, h1⟩
-- judge_conflict(cards, hard, keys, chain, kind) slots: 0=cards 1=hard 2=keys 3=chain 4=kind
def q_judge_conflict : QS :=
  (qSeq (qIfS (qOr (qB (qOp (opInW not) (qVar 4) (qVar 1))) (qNot (qB (qCall 2 P_is_chain (qCons (qCall 3 P_ones_of (qCons (qVar 0) (qCons (qVar 1) (qCons (qVar 2) qNil)))) (qCons (qVar 3) qNil))))))
   (qRet (qC (.bool false)))
   qNext)
  (qRet (qOp (opInW id) (qVar 4) (qCall 2 P_differing (qCons (qOp opIx (qVar 0) (qOp opIx (qVar 3) (qC (.int 0)))) (qCons (qOp opIx (qVar 0) (qOp opIx (qVar 3) (qUn opNeg (qC (.int 1))))) qNil))))))
def P_judge_conflict : PD := fun ds R => ∃ (cs : List Card) (h : List Str) (ks : List (List Str)) (c : List Int) (k : Str), ds = [cardsD cs, txtsD h, kysD ks, intsD c, .str k] ∧ CsOk cs ∧ KsOk ks ∧ c.length ≤ 1000 ∧ R (.sh (.bool (confPB cs h ks c k)))
theorem pure_judge_conflict : ∀ ds R, ds.length = 5 → P_judge_conflict ds R → q_judge_conflict (endsOf R) (startEv 5 ds) := by
  rintro ds R - ⟨cs, hd, ks, c, k, rfl, hc, hk, hl, h⟩
  have og := ones_gr hc hd ks
  have onl := ones_len cs hd ks
  unfold confPB at h
  ac_rfl
  refine ⟨by rw [flat_strs]; rfl, ?_⟩
  rw [in_strs]
  by_cases hkh : k ∈ hd
  · rw [decide_eq_true hkh] at h ⊢
    rw [Bool.true_and] at h
    ac_rfl
    refine ⟨cs, hd, ks, rfl, hc, hk, ?_⟩
    ac_rfl
    refine ⟨_, c, rfl, og, hl, ?_⟩
    cases hcb : chainB (onesL cs hd ks) c with
    | false =>
      rw [hcb, Bool.false_and] at h
      ac_rfl
      exact h
    | true =>
      obtain ⟨a, b, e1, e2, h1, h2, h3⟩ := chain_ends hcb
      rw [onl] at h1 h2
      rw [hcb, Bool.true_and, e1, e2] at h
      have elast : ixD (c.map PyData.int) (-1) = some (.int (b : Int)) := ixD_last (k := c.length - 1) (by rw [List.length_map]; omega) (by rw [List.getElem?_map, e2]; rfl)
      ac_rfl
      rw [show ixD (c.map PyData.int) 0 = some (.int (a : Int)) from ixD_map _ e1]
      ac_rfl
      rw [cd_ix h1]
      ac_rfl
      rw [elast]
      ac_rfl
      rw [cd_ix h2]
      ac_rfl
      refine ⟨_, _, rfl, hc.at h1, hc.at h2, ?_⟩
      ac_rfl
      refine ⟨by rw [flat_strs]; rfl, ?_⟩
      rw [in_strs]
      exact h
  · rw [decide_eq_false hkh] at h ⊢
    rw [Bool.false_and] at h
    ac_rfl
    exact h
/-! ### papers -/
inductive PapJ (cs : List Card) (h : List Str) (ks : List (List Str)) : Str → List D → Bool → Prop
  | grp (gs : List (List Int)) : GsB gs → PapJ cs h ks (Str.ofString "groups") [.list (gs.map intsD)] (partsB cs h ks gs)
  | conf (c : List Int) (k : Str) : c.length ≤ 1000 → PapJ cs h ks (Str.ofString "conflict") [intsD c, .str k] (confPB cs h ks c k)
  | oth (w : Str) (r : List D) : ¬ (w = Str.ofString "groups" ∧ r.length = 1) → ¬ (w = Str.ofString "conflict" ∧ r.length = 2) → PapJ cs h ks w r false
-- judge_groups(cards, hard, keys, verdict) slots: 0=cards 1=hard 2=keys 3=verdict
def q_judge_groups : QS :=
  (qSeq (qIfS (qAnd (qB (qOp opEq (qUn opLen (qVar 3)) (qC (.int 2)))) (qB (qOp opEq (qOp opIx (qVar 3) (qC (.int 0))) (qC (.str "groups")))))
   (qRet (qCall 4 P_judge_parts (qCons (qVar 0) (qCons (qVar 1) (qCons (qVar 2) (qCons (qOp opIx (qVar 3) (qC (.int 1))) qNil))))))
   qNext)
  (qSeq (qIfS (qOr (qB (qOp opNe (qUn opLen (qVar 3)) (qC (.int 3)))) (qB (qOp opNe (qOp opIx (qVar 3) (qC (.int 0))) (qC (.str "conflict")))))
   (qRet (qC (.bool false)))
   qNext)
  (qRet (qCall 5 P_judge_conflict (qCons (qVar 0) (qCons (qVar 1) (qCons (qVar 2) (qCons (qOp opIx (qVar 3) (qC (.int 1))) (qCons (qOp opIx (qVar 3) (qC (.int 2))) qNil)))))))))
def P_judge_groups : PD := fun ds R => ∃ (cs : List Card) (h : List Str) (ks : List (List Str)) (w : Str) (r : List D) (b : Bool), ds = [cardsD cs, txtsD h, kysD ks, .tuple (.str w :: r)] ∧ CsOk cs ∧ KsOk ks ∧ PapJ cs h ks w r b ∧ R (.sh (.bool b))
theorem pure_judge_groups : ∀ ds R, ds.length = 4 → P_judge_groups ds R → q_judge_groups (endsOf R) (startEv 4 ds) := by
  rintro ds R - ⟨cs, hd, ks, w, r, b, rfl, hc, hk, hp, h⟩
  have n1 : ¬ Str.ofString "conflict" = Str.ofString "groups" := by decide +kernel
  cases hp with
  | grp gs hg =>
    ac_rfl
    exact ⟨cs, hd, ks, gs, rfl, hc, hk, hg, h⟩
  | conf c k hl =>
    ac_rfl
    exact ⟨cs, hd, ks, c, k, rfl, hc, hk, hl, h⟩
  | oth _ _ h1 h2 =>
    have e3 : ((((r.length + 1 : Nat) : Int)) = 2) ↔ r.length = 1 := by omega
    have e4 : ((((r.length + 1 : Nat) : Int)) = 3) ↔ r.length = 2 := by omega
    have last : (qSeq (qIfS (qOr (qB (qOp opNe (qUn opLen (qVar 3)) (qC (.int 3)))) (qB (qOp opNe (qOp opIx (qVar 3) (qC (.int 0))) (qC (.str "conflict"))))) (qRet (qC (.bool false))) qNext) (qRet (qCall 5 P_judge_conflict (qCons (qVar 0) (qCons (qVar 1) (qCons (qVar 2) (qCons (qOp opIx (qVar 3) (qC (.int 1))) (qCons (qOp opIx (qVar 3) (qC (.int 2))) qNil)))))))) (endsOf R) [.sh (cardsD cs), .sh (txtsD hd), .sh (kysD ks), .sh (.tuple (.str w :: r))] := by
      ac_rfl
      rw [eqv_int]
      by_cases z : r.length = 2
      · refine Cif.ff (by simp; omega) ?_
        ac_rfl
        rw [eqv_str]
        have : ¬ w = Str.ofString "conflict" := fun y => h2 ⟨y, z⟩
        refine Cif.tt (by simp [this]) ?_
        ac_rfl
        exact h
      · refine Cif.tt (by simp; omega) ?_
        ac_rfl
        exact h
    ac_rfl
    rw [eqv_int]
    by_cases z : r.length = 1
    · refine Cif.tt (by simp; omega) ?_
      ac_rfl
      rw [eqv_str]
      have : ¬ w = Str.ofString "groups" := fun y => h1 ⟨y, z⟩
      refine Cif.ff (by simp [this]) ?_
      exact last
    · refine Cif.ff (by simp; omega) ?_
      refine Cif.no ?_
      exact last
end PL

namespace PL
open PySem PySem.Spec PyProof.Rows L2
local macro_rules | `(tactic| ac_rfl) => `(tactic| ((conv => whnf); repeat ((first | refine Cif.yes ?_ | refine Cif.no ?_ | (refine And.intro ?_ ?_; · first | (show _ ≤ (_ : Int); omega) | (show _ < (_ : Int); omega) | assumption | exact trivial | exact rfl | (refine small ?_; first | omega | (simp only [List.length_map, List.length_cons, List.length_nil, List.length_append]; omega)) | (refine ltsmall ?_; first | omega | (simp only [List.length_map, List.length_cons, List.length_nil, List.length_append]; omega)) | (refine cdiv ?_ ?_ <;> omega) | (refine cmulR ?_ ?_ <;> omega) | (refine cmulL ?_ ?_ <;> omega) | (refine ⟨?_, ?_, ?_, ?_⟩ <;> omega))); (conv => whnf))))
local macro_rules | `(tactic| exists $e) => `(tactic| first | exact $e | exact And.right $e | exact And.right (And.right $e) | exact And.right (And.right (And.right $e)))
-- _law_is_apart(cards, hard, one, other) slots: 0=cards 1=hard 2=one 3=other
def q__law_is_apart : QS :=
  (qRet (qOp opEq (qCall 4 P__law_relation (qCons (qOp opIx (qVar 0) (qVar 2)) (qCons (qOp opIx (qVar 0) (qVar 3)) (qCons (qVar 1) (qCons (qLst qNil) qNil))))) (qC (.str "apart"))))
def P__law_is_apart : PD := fun ds R => ∃ (cs : List Card) (h : List Str) (i j : Nat), ds = [cardsD cs, txtsD h, .int i, .int j] ∧ CsOk cs ∧ i < cs.length ∧ j < cs.length ∧ R (.sh (.bool (apB (cdAt cs i) (cdAt cs j) h)))
theorem rel_apart (a b : Card) (h : List Str) : decide (relS a b h [] = Str.ofString "apart") = apB a b h := by
  have n1 : ¬ Str.ofString "open" = Str.ofString "apart" := by decide +kernel
  unfold relS
  cases apB a b h with
  | true => simp
  | false => simp [oneB, n1]
theorem pure__law_is_apart : ∀ ds R, ds.length = 4 → P__law_is_apart ds R → q__law_is_apart (endsOf R) (startEv 4 ds) := by
  rintro ds R - ⟨cs, hd, i, j, rfl, hc, hi, hj, h⟩
  ac_rfl
  rw [cd_ix hi]
  ac_rfl
  rw [cd_ix hj]
  ac_rfl
  refine ⟨_, _, hd, [], rfl, hc.at hi, hc.at hj, ⟨by simp, by simp⟩, ?_⟩
  ac_rfl
  rw [eqv_str, rel_apart]
  exact h
def okAt (on : Gr) (cs : List Card) (h : List Str) (g : List Nat) (k : Nat) : Bool :=
  (decide (k = 0) || (g.take k).any fun c => decide (c ∈ nb on (g[k]?.getD 0))) && ((nb on (g[k]?.getD 0)).all (fun d => decide (d ∈ g)) && g.all fun c => !apB (cdAt cs c) (cdAt cs (g[k]?.getD 0)) h)
theorem all_ix (g : List Nat) (p : Nat → Bool) : (List.range g.length).all (fun k => p (g[k]?.getD 0)) = g.all p := by
  rw [Bool.eq_iff_iff, List.all_eq_true, List.all_eq_true]
  constructor
  · intro h x hx
    obtain ⟨k, hk⟩ := List.getElem?_of_mem hx
    have := h k (List.mem_range.mpr (List.getElem?_eq_some_iff.mp hk).1)
    rw [hk] at this
    exact this
  · intro h k hk
    have hk := List.mem_range.mp hk
    have e : g[k]? = some g[k] := List.getElem?_eq_getElem hk
    rw [e]
    exact h _ (List.getElem_mem _)
theorem okAt_all (on : Gr) (cs : List Card) (h : List Str) (g : List Nat) : (tiedB on g && (closB on g && naB cs h g)) = (List.range g.length).all (okAt on cs h g) := by
  have e1 : tiedB on g = (List.range g.length).all fun k => (decide (k = 0) || (g.take k).any fun c => decide (c ∈ nb on (g[k]?.getD 0))) := by
    unfold tiedB
    cases g with
    | nil => rfl
    | cons a r =>
      rw [List.length_cons, List.range_succ_eq_map, List.drop_succ_cons, List.drop_zero, List.all_cons]
      simp only [decide_true, Bool.true_or, Bool.true_and, List.all_map]
      congr 1
  have e2 : closB on g = (List.range g.length).all fun k => (nb on (g[k]?.getD 0)).all (fun d => decide (d ∈ g)) := (all_ix g fun c => (nb on c).all fun d => decide (d ∈ g)).symm
  have e3 : naB cs h g = (List.range g.length).all fun k => g.all fun c => !apB (cdAt cs c) (cdAt cs (g[k]?.getD 0)) h := by
    rw [all_ix g fun d => g.all fun c => !apB (cdAt cs c) (cdAt cs d) h]
    unfold naB
    rw [Bool.eq_iff_iff]
    simp only [List.all_eq_true]
    exact ⟨fun z d hd c hc => z c hc d hd, fun z c hc d hd => z d hd c hc⟩
  rw [e1, e2, e3, Bool.eq_iff_iff]
  unfold okAt
  simp only [Bool.and_eq_true, List.all_eq_true]
  constructor
  · rintro ⟨z1, z2, z3⟩ k hk
    exact ⟨z1 k hk, z2 k hk, z3 k hk⟩
  · intro z
    exact ⟨fun k hk => (z k hk).1, fun k hk => (z k hk).2.1, fun k hk => (z k hk).2.2⟩
-- _law_accepts(cards, hard, ones, verdict) slots: 0=cards* 1=hard* 2=ones* 3=verdict 4=word 5=chain 6=kind 7=some 8=group* 9=k* 10=card
def q__law_accepts : QS :=
  (qSeq (qIfS (qAnd (qB (qOp opEq (qUn opLen (qVar 3)) (qC (.int 3)))) (qB (qOp opEq (qOp opIx (qVar 3) (qC (.int 0))) (qC (.str "conflict")))))
   (qSeq (qAsg (qVar 3) (qgTup 3 (qgCons (qgN 4) (qgCons (qgN 5) (qgCons (qgN 6) qgNil)))))
   (qSeq (qIfS (qOr (qB (qOp (opInW not) (qVar 6) (qVar 1))) (qNot (qB (qCall 2 P__law_is_chain (qCons (qVar 2) (qCons (qVar 5) qNil))))))
    (qRet (qC (.bool false)))
    qNext)
   (qRet (qOp (opInW id) (qVar 6) (qCall 2 P__law_differing (qCons (qOp opIx (qVar 0) (qOp opIx (qVar 5) (qC (.int 0)))) (qCons (qOp opIx (qVar 0) (qOp opIx (qVar 5) (qOp opSub (qUn opLen (qVar 5)) (qC (.int 1))))) qNil)))))))
   qNext)
  (qSeq (qIfS (qOr (qB (qOp opNe (qUn opLen (qVar 3)) (qC (.int 2)))) (qB (qOp opNe (qOp opIx (qVar 3) (qC (.int 0))) (qC (.str "groups")))))
   (qRet (qC (.bool false)))
   qNext)
  (qSeq (qAsg (qLst qNil) (qgN 7))
  (qFrz 7 (qSeq (qFor (qiL (qOp opIx (qVar 3) (qC (.int 1)))) (qgN 8)
   (qAsg (qOp opAdd (qVar 7) (qVar 8)) (qgN 7)))
  (qSeq (qIfS (qOr (qB (qOp opNe (qUn opSortI (qVar 7)) (qRgL1 (qUn opLen (qVar 0))))) (qB (qOp (opInW id) (qLst qNil) (qOp opIx (qVar 3) (qC (.int 1))))))
   (qRet (qC (.bool false)))
   qNext)
  (qSeq (qFor (qiL (qOp opIx (qVar 3) (qC (.int 1)))) (qgN 8)
   (qFor (qiR1 (qCons (qUn opLen (qVar 8)) qNil)) (qgN 9)
    (qSeq (qIfS (qAnd (qB (qOp opGt (qVar 9) (qC (.int 0)))) (qB (qOp opEq (qUn opLen (qLc [10] (qiL (qSl (qVar 8) (qoS (qC (.int 0))) (qoS (qVar 9)))) (qgN 10) (qB (qOp (opInW id) (qVar 10) (qOp opIx (qVar 2) (qOp opIx (qVar 8) (qVar 9))))) (qVar 10))) (qC (.int 0)))))
     (qRet (qC (.bool false)))
     qNext)
    (qSeq (qIfS (qB (qOp opGt (qUn opLen (qLc [10] (qiL (qOp opIx (qVar 2) (qOp opIx (qVar 8) (qVar 9)))) (qgN 10) (qB (qOp (opInW not) (qVar 10) (qVar 8))) (qVar 10))) (qC (.int 0))))
     (qRet (qC (.bool false)))
     qNext)
    (qIfS (qB (qOp opGt (qUn opLen (qLc [10] (qiL (qVar 8)) (qgN 10) (qB (qCall 4 P__law_is_apart (qCons (qVar 0) (qCons (qVar 1) (qCons (qVar 10) (qCons (qOp opIx (qVar 8) (qVar 9)) qNil)))))) (qVar 10))) (qC (.int 0))))
     (qRet (qC (.bool false)))
     qNext)))))
  (qRet (qC (.bool true))))))))))
def P__law_accepts : PD := fun ds R => ∃ (cs : List Card) (h : List Str) (ks : List (List Str)) (w : Str) (r : List D) (b : Bool), ds = [cardsD cs, txtsD h, onD (onesL cs h ks), .tuple (.str w :: r)] ∧ CsOk cs ∧ KsOk ks ∧ PapJ cs h ks w r b ∧ R (.sh (.bool b))
theorem law_acc_conf {R : Wv → Prop} {cs : List Card} {hd : List Str} {ks : List (List Str)} (hc : CsOk cs) (hk : KsOk ks) (c : List Int) (k : Str) (hl : c.length ≤ 1000) (h : R (.sh (.bool (confPB cs hd ks c k)))) :
    q__law_accepts (endsOf R) (startEv 11 [cardsD cs, txtsD hd, onD (onesL cs hd ks), .tuple [.str (Str.ofString "conflict"), intsD c, .str k]]) := by
  have og := ones_gr hc hd ks
  have onl := ones_len cs hd ks
  unfold confPB at h
  have hcl : (c.map PyData.int).length = c.length := List.length_map _
  ac_rfl
  refine ⟨by rw [flat_strs]; rfl, ?_⟩
  rw [in_strs]
  by_cases hkh : k ∈ hd
  · rw [decide_eq_true hkh] at h ⊢
    rw [Bool.true_and] at h
    ac_rfl
    refine ⟨_, c, rfl, og, hl, ?_⟩
    cases hcb : chainB (onesL cs hd ks) c with
    | false =>
      rw [hcb, Bool.false_and] at h
      ac_rfl
      exact h
    | true =>
      obtain ⟨a, b, e1, e2, h1, h2, h3⟩ := chain_ends hcb
      rw [onl] at h1 h2
      rw [hcb, Bool.true_and, e1, e2] at h
      ac_rfl
      rw [show ixD (c.map PyData.int) 0 = some (.int (a : Int)) from ixD_map _ e1]
      ac_rfl
      rw [cd_ix h1]
      ac_rfl
      rw [hcl, show (((c.length : Nat) : Int) - 1) = ((c.length - 1 : Nat) : Int) by omega, ixD_map _ e2]
      ac_rfl
      rw [cd_ix h2]
      ac_rfl
      refine ⟨_, _, rfl, hc.at h1, hc.at h2, ?_⟩
      ac_rfl
      refine ⟨by rw [flat_strs]; rfl, ?_⟩
      rw [in_strs]
      exact h
  · rw [decide_eq_false hkh] at h ⊢
    rw [Bool.false_and] at h
    ac_rfl
    exact h
theorem law_acc_grp {R : Wv → Prop} {cs : List Card} {hd : List Str} {ks : List (List Str)} (hc : CsOk cs) (hk : KsOk ks) (gs : List (List Int)) (hg : GsB gs) (h : R (.sh (.bool (partsB cs hd ks gs)))) :
    q__law_accepts (endsOf R) (startEv 11 [cardsD cs, txtsD hd, onD (onesL cs hd ks), .tuple [.str (Str.ofString "groups"), .list (gs.map intsD)]]) := by
  have hn := hc.le
  have og := ones_gr hc hd ks
  have hcl : (cs.map cardD).length = cs.length := List.length_map _
  have hgl := hg.le
  have hgl2 := hg.gl
  unfold partsB at h
  ac_rfl
  refine forGo_ok intsD (fun r Γ => ∃ (dn : List (List Int)) (x7 x8 : Sl), Γ = [.sh (cardsD cs), .sh (txtsD hd), .sh (onD (onesL cs hd ks)), .sh (.tuple [.str (Str.ofString "groups"), .list (gs.map intsD)]), .un, .un, .un, x7, x8, .un, .un] ∧ (x7 = .sh (intsD dn.flatten) ∨ x7 = .ow (.l (dn.flatten.map .int))) ∧ dn ++ r = gs ∧ dn.flatten.length ≤ 100 * dn.length) ?_ ?_ gs _ ⟨[], _, _, rfl, .inl rfl, rfl, by simp⟩
  · rintro Γ ⟨dn, x7, x8, rfl, h7, hdn, _⟩
    rw [List.append_nil] at hdn
    rw [hdn] at h7
    -- the rest, whatever slot 7 is
    have rest : ∀ x7 x8 : Sl, gs.flatten.Perm (rangeI cs.length) → [] ∉ gs → (qSeq (qFor (qiL (qOp opIx (qVar 3) (qC (.int 1)))) (qgN 8)
   (qFor (qiR1 (qCons (qUn opLen (qVar 8)) qNil)) (qgN 9)
    (qSeq (qIfS (qAnd (qB (qOp opGt (qVar 9) (qC (.int 0)))) (qB (qOp opEq (qUn opLen (qLc [10] (qiL (qSl (qVar 8) (qoS (qC (.int 0))) (qoS (qVar 9)))) (qgN 10) (qB (qOp (opInW id) (qVar 10) (qOp opIx (qVar 2) (qOp opIx (qVar 8) (qVar 9))))) (qVar 10))) (qC (.int 0)))))
     (qRet (qC (.bool false)))
     qNext)
    (qSeq (qIfS (qB (qOp opGt (qUn opLen (qLc [10] (qiL (qOp opIx (qVar 2) (qOp opIx (qVar 8) (qVar 9)))) (qgN 10) (qB (qOp (opInW not) (qVar 10) (qVar 8))) (qVar 10))) (qC (.int 0))))
     (qRet (qC (.bool false)))
     qNext)
    (qIfS (qB (qOp opGt (qUn opLen (qLc [10] (qiL (qVar 8)) (qgN 10) (qB (qCall 4 P__law_is_apart (qCons (qVar 0) (qCons (qVar 1) (qCons (qVar 10) (qCons (qOp opIx (qVar 8) (qVar 9)) qNil)))))) (qVar 10))) (qC (.int 0))))
     (qRet (qC (.bool false)))
     qNext)))))
  (qRet (qC (.bool true)))) (endsOf R) [.sh (cardsD cs), .sh (txtsD hd), .sh (onD (onesL cs hd ks)), .sh (.tuple [.str (Str.ofString "groups"), .list (gs.map intsD)]), .un, .un, .un, x7, x8, .un, .un] := fun x7 x8 hp he => by
      obtain ⟨t1, t2, _⟩ := toN_spec hp
      rw [decide_eq_true hp, decide_eq_false he, Bool.not_false, Bool.true_and, Bool.true_and] at h
      have hNg : ∀ g ∈ toN gs, g.length ≤ 100 := fun g hg => by
        obtain ⟨g', hg', rfl⟩ := List.mem_map.mp hg
        rw [List.length_map]
        exact hgl2 g' hg'
      have hgd : PyData.list (gs.map intsD) = .list ((toN gs).map natsD) := congrArg PyData.list t2
      have hB : ((toN gs).all (tiedB (onesL cs hd ks)) && (toN gs).all fun g => closB (onesL cs hd ks) g && naB cs hd g) = (toN gs).all fun g => (List.range g.length).all (okAt (onesL cs hd ks) cs hd g) := by
        have e : (fun g => (List.range g.length).all (okAt (onesL cs hd ks) cs hd g)) = fun g => (tiedB (onesL cs hd ks) g && (closB (onesL cs hd ks) g && naB cs hd g)) := by
          funext g
          exact (okAt_all _ _ _ _).symm
        rw [e, Bool.eq_iff_iff]
        simp only [Bool.and_eq_true, List.all_eq_true]
        exact ⟨fun z g hg => ⟨z.1 g hg, z.2 g hg⟩, fun z => ⟨fun g hg => (z g hg).1, fun g hg => (z g hg).2⟩⟩
      rw [hB] at h
      rw [hgd]
      have onl := ones_len cs hd ks
      generalize toN gs = gn at *
      generalize onesL cs hd ks = on at *
      clear hgd t2 hB he hp hg hgl hgl2
      refine seq_i ?_
      ac_rfl
      refine forGo_ok natsD (fun r Γ => ∃ (x8 x9 : Sl), Γ = [.sh (cardsD cs), .sh (txtsD hd), .sh (onD on), .sh (.tuple [.str (Str.ofString "groups"), .list (gn.map natsD)]), .un, .un, .un, x7, x8, x9, .un] ∧ (gn.all fun g => (List.range g.length).all (okAt on cs hd g)) = (r.all fun g => (List.range g.length).all (okAt on cs hd g)) ∧ (∀ g ∈ r, ∀ x ∈ g, x < cs.length) ∧ ∀ g ∈ r, g.length ≤ 100) ?_ ?_ gn _ ⟨_, _, rfl, rfl, t1, hNg⟩
      · rintro Γ ⟨x8, x9, rfl, ho, _, _⟩
        rw [ho] at h
        ac_rfl
        exact h
      · rintro g r Γ K ⟨x8, x9, rfl, ho, hlt, hl⟩ hK
        have hltg := hlt g (by simp)
        have hlg := hl g (by simp)
        have hlt2 : ∀ z ∈ r, ∀ x ∈ z, x < cs.length := fun z hz => hlt z (List.mem_cons_of_mem _ hz)
        have hl2 : ∀ z ∈ r, z.length ≤ 100 := fun z hz => hl z (List.mem_cons_of_mem _ hz)
        have hgm : (g.map natD).length = g.length := List.length_map _
        rw [List.all_cons] at ho
        ac_rfl
        rw [hgm]
        refine forGo_ok (fun i : Nat => .int (i : Int)) (fun r2 Γ => ∃ (k : Nat) (x9 : Sl), Γ = [.sh (cardsD cs), .sh (txtsD hd), .sh (onD on), .sh (.tuple [.str (Str.ofString "groups"), .list (gn.map natsD)]), .un, .un, .un, x7, .sh (natsD g), x9, .un] ∧ r2 = (List.range g.length).drop k ∧ (gn.all fun g => (List.range g.length).all (okAt on cs hd g)) = (r2.all (okAt on cs hd g) && r.all fun g => (List.range g.length).all (okAt on cs hd g))) ?_ ?_ (List.range g.length) _ ⟨0, _, rfl, rfl, ho⟩
        · rintro Γ ⟨k, x9, rfl, _, ho⟩
          exact hK _ ⟨_, _, rfl, ho, hlt2, hl2⟩
        · rintro k r2 Γ K2 ⟨k', x9, rfl, hr, ho⟩ hK2
          obtain ⟨hk1, rfl, rfl⟩ := drop_cons hr.symm
          rw [List.all_cons] at ho
          have e : g[k]? = some g[k] := List.getElem?_eq_getElem hk1
          have hx := hltg _ (List.getElem_mem hk1)
          have hrow := og.row g[k]
          have htk : (g.take k).length ≤ 100 := by rw [List.length_take]; omega
          have good := fun (z : okAt on cs hd g k = true) => hK2 [.sh (cardsD cs), .sh (txtsD hd), .sh (onD on), .sh (.tuple [.str (Str.ofString "groups"), .list (gn.map natsD)]), .un, .un, .un, x7, .sh (natsD g), .sh (.int (k : Nat)), .un] ⟨k + 1, _, rfl, rfl, by rw [z, Bool.true_and] at ho; exact ho⟩
          have bad : okAt on cs hd g k = false → R (.sh (.bool false)) := fun z => by
            rw [ho, z, Bool.false_and, Bool.false_and] at h
            exact h
          unfold okAt at good bad
          rw [e] at good bad
          simp only [Option.getD_some] at good bad
          have last : ∀ P : PEnds, P.nx = K2 → P.rt = (endsOf R).rt → (nb on g[k]).all (fun d => decide (d ∈ g)) = true → (decide (k = 0) || (g.take k).any fun c => decide (c ∈ nb on g[k])) = true → (qIfS (qB (qOp opGt (qUn opLen (qLc [10] (qiL (qVar 8)) (qgN 10) (qB (qCall 4 P__law_is_apart (qCons (qVar 0) (qCons (qVar 1) (qCons (qVar 10) (qCons (qOp opIx (qVar 8) (qVar 9)) qNil)))))) (qVar 10))) (qC (.int 0))))
     (qRet (qC (.bool false)))
     qNext) P [.sh (cardsD cs), .sh (txtsD hd), .sh (onD on), .sh (.tuple [.str (Str.ofString "groups"), .list (gn.map natsD)]), .un, .un, .un, x7, .sh (natsD g), .sh (.int (k : Nat)), .un] := fun P hP1 hP2 z1 z2 => by
            rw [z1, z2, Bool.true_and, Bool.true_and] at good bad
            rcases P with ⟨nx, rt, bk, ct, ex⟩
            dsimp only at hP1 hP2
            subst hP1 hP2
            clear hK2 hK h
            ac_rfl
            refine lc0_fil (vs := [10]) natD (fun c => apB (cdAt cs c) (cdAt cs g[k]) hd) natD g (fun c hc1 acc K ha hK1 hK2 => ?_) (small (by omega)) ?_
            · have hcl1 := hltg c hc1
              ac_rfl
              rw [ixD_map _ e]
              ac_rfl
              refine ⟨cs, hd, c, g[k], rfl, hc, hcl1, hx, ?_⟩
              ac_rfl
              refine ⟨fun hz => ?_, fun hz => ?_⟩
              · ac_rfl
                exact hK1 hz
              · exact hK2 hz
            · ac_rfl
              rw [List.length_map]
              have ea := any_fil (fun c => apB (cdAt cs c) (cdAt cs g[k]) hd) g
              have en : (g.all fun c => !apB (cdAt cs c) (cdAt cs g[k]) hd) = !(g.any fun c => apB (cdAt cs c) (cdAt cs g[k]) hd) := by
                rw [List.all_eq_not_any_not]
                simp only [Bool.not_not]
              refine ⟨fun hz => ?_, fun hz => ?_⟩
              · ac_rfl
                exact bad (by rw [en, ← ea]; simpa using hz)
              · ac_rfl
                exact good (by rw [en, ← ea]; simpa using hz)
          have mid : ∀ P : PEnds, P.nx = K2 → P.rt = (endsOf R).rt → (decide (k = 0) || (g.take k).any fun c => decide (c ∈ nb on g[k])) = true → (qSeq (qIfS (qB (qOp opGt (qUn opLen (qLc [10] (qiL (qOp opIx (qVar 2) (qOp opIx (qVar 8) (qVar 9)))) (qgN 10) (qB (qOp (opInW not) (qVar 10) (qVar 8))) (qVar 10))) (qC (.int 0))))
     (qRet (qC (.bool false)))
     qNext)
    (qIfS (qB (qOp opGt (qUn opLen (qLc [10] (qiL (qVar 8)) (qgN 10) (qB (qCall 4 P__law_is_apart (qCons (qVar 0) (qCons (qVar 1) (qCons (qVar 10) (qCons (qOp opIx (qVar 8) (qVar 9)) qNil)))))) (qVar 10))) (qC (.int 0))))
     (qRet (qC (.bool false)))
     qNext)) P [.sh (cardsD cs), .sh (txtsD hd), .sh (onD on), .sh (.tuple [.str (Str.ofString "groups"), .list (gn.map natsD)]), .un, .un, .un, x7, .sh (natsD g), .sh (.int (k : Nat)), .un] := fun P hP1 hP2 z2 => by
            have last := fun z1 => last P hP1 hP2 z1 z2
            rcases P with ⟨nx, rt, bk, ct, ex⟩
            dsimp only at hP1 hP2
            subst hP1 hP2
            rw [z2, Bool.true_and] at bad
            clear hK2 hK h good
            refine seq_i ?_
            generalize hlt : (qIfS (qB (qOp opGt (qUn opLen (qLc [10] (qiL (qVar 8)) (qgN 10) (qB (qCall 4 P__law_is_apart (qCons (qVar 0) (qCons (qVar 1) (qCons (qVar 10) (qCons (qOp opIx (qVar 8) (qVar 9)) qNil)))))) (qVar 10))) (qC (.int 0)))) (qRet (qC (.bool false))) qNext) = LT at *
            clear hlt
            ac_rfl
            rw [ixD_map _ e]
            ac_rfl
            rw [show ixD (on.map natsD) ((g[k] : Nat) : Int) = _ from on_ix (by rw [onl]; exact hx)]
            ac_rfl
            refine lc0_fil (vs := [10]) natD (fun d => !decide (d ∈ g)) natD (nb on g[k]) (fun d hd1 acc K ha hK1 hK2 => ?_) (small (by omega)) ?_
            · ac_rfl
              refine ⟨by rw [flat_nats]; rfl, ?_⟩
              rw [in_natsD]
              ac_rfl
              refine ⟨fun hz => ?_, fun hz => ?_⟩
              · ac_rfl
                exact hK1 hz
              · exact hK2 hz
            · ac_rfl
              rw [List.length_map]
              have ea := any_fil (fun d => !decide (d ∈ g)) (nb on g[k])
              have en : ((nb on g[k]).all fun d => decide (d ∈ g)) = !((nb on g[k]).any fun d => !decide (d ∈ g)) := List.all_eq_not_any_not
              refine ⟨fun hz => ?_, fun hz => ?_⟩
              · ac_rfl
                exact bad (by rw [en, ← ea]; rw [show decide ((0 : Int) < _) = true from hz]; rfl)
              · ac_rfl
                exact last (by rw [en, ← ea]; rw [show decide ((0 : Int) < _) = false from hz]; rfl)
          clear hK2 hK h good last
          generalize hmt : (qSeq (qIfS (qB (qOp opGt (qUn opLen (qLc [10] (qiL (qOp opIx (qVar 2) (qOp opIx (qVar 8) (qVar 9)))) (qgN 10) (qB (qOp (opInW not) (qVar 10) (qVar 8))) (qVar 10))) (qC (.int 0)))) (qRet (qC (.bool false))) qNext)
    (qIfS (qB (qOp opGt (qUn opLen (qLc [10] (qiL (qVar 8)) (qgN 10) (qB (qCall 4 P__law_is_apart (qCons (qVar 0) (qCons (qVar 1) (qCons (qVar 10) (qCons (qOp opIx (qVar 8) (qVar 9)) qNil)))))) (qVar 10))) (qC (.int 0)))) (qRet (qC (.bool false))) qNext)) = MT at *
          clear hmt
          ac_rfl
          by_cases hk0 : k = 0
          · refine Cif.ff (by subst hk0; rfl) ?_
            ac_rfl
            exact mid _ rfl rfl (by simp [hk0])
          · refine Cif.tt (decide_eq_true (by omega)) ?_
            rw [decide_eq_false hk0, Bool.false_or] at mid bad
            ac_rfl
            rw [cutD_map, cutG_to]
            refine lc0_fil (vs := [10]) natD (fun c => decide (c ∈ nb on g[k])) natD (g.take k) (fun c hc1 acc K ha hK1 hK2 => ?_) (small (by omega)) ?_
            · ac_rfl
              rw [ixD_map _ e]
              ac_rfl
              rw [show ixD (on.map natsD) ((g[k] : Nat) : Int) = _ from on_ix (by rw [onl]; exact hx)]
              ac_rfl
              refine ⟨by rw [flat_nats]; rfl, ?_⟩
              rw [in_natsD]
              ac_rfl
              refine ⟨fun hz => ?_, fun hz => ?_⟩
              · ac_rfl
                exact hK1 hz
              · exact hK2 hz
            · ac_rfl
              rw [List.length_map, eqv_int, none_fil]
              have en : ((g.take k).any fun c => decide (c ∈ nb on g[k])) = !((g.take k).all fun c => !decide (c ∈ nb on g[k])) := List.any_eq_not_all_not
              refine ⟨fun hz => ?_, fun hz => ?_⟩
              · ac_rfl
                exact bad (by rw [en, hz]; rfl)
              · ac_rfl
                exact mid _ rfl rfl (by rw [en, hz]; rfl)
    rcases h7 with rfl | rfl
    · ac_rfl
      rw [intsOf_ints]
      intro ms hm1 hm2
      ac_rfl
      rw [hcl]
      ac_rfl
      rw [rgD_int]
      refine ⟨by rw [flat_ints, flat_ints]; rfl, ?_⟩
      rw [eqv_intsL, sorted_eq hm1 hm2 (rangeI_sorted _)]
      by_cases hp : gs.flatten.Perm (rangeI cs.length)
      · have rest := fun a b => rest a b hp
        rw [decide_eq_true hp] at h ⊢
        rw [Bool.true_and] at h
        ac_rfl
        refine ⟨by rw [show flat 60 (.list (gs.map intsD)) = true from flat_gs gs]; rfl, ?_⟩
        rw [show inD (PyData.list []) (gs.map intsD) = decide ([] ∈ gs) from in_gs [] gs]
        by_cases he : [] ∈ gs
        · rw [decide_eq_true he] at h ⊢
          clear rest
          ac_rfl
          exact h
        · rw [decide_eq_false he]
          exact Cif.no (rest _ _ he)
      · rw [decide_eq_false hp, Bool.false_and] at h
        rw [decide_eq_false hp]
        clear rest
        ac_rfl
        exact h
    · ac_rfl
      rw [intsOf_ints]
      intro ms hm1 hm2
      ac_rfl
      rw [hcl]
      ac_rfl
      rw [rgD_int]
      refine ⟨by rw [flat_ints, flat_ints]; rfl, ?_⟩
      rw [eqv_intsL, sorted_eq hm1 hm2 (rangeI_sorted _)]
      by_cases hp : gs.flatten.Perm (rangeI cs.length)
      · have rest := fun a b => rest a b hp
        rw [decide_eq_true hp] at h ⊢
        rw [Bool.true_and] at h
        ac_rfl
        refine ⟨by rw [show flat 60 (.list (gs.map intsD)) = true from flat_gs gs]; rfl, ?_⟩
        rw [show inD (PyData.list []) (gs.map intsD) = decide ([] ∈ gs) from in_gs [] gs]
        by_cases he : [] ∈ gs
        · rw [decide_eq_true he] at h ⊢
          clear rest
          ac_rfl
          exact h
        · rw [decide_eq_false he]
          exact Cif.no (rest _ _ he)
      · rw [decide_eq_false hp, Bool.false_and] at h
        rw [decide_eq_false hp]
        clear rest
        ac_rfl
        exact h
  · rintro g r Γ K ⟨dn, x7, x8, rfl, h7, hdn, hfl⟩ hK
    have hg1 : g ∈ gs := by rw [← hdn]; simp
    have hgg := hgl2 g hg1
    have hdl : dn.length ≤ 100 := by
      have : (dn ++ g :: r).length ≤ 100 := by rw [hdn]; exact hgl
      rw [List.length_append] at this
      omega
    have e1 : dn.flatten.map PyData.int ++ g.map .int = (dn ++ [g]).flatten.map .int := by simp
    have l1 : (dn.flatten.map PyData.int).length = dn.flatten.length := List.length_map _
    have l2 : (g.map PyData.int).length = g.length := List.length_map _
    have next := hK [.sh (cardsD cs), .sh (txtsD hd), .sh (onD (onesL cs hd ks)), .sh (.tuple [.str (Str.ofString "groups"), .list (gs.map intsD)]), .un, .un, .un, .ow (.l (dn.flatten.map PyData.int ++ g.map .int)), .sh (intsD g), .un, .un] ⟨dn ++ [g], _, _, rfl, .inr (by rw [e1]), by rw [List.append_assoc]; exact hdn, by simp at hfl ⊢; omega⟩
    clear hK h
    rcases h7 with rfl | rfl
    · ac_rfl
      exact next
    · ac_rfl
      exact next
theorem pure__law_accepts : ∀ ds R, ds.length = 4 → P__law_accepts ds R → q__law_accepts (endsOf R) (startEv 11 ds) := by
  rintro ds R - ⟨cs, hd, ks, w, r, b, rfl, hc, hk, hp, h⟩
  cases hp with
  | grp gs hg => exact law_acc_grp hc hk gs hg h
  | conf c k hl => exact law_acc_conf hc hk c k hl h
  | oth _ _ h1 h2 =>
    ac_rfl
    rw [eqv_int]
    by_cases z : r.length = 2
    · refine Cif.tt (by simp; omega) ?_
      ac_rfl
      rw [eqv_str]
      have : ¬ w = Str.ofString "conflict" := fun y => h2 ⟨y, z⟩
      refine Cif.ff (by simp [this]) ?_
      ac_rfl
      rw [eqv_int]
      refine Cif.tt (by simp; omega) ?_
      ac_rfl
      exact h
    · refine Cif.ff (by simp; omega) ?_
      ac_rfl
      rw [eqv_int]
      by_cases y : r.length = 1
      · refine Cif.ff (by simp; omega) ?_
        ac_rfl
        rw [eqv_str]
        have : ¬ w = Str.ofString "groups" := fun x => h1 ⟨x, y⟩
        refine Cif.tt (by simp [this]) ?_
        ac_rfl
        exact h
      · refine Cif.tt (by simp; omega) ?_
        ac_rfl
        exact h
end PL

namespace PL
open PySem PySem.Spec PyProof.Rows L2
/-! ### the levels of the law -/
def lastN (c : List Nat) : Nat := c[c.length - 1]?.getD 0
theorem lastN_snoc (c : List Nat) (x : Nat) : lastN (c ++ [x]) = x := by simp [lastN]
def lvAdd (ch : List Nat) (more : List (List Nat)) (x : Nat) : List (List Nat) := if x ∉ ch ∧ x ∉ more.map lastN then more ++ [ch ++ [x]] else more
def lvCh (on : Gr) (more : List (List Nat)) (ch : List Nat) : List (List Nat) := (nb on (lastN ch)).foldl (lvAdd ch) more
def lvNext (on : Gr) (lv : List (List Nat)) : List (List Nat) := lv.foldl (lvCh on) []
theorem lexle_snoc_ne : ∀ {c d : List Nat} (x y : Nat), c.length = d.length → lexle c d → c ≠ d → lexle (c ++ [x]) (d ++ [y])
  | [], [], _, _, _, _, h => absurd rfl h
  | [], _ :: _, _, _, h, _, _ => by simp at h
  | _ :: _, [], _, _, h, _, _ => by simp at h
  | a :: r, b :: s, x, y, hl, h, hne => by
    rcases h with h | ⟨e, h⟩
    · exact .inl h
    · subst e
      exact .inr ⟨rfl, lexle_snoc_ne x y (by simpa using hl) h fun z => hne (by rw [z])⟩
theorem lexle_snoc_eq : ∀ (c : List Nat) {x y : Nat}, x ≤ y → lexle (c ++ [x]) (c ++ [y])
  | [], x, y, h => by
    by_cases e : x = y
    · exact .inr ⟨e, trivial⟩
    · exact .inl (by omega)
  | a :: r, x, y, h => .inr ⟨rfl, lexle_snoc_eq r h⟩
theorem lexle_snoc {c d : List Nat} {x y : Nat} (hl : c.length = d.length) (h : lexle c d) (hxy : x ≤ y) : lexle (c ++ [x]) (d ++ [y]) := by
  by_cases e : c = d
  · subst e
    exact lexle_snoc_eq c hxy
  · exact lexle_snoc_ne x y hl h e
theorem lexle_trans : ∀ {a b c : List Nat}, lexle a b → lexle b c → lexle a c
  | [], _, _, _, _ => trivial
  | _ :: _, [], _, h, _ => h.elim
  | _ :: _, _ :: _, [], _, h => h.elim
  | x :: a, y :: b, z :: c, h, h' => by
    rcases h with h | ⟨e, h⟩
    · rcases h' with h' | ⟨e', _⟩
      · exact .inl (by omega)
      · exact .inl (by omega)
    · subst e
      rcases h' with h' | ⟨e', h'⟩
      · exact .inl h'
      · exact .inr ⟨e', lexle_trans h h'⟩
def AscG (on : Gr) : Prop := ∀ x, (nb on x).Pairwise (· < ·)
/-- the next level so far: from the chains dn, and from ch by the cards pc -/
structure Jx (on : Gr) (n : Nat) (dn : List (List Nat)) (ch pc : List Nat) (more : List (List Nat)) : Prop where
  src : ∀ m ∈ more, (∃ c ∈ dn, ∃ x, x ∈ nb on (lastN c) ∧ x ∉ c ∧ m = c ++ [x]) ∨ ∃ x ∈ pc, x ∉ ch ∧ m = ch ++ [x]
  nd : (more.map lastN).Nodup
  st : more.Pairwise lexle
  all : ∀ c ∈ dn, ∀ x ∈ nb on (lastN c), x ∉ c → ∃ m ∈ more, lastN m = x ∧ lexle m (c ++ [x])
  cur : ∀ x ∈ pc, x ∉ ch → ∃ m ∈ more, lastN m = x ∧ lexle m (ch ++ [x])
theorem Jx.step {on : Gr} {n : Nat} {dn : List (List Nat)} {ch pc : List Nat} {more : List (List Nat)} (h : Jx on n dn ch pc more) (hd : ∀ c ∈ dn, c.length = n ∧ lexle c ch ∧ c ≠ ch) (hc : ch.length = n) {x : Nat} (hx : ∀ y ∈ pc, y < x) :
    Jx on n dn ch (pc ++ [x]) (lvAdd ch more x) := by
  have up : ∀ m ∈ more, lexle m (ch ++ [x]) := fun m hm => by
    rcases h.src m hm with ⟨c, hcd, y, _, _, rfl⟩ | ⟨y, hy, _, rfl⟩
    · obtain ⟨h1, h2, h3⟩ := hd c hcd
      exact lexle_snoc_ne y x (by omega) h2 h3
    · exact lexle_snoc_eq ch (by have := hx y hy; omega)
  unfold lvAdd
  split
  · rename_i hin
    refine ⟨fun m hm => ?_, ?_, ?_, fun c hcd y hy hyc => ?_, fun y hy hyc => ?_⟩
    · rcases List.mem_append.mp hm with q | q
      · rcases h.src m q with z | ⟨y, hy, hyc, e⟩
        · exact .inl z
        · exact .inr ⟨y, List.mem_append_left _ hy, hyc, e⟩
      · simp at q
        exact .inr ⟨x, by simp, hin.1, q⟩
    · rw [List.map_append, List.nodup_append]
      refine ⟨h.nd, by simp, fun a ha b hb z => ?_⟩
      simp only [List.map_cons, List.map_nil, List.mem_singleton, lastN_snoc] at hb
      rw [z, hb] at ha
      exact hin.2 ha
    · rw [List.pairwise_append]
      refine ⟨h.st, by simp, fun a ha b hb => ?_⟩
      simp at hb
      rw [hb]
      exact up a ha
    · obtain ⟨m, m1, m2, m3⟩ := h.all c hcd y hy hyc
      exact ⟨m, List.mem_append_left _ m1, m2, m3⟩
    · rcases List.mem_append.mp hy with q | q
      · obtain ⟨m, m1, m2, m3⟩ := h.cur y q hyc
        exact ⟨m, List.mem_append_left _ m1, m2, m3⟩
      · simp at q
        subst q
        exact ⟨ch ++ [y], by simp, lastN_snoc _ _, lexle_refl _⟩
  · rename_i hin
    refine ⟨fun m hm => ?_, h.nd, h.st, h.all, fun y hy hyc => ?_⟩
    · rcases h.src m hm with z | ⟨y, hy, hyc, e⟩
      · exact .inl z
      · exact .inr ⟨y, List.mem_append_left _ hy, hyc, e⟩
    · rcases List.mem_append.mp hy with q | q
      · exact h.cur y q hyc
      · simp at q
        subst q
        have : y ∈ more.map lastN := Classical.byContradiction fun z => hin ⟨hyc, z⟩
        obtain ⟨m, m1, m2⟩ := List.mem_map.mp this
        exact ⟨m, m1, m2, up m m1⟩
theorem Jx.cards {on : Gr} {n : Nat} {dn : List (List Nat)} {ch : List Nat} (hd : ∀ c ∈ dn, c.length = n ∧ lexle c ch ∧ c ≠ ch) (hc : ch.length = n) : ∀ (l pc : List Nat) (more : List (List Nat)), (pc ++ l).Pairwise (· < ·) → Jx on n dn ch pc more → Jx on n dn ch (pc ++ l) (l.foldl (lvAdd ch) more)
  | [], pc, more, _, h => by simpa using h
  | x :: r, pc, more, hp, h => by
    have hx : ∀ y ∈ pc, y < x := fun y hy => (List.pairwise_append.mp hp).2.2 y hy x (by simp)
    have := Jx.cards hd hc r (pc ++ [x]) (lvAdd ch more x) (by simpa using hp) (h.step hd hc hx)
    simpa using this
theorem Jx.next {on : Gr} {n : Nat} {dn : List (List Nat)} {ch : List Nat} {more : List (List Nat)} (h : Jx on n dn ch (nb on (lastN ch)) more) (ch' : List Nat) : Jx on n (dn ++ [ch]) ch' [] more := by
  refine ⟨fun m hm => ?_, h.nd, h.st, fun c hcd y hy hyc => ?_, by simp⟩
  · rcases h.src m hm with ⟨c, hc, z⟩ | ⟨x, hx, hxc, e⟩
    · exact .inl ⟨c, List.mem_append_left _ hc, z⟩
    · exact .inl ⟨ch, by simp, x, hx, hxc, e⟩
  · rcases List.mem_append.mp hcd with q | q
    · exact h.all c q y hy hyc
    · simp at q
      subst q
      exact h.cur y hy hyc
/-- a level -/
structure LvOk (on : Gr) (a : Nat) (t : Nat) (lv : List (List Nat)) : Prop where
  wk : ∀ ch ∈ lv, Walk on a (lastN ch) ch ∧ ch.length = t + 1
  nd : (lv.map lastN).Nodup
  st : lv.Pairwise lexle
  sp : ∀ p b, Walk on a b p → p.length = t + 1 → (∀ q, Walk on a b q → t + 1 ≤ q.length) → ∃ ch ∈ lv, lastN ch = b ∧ lexle ch p
theorem lv_fold {on : Gr} (asc : AscG on) {a t : Nat} : ∀ (l dn : List (List Nat)) (more : List (List Nat)), LvOk on a t (dn ++ l) → (∀ ch', Jx on (t + 1) dn ch' [] more) → ∀ ch', Jx on (t + 1) (dn ++ l) ch' [] (l.foldl (lvCh on) more)
  | [], dn, more, _, h => by simpa using h
  | ch :: r, dn, more, ok, h => by
    have hd : ∀ c ∈ dn, c.length = t + 1 ∧ lexle c ch ∧ c ≠ ch := fun c hc => by
      refine ⟨(ok.wk c (List.mem_append_left _ hc)).2, (List.pairwise_append.mp ok.st).2.2 c hc ch (by simp), fun z => ?_⟩
      have := ok.nd
      rw [List.map_append, List.nodup_append] at this
      exact this.2.2 (lastN c) (List.mem_map.mpr ⟨c, hc, rfl⟩) (lastN ch) (by simp) (by rw [z])
    have hc : ch.length = t + 1 := (ok.wk ch (by simp)).2
    have h1 := Jx.cards hd hc (nb on (lastN ch)) [] more (by simpa using asc _) (h ch)
    have := lv_fold asc r (dn ++ [ch]) (lvCh on more ch) (by simpa using ok) fun ch' => Jx.next (more := lvCh on more ch) (by rw [List.nil_append] at h1; exact h1) ch'
    simpa using this
theorem Walk.dropLast {on : Gr} {a b : Nat} {p : List Nat} (h : Walk on a b p) (hl : 2 ≤ p.length) : ∃ q c, p = q ++ [b] ∧ Walk on a c q ∧ b ∈ nb on c := by
  induction h with
  | one => simp at hl
  | @cons a b c p hb w ih =>
    cases w with
    | one => exact ⟨[a], a, rfl, .one a, hb⟩
    | @cons _ d _ p' hd w' =>
      obtain ⟨q, e, h1, h2, h3⟩ := ih (by obtain ⟨r, rfl⟩ := w'.hd; simp)
      exact ⟨a :: q, e, by rw [h1]; rfl, .cons hb h2, h3⟩
theorem Walk.lastN {on : Gr} {a b : Nat} {p : List Nat} (h : Walk on a b p) : PL.lastN p = b := by
  unfold PL.lastN
  rw [h.last]
  rfl
/-- a card of a shortest walk's beginning is nearer -/
theorem Walk.prefix {on : Gr} {a b : Nat} {p : List Nat} (h : Walk on a b p) {x : Nat} (hx : x ∈ p) : ∃ q, Walk on a x q ∧ q.length ≤ p.length := by
  induction h with
  | one a =>
    simp at hx
    subst hx
    exact ⟨[x], .one x, Nat.le_refl _⟩
  | @cons a b c p hb w ih =>
    rcases List.mem_cons.mp hx with q | q
    · subst q
      exact ⟨[x], .one x, by simp⟩
    · obtain ⟨r, r1, r2⟩ := ih q
      exact ⟨a :: r, .cons hb r1, by simpa using r2⟩
theorem lv_next {on : Gr} (asc : AscG on) {a t : Nat} {lv : List (List Nat)} (ok : LvOk on a t lv) : LvOk on a (t + 1) (lvNext on lv) := by
  have J := lv_fold asc lv [] [] (by simpa using ok) (fun ch' => ⟨by simp, by simp, by simp, by simp, by simp⟩) []
  rw [List.nil_append] at J
  refine ⟨fun m hm => ?_, J.nd, J.st, fun p b hp hl hs => ?_⟩
  · rcases J.src m hm with ⟨c, hc, x, hx, _, rfl⟩ | ⟨x, hx, _⟩
    · obtain ⟨w, l⟩ := ok.wk c hc
      rw [lastN_snoc]
      exact ⟨w.snoc hx, by simp [l]⟩
    · simp at hx
  · obtain ⟨q, c, rfl, hq, hb⟩ := hp.dropLast (by omega)
    have hql : q.length = t + 1 := by simpa using hl
    obtain ⟨e, e1, e2, e3⟩ := ok.sp q c hq hql fun q' hq' => by
      have := hs _ (hq'.snoc hb)
      simpa using this
    obtain ⟨we, le⟩ := ok.wk e e1
    rw [e2] at we
    have hbe : b ∉ e := fun z => by
      obtain ⟨r, r1, r2⟩ := we.prefix z
      have := hs r r1
      omega
    obtain ⟨m, m1, m2, m3⟩ := J.all e e1 b (by rw [e2]; exact hb) hbe
    exact ⟨m, m1, m2, lexle_trans m3 (lexle_snoc (by omega) e3 (Nat.le_refl _))⟩
theorem lv_zero (on : Gr) (a : Nat) : LvOk on a 0 [[a]] := by
  refine ⟨fun ch hc => ?_, by simp, by simp, fun p b hp hl _ => ?_⟩
  · simp at hc
    subst hc
    exact ⟨.one a, rfl⟩
  · cases hp with
    | one => exact ⟨[a], by simp, rfl, lexle_refl _⟩
    | cons hb w =>
      obtain ⟨r, rfl⟩ := w.hd
      simp at hl
/-! ### there is a shortest one -/
theorem least' {P : Nat → Prop} : ∀ n, P n → ∃ k, P k ∧ ∀ j, P j → k ≤ j := by
  intro n
  induction n using Nat.strongRecOn with
  | ind n ih =>
    intro hn
    by_cases h : ∃ j, j < n ∧ P j
    · obtain ⟨j, hj, hp⟩ := h
      exact ih j hj hp
    · exact ⟨n, hn, fun j hj => Classical.byContradiction fun z => h ⟨j, by omega, hj⟩⟩
theorem Dst.gd {on : Gr} (sy : SymG on) {c : Nat} {s : Sts} (h : Dst on c s) : ∀ (d x : Nat), (x, d) ∈ s → ∃ p, Gd on s c x p
  | 0, x, hx => by
    rcases h.par _ hx with z | ⟨q, _, q2, _⟩
    · have z : x = c := z
      subst z
      exact ⟨_, .one⟩
    · simp at q2
  | d + 1, x, hx => by
    by_cases hxc : x = c
    · subst hxc
      exact ⟨_, .one⟩
    · rcases h.par _ hx with z | ⟨q, q1, q2, q3⟩
      · exact absurd z hxc
      · have hq : q = (q.1, d) := Prod.ext rfl (by show q.2 = d; simp at q2; omega)
        obtain ⟨y, ⟨y1, y2⟩, y3⟩ := least' (P := fun y => y ∈ nb on x ∧ (y, d) ∈ s) q.1 ⟨sy _ _ q3, by rw [hq] at q1; exact q1⟩
        obtain ⟨p, hp⟩ := h.gd sy d y y2
        exact ⟨x :: p, .cons hxc hx y2 y1 (fun z hz hzs => y3 z ⟨hz, hzs⟩) hp⟩
theorem exists_sp {on : Gr} (ok : GrOk on) (sy : SymG on) {a c : Nat} (hc : c < on.length) (hr : Reach on c a) : ∃ p, LexSP on a c p ∧ p.length ≤ on.length := by
  have D := ways_dst ok hc
  obtain ⟨q, hq, rfl⟩ := List.mem_map.mp (D.reach hr)
  obtain ⟨p, hp⟩ := D.gd sy q.2 q.1 hq
  obtain ⟨d, h1, h2, _, _⟩ := hp.lex sy D
  have := congrArg Prod.snd (D.fn h1 hq rfl)
  simp only at this
  exact ⟨p, hp.sp sy D, by have := D.bd hq; omega⟩
/-- the level of the shortest one has just one chain to c, and it is the least -/
theorem lv_hit {on : Gr} {a c t : Nat} {lv : List (List Nat)} (ok : LvOk on a t lv) {p : List Nat} (hp : LexSP on a c p) (hl : p.length = t + 1) : ∃ e, lv.filter (fun ch => decide (lastN ch = c)) = [e] ∧ LexSP on a c e := by
  have hmin : ∀ q, Walk on a c q → t + 1 ≤ q.length := fun q hq => by have := hp.le q hq; omega
  obtain ⟨e, e1, e2, _⟩ := ok.sp p c hp.w hl hmin
  have huniq : ∀ ch ∈ lv, lastN ch = c → ch = e := fun ch hch hlc => by
    have key : ∀ l : List (List Nat), (l.map lastN).Nodup → ch ∈ l → e ∈ l → ch = e := fun l => by
      induction l with
      | nil => simp
      | cons z r ih =>
        intro hn h1 h2
        rw [List.map_cons, List.nodup_cons] at hn
        rcases List.mem_cons.mp h1 with q | q
        · rcases List.mem_cons.mp h2 with q' | q'
          · rw [q, q']
          · exact absurd (List.mem_map.mpr ⟨e, q', by rw [e2, ← q, hlc]⟩) hn.1
        · rcases List.mem_cons.mp h2 with q' | q'
          · exact absurd (List.mem_map.mpr ⟨ch, q, by rw [hlc, ← q', e2]⟩) hn.1
          · exact ih hn.2 q q'
    exact key lv ok.nd hch e1
  refine ⟨e, ?_, ?_⟩
  · have h1 : e ∈ lv.filter fun ch => decide (lastN ch = c) := List.mem_filter.mpr ⟨e1, by simpa using e2⟩
    have h2 : ∀ ch ∈ lv.filter (fun ch => decide (lastN ch = c)), ch = e := fun ch hch => by
      obtain ⟨z1, z2⟩ := List.mem_filter.mp hch
      exact huniq ch z1 (by simpa using z2)
    have h3 : ((lv.filter fun ch => decide (lastN ch = c)).map lastN).Nodup := ok.nd.sublist (List.filter_sublist.map _)
    generalize lv.filter (fun ch => decide (lastN ch = c)) = l at *
    cases l with
    | nil => simp at h1
    | cons z r =>
      have hz := h2 z (by simp)
      cases r with
      | nil => rw [hz]
      | cons y r =>
        have hy := h2 y (by simp)
        rw [hz, hy] at h3
        simp at h3
  · obtain ⟨w, wl⟩ := ok.wk e e1
    rw [e2] at w
    refine ⟨w, fun q hq => by have := hmin q hq; omega, fun q hq hql => ?_⟩
    obtain ⟨ch, c1, c2, c3⟩ := ok.sp q c hq (by omega) hmin
    rw [huniq ch c1 c2] at c3
    exact c3
theorem lv_miss {on : Gr} {a c t : Nat} {lv : List (List Nat)} (ok : LvOk on a t lv) {p : List Nat} (hp : LexSP on a c p) (hl : t + 1 < p.length) : lv.filter (fun ch => decide (lastN ch = c)) = [] := by
  rw [List.filter_eq_nil_iff]
  intro ch hch z
  obtain ⟨w, wl⟩ := ok.wk ch hch
  rw [show lastN ch = c by simpa using z] at w
  have := hp.le ch w
  omega
end PL

namespace PL
open PySem PySem.Spec PyProof.Rows L2
local macro_rules | `(tactic| ac_rfl) => `(tactic| ((conv => whnf); repeat ((first | refine Cif.yes ?_ | refine Cif.no ?_ | (refine And.intro ?_ ?_; · first | (show _ ≤ (_ : Int); omega) | (show _ < (_ : Int); omega) | assumption | exact trivial | exact rfl | (refine small ?_; first | omega | (simp only [List.length_map, List.length_cons, List.length_nil, List.length_append]; omega)) | (refine ltsmall ?_; first | omega | (simp only [List.length_map, List.length_cons, List.length_nil, List.length_append]; omega)) | (refine cdiv ?_ ?_ <;> omega) | (refine cmulR ?_ ?_ <;> omega) | (refine cmulL ?_ ?_ <;> omega) | (refine ⟨?_, ?_, ?_, ?_⟩ <;> omega))); (conv => whnf))))
local macro_rules | `(tactic| exists $e) => `(tactic| first | exact $e | exact And.right $e | exact And.right (And.right $e) | exact And.right (And.right (And.right $e)))
theorem ones_asc (cs : List Card) (h : List Str) (ks : List (List Str)) : AscG (onesL cs h ks) := fun k => by
  unfold nb onesL
  by_cases hk : k < cs.length
  · have e : ((List.range cs.length).map (rowL cs h ks))[k]? = some (rowL cs h ks k) := by
      rw [List.getElem?_map, List.getElem?_range hk]
      rfl
    rw [e]
    exact List.pairwise_lt_range.sublist List.filter_sublist
  · have e : ((List.range cs.length).map (rowL cs h ks))[k]? = none := List.getElem?_eq_none (by simp; omega)
    rw [e]
    simp
theorem alike_nats : ∀ l : List Nat, PySem.W.alikeAll (l.map natD) (l.map natD) = true
  | [] => rfl
  | a :: r => by
    have ih := alike_nats r
    show (PySem.W.alike (natD a) (natD a) && PySem.W.alikeAll (r.map natD) (r.map natD)) = true
    rw [ih]
    rfl
theorem alike_natsD (l : List Nat) : PySem.W.alike (natsD l) (natsD l) = true := alike_nats l
-- _law_group_paper(cards, hard, keys) slots: 0=cards 1=hard 2=keys 3=ones 4=groups 5=one* 6=other* 7=both 8=level 9=size 10=done 11=kinds* 12=more 13=seen 14=chain 15=card 16=group 17=kind
def q__law_group_paper : QS :=
  (qSeq (qAsg (qCall 3 P__law_ones (qCons (qVar 0) (qCons (qVar 1) (qCons (qVar 2) qNil)))) (qgN 3))
  (qFrz 3 (qSeq (qAsg (qCall 1 P__law_groups (qCons (qVar 3) qNil)) (qgN 4))
  (qFrz 4 (qSeq (qFor (qiR1 (qCons (qUn opLen (qVar 0)) qNil)) (qgN 5)
   (qFor (qiR2 (qCons (qOp opAdd (qVar 5) (qC (.int 1))) (qCons (qUn opLen (qVar 0)) qNil))) (qgN 6)
    (qSeq (qAsg (qLc [16] (qiL (qVar 4)) (qgN 16) (qAnd (qB (qOp (opInW id) (qVar 5) (qVar 16))) (qB (qOp (opInW id) (qVar 6) (qVar 16)))) (qVar 16)) (qgN 7))
    (qFrz 7 (qIfS (qAnd (qB (qOp opGt (qUn opLen (qVar 7)) (qC (.int 0)))) (qB (qCall 4 P__law_is_apart (qCons (qVar 0) (qCons (qVar 1) (qCons (qVar 5) (qCons (qVar 6) qNil)))))))
     (qSeq (qAsg (qLst (qCons (qLst (qCons (qVar 5) qNil)) qNil)) (qgN 8))
     (qFrz 8 (qFor (qiR1 (qCons (qUn opLen (qVar 0)) qNil)) (qgN 9)
      (qSeq (qAsg (qLc [14] (qiL (qVar 8)) (qgN 14) (qB (qOp opEq (qOp opIx (qVar 14) (qOp opSub (qUn opLen (qVar 14)) (qC (.int 1)))) (qVar 6))) (qVar 14)) (qgN 10))
      (qFrz 10 (qSeq (qIfS (qB (qOp opGt (qUn opLen (qVar 10)) (qC (.int 0))))
       (qSeq (qAsg (qCall 2 P__law_differing (qCons (qOp opIx (qVar 0) (qVar 5)) (qCons (qOp opIx (qVar 0) (qVar 6)) qNil))) (qgN 11))
       (qFrz 11 (qRet (qTup (qCons (qC (.str "conflict")) (qCons (qUn opMin1 (qVar 10)) (qCons (qOp opIx (qLc [17] (qiL (qVar 1)) (qgN 17) (qB (qOp (opInW id) (qVar 17) (qVar 11))) (qVar 17)) (qC (.int 0))) qNil)))))))
       qNext)
      (qSeq (qAsg (qLst qNil) (qgN 12))
      (qSeq (qAsg (qLst qNil) (qgN 13))
      (qSeq (qFor (qiL (qVar 8)) (qgN 14)
       (qFor (qiL (qOp opIx (qVar 3) (qOp opIx (qVar 14) (qOp opSub (qUn opLen (qVar 14)) (qC (.int 1)))))) (qgN 15)
        (qIfS (qAnd (qB (qOp (opInW not) (qVar 15) (qVar 14))) (qB (qOp (opInW not) (qVar 15) (qVar 13))))
         (qSeq (qDrop (qApp 12 (qOp opAdd (qVar 14) (qLst (qCons (qVar 15) qNil)))))
         (qDrop (qApp 13 (qVar 15))))
         qNext)))
      (qAsg (qVar 12) (qgN 8)))))))))))
     qNext)))))
  (qRet (qTup (qCons (qC (.str "groups")) (qCons (qVar 4) qNil)))))))))
def P__law_group_paper : PD := fun ds R => ∃ (cs : List Card) (h : List Str) (ks : List (List Str)), ds = [cardsD cs, txtsD h, kysD ks] ∧ CsOk cs ∧ KsOk ks ∧ h.length ≤ 100 ∧ ∀ d, VerdD cs h ks d → R (.sh d)
theorem pure__law_group_paper : ∀ ds R, ds.length = 3 → P__law_group_paper ds R → q__law_group_paper (endsOf R) (startEv 18 ds) := by
  rintro ds R - ⟨cs, hd, ks, rfl, hc, hk, hhl, h⟩
  have og := ones_gr hc hd ks
  have os := ones_sym hc hd ks
  have oa := ones_asc cs hd ks
  have gg := groups_gp hc hd ks
  have onl := ones_len cs hd ks
  have hn := hc.le
  have hcl : (cs.map cardD).length = cs.length := List.length_map _
  have hgl := gg.le
  have hg1 := gg.one hn
  have hconf := fun p => conf_some (ks := ks) hc (h := hd) (p := p)
  unfold VerdD at h
  have seek : ∀ i j : Nat, sameG (groupsL (onesL cs hd ks)) i j = decide (0 < ((groupsL (onesL cs hd ks)).filter fun g => decide (i ∈ g) && decide (j ∈ g)).length) := fun i j => by
    unfold sameG
    rw [← any_fil]
    exact decide_eq_decide.mpr (by omega)
  ac_rfl
  refine ⟨cs, hd, ks, rfl, hc, hk, ?_⟩
  ac_rfl
  refine ⟨_, rfl, og, ?_⟩
  generalize hON : onesL cs hd ks = on at *
  generalize groupsL on = gs at *
  ac_rfl
  rw [hcl]
  refine forGo_ok (fun i : Nat => .int (i : Int)) (fun r Γ => ∃ (k : Nat) (x5 x6 x7 : Sl), Γ = [.sh (cardsD cs), .sh (txtsD hd), .sh (kysD ks), .sh (onD on), .sh (grsD gs), x5, x6, x7, .un, .un, .un, .un, .un, .un, .un, .un, .un, .un] ∧ r = (List.range cs.length).drop k ∧ confL cs hd gs = (pairsF cs.length r).find? (confB cs hd gs)) ?_ ?_ (List.range cs.length) _ ⟨0, _, _, _, rfl, rfl, rfl⟩
  · rintro Γ ⟨k, x5, x6, x7, rfl, hr, ho⟩
    have ho : confL cs hd gs = none := ho
    rw [ho] at h
    have fin := h _ rfl
    ac_rfl
    exact fin
  · rintro k r Γ K ⟨k', x5, x6, x7, rfl, hr, ho⟩ hK
    obtain ⟨hk1, rfl, rfl⟩ := drop_cons hr.symm
    have hpc : pairsF cs.length (k :: (List.range cs.length).drop (k + 1)) = (((List.range cs.length).drop (k + 1)).map fun j => (k, j)) ++ pairsF cs.length ((List.range cs.length).drop (k + 1)) := by
      unfold pairsF
      rw [List.flatMap_cons]
    rw [hpc] at ho
    ac_rfl
    rw [hcl, rg2_map]
    refine forGo_ok (fun i : Nat => .int (i : Int)) (fun r2 Γ => ∃ (x6 x7 : Sl), Γ = [.sh (cardsD cs), .sh (txtsD hd), .sh (kysD ks), .sh (onD on), .sh (grsD gs), .sh (.int (k : Nat)), x6, x7, .un, .un, .un, .un, .un, .un, .un, .un, .un, .un] ∧ (∀ j ∈ r2, j < cs.length) ∧ confL cs hd gs = ((r2.map fun j => (k, j)) ++ pairsF cs.length ((List.range cs.length).drop (k + 1))).find? (confB cs hd gs)) ?_ ?_ ((List.range cs.length).drop (k + 1)) _ ⟨_, _, rfl, fun j hj => List.mem_range.mp (List.mem_of_mem_drop hj), ho⟩
    · rintro Γ ⟨x6, x7, rfl, _, ho⟩
      exact hK _ ⟨k + 1, _, _, _, rfl, rfl, ho⟩
    · rintro j r2 Γ K2 ⟨x6, x7, rfl, hlt, ho⟩ hK2
      have hj := hlt j (by simp)
      have hlt2 : ∀ z ∈ r2, z < cs.length := fun z hz => hlt z (List.mem_cons_of_mem _ hz)
      rw [List.map_cons, List.cons_append, List.find?_cons] at ho
      have next := fun (x6 x7 : Sl) (z : confB cs hd gs (k, j) = false) => hK2 [.sh (cardsD cs), .sh (txtsD hd), .sh (kysD ks), .sh (onD on), .sh (grsD gs), .sh (.int (k : Nat)), x6, x7, .un, .un, .un, .un, .un, .un, .un, .un, .un, .un] ⟨_, _, rfl, hlt2, by rw [z] at ho; exact ho⟩
      have hit : confB cs hd gs (k, j) = true → ∀ ch kk, LexSP on k j ch → (hardL (cdAt cs k) (cdAt cs j) hd)[0]? = some kk → R (.sh (.tuple [.str (Str.ofString "conflict"), natsD ch, .str kk])) := fun z ch kk h1 h2 => by
        rw [z] at ho
        rw [ho] at h
        exact h _ ⟨ch, kk, h1, h2, rfl⟩
      have facts : confB cs hd gs (k, j) = true → Reach on k j ∧ apB (cdAt cs k) (cdAt cs j) hd = true := fun z => by
        rw [z] at ho
        exact (hconf _ ho).2.2.2
      have hsk := seek k j
      clear hK hK2 h ho hconf
      unfold confB at next hit facts
      simp only at next hit facts
      ac_rfl
      refine lc0_fil (vs := [16]) natsD (fun g => decide (k ∈ g) && decide (j ∈ g)) natsD gs (fun g hg acc Kc ha hK1 hK2 => ?_) (small (by omega)) ?_
      · ac_rfl
        refine ⟨by rw [flat_nats]; rfl, ?_⟩
        rw [in_nats']
        by_cases z : k ∈ g
        · rw [decide_eq_true z] at hK1 hK2 ⊢
          rw [Bool.true_and] at hK1 hK2
          ac_rfl
          refine ⟨by rw [flat_nats]; rfl, ?_⟩
          rw [in_nats']
          ac_rfl
          refine ⟨fun hz => ?_, fun hz => ?_⟩
          · ac_rfl
            exact hK1 hz
          · exact hK2 hz
        · rw [decide_eq_false z] at hK2 ⊢
          ac_rfl
          exact hK2 rfl
      · have hsI : decide ((0 : Int) < ((((gs.filter fun g => decide (k ∈ g) && decide (j ∈ g)).map natsD).length : Nat) : Int)) = sameG gs k j := by
          rw [hsk, List.length_map]
          exact decide_eq_decide.mpr (by omega)
        ac_rfl
        cases hs : sameG gs k j with
        | false =>
          rw [hs] at next hsI
          simp only [Bool.false_and] at next
          refine Cif.ff hsI ?_
          ac_rfl
          exact next _ _ trivial
        | true =>
          rw [hs] at next hsI hit facts
          simp only [Bool.true_and] at next hit facts
          refine Cif.tt hsI ?_
          ac_rfl
          refine ⟨cs, hd, k, j, rfl, hc, hk1, hj, ?_⟩
          cases hap : apB (cdAt cs k) (cdAt cs j) hd with
          | false =>
            ac_rfl
            exact next _ _ hap
          | true =>
            have hit := hit hap
            obtain ⟨hre, _⟩ := facts hap
            obtain ⟨sp, hsp, hspl⟩ := exists_sp og os (a := k) (c := j) (by rw [onl]; exact hj) (hre.symm os)
            have hspos : 1 ≤ sp.length := by
              obtain ⟨r, rfl⟩ := hsp.w.hd
              simp
            clear next facts
            rw [onl] at hspl
            ac_rfl
            rw [hcl]
            refine forGo_ok (fun i : Nat => .int (i : Int)) (fun r3 Γ => ∃ (t : Nat) (lv : List (List Nat)) (x7 x9 x10 x12 x13 x14 x15 : Sl), Γ = [.sh (cardsD cs), .sh (txtsD hd), .sh (kysD ks), .sh (onD on), .sh (grsD gs), .sh (.int (k : Nat)), .sh (.int (j : Nat)), x7, .sh (.list (lv.map natsD)), x9, x10, .un, x12, x13, x14, x15, .un, .un] ∧ NoO x14 ∧ r3 = (List.range cs.length).drop t ∧ LvOk on k t lv ∧ t + 1 ≤ sp.length) ?_ ?_ (List.range cs.length) _ ⟨0, [[k]], _, _, _, _, _, _, _, rfl, .inl rfl, rfl, lv_zero on k, hspos⟩
            · rintro Γ ⟨t, lv, x7, x9, x10, x12, x13, x14, x15, rfl, h14, hr3, hlv, htl⟩
              exfalso
              have := congrArg List.length hr3
              simp at this
              omega
            · rintro t r3 Γ K3 ⟨t', lv, x7, x9, x10, x12, x13, x14, x15, rfl, h14, hr3, hlv, htl⟩ hK3
              obtain ⟨ht1, rfl, rfl⟩ := drop_cons hr3.symm
              have hlvl : lv.length ≤ 12 := by
                have := range_le hlv.nd (n := on.length) fun x hx => by
                  obtain ⟨ch, hch, rfl⟩ := List.mem_map.mp hx
                  obtain ⟨w, _⟩ := hlv.wk ch hch
                  exact w.lt og (by rw [onl]; exact hk1) _ (List.mem_of_getElem? w.last)
                rw [List.length_map] at this
                omega
              have elast : ∀ ch ∈ lv, ixD (ch.map natD) (((ch.map natD).length : Int) - 1) = some (natD (lastN ch)) := fun ch hch => by
                obtain ⟨w, wl⟩ := hlv.wk ch hch
                rw [List.length_map, show ((ch.length : Nat) : Int) - 1 = ((ch.length - 1 : Nat) : Int) by omega, ixD_map natD w.last]
              ac_rfl
              refine ⟨by rcases h14 with rfl | ⟨d, rfl⟩ <;> rfl, ?_⟩
              refine lc0_fil (vs := [14]) natsD (fun ch => decide (lastN ch = j)) natsD lv (fun ch hch acc Kc ha hK1 hK2 => ?_) (small (by omega)) ?_
              · ac_rfl
                rw [elast ch hch]
                ac_rfl
                rw [show PyData.eqv (natD (lastN ch)) (.int (j : Int)) = decide (lastN ch = j) from eqv_natD _ _]
                refine ⟨fun hz => ?_, fun hz => ?_⟩
                · ac_rfl
                  exact hK1 hz
                · exact hK2 hz
              · by_cases htl2 : sp.length = t + 1
                · obtain ⟨e, he, hesp⟩ := lv_hit hlv hsp htl2
                  rw [he]
                  obtain ⟨kk, hkk⟩ := hard_some hap
                  have fin := hit e kk hesp hkk
                  have hdl := diL_len (b := cdAt cs j) (hc.at hk1)
                  clear hK3 hit
                  ac_rfl
                  rw [cd_ix hk1]
                  ac_rfl
                  rw [cd_ix hj]
                  ac_rfl
                  refine ⟨_, _, rfl, hc.at hk1, hc.at hj, ?_⟩
                  ac_rfl
                  refine ⟨flat_nats e, alike_natsD e, (fun z => nomatch z), ?_⟩
                  ac_rfl
                  refine lc0_fil (vs := [17]) PyData.str (fun q => decide (q ∈ diL (cdAt cs k) (cdAt cs j))) PyData.str hd (fun q hq acc Kc ha hK1 hK2 => ?_) (small (by omega)) ?_
                  · ac_rfl
                    refine ⟨by rw [flat_strs]; rfl, ?_⟩
                    rw [in_strs]
                    ac_rfl
                    refine ⟨fun hz => ?_, fun hz => ?_⟩
                    · ac_rfl
                      exact hK1 hz
                    · exact hK2 hz
                  · ac_rfl
                    rw [show ixD ((hd.filter fun q => decide (q ∈ diL (cdAt cs k) (cdAt cs j))).map PyData.str) 0 = some (.str kk) from ixD_map PyData.str hkk]
                    ac_rfl
                    exact fin
                · rw [lv_miss hlv hsp (by omega)]
                  have hnx := lv_next oa hlv
                  have next := fun (x7 x9 x10 x12 x13 x14 x15 : Sl) (h14 : NoO x14) => hK3 [.sh (cardsD cs), .sh (txtsD hd), .sh (kysD ks), .sh (onD on), .sh (grsD gs), .sh (.int (k : Nat)), .sh (.int (j : Nat)), x7, .sh (.list ((lvNext on lv).map natsD)), x9, x10, .un, x12, x13, x14, x15, .un, .un] ⟨t + 1, _, _, _, _, _, _, _, _, rfl, h14, rfl, hnx, by omega⟩
                  clear hK3 hit
                  ac_rfl
                  refine forGo_ok natsD (fun q Γ => ∃ (more : List (List Nat)) (x9 x10 x14 x15 : Sl), Γ = [.sh (cardsD cs), .sh (txtsD hd), .sh (kysD ks), .sh (onD on), .sh (grsD gs), .sh (.int (k : Nat)), .sh (.int (j : Nat)), x7, .sh (.list (lv.map natsD)), x9, x10, .un, .ow (.l (more.map natsD)), .ow (.l ((more.map lastN).map natD)), x14, x15, .un, .un] ∧ NoO x14 ∧ q.foldl (lvCh on) more = lvNext on lv ∧ (∀ ch ∈ q, ch ∈ lv) ∧ (more.map lastN).Nodup ∧ ∀ x ∈ more.map lastN, x < on.length) ?_ ?_ lv _ ⟨[], _, _, _, _, rfl, h14, rfl, fun ch hch => hch, by simp, by simp⟩
                  · rintro Γ ⟨more, x9, x10, x14, x15, rfl, h14, hm, _, _, _⟩
                    have hm : more = lvNext on lv := hm
                    subst hm
                    ac_rfl
                    exact next _ _ _ _ _ _ _ h14
                  · rintro ch q Γ K4 ⟨more, x9, x10, x14, x15, rfl, h14, hm, hq, hnd, hlt3⟩ hK4
                    obtain ⟨w, wl⟩ := hlv.wk ch (hq ch (by simp))
                    have hx := w.lt og (by rw [onl]; exact hk1) _ (List.mem_of_getElem? w.last)
                    have el := elast ch (hq ch (by simp))
                    have hchl : ch.length ≤ 12 := by omega
                    rw [List.foldl_cons] at hm
                    clear next
                    ac_rfl
                    rw [el]
                    ac_rfl
                    rw [show ixD (on.map natsD) ((lastN ch : Nat) : Int) = _ from on_ix hx]
                    ac_rfl
                    refine forGo_ok natD (fun z Γ => ∃ (more : List (List Nat)) (x15 : Sl), Γ = [.sh (cardsD cs), .sh (txtsD hd), .sh (kysD ks), .sh (onD on), .sh (grsD gs), .sh (.int (k : Nat)), .sh (.int (j : Nat)), x7, .sh (.list (lv.map natsD)), x9, x10, .un, .ow (.l (more.map natsD)), .ow (.l ((more.map lastN).map natD)), .sh (natsD ch), x15, .un, .un] ∧ q.foldl (lvCh on) (z.foldl (lvAdd ch) more) = lvNext on lv ∧ (∀ x ∈ z, x < on.length) ∧ (more.map lastN).Nodup ∧ ∀ x ∈ more.map lastN, x < on.length) ?_ ?_ (nb on (lastN ch)) _ ⟨more, _, rfl, hm, og.lt _, hnd, hlt3⟩
                    · rintro Γ ⟨more, x15, rfl, hm, _, hnd, hlt3⟩
                      exact hK4 _ ⟨more, _, _, _, _, rfl, .inr ⟨_, rfl⟩, hm, fun c hc => hq c (List.mem_cons_of_mem _ hc), hnd, hlt3⟩
                    · rintro x z Γ K5 ⟨more, x15, rfl, hm, hz, hnd, hlt3⟩ hK5
                      have hzl : ∀ y ∈ z, y < on.length := fun y hy => hz y (List.mem_cons_of_mem _ hy)
                      have hxl := hz x (by simp)
                      have hml : more.length ≤ 12 := by
                        have := range_le hnd hlt3
                        rw [List.length_map] at this
                        omega
                      rw [List.foldl_cons] at hm
                      unfold lvAdd at hm
                      have e1 : (more.map natsD).length ≤ 12 := by rw [List.length_map]; exact hml
                      have e2 : ((more.map lastN).map natD).length ≤ 12 := by rw [List.length_map, List.length_map]; exact hml
                      have e3 : (ch.map natD).length ≤ 12 := by rw [List.length_map]; exact hchl
                      have stay := fun (z1 : ¬ (x ∉ ch ∧ x ∉ more.map lastN)) (x15 : Sl) => hK5 [.sh (cardsD cs), .sh (txtsD hd), .sh (kysD ks), .sh (onD on), .sh (grsD gs), .sh (.int (k : Nat)), .sh (.int (j : Nat)), x7, .sh (.list (lv.map natsD)), x9, x10, .un, .ow (.l (more.map natsD)), .ow (.l ((more.map lastN).map natD)), .sh (natsD ch), x15, .un, .un] ⟨more, _, rfl, by rw [if_neg z1] at hm; exact hm, hzl, hnd, hlt3⟩
                      have go := fun (z1 : x ∉ ch) (z2 : x ∉ more.map lastN) (x15 : Sl) => hK5 [.sh (cardsD cs), .sh (txtsD hd), .sh (kysD ks), .sh (onD on), .sh (grsD gs), .sh (.int (k : Nat)), .sh (.int (j : Nat)), x7, .sh (.list (lv.map natsD)), x9, x10, .un, .ow (.l (more.map natsD ++ [.list (ch.map natD ++ [natD x])])), .ow (.l ((more.map lastN).map natD ++ [natD x])), .sh (natsD ch), x15, .un, .un] ⟨more ++ [ch ++ [x]], x15, by
                        rw [List.map_append, List.map_append, List.map_append]
                        simp only [List.map_cons, List.map_nil, lastN_snoc, natsD, List.map_append], by rw [if_pos ⟨z1, z2⟩] at hm; exact hm, hzl, by
                        rw [List.map_append, List.nodup_append]
                        refine ⟨hnd, by simp, fun a ha b hb e => ?_⟩
                        simp only [List.map_cons, List.map_nil, List.mem_singleton, lastN_snoc] at hb
                        rw [e, hb] at ha
                        exact z2 ha, fun y hy => by
                        rw [List.map_append] at hy
                        rcases List.mem_append.mp hy with q | q
                        · exact hlt3 y q
                        · simp only [List.map_cons, List.map_nil, List.mem_singleton, lastN_snoc] at q
                          rw [q]
                          exact hxl⟩
                      clear hK5 hK4 hm
                      ac_rfl
                      refine ⟨by rw [flat_nats]; rfl, ?_⟩
                      rw [in_natsD]
                      by_cases z1 : x ∈ ch
                      · rw [decide_eq_true z1]
                        have stay := stay fun y => y.1 z1
                        clear go
                        ac_rfl
                        exact stay _
                      · rw [decide_eq_false z1]
                        have go := go z1
                        ac_rfl
                        refine ⟨by rw [flat_nats]; rfl, ?_⟩
                        rw [in_natsD]
                        by_cases z2 : x ∈ more.map lastN
                        · rw [decide_eq_true z2]
                          have stay := stay fun y => y.2 z2
                          clear go
                          ac_rfl
                          exact stay _
                        · rw [decide_eq_false z2]
                          have go := go z2
                          clear stay
                          ac_rfl
                          exact go _
end PL

namespace PL
open PySem PySem.Spec PyProof.Rows L2
local macro_rules | `(tactic| ac_rfl) => `(tactic| ((conv => whnf); repeat ((first | refine Cif.yes ?_ | refine Cif.no ?_ | (refine And.intro ?_ ?_; · first | (show _ ≤ (_ : Int); omega) | (show _ < (_ : Int); omega) | assumption | exact trivial | exact rfl | (refine small ?_; first | omega | (simp only [List.length_map, List.length_cons, List.length_nil, List.length_append]; omega)) | (refine ltsmall ?_; first | omega | (simp only [List.length_map, List.length_cons, List.length_nil, List.length_append]; omega)) | (refine cdiv ?_ ?_ <;> omega) | (refine cmulR ?_ ?_ <;> omega) | (refine cmulL ?_ ?_ <;> omega) | (refine ⟨?_, ?_, ?_, ?_⟩ <;> omega))); (conv => whnf))))
local macro_rules | `(tactic| exists $e) => `(tactic| first | exact $e | exact And.right $e | exact And.right (And.right $e) | exact And.right (And.right (And.right $e)))
-- _law_cell(script, k) slots: 0=script 1=k
def q__law_cell : QS :=
  (qSeq (qIfS (qB (qOp opLt (qVar 1) (qUn opLen (qVar 0))))
   (qRet (qUn opInt (qOp opIx (qVar 0) (qVar 1))))
   qNext)
  (qRet (qC (.int 0))))
def P__law_cell : PD := fun ds R => ∃ (ns : List Int) (k : Nat), ds = [scrD ns, .int k] ∧ ns.length ≤ 63 ∧ ∀ i, R (.sh (.int i))
theorem pure__law_cell : ∀ ds R, ds.length = 2 → P__law_cell ds R → q__law_cell (endsOf R) (startEv 2 ds) := by
  rintro ds R - ⟨ns, k, rfl, hl, h⟩
  ac_rfl
  refine ⟨fun hz => ?_, fun hz => ?_⟩
  · have hk : k < ns.length := by
      have := of_decide_eq_true hz
      simp at this
      omega
    ac_rfl
    rw [ixD_map _ (List.getElem?_eq_getElem hk)]
    ac_rfl
    exact h _
  · ac_rfl
    exact h _
-- _law_numbers(cell, count, limit) slots: 0=cell 1=count 2=limit 3=found 4=k 5=mixed
def q__law_numbers : QS :=
  (qSeq (qAsg (qLst qNil) (qgN 3))
  (qSeq (qIfS (qB (qOp opGe (qVar 0) (qOp opPow (qC (.int 10)) (qC (.int 18)))))
   (qSeq (qFor (qiR1 (qCons (qVar 1) qNil)) (qgN 4)
    (qSeq (qDrop (qApp 3 (qOp opMod (qUn opInt (qVar 0)) (qVar 2))))
    (qAsg (qOp opFdiv (qUn opInt (qVar 0)) (qVar 2)) (qgN 0))))
   (qRet (qVar 3)))
   qNext)
  (qSeq (qFor (qiR1 (qCons (qVar 1) qNil)) (qgN 4)
   (qSeq (qAsg (qOp opMod (qUn opInt (qOp opAdd (qOp opAdd (qOp opMul (qVar 0) (qC (.int 48271))) (qOp opMul (qVar 4) (qC (.int 69621)))) (qC (.int 7)))) (qC (.int 2147483647))) (qgN 5))
   (qSeq (qAsg (qOp opMod (qUn opInt (qOp opAdd (qOp opAdd (qOp opAdd (qOp opMul (qVar 5) (qVar 5)) (qOp opMul (qVar 5) (qC (.int 40692)))) (qOp opMul (qVar 4) (qC (.int 16807)))) (qC (.int 11)))) (qC (.int 2147483399))) (qgN 5))
   (qDrop (qApp 3 (qOp opMod (qUn opInt (qOp opFdiv (qVar 5) (qC (.int 32)))) (qVar 2)))))))
  (qRet (qVar 3)))))
def P__law_numbers : PD := fun ds R => ∃ (c : Int) (n : Nat) (l : Int), ds = [.int c, .int n, .int l] ∧ n ≤ 1000 ∧ 0 < l ∧ l < 1073741824 ∧ ∀ ns : List Int, ns.length = n → (∀ x ∈ ns, 0 ≤ x ∧ x < l) → R (.ow (.l (ns.map .int)))
theorem pure__law_numbers : ∀ ds R, ds.length = 3 → P__law_numbers ds R → q__law_numbers (endsOf R) (startEv 6 ds) := by
  rintro ds R - ⟨c, n, l, rfl, hn, h0, h1, h⟩
  ac_rfl
  refine ⟨⟨by decide, by decide, by decide⟩, ?_⟩
  ac_rfl
  refine ⟨fun hz => ?_, fun hz => ?_⟩
  · clear hz
    ac_rfl
    refine forGo_ok (fun i : Nat => .int (i : Int)) (fun r Γ => ∃ (c : Int) (ns : List Int) (a b : Sl), Γ = [.sh (.int c), .sh (.int n), .sh (.int l), .ow (.l (ns.map .int)), a, b] ∧ ns.length + r.length = n ∧ ∀ x ∈ ns, 0 ≤ x ∧ x < l) ?_ ?_ _ _ ⟨c, [], _, _, rfl, by simp, by simp⟩
    · rintro Γ ⟨c, ns, a, b, rfl, hl, hr⟩
      ac_rfl
      exact h ns (by simpa using hl) hr
    · rintro i r Γ K ⟨c, ns, a, b, rfl, hl, hr⟩ hK
      simp only [List.length_cons] at hl
      ac_rfl
      exact hK _ ⟨_, ns ++ [c % l], _, _, congrArg (fun z => [_, _, _, Sl.ow (.l z), _, _]) (map_snoc ns _), by simp; omega, app_in hr (Int.emod_nonneg _ (by omega)) (Int.emod_lt_of_pos _ h0)⟩
  · clear hz
    ac_rfl
    refine forGo_ok (fun i : Nat => .int (i : Int)) (fun r Γ => ∃ (ns : List Int) (a b : Sl), Γ = [.sh (.int c), .sh (.int n), .sh (.int l), .ow (.l (ns.map .int)), a, b] ∧ ns.length + r.length = n ∧ ∀ x ∈ ns, 0 ≤ x ∧ x < l) ?_ ?_ _ _ ⟨[], _, _, rfl, by simp, by simp⟩
    · rintro Γ ⟨ns, a, b, rfl, hl, hr⟩
      ac_rfl
      exact h ns (by simpa using hl) hr
    · rintro i r Γ K ⟨ns, a, b, rfl, hl, hr⟩ hK
      simp only [List.length_cons] at hl
      ac_rfl
      exact hK _ ⟨ns ++ [_ % l], _, _, congrArg (fun z => [_, _, _, Sl.ow (.l z), _, _]) (map_snoc ns _), by simp; omega, app_in hr (Int.emod_nonneg _ (by omega)) (Int.emod_lt_of_pos _ h0)⟩

/-- the same of itself -/
def PR__law_same : Nat → PD
  | 0 => fun _ _ => False
  | n + 1 => fun ds R => ∃ d, ds = [d, d] ∧ sameOk (n + 1) d = true ∧ R (.sh (.bool true))
def P__law_same : PD := PR__law_same 4
-- _law_same(told, due) slots: 0=told 1=due 2=k
def q__law_same (PR : PD) : QS :=
  (qSeq (qIfS (qB (qUn (opIsi "list") (qVar 1)))
   (qIfS (qOr (qNot (qB (qUn (opIsi "list") (qVar 0)))) (qB (qOp opNe (qUn opLen (qVar 0)) (qUn opLen (qVar 1)))))
    (qRet (qC (.bool false)))
    qNext)
   (qIfS (qB (qUn (opIsi "tuple") (qVar 1)))
    (qIfS (qOr (qNot (qB (qUn (opIsi "tuple") (qVar 0)))) (qB (qOp opNe (qUn opLen (qVar 0)) (qUn opLen (qVar 1)))))
     (qRet (qC (.bool false)))
     qNext)
    (qIfS (qB (qOp opIs (qVar 1) (qC .none)))
     (qRet (qOp opIs (qVar 0) (qC .none)))
     (qIfS (qB (qUn (opIsi "bool") (qVar 1)))
      (qRet (qAndV (qUn (opIsi "bool") (qVar 0)) (qOp opEq (qVar 0) (qVar 1))))
      (qIfS (qB (qUn (opIsi "int") (qVar 1)))
       (qRet (qAndV (qUn (opIsi "int") (qVar 0)) (qAndV (qNotV (qUn (opIsi "bool") (qVar 0))) (qOp opEq (qVar 0) (qVar 1)))))
       (qRet (qAndV (qUn (opIsi "str") (qVar 0)) (qOp opEq (qVar 0) (qVar 1)))))))))
  (qSeq (qFor (qiR1 (qCons (qUn opLen (qVar 1)) qNil)) (qgN 2)
   (qIfS (qNot (qB (qCall 2 PR (qCons (qOp opIx (qVar 0) (qVar 2)) (qCons (qOp opIx (qVar 1) (qVar 2)) qNil)))))
    (qRet (qC (.bool false)))
    qNext))
  (qRet (qC (.bool true)))))
theorem pure__law_same (m : Nat) : ∀ ds R, ds.length = 2 → PR__law_same (m + 1) ds R → q__law_same (PR__law_same m) (endsOf R) (startEv 3 ds) := by
  rintro ds R - ⟨d, rfl, hd, h⟩
  cases d with
  | none =>
    ac_rfl
    exact h
  | bool b =>
    ac_rfl
    rw [eqv_bool]
    have e : decide (b = b) = true := by simp
    rw [e]
    exact h
  | int i =>
    ac_rfl
    rw [eqv_int]
    have e : decide (i = i) = true := by simp
    rw [e]
    exact h
  | str x =>
    ac_rfl
    rw [eqv_str]
    have e : decide (x = x) = true := by simp
    rw [e]
    exact h
  | dict _ => cases hd
  | list v =>
    simp only [sameOk, Bool.and_eq_true, decide_eq_true_eq, List.all_eq_true] at hd
    ac_rfl
    rw [eqv_int]
    refine Cif.ff (by simp) ?_
    ac_rfl
    refine forGo_ok (fun i : Nat => .int (i : Int)) (fun r Γ => ∃ a, Γ = [.sh (.list v), .sh (.list v), a] ∧ ∀ i ∈ r, i < v.length) ?_ ?_ _ _ ⟨_, rfl, by simp⟩
    · rintro Γ ⟨a, rfl, hr⟩
      ac_rfl
      exact h
    · rintro i r Γ K ⟨a, rfl, hr⟩ hK
      have hi := hr i (by simp)
      have e : v[i]? = some v[i] := List.getElem?_eq_getElem hi
      ac_rfl
      rw [ixD_nat e]
      ac_rfl
      rw [ixD_nat e]
      ac_rfl
      have hdi := hd.2 _ (List.getElem_mem hi)
      cases m with
      | zero => cases hdi
      | succ m =>
      refine ⟨_, rfl, hdi, ?_⟩
      ac_rfl
      exact hK _ ⟨_, rfl, fun j hj => hr j (List.mem_cons_of_mem _ hj)⟩
  | tuple v =>
    simp only [sameOk, Bool.and_eq_true, decide_eq_true_eq, List.all_eq_true] at hd
    ac_rfl
    rw [eqv_int]
    refine Cif.ff (by simp) ?_
    ac_rfl
    refine forGo_ok (fun i : Nat => .int (i : Int)) (fun r Γ => ∃ a, Γ = [.sh (.tuple v), .sh (.tuple v), a] ∧ ∀ i ∈ r, i < v.length) ?_ ?_ _ _ ⟨_, rfl, by simp⟩
    · rintro Γ ⟨a, rfl, hr⟩
      ac_rfl
      exact h
    · rintro i r Γ K ⟨a, rfl, hr⟩ hK
      have hi := hr i (by simp)
      have e : v[i]? = some v[i] := List.getElem?_eq_getElem hi
      ac_rfl
      rw [ixD_nat e]
      ac_rfl
      rw [ixD_nat e]
      ac_rfl
      have hdi := hd.2 _ (List.getElem_mem hi)
      cases m with
      | zero => cases hdi
      | succ m =>
      refine ⟨_, rfl, hdi, ?_⟩
      ac_rfl
      exact hK _ ⟨_, rfl, fun j hj => hr j (List.mem_cons_of_mem _ hj)⟩

-- _law_letters(draw, count) slots: 0=draw 1=count 2=found 3=k
def q__law_letters : QS :=
  (qSeq (qAsg (qC (.str "")) (qgN 2))
  (qSeq (qFor (qiR1 (qCons (qVar 1) qNil)) (qgN 3)
   (qSeq (qAsg (qOp opAdd (qVar 2) (qOp opIx (qC (.str "abcdefghijklmnopqrstuvwxyz")) (qOp opMod (qUn opInt (qVar 0)) (qC (.int 26))))) (qgN 2))
   (qAsg (qOp opAdd (qOp opFdiv (qUn opInt (qVar 0)) (qC (.int 26))) (qOp opMul (qC (.int 5)) (qVar 3))) (qgN 0))))
  (qRet (qVar 2))))
def P__law_letters : PD := fun ds R => ∃ (d : Int) (n : Nat), ds = [.int d, .int n] ∧ n ≤ 5 ∧ ∀ s : Str, s.length = n → R (.sh (.str s))
abbrev abcS : Str := Str.ofString "abcdefghijklmnopqrstuvwxyz"
theorem pure__law_letters : ∀ ds R, ds.length = 2 → P__law_letters ds R → q__law_letters (endsOf R) (startEv 4 ds) := by
  rintro ds R - ⟨d, n, rfl, hn, h⟩
  ac_rfl
  refine forGo_ok (fun i : Nat => .int (i : Int)) (fun r Γ => ∃ (d : Int) (s : Str) (a : Sl), Γ = [.sh (.int d), .sh (.int n), .sh (.str s), a] ∧ s.length + r.length = n ∧ ∀ i ∈ r, i < 1000) ?_ ?_ (List.range n) _ ⟨d, Str.ofString "", _, rfl, by simp; decide +kernel, fun i hi => Nat.lt_of_lt_of_le (List.mem_range.mp hi) (by omega)⟩
  · rintro Γ ⟨d, s, a, rfl, hs, _⟩
    ac_rfl
    exact h s (by simpa using hs)
  · rintro i r Γ K ⟨d, s, a, rfl, hs, hr⟩ hK
    have hi := hr i (by simp)
    obtain ⟨m, hm⟩ : ∃ m : Nat, d % 26 = m := ⟨(d % 26).toNat, by omega⟩
    have hm26 : m < 26 := by omega
    have hal : (tl abcS).length = 26 := by decide +kernel
    have e : (tl abcS)[m]? = some ((tl abcS)[m]'(by omega)) := List.getElem?_eq_getElem _
    simp only [List.length_cons] at hs
    clear h
    ac_rfl
    refine ⟨small (by decide +kernel), ?_⟩
    rw [hm, show ixD (Str.ofString "abcdefghijklmnopqrstuvwxyz").cps.toList (m : Int) = some ((tl abcS)[m]'(by omega)) from e]
    ac_rfl
    refine hK _ ⟨_, _, _, rfl, ?_, fun j hj => hr j (List.mem_cons_of_mem _ hj)⟩
    rw [app_len]
    show s.length + 1 + r.length = n
    omega
end PL

namespace PL
open PySem PySem.Spec PyProof.Rows L2
local macro_rules | `(tactic| ac_rfl) => `(tactic| ((conv => whnf); repeat ((first | refine Cif.yes ?_ | refine Cif.no ?_ | (refine And.intro ?_ ?_; · first | (show _ ≤ (_ : Int); omega) | (show _ < (_ : Int); omega) | assumption | exact trivial | exact rfl | (refine small ?_; first | omega | (simp only [List.length_map, List.length_cons, List.length_nil, List.length_append]; omega)) | (refine ltsmall ?_; first | omega | (simp only [List.length_map, List.length_cons, List.length_nil, List.length_append]; omega)) | (refine cdiv ?_ ?_ <;> omega) | (refine cmulR ?_ ?_ <;> omega) | (refine cmulL ?_ ?_ <;> omega) | (refine ⟨?_, ?_, ?_, ?_⟩ <;> omega))); (conv => whnf))))
local macro_rules | `(tactic| exists $e) => `(tactic| first | exact $e | exact And.right $e | exact And.right (And.right $e) | exact And.right (And.right (And.right $e)))
def q__law_deck_8 : QS :=
  (qSeq (qAsg (qLc [14] (qiR1 (qCons (qUn opLen (qVar 4)) qNil)) (qgN 14) (qB (qOp opEq (qOp opMod (qOp opIx (qVar 3) (qOp opAdd (qC (.int 7)) (qVar 14))) (qOp opIx (qLst (qCons (qC (.int 2)) (qCons (qC (.int 4)) (qCons (qC (.int 8)) qNil)))) (qOp opMod (qOp opIx (qVar 3) (qC (.int 12))) (qC (.int 3))))) (qC (.int 0)))) (qOp opIx (qVar 4) (qVar 14))) (qgN 11))
  (qFrz 11 (qSeq (qAsg (qLst qNil) (qgN 12))
  (qSeq (qFor (qiR1 (qCons (qOp opMod (qOp opIx (qVar 3) (qC (.int 13))) (qC (.int 5))) qNil)) (qgN 5)
   (qSeq (qAsg (qLc [14] (qiR1 (qCons (qUn opLen (qVar 4)) qNil)) (qgN 14) (qB (qOp opEq (qOp opMod (qOp opIx (qVar 3) (qOp opAdd (qOp opAdd (qC (.int 14)) (qOp opMul (qC (.int 5)) (qVar 5))) (qVar 14))) (qC (.int 3))) (qC (.int 0)))) (qOp opIx (qVar 4) (qVar 14))) (qgN 13))
   (qFrz 13 (qDrop (qApp 12 (qOp opAdd (qVar 13) (qSl (qLst (qCons (qOp opIx (qVar 4) (qOp opMod (qOp opIx (qVar 3) (qOp opAdd (qC (.int 14)) (qOp opMul (qC (.int 5)) (qVar 5)))) (qUn opLen (qVar 4)))) qNil)) (qoS (qC (.int 0))) (qoS (qUn opInt (qOp opEq (qUn opLen (qVar 13)) (qC (.int 0))))))))))))
  (qSeq (qIfS (qB (qOp opEq (qOp opMod (qOp opIx (qVar 3) (qC (.int 38))) (qC (.int 7))) (qC (.int 0))))
   (qDrop (qApp 12 (qLst (qCons (qC (.str "none")) qNil))))
   qNext)
  (qRet (qTup (qCons (qVar 8) (qCons (qVar 11) (qCons (qVar 12) qNil))))))))))
def q__law_deck_4 : QS :=
  (qSeq (qAsg (qSl (qLst (qCons (qC (.str "a")) (qCons (qC (.str "b")) (qCons (qC (.str "")) (qCons (qC (.str "ab")) (qCons (qC (.str "A")) qNil)))))) (qoS (qC (.int 0))) (qoS (qOp opAdd (qC (.int 2)) (qOp opMod (qOp opIx (qVar 3) (qC (.int 5))) (qC (.int 4)))))) (qgN 7))
  (qFrz 7 (qSeq (qAsg (qLst qNil) (qgN 8))
  (qSeq (qAsg (qCall 3 P__law_numbers (qCons (qCall 2 P__law_cell (qCons (qVar 0) (qCons (qOp opAdd (qVar 1) (qC (.int 1))) qNil))) (qCons (qOp opMul (qC (.int 5)) (qVar 2)) (qCons (qC (.int 5040)) qNil)))) (qgN 9))
  (qFrz 9 (qSeq (qFor (qiR1 (qCons (qOp opAdd (qC (.int 1)) (qOp opMod (qOp opIx (qVar 3) (qC (.int 6))) (qVar 2))) qNil)) (qgN 5)
   (qSeq (qAsg (qSl (qVar 9) (qoS (qOp opMul (qC (.int 5)) (qVar 5))) (qoS (qOp opAdd (qOp opMul (qC (.int 5)) (qVar 5)) (qC (.int 5))))) (qgN 10))
   (qFrz 10 (qDrop (qApp 8 (qLc [14] (qiR1 (qCons (qUn opLen (qVar 4)) qNil)) (qgN 14) (qB (qOp opGt (qOp opMod (qOp opIx (qVar 10) (qVar 14)) (qC (.int 4))) (qC (.int 0)))) (qTup (qCons (qOp opIx (qVar 4) (qVar 14)) (qCons (qOp opIx (qVar 7) (qOp opMod (qOp opFdiv (qOp opIx (qVar 10) (qVar 14)) (qC (.int 4))) (qUn opLen (qVar 7)))) qNil)))))))))
  q__law_deck_8))))))
def q__law_deck_2 : QS :=
  (qSeq (qFor (qiR1 (qCons (qC (.int 5)) qNil)) (qgN 5)
   (qSeq (qAsg (qCall 2 P__law_letters (qCons (qOp opAdd (qOp opIx (qVar 3) (qVar 5)) (qOp opMul (qVar 5) (qC (.int 311)))) (qCons (qOp opAdd (qC (.int 1)) (qOp opMod (qOp opFdiv (qOp opIx (qVar 3) (qVar 5)) (qC (.int 9))) (qC (.int 3)))) qNil))) (qgN 6))
   (qIfS (qB (qOp (opInW not) (qVar 6) (qVar 4)))
    (qDrop (qApp 4 (qVar 6)))
    qNext)))
  (qSeq (qAsg (qUn opSortS (qVar 4)) (qgN 4))
  q__law_deck_4))
-- _law_deck(script, at, most) slots: 0=script 1=at 2=most 3=head* 4=kinds* 5=k* 6=kind 7=values* 8=cards 9=rows 10=draws* 11=hard 12=keys 13=key 14=j
def q__law_deck : QS :=
  (qSeq (qAsg (qCall 3 P__law_numbers (qCons (qCall 2 P__law_cell (qCons (qVar 0) (qCons (qVar 1) qNil))) (qCons (qC (.int 40)) (qCons (qC (.int 5040)) qNil)))) (qgN 3))
  (qFrz 3 (qSeq (qAsg (qLst qNil) (qgN 4))
  q__law_deck_2)))
structure DeckOk (cs : List Card) (h : List Str) (ks : List (List Str)) : Prop where
  ok : CsOk cs
  c1 : 1 ≤ cs.length
  cw : ∀ c ∈ cs, ∀ p ∈ c, p.1.length ≤ 4 ∧ p.2.length ≤ 4
  hl : h.length ≤ 5
  hw : ∀ s ∈ h, s.length ≤ 4
  kn : ks.length ≤ 6
  kl : ∀ k ∈ ks, k.length ≤ 6 ∧ ∀ s ∈ k, s.length ≤ 4
def deckD (cs : List Card) (h : List Str) (ks : List (List Str)) : D := .tuple [cardsD cs, txtsD h, kysD ks]
def P__law_deck : PD := fun ds R => ∃ (ns : List Int) (k m : Nat), ds = [scrD ns, .int k, .int m] ∧ ns.length ≤ 63 ∧ 1 ≤ m ∧ m ≤ 12 ∧ ∀ cs h ks, DeckOk cs h ks → R (.sh (deckD cs h ks))
theorem deck_8 {R : Wv → Prop} {ns hn : List Int} {at0 most : Nat} {kinds : List Str} {cs : List Card} (hhl : hn.length = 40) (hhr : ∀ x ∈ hn, 0 ≤ x ∧ x < 5040) (k1 : 1 ≤ kinds.length) (k5 : kinds.length ≤ 5) (kw : ∀ s ∈ kinds, s.length ≤ 4)
    (hcs : CsOk cs) (hc1 : 1 ≤ cs.length) (hcw : ∀ c ∈ cs, ∀ p ∈ c, p.1.length ≤ 4 ∧ p.2.length ≤ 4) (h : ∀ cs h ks, DeckOk cs h ks → R (.sh (deckD cs h ks))) (x5 x6 x7 x9 x10 : Sl) :
    q__law_deck_8 (endsOf R) [.sh (scrD ns), .sh (.int (at0 : Nat)), .sh (.int (most : Nat)), .sh (intsD hn), .ow (.l (kinds.map .str)), x5, x6, x7, .ow (.l (cs.map cardD)), x9, x10, .un, .un, .un, .un] := by
  have hkl : (kinds.map PyData.str).length = kinds.length := List.length_map _
  have hix : ∀ (j : Nat), j < 40 → ∃ x : Nat, ixD (hn.map PyData.int) (j : Int) = some (.int (x : Int)) ∧ (x : Int) < 5040 := fun j hj => ints_at hhl hj hhr
  obtain ⟨h12, e12, _⟩ := hix 12 (by omega)
  obtain ⟨h13, e13, _⟩ := hix 13 (by omega)
  obtain ⟨h38, e38, _⟩ := hix 38 (by omega)
  have em : ∃ m : Nat, ixD [PyData.int 2, .int 4, .int 8] ((h12 : Int) % 3) = some (.int (m : Nat)) ∧ 2 ≤ m ∧ m ≤ 8 := by
    obtain ⟨m, hm⟩ : ∃ m : Nat, (h12 : Int) % 3 = m := ⟨((h12 : Int) % 3).toNat, by omega⟩
    have hm9 : m < 3 := by omega
    rw [hm]
    match m, hm9 with
    | 0, _ => exact ⟨2, rfl, by omega⟩
    | 1, _ => exact ⟨4, rfl, by omega⟩
    | 2, _ => exact ⟨8, rfl, by omega⟩
  obtain ⟨m, em, m2, m8⟩ := em
  ac_rfl
  rw [hkl]
  refine lcGo_inv (vs := [14]) (fun i : Nat => .int (i : Int)) (fun r acc => ∃ (t : Nat) (l : List Str), r = (List.range kinds.length).drop t ∧ acc = l.map .str ∧ l.length ≤ t ∧ t ≤ kinds.length ∧ ∀ s ∈ l, s.length ≤ 4) ?_ ?_ (List.range kinds.length) _ ⟨0, [], rfl, rfl, by simp, by omega, by simp⟩
  · rintro acc ⟨t, hard, hr, rfl, hl, htk, hw⟩
    have hhard : hard.length ≤ 5 := by omega
    clear em e12
    ac_rfl
    rw [show ixD (hn.map PyData.int) 13 = _ from e13]
    ac_rfl
    refine forGo_ok (fun i : Nat => .int (i : Int)) (fun r Γ => ∃ (ks : List (List Str)) (x5 x13 : Sl), Γ = [.sh (scrD ns), .sh (.int (at0 : Nat)), .sh (.int (most : Nat)), .sh (intsD hn), .ow (.l (kinds.map .str)), x5, x6, x7, .ow (.l (cs.map cardD)), x9, x10, .sh (txtsD hard), .ow (.l (ks.map txtsD)), x13, .un] ∧ ks.length + r.length ≤ 5 ∧ (∀ i ∈ r, i < 5) ∧ ∀ k ∈ ks, k.length ≤ 6 ∧ ∀ s ∈ k, s.length ≤ 4) ?_ ?_ _ _ ⟨[], _, _, rfl, by simp; omega, fun i hi => by have := List.mem_range.mp hi; omega, by simp⟩
    · rintro Γ ⟨ks, x5, x13, rfl, hkl5, _, hkw⟩
      have hksl : (ks.map txtsD).length ≤ 5 := by rw [List.length_map]; simpa using hkl5
      have fin := fun ks hk1 hk2 => h cs hard ks ⟨hcs, hc1, hcw, hhard, hw, hk1, hk2⟩
      clear h
      ac_rfl
      rw [show ixD (hn.map PyData.int) 38 = _ from e38]
      ac_rfl
      rw [eqv_int]
      refine ⟨fun hz => ?_, fun hz => ?_⟩
      · have fin := fin (ks ++ [[Str.ofString "none"]]) (by simp at hkl5 ⊢; omega) fun k hk => by
          rcases List.mem_append.mp hk with q | q
          · exact hkw k q
          · simp at q
            subst q
            exact ⟨by simp, by simp; decide +kernel⟩
        unfold deckD kysD at fin
        rw [List.map_append] at fin
        ac_rfl
        exact fin
      · have fin := fin ks (by simp at hkl5; omega) hkw
        ac_rfl
        exact fin
    · rintro i r Γ K ⟨ks, x5, x13, rfl, hkl5, hi5, hkw⟩ hK
      have hi := hi5 i (by simp)
      simp only [List.length_cons] at hkl5
      have hksl : (ks.map txtsD).length ≤ 5 := by rw [List.length_map]; omega
      clear h
      ac_rfl
      rw [hkl]
      refine lcGo_inv (vs := [14]) (fun i : Nat => .int (i : Int)) (fun r acc => ∃ (t : Nat) (l : List Str), r = (List.range kinds.length).drop t ∧ acc = l.map .str ∧ l.length ≤ t ∧ t ≤ kinds.length ∧ ∀ s ∈ l, s.length ≤ 4) ?_ ?_ (List.range kinds.length) _ ⟨0, [], rfl, rfl, by simp, by omega, by simp⟩
      · rintro acc ⟨t, key, hr, rfl, hl, htk, hw⟩
        have hkey : (key.map PyData.str).length ≤ 5 := by rw [List.length_map]; omega
        obtain ⟨x, ex, _⟩ := hix (14 + 5 * i) (by omega)
        obtain ⟨jj, hjj⟩ : ∃ jj : Nat, (x : Int) % ((kinds.length : Nat) : Int) = jj := ⟨((x : Int) % ((kinds.length : Nat) : Int)).toNat, by have := Int.emod_nonneg (x : Int) (b := ((kinds.length : Nat) : Int)) (by omega); omega⟩
        have hjl : jj < kinds.length := by
          have := Int.emod_lt_of_pos (x : Int) (b := ((kinds.length : Nat) : Int)) (by omega)
          omega
        have ek : kinds[jj]? = some kinds[jj] := List.getElem?_eq_getElem hjl
        ac_rfl
        rw [show ((14 : Int) + 5 * (i : Int)) = ((14 + 5 * i : Nat) : Int) by omega, ex]
        ac_rfl
        rw [hkl, hjj, ixD_map _ ek]
        ac_rfl
        have hcut : ∀ hi : Option Int, ∃ e : List Str, cutD [PyData.str kinds[jj]] (some 0) hi = e.map .str ∧ e.length ≤ 1 ∧ ∀ s ∈ e, s.length ≤ 4 := fun hi => by
          refine ⟨cutG [kinds[jj]] (some 0) hi, cutD_map PyData.str [kinds[jj]] _ _, len_cutG _ _ _, fun s hs => ?_⟩
          have := mem_cutG hs
          simp at this
          rw [this]
          exact kw _ (List.getElem_mem _)
        generalize hHI : (if PyData.eqv (PyData.int ((key.map PyData.str).length : Nat)) (PyData.int 0) = true then (1 : Int) else 0) = hi
        obtain ⟨e, he, hel, hew⟩ := hcut (some hi)
        rw [he]
        refine ⟨small (by rw [List.length_map, List.length_map] at *; omega), ?_⟩
        ac_rfl
        have ee : ks.map txtsD ++ [(O.l (key.map PyData.str ++ e.map .str)).toD] = (ks ++ [key ++ e]).map txtsD := by
          rw [List.map_append]
          show _ ++ [PyData.list (key.map PyData.str ++ e.map .str)] = _ ++ [PyData.list ((key ++ e).map .str)]
          rw [List.map_append]
        rw [ee]
        refine hK _ ⟨ks ++ [key ++ e], _, _, rfl, by simp; omega, fun z hz => hi5 z (List.mem_cons_of_mem _ hz), fun k hk => ?_⟩
        rcases List.mem_append.mp hk with q | q
        · exact hkw k q
        · simp at q
          subst q
          refine ⟨by rw [List.length_append]; omega, fun s hs => ?_⟩
          rcases List.mem_append.mp hs with q | q
          · exact hw s q
          · exact hew s q
      · rintro j r acc K ⟨t, l, hr, rfl, hl, htk, hw⟩ hK
        obtain ⟨hj, rfl, rfl⟩ := drop_cons hr.symm
        obtain ⟨x, ex, _⟩ := hix (14 + 5 * i + j) (by omega)
        have ek : kinds[j]? = some kinds[j] := List.getElem?_eq_getElem hj
        have hll : (l.map PyData.str).length ≤ 10 := by rw [List.length_map]; omega
        ac_rfl
        rw [show ((14 : Int) + 5 * (i : Int) + (j : Int)) = ((14 + 5 * i + j : Nat) : Int) by omega, ex]
        ac_rfl
        refine ⟨fun hz => ?_, fun hz => ?_⟩
        · ac_rfl
          rw [ixD_map _ ek]
          ac_rfl
          refine hK _ ⟨j + 1, l ++ [kinds[j]], rfl, map_snocS _ _, by simp; omega, by omega, fun s hs => ?_⟩
          rcases List.mem_append.mp hs with q | q
          · exact hw s q
          · simp at q
            rw [q]
            exact kw _ (List.getElem_mem _)
        · exact hK _ ⟨j + 1, l, rfl, rfl, by omega, by omega, hw⟩
  · rintro j r acc K ⟨t, l, hr, rfl, hl, htk, hw⟩ hK
    obtain ⟨hj, rfl, rfl⟩ := drop_cons hr.symm
    obtain ⟨x, ex, _⟩ := hix (7 + j) (by omega)
    have ek : kinds[j]? = some kinds[j] := List.getElem?_eq_getElem hj
    have hll : (l.map PyData.str).length ≤ 10 := by rw [List.length_map]; omega
    clear h
    ac_rfl
    rw [show ((7 : Int) + (j : Int)) = ((7 + j : Nat) : Int) by omega, ex]
    ac_rfl
    rw [show ixD (hn.map PyData.int) 12 = _ from e12]
    ac_rfl
    rw [em]
    ac_rfl
    refine ⟨fun hz => ?_, fun hz => ?_⟩
    · ac_rfl
      rw [ixD_map _ ek]
      ac_rfl
      refine hK _ ⟨j + 1, l ++ [kinds[j]], rfl, map_snocS _ _, by simp; omega, by omega, fun s hs => ?_⟩
      rcases List.mem_append.mp hs with q | q
      · exact hw s q
      · simp at q
        rw [q]
        exact kw _ (List.getElem_mem _)
    · exact hK _ ⟨j + 1, l, rfl, rfl, by omega, by omega, hw⟩
theorem sub_take {l : List Str} {t : Nat} (h : t < l.length) {c : List Str} (hc : c.Sublist (l.take t)) : (c ++ [l[t]]).Sublist (l.take (t + 1)) := by
  rw [List.take_add_one, List.getElem?_eq_getElem h]
  exact hc.append (List.Sublist.refl _)
theorem deck_4 {R : Wv → Prop} {ns hn : List Int} {at0 most : Nat} {kinds : List Str} (hns : ns.length ≤ 63) (m1 : 1 ≤ most) (m12 : most ≤ 12) (hhl : hn.length = 40) (hhr : ∀ x ∈ hn, 0 ≤ x ∧ x < 5040) (k1 : 1 ≤ kinds.length) (k5 : kinds.length ≤ 5) (kw : ∀ s ∈ kinds, s.length ≤ 4) (kn : kinds.Nodup)
    (h : ∀ cs h ks, DeckOk cs h ks → R (.sh (deckD cs h ks))) (x5 x6 : Sl) :
    q__law_deck_4 (endsOf R) [.sh (scrD ns), .sh (.int (at0 : Nat)), .sh (.int (most : Nat)), .sh (intsD hn), .ow (.l (kinds.map .str)), x5, x6, .un, .un, .un, .un, .un, .un, .un, .un] := by
  have tail := fun {cs : List Card} (hcs : CsOk cs) hc1 hcw x5 x6 x7 x9 x10 => deck_8 (R := R) (ns := ns) (at0 := at0) (most := most) (cs := cs) hhl hhr k1 k5 kw hcs hc1 hcw h x5 x6 x7 x9 x10
  have hkl : (kinds.map PyData.str).length = kinds.length := List.length_map _
  have hix : ∀ (j : Nat), j < 40 → ∃ x : Nat, ixD (hn.map PyData.int) (j : Int) = some (.int (x : Int)) ∧ (x : Int) < 5040 := fun j hj => ints_at hhl hj hhr
  obtain ⟨h5, e5, _⟩ := hix 5 (by omega)
  obtain ⟨h6, e6, _⟩ := hix 6 (by omega)
  unfold q__law_deck_4
  generalize q__law_deck_8 = t8 at *
  clear h
  ac_rfl
  rw [show ixD (hn.map PyData.int) 5 = _ from e5]
  ac_rfl
  have hvals : ∃ vs : List Str, cutD [PyData.str (Str.ofString "a"), .str (Str.ofString "b"), .str (Str.ofString ""), .str (Str.ofString "ab"), .str (Str.ofString "A")] (some 0) (some (2 + (h5 : Int) % 4)) = vs.map .str ∧ 1 ≤ vs.length ∧ vs.length ≤ 5 ∧ ∀ v ∈ vs, v.length ≤ 4 := by
    refine ⟨[Str.ofString "a", Str.ofString "b", Str.ofString "", Str.ofString "ab", Str.ofString "A"].take (2 + h5 % 4), ?_, ?_, ?_, fun v hv => ?_⟩
    · rw [show (2 + (h5 : Int) % 4) = ((2 + h5 % 4 : Nat) : Int) by omega, ← cutG_to]
      exact cutD_map PyData.str [Str.ofString "a", Str.ofString "b", Str.ofString "", Str.ofString "ab", Str.ofString "A"] _ _
    · rw [List.length_take]
      simp
      omega
    · rw [List.length_take]
      simp
      omega
    · have hv := List.mem_of_mem_take hv
      simp at hv
      rcases hv with rfl | rfl | rfl | rfl | rfl <;> decide +kernel
  obtain ⟨vs, hvs, v1, v5, vw⟩ := hvals
  have hvd : (O.l (cutD [PyData.str (Str.ofString "a"), .str (Str.ofString "b"), .str (Str.ofString ""), .str (Str.ofString "ab"), .str (Str.ofString "A")] (some 0) (some (2 + (h5 : Int) % 4)))).toD = txtsD vs := congrArg PyData.list hvs
  refine ⟨ns, at0 + 1, congrArg (fun z : Int => [scrD ns, PyData.int z]) (by omega), hns, fun c2 => ?_⟩
  ac_rfl
  refine ⟨c2, 5 * most, 5040, congrArg (fun z : Int => [PyData.int c2, .int z, .int 5040]) (by omega), by omega, by omega, by omega, fun rw hrl hrr => ?_⟩
  ac_rfl
  rw [show ixD (hn.map PyData.int) 6 = _ from e6]
  obtain ⟨sz, hsz⟩ : ∃ sz, sz = 1 + h6 % most := ⟨_, rfl⟩
  have hszm : sz ≤ most := by have := Nat.mod_lt h6 (show most > 0 by omega); omega
  have hszI : (1 : Int) + (h6 : Int) % (most : Int) = (sz : Int) := by omega
  (conv => whnf)
  refine ⟨by show (0 : Int) < (most : Int); omega, ?_⟩
  (conv => whnf)
  rw [hszI]
  refine ⟨Int.le_trans (by decide) (show (0 : Int) ≤ (sz : Int) by omega), Int.lt_trans (show (sz : Int) < 100 by omega) (by decide), ?_⟩
  ac_rfl
  refine forGo_ok (fun i : Nat => .int (i : Int)) (fun r Γ => ∃ (k : Nat) (cs : List Card) (x5 x10 : Sl), Γ = [.sh (scrD ns), .sh (.int (at0 : Nat)), .sh (.int (most : Nat)), .sh (intsD hn), .ow (.l (kinds.map .str)), x5, x6, .sh (txtsD vs), .ow (.l (cs.map cardD)), .sh (intsD rw), x10, .un, .un, .un, .un] ∧ r = (List.range sz).drop k ∧ k ≤ sz ∧ cs.length = k ∧ (∀ c ∈ cs, CdOk c) ∧ ∀ c ∈ cs, ∀ p ∈ c, p.1.length ≤ 4 ∧ p.2.length ≤ 4) ?_ ?_ (List.range sz) _ ⟨0, [], _, _, by rw [← hvd]; rfl, rfl, by omega, rfl, by simp, by simp⟩
  · rintro Γ ⟨k, cs, x5, x10, rfl, hr, hk, hcl, hok, hcw⟩
    have : sz ≤ k := by
      have := congrArg List.length hr
      simp at this
      omega
    exact tail ⟨by omega, hok⟩ (by omega) hcw _ _ _ _ _
  · rintro k r Γ K ⟨k', cs, x5, x10, rfl, hr, hk, hcl, hok, hcw⟩ hK
    obtain ⟨hk1, rfl, rfl⟩ := drop_cons hr.symm
    have hcm : (cs.map cardD).length ≤ 12 := by rw [List.length_map]; omega
    have hvl : (vs.map PyData.str).length = vs.length := List.length_map _
    have hcut : cutD (rw.map PyData.int) (some (5 * (k : Int))) (some (5 * (k : Int) + 5)) = ((rw.drop (5 * k)).take 5).map .int := by
      have := cut_ints rw (5 * k) (5 * k + 5)
      rw [show 5 * k + 5 - 5 * k = 5 by omega] at this
      rw [← this]
      congr 2 <;> congr 1 <;> omega
    have hdl : ((rw.drop (5 * k)).take 5).length = 5 := by rw [List.length_take, List.length_drop]; omega
    have hdr : ∀ x ∈ (rw.drop (5 * k)).take 5, 0 ≤ x ∧ x < 5040 := fun x hx => hrr x (List.mem_of_mem_drop (List.mem_of_mem_take hx))
    generalize (rw.drop (5 * k)).take 5 = dw at *
    clear tail
    ac_rfl
    rw [hcut]
    ac_rfl
    rw [hkl]
    refine lcGo_inv (vs := [14]) (fun i : Nat => .int (i : Int)) (fun r acc => ∃ (t : Nat) (c : Card), r = (List.range kinds.length).drop t ∧ acc = c.map cpD ∧ t ≤ kinds.length ∧ (c.map (·.1)).Sublist (kinds.take t) ∧ ∀ p ∈ c, p.1.length ≤ 4 ∧ p.2.length ≤ 4) ?_ ?_ (List.range kinds.length) _ ⟨0, [], rfl, rfl, by omega, by simp, by simp⟩
    · rintro acc ⟨t, c, hr, rfl, ht, hsub, hpw⟩
      ac_rfl
      have ec : cs.map cardD ++ [(O.l (c.map cpD)).toD] = (cs ++ [c]).map cardD := by
        rw [List.map_append]
        rfl
      rw [ec]
      have hsub2 := hsub.trans (List.take_sublist _ _)
      have hcdok : CdOk c := ⟨kn.sublist hsub2, by have := hsub2.length_le; rw [List.length_map] at this; omega⟩
      refine hK _ ⟨k + 1, cs ++ [c], _, _, rfl, rfl, by omega, by simp; omega, fun d hd => ?_, fun d hd => ?_⟩
      · rcases List.mem_append.mp hd with q | q
        · exact hok d q
        · simp at q
          rw [q]
          exact hcdok
      · rcases List.mem_append.mp hd with q | q
        · exact hcw d q
        · simp at q
          rw [q]
          exact hpw
    · rintro j r acc K2 ⟨t, c, hr, rfl, ht, hsub, hpw⟩ hK2
      obtain ⟨hj, rfl, rfl⟩ := drop_cons hr.symm
      obtain ⟨x, ex, _⟩ := ints_at hdl (k := j) (by omega) hdr
      have ek : kinds[j]? = some kinds[j] := List.getElem?_eq_getElem hj
      have hcl5 : (c.map cpD).length ≤ 5 := by
        have := hsub.length_le
        rw [List.length_map, List.length_take] at this
        rw [List.length_map]
        omega
      obtain ⟨jj, hjj⟩ : ∃ jj : Nat, (x : Int) / 4 % ((vs.length : Nat) : Int) = jj := ⟨((x : Int) / 4 % ((vs.length : Nat) : Int)).toNat, by have := Int.emod_nonneg ((x : Int) / 4) (b := ((vs.length : Nat) : Int)) (by omega); omega⟩
      have hjl : jj < vs.length := by
        have := Int.emod_lt_of_pos ((x : Int) / 4) (b := ((vs.length : Nat) : Int)) (by omega)
        omega
      have ev : vs[jj]? = some vs[jj] := List.getElem?_eq_getElem hjl
      clear hK
      ac_rfl
      rw [ex]
      ac_rfl
      refine ⟨fun hz => ?_, fun hz => ?_⟩
      · ac_rfl
        rw [ixD_map _ ek]
        ac_rfl
        rw [ex]
        ac_rfl
        rw [hvl, hjj, ixD_map _ ev]
        ac_rfl
        refine hK2 _ ⟨j + 1, c ++ [(kinds[j], vs[jj])], rfl, by rw [List.map_append]; rfl, by omega, by rw [List.map_append]; exact sub_take hj hsub, fun p hp => ?_⟩
        rcases List.mem_append.mp hp with q | q
        · exact hpw p q
        · simp at q
          rw [q]
          exact ⟨kw _ (List.getElem_mem _), vw _ (List.getElem_mem _)⟩
      · exact hK2 _ ⟨j + 1, c, rfl, rfl, by omega, hsub.trans (List.take_sublist_take_left (by omega)), hpw⟩
theorem for_n {n : Nat} {g : QG} {t : QS} {P : PEnds} {Γ : Ev} (h : forGo g t P ((List.range n).map fun i : Nat => .int (i : Int)) Γ) (hn : n < 1000 := by decide) : qFor (qiR1 (qCons (qC (.int (n : Nat))) qNil)) g t P Γ :=
  ⟨Int.le_trans (by decide) (show (0 : Int) ≤ (n : Int) by omega), Int.lt_trans (show (n : Int) < 1000 by omega) (by decide), h⟩
theorem deck_2 {R : Wv → Prop} {ns hn : List Int} {at0 most : Nat} (hns : ns.length ≤ 63) (m1 : 1 ≤ most) (m12 : most ≤ 12) (hhl : hn.length = 40) (hhr : ∀ x ∈ hn, 0 ≤ x ∧ x < 5040) (h : ∀ cs h ks, DeckOk cs h ks → R (.sh (deckD cs h ks))) :
    q__law_deck_2 (endsOf R) [.sh (scrD ns), .sh (.int (at0 : Nat)), .sh (.int (most : Nat)), .sh (intsD hn), .ow (.l []), .un, .un, .un, .un, .un, .un, .un, .un, .un, .un] := by
  have tail := fun {kinds : List Str} k1 k5 kw kn x5 x6 => deck_4 (R := R) (at0 := at0) (hn := hn) (kinds := kinds) hns m1 m12 hhl hhr k1 k5 kw kn h x5 x6
  unfold q__law_deck_2
  generalize q__law_deck_4 = t4 at *
  clear h
  refine seq_i ?_
  refine for_n ?_
  refine forGo_ok (fun i : Nat => .int (i : Int)) (fun r Γ => ∃ (k : Nat) (kinds : List Str) (x5 x6 : Sl), Γ = [.sh (scrD ns), .sh (.int (at0 : Nat)), .sh (.int (most : Nat)), .sh (intsD hn), .ow (.l (kinds.map .str)), x5, x6, .un, .un, .un, .un, .un, .un, .un, .un] ∧ r = (List.range 5).drop k ∧ k ≤ 5 ∧ kinds.length ≤ k ∧ (1 ≤ k → 1 ≤ kinds.length) ∧ kinds.Nodup ∧ ∀ s ∈ kinds, s.length ≤ 4) ?_ ?_ (List.range 5) _ ⟨0, [], _, _, rfl, rfl, by omega, by simp, by omega, by simp, by simp⟩
  · rintro Γ ⟨k, kinds, x5, x6, rfl, hr, hk, hkl, hk1, hnd, hw⟩
    have : 5 ≤ k := by
      have := congrArg List.length hr
      simp at this
      omega
    ac_rfl
    rw [strsOf_map]
    refine ⟨by omega, fun ts hp _ => ?_⟩
    have hl := hp.length_eq
    ac_rfl
    exact tail (by omega) (by omega) (fun s hs => hw s (hp.mem_iff.mp hs)) (hp.nodup_iff.mpr hnd) _ _
  · rintro k r Γ K ⟨k', kinds, x5, x6, rfl, hr, hk, hkl, hk1, hnd, hw⟩ hK
    obtain ⟨hk5, rfl, rfl⟩ := drop_cons hr.symm
    obtain ⟨x, ex, _⟩ := ints_at hhl (k := k) (by omega) hhr
    have hkm : (kinds.map PyData.str).length ≤ 10 := by rw [List.length_map]; omega
    have e9 : (1 : Int) + (x : Int) / 9 % 3 = ((1 + x / 9 % 3 : Nat) : Int) := by omega
    clear tail
    ac_rfl
    rw [ex]
    ac_rfl
    rw [ex]
    ac_rfl
    refine ⟨_, 1 + x / 9 % 3, congrArg (fun z : Int => [_, PyData.int z]) e9, by omega, fun s hs => ?_⟩
    ac_rfl
    refine ⟨by rw [flat_strs]; rfl, ?_⟩
    rw [in_strs]
    by_cases hin : s ∈ kinds
    · rw [decide_eq_true hin]
      ac_rfl
      exact hK _ ⟨k + 1, kinds, _, _, rfl, rfl, by omega, by omega, fun _ => List.length_pos_of_mem hin, hnd, hw⟩
    · rw [decide_eq_false hin]
      ac_rfl
      refine hK _ ⟨k + 1, kinds ++ [s], _, _, by rw [List.map_append]; rfl, rfl, by omega, by simp; omega, fun _ => by simp, ?_, fun z hz => ?_⟩
      · rw [List.nodup_append]
        exact ⟨hnd, by simp, fun a ha b hb e => hin (by simp at hb; rw [← hb, ← e]; exact ha)⟩
      · rcases List.mem_append.mp hz with q | q
        · exact hw z q
        · simp at q
          rw [q]
          omega
theorem pure__law_deck : ∀ ds R, ds.length = 3 → P__law_deck ds R → q__law_deck (endsOf R) (startEv 15 ds) := by
  rintro ds R - ⟨ns, at0, most, rfl, hns, m1, m12, h⟩
  have tail := fun {hn : List Int} hhl hhr => deck_2 (R := R) (at0 := at0) (hn := hn) hns m1 m12 hhl hhr h
  unfold q__law_deck
  generalize q__law_deck_2 = t2 at *
  clear h
  ac_rfl
  refine ⟨ns, at0, rfl, hns, fun c => ?_⟩
  ac_rfl
  refine ⟨c, 40, 5040, rfl, by omega, by omega, by omega, fun hn hhl hhr => ?_⟩
  ac_rfl
  exact tail hhl hhr
end PL

namespace PL
open PySem PySem.Spec PyProof.Rows L2
local macro_rules | `(tactic| ac_rfl) => `(tactic| ((conv => whnf); repeat ((first | refine Cif.yes ?_ | refine Cif.no ?_ | (refine And.intro ?_ ?_; · first | (show _ ≤ (_ : Int); omega) | (show _ < (_ : Int); omega) | assumption | exact trivial | exact rfl | (refine small ?_; first | omega | (simp only [List.length_map, List.length_cons, List.length_nil, List.length_append]; omega)) | (refine ltsmall ?_; first | omega | (simp only [List.length_map, List.length_cons, List.length_nil, List.length_append]; omega)) | (refine cdiv ?_ ?_ <;> omega) | (refine cmulR ?_ ?_ <;> omega) | (refine cmulL ?_ ?_ <;> omega) | (refine ⟨?_, ?_, ?_, ?_⟩ <;> omega))); (conv => whnf))))
local macro_rules | `(tactic| exists $e) => `(tactic| first | exact $e | exact And.right $e | exact And.right (And.right $e) | exact And.right (And.right (And.right $e)))
/-! ### lists of small numbers, lists of such, papers -/
def Il (n : Nat) (ds : List D) : Prop := ∃ l : List Int, ds = l.map .int ∧ l.length ≤ n ∧ ∀ x ∈ l, -1 ≤ x ∧ x < 5040
theorem Il.mono {n m : Nat} {ds : List D} (h : Il n ds) (hm : n ≤ m) : Il m ds := let ⟨l, e, h1, h2⟩ := h; ⟨l, e, Nat.le_trans h1 hm, h2⟩
theorem Il.len {n : Nat} {ds : List D} (h : Il n ds) : ds.length ≤ n := by
  obtain ⟨l, rfl, h1, _⟩ := h
  rw [List.length_map]
  exact h1
theorem Il.nil : Il 0 [] := ⟨[], rfl, Nat.le_refl _, by simp⟩
theorem Il.one {x : Int} (h : -1 ≤ x ∧ x < 5040) : Il 1 [.int x] := ⟨[x], rfl, Nat.le_refl _, by simpa using h⟩
theorem Il.app {n m : Nat} {ds es : List D} (h : Il n ds) (h' : Il m es) : Il (n + m) (ds ++ es) := by
  obtain ⟨l, rfl, h1, h2⟩ := h
  obtain ⟨l', rfl, h1', h2'⟩ := h'
  refine ⟨l ++ l', by rw [List.map_append], by rw [List.length_append]; omega, fun x hx => ?_⟩
  rcases List.mem_append.mp hx with q | q
  · exact h2 x q
  · exact h2' x q
theorem Il.cut {n : Nat} {ds : List D} {lo hi : Option Int} (h : Il n ds) : Il n (cutD ds lo hi) := by
  obtain ⟨l, rfl, h1, h2⟩ := h
  exact ⟨cutG l lo hi, cutD_map _ _ _ _, Nat.le_trans (len_cutG _ _ _) h1, fun x hx => h2 x (mem_cutG hx)⟩
theorem Il.rev {n : Nat} {ds : List D} (h : Il n ds) : Il n ds.reverse := by
  obtain ⟨l, rfl, h1, h2⟩ := h
  exact ⟨l.reverse, by rw [List.map_reverse], by simpa using h1, fun x hx => h2 x (by simpa using hx)⟩
theorem Il.nats {n : Nat} {c : List Nat} (h1 : c.length ≤ n) (h2 : ∀ x ∈ c, x < 5040) : Il n (c.map natD) := by
  refine ⟨c.map fun n : Nat => (n : Int), nats_ints c, by simpa using h1, fun x hx => ?_⟩
  obtain ⟨y, hy, rfl⟩ := List.mem_map.mp hx
  have := h2 y hy
  omega
/-- lists of at most 30 small numbers -/
def Gl (n : Nat) (ds : List D) : Prop := ∃ gs : List (List Int), ds = gs.map intsD ∧ gs.length ≤ n ∧ ∀ g ∈ gs, g.length ≤ 30 ∧ ∀ x ∈ g, -1 ≤ x ∧ x < 5040
theorem Gl.mono {n m : Nat} {ds : List D} (h : Gl n ds) (hm : n ≤ m) : Gl m ds := let ⟨l, e, h1, h2⟩ := h; ⟨l, e, Nat.le_trans h1 hm, h2⟩
theorem Gl.len {n : Nat} {ds : List D} (h : Gl n ds) : ds.length ≤ n := by
  obtain ⟨l, rfl, h1, _⟩ := h
  rw [List.length_map]
  exact h1
theorem Gl.nil : Gl 0 [] := ⟨[], rfl, Nat.le_refl _, by simp⟩
theorem Gl.one {g : List D} (h : Il 30 g) : Gl 1 [.list g] := by
  obtain ⟨l, rfl, h1, h2⟩ := h
  exact ⟨[l], rfl, Nat.le_refl _, by simpa using ⟨h1, h2⟩⟩
theorem Gl.app {n m : Nat} {ds es : List D} (h : Gl n ds) (h' : Gl m es) : Gl (n + m) (ds ++ es) := by
  obtain ⟨l, rfl, h1, h2⟩ := h
  obtain ⟨l', rfl, h1', h2'⟩ := h'
  refine ⟨l ++ l', by rw [List.map_append], by rw [List.length_append]; omega, fun x hx => ?_⟩
  rcases List.mem_append.mp hx with q | q
  · exact h2 x q
  · exact h2' x q
theorem Gl.cut {n : Nat} {ds : List D} {lo hi : Option Int} (h : Gl n ds) : Gl n (cutD ds lo hi) := by
  obtain ⟨l, rfl, h1, h2⟩ := h
  exact ⟨cutG l lo hi, cutD_map _ _ _ _, Nat.le_trans (len_cutG _ _ _) h1, fun x hx => h2 x (mem_cutG hx)⟩
theorem Gl.rev {n : Nat} {ds : List D} (h : Gl n ds) : Gl n ds.reverse := by
  obtain ⟨l, rfl, h1, h2⟩ := h
  exact ⟨l.reverse, by rw [List.map_reverse], by simpa using h1, fun x hx => h2 x (by simpa using hx)⟩
theorem Gl.map {n : Nat} (f : List Nat → List D) (gs : List (List Nat)) (h : ∀ g ∈ gs, Il 30 (f g)) (hl : gs.length ≤ n) : Gl n (gs.map fun g => .list (f g)) := by
  induction gs generalizing n with
  | nil => exact Gl.nil.mono (Nat.zero_le _)
  | cons g r ih =>
    have h1 := Gl.one (h g (by simp))
    have h2 := ih (n := r.length) (fun g hg => h g (List.mem_cons_of_mem _ hg)) (Nat.le_refl _)
    exact (h1.app h2).mono (by simp at hl; omega)
theorem Gl.mapN {n : Nat} (f : Nat → List D) (gs : List Nat) (h : ∀ g ∈ gs, Il 30 (f g)) (hl : gs.length ≤ n) : Gl n (gs.map fun g => .list (f g)) := by
  induction gs generalizing n with
  | nil => exact Gl.nil.mono (Nat.zero_le _)
  | cons g r ih =>
    have h1 := Gl.one (h g (by simp))
    have h2 := ih (n := r.length) (fun g hg => h g (List.mem_cons_of_mem _ hg)) (Nat.le_refl _)
    exact (h1.app h2).mono (by simp at hl; omega)
inductive PapS : Str → List D → Prop
  | grp (gs : List (List Int)) : GsB gs → PapS (Str.ofString "groups") [.list (gs.map intsD)]
  | conf (c : List Int) (k : Str) : c.length ≤ 1000 → PapS (Str.ofString "conflict") [intsD c, .str k]
  | oth (w : Str) (r : List D) : ¬ (w = Str.ofString "groups" ∧ r.length = 1) → ¬ (w = Str.ofString "conflict" ∧ r.length = 2) → PapS w r
theorem PapS.j (cs : List Card) (h : List Str) (ks : List (List Str)) {w : Str} {r : List D} (p : PapS w r) : ∃ b, PapJ cs h ks w r b := by
  cases p with
  | grp gs hg => exact ⟨_, .grp gs hg⟩
  | conf c k hl => exact ⟨_, .conf c k hl⟩
  | oth _ _ h1 h2 => exact ⟨_, .oth _ _ h1 h2⟩
def PapOk (d : D) : Prop := ∃ w r, d = .tuple (.str w :: r) ∧ PapS w r ∧ Pd 3 50000 d
theorem il_pd {n : Nat} {ds : List D} (h : Il n ds) : Pd 1 (41 * n) (.list ds) := by
  obtain ⟨l, rfl, h1, h2⟩ := h
  exact .lst (PdA.mapL (w := 40) PyData.int l (fun x hx => .int (by have := h2 x hx; omega)) h1)
theorem gl_pd {n : Nat} {ds : List D} (h : Gl n ds) : Pd 2 (1231 * n) (.list ds) := by
  obtain ⟨l, rfl, h1, h2⟩ := h
  exact .lst (PdA.mapL (w := 1230) intsD l (fun x hx => il_pd (n := 30) ⟨x, rfl, h2 x hx⟩) h1)
theorem pap_grp {ds : List D} (h : Gl 40 ds) : PapOk (.tuple [.str (Str.ofString "groups"), .list ds]) := by
  refine ⟨_, _, rfl, ?_, Pd.mono (.tup (.cons (k := 2) (Pd.str.mono (by omega) (Nat.le_refl _)) (.cons (gl_pd h) .nil))) (by omega) (by decide +kernel)⟩
  obtain ⟨l, rfl, h1, h2⟩ := h
  exact .grp l ⟨by omega, fun g hg => by have := (h2 g hg).1; omega⟩
theorem pap_conf {c : List D} {k : Str} (h : Il 60 c) (hk : k.length ≤ 10) : PapOk (.tuple [.str (Str.ofString "conflict"), .list c, .str k]) := by
  refine ⟨_, _, rfl, ?_, Pd.mono (.tup (.cons (k := 1) (Pd.str.mono (by omega) (Nat.le_refl _)) (.cons (il_pd h) (.cons (Pd.str.mono (by omega) hk) .nil)))) (by omega) (by decide +kernel)⟩
  obtain ⟨l, rfl, h1, h2⟩ := h
  exact .conf l k (by omega)
theorem pap_oth {w : Str} {r : List D} {n : Nat} (hw : w.length ≤ 10) (h : PdA 2 n r) (hn : n ≤ 40000) (h1 : ¬ (w = Str.ofString "groups" ∧ r.length = 1)) (h2 : ¬ (w = Str.ofString "conflict" ∧ r.length = 2)) : PapOk (.tuple (.str w :: r)) :=
  ⟨_, _, rfl, .oth _ _ h1 h2, Pd.mono (.tup (.cons (k := 2) (Pd.str.mono (by omega) hw) h)) (by omega) (by omega)⟩
def q__law_bent_groups_5 : QS :=
  (qSeq (qIfS (qB (qOp opNe (qVar 3) (qVar 2)))
   (qSeq (qAsg (qOp opMin2 (qVar 2) (qVar 3)) (qgN 6))
   (qSeq (qAsg (qOp opMax2 (qVar 2) (qVar 3)) (qgN 7))
   (qDrop (qApp 5 (qOp opAdd (qOp opAdd (qOp opAdd (qSl (qVar 0) (qoS (qC (.int 0))) (qoS (qVar 6))) (qLst (qCons (qOp opAdd (qOp opIx (qVar 0) (qVar 6)) (qOp opIx (qVar 0) (qVar 7))) qNil))) (qSl (qVar 0) (qoS (qOp opAdd (qVar 6) (qC (.int 1)))) (qoS (qVar 7)))) (qSl (qVar 0) (qoS (qOp opAdd (qVar 7) (qC (.int 1)))) qoN))))))
   qNext)
  (qRet (qLc [9] (qiL (qVar 5)) (qgN 9) qYes (qTup (qCons (qC (.str "groups")) (qCons (qVar 9) qNil))))))
def q__law_bent_groups_2 : QS :=
  (qSeq (qAsg (qOp opIx (qVar 0) (qVar 2)) (qgN 4))
  (qFrz 4 (qSeq (qAsg (qLst (qCons (qUn opRevL (qVar 0)) (qCons (qSl (qVar 0) (qoS (qC (.int 1))) qoN) (qCons (qOp opAdd (qVar 0) (qLst (qCons (qLst qNil) qNil))) (qCons (qOp opAdd (qVar 0) (qLst (qCons (qVar 4) qNil))) (qCons (qLc [4] (qiL (qVar 0)) (qgN 4) qYes (qUn opRevL (qVar 4))) (qCons (qOp opAdd (qOp opAdd (qSl (qVar 0) (qoS (qC (.int 0))) (qoS (qVar 2))) (qLst (qCons (qSl (qVar 4) (qoS (qC (.int 1))) qoN) qNil))) (qSl (qVar 0) (qoS (qOp opAdd (qVar 2) (qC (.int 1)))) qoN)) qNil))))))) (qgN 5))
  (qSeq (qAsg (qOp opAdd (qVar 5) (qLst (qCons (qOp opAdd (qOp opAdd (qSl (qVar 0) (qoS (qC (.int 0))) (qoS (qVar 2))) (qLst (qCons (qSl (qVar 4) (qoS (qC (.int 0))) (qoS (qC (.int 1)))) (qCons (qSl (qVar 4) (qoS (qC (.int 1))) qoN) qNil)))) (qSl (qVar 0) (qoS (qOp opAdd (qVar 2) (qC (.int 1)))) qoN)) (qCons (qOp opAdd (qOp opAdd (qSl (qVar 0) (qoS (qC (.int 0))) (qoS (qVar 2))) (qLst (qCons (qOp opAdd (qVar 4) (qLst (qCons (qOp opAdd (qUn opLen (qVar 0)) (qC (.int 30))) qNil))) qNil))) (qSl (qVar 0) (qoS (qOp opAdd (qVar 2) (qC (.int 1)))) qoN)) (qCons (qLc [8] (qiL (qVar 4)) (qgN 8) qYes (qLst (qCons (qVar 8) qNil))) qNil))))) (qgN 5))
  q__law_bent_groups_5))))
-- _law_bent_groups(groups, draws) slots: 0=groups 1=draws 2=at 3=to 4=group 5=found 6=low 7=high 8=card 9=some
def q__law_bent_groups : QS :=
  (qSeq (qAsg (qOp opMod (qOp opIx (qVar 1) (qC (.int 0))) (qUn opLen (qVar 0))) (qgN 2))
  (qSeq (qAsg (qOp opMod (qOp opIx (qVar 1) (qC (.int 1))) (qUn opLen (qVar 0))) (qgN 3))
  q__law_bent_groups_2))
structure GsN (gs : List (List Nat)) : Prop where
  n1 : 1 ≤ gs.length
  n2 : gs.length ≤ 12
  gl : ∀ g ∈ gs, 1 ≤ g.length ∧ g.length ≤ 12 ∧ ∀ x ∈ g, x < 12
theorem GsN.gl' {gs : List (List Nat)} (h : GsN gs) : Gl 12 (gs.map natsD) := Gl.map (fun g => g.map natD) gs (fun g hg => Il.nats (by have := (h.gl g hg).2.1; omega) fun x hx => by have := (h.gl g hg).2.2 x hx; omega) h.n2
def P__law_bent_groups : PD := fun ds R => ∃ (gs : List (List Nat)) (dr : List Int), ds = [grsD gs, intsD dr] ∧ GsN gs ∧ dr.length = 6 ∧ (∀ x ∈ dr, 0 ≤ x ∧ x < 5040) ∧ ∀ ps : List D, ps.length ≤ 20 → (∀ d ∈ ps, PapOk d) → R (.ow (.l ps))
/-- lists of lists that are papers' -/
def FdOk (fd : List D) : Prop := ∀ d ∈ fd, ∃ ds, d = .list ds ∧ Gl 40 ds
theorem bent_5 {R : Wv → Prop} {gs : List (List Nat)} {dr : List Int} {i j : Nat} (hg : GsN gs) (hi : i < gs.length) (hj : j < gs.length) {fd : List D} (hfl : fd.length ≤ 15) (hfd : FdOk fd) (h : ∀ ps : List D, ps.length ≤ 20 → (∀ d ∈ ps, PapOk d) → R (.ow (.l ps))) (x4 : Sl) :
    q__law_bent_groups_5 (endsOf R) [.sh (grsD gs), .sh (intsD dr), .sh (.int (i : Nat)), .sh (.int (j : Nat)), x4, .ow (.l fd), .un, .un, .un, .un] := by
  have hn2 := hg.n2
  have hG := hg.gl'
  have last : ∀ (fd : List D) (x6 x7 : Sl), fd.length ≤ 16 → FdOk fd → qRet (qLc [9] (qiL (qVar 5)) (qgN 9) qYes (qTup (qCons (qC (.str "groups")) (qCons (qVar 9) qNil)))) (endsOf R) [.sh (grsD gs), .sh (intsD dr), .sh (.int (i : Nat)), .sh (.int (j : Nat)), x4, .ow (.l fd), x6, x7, .un, .un] := fun fd x6 x7 hl hfd => by
    ac_rfl
    rw [show fd = fd.map (fun d : D => d) from (List.map_id' fd).symm]
    refine lcGo_inv (vs := [9]) (fun d : D => d) (fun r acc => acc.length + r.length ≤ 16 ∧ FdOk r ∧ ∀ d ∈ acc, PapOk d) ?_ ?_ fd [] ⟨by simpa using hl, hfd, by simp⟩
    · rintro acc ⟨h1, _, h2⟩
      exact h acc (by simp at h1; omega) h2
    · rintro d r acc K ⟨h1, h2, h3⟩ hK
      obtain ⟨ds, rfl, hds⟩ := h2 d (by simp)
      simp only [List.length_cons] at h1
      ac_rfl
      refine hK _ ⟨by simp; omega, fun e he => h2 e (List.mem_cons_of_mem _ he), fun e he => ?_⟩
      rcases List.mem_append.mp he with q | q
      · exact h3 e q
      · simp at q
        rw [q]
        exact pap_grp hds
  clear h
  ac_rfl
  rw [eqv_int]
  refine ⟨fun hz => ?_, fun hz => ?_⟩
  · obtain ⟨lo, hlo, hl1⟩ : ∃ lo : Nat, (if (j : Int) < (i : Int) then (j : Int) else (i : Int)) = (lo : Int) ∧ lo < gs.length := by
      split
      · exact ⟨j, rfl, hj⟩
      · exact ⟨i, rfl, hi⟩
    obtain ⟨up, hup, hu1⟩ : ∃ up : Nat, (if (j : Int) > (i : Int) then (j : Int) else (i : Int)) = (up : Int) ∧ up < gs.length := by
      split
      · exact ⟨j, rfl, hj⟩
      · exact ⟨i, rfl, hi⟩
    have el : gs[lo]? = some gs[lo] := List.getElem?_eq_getElem hl1
    have eu : gs[up]? = some gs[up] := List.getElem?_eq_getElem hu1
    obtain ⟨l1, l2, l3⟩ := hg.gl _ (List.getElem_mem hl1)
    obtain ⟨u1, u2, u3⟩ := hg.gl _ (List.getElem_mem hu1)
    have hIl : Il 12 (gs[lo].map natD) := Il.nats l2 fun x hx => by have := l3 x hx; omega
    have hIu : Il 12 (gs[up].map natD) := Il.nats u2 fun x hx => by have := u3 x hx; omega
    have c1 := (hG.cut (lo := some 0) (hi := some (lo : Int))).len
    have c2 := (hG.cut (lo := some ((lo : Int) + 1)) (hi := some (up : Int))).len
    have c3 := (hG.cut (lo := some ((up : Int) + 1)) (hi := none)).len
    have hlu := hIl.len
    have huu := hIu.len
    ac_rfl
    rw [hlo, ixD_map _ el]
    ac_rfl
    rw [hup, ixD_map _ eu]
    ac_rfl
    have hnew : FdOk (fd ++ [.list (cutD (gs.map natsD) (some 0) (some (lo : Int)) ++ [.list (gs[lo].map natD ++ gs[up].map natD)] ++ cutD (gs.map natsD) (some ((lo : Int) + 1)) (some (up : Int)) ++ cutD (gs.map natsD) (some ((up : Int) + 1)) none)]) := fun d hd => by
      rcases List.mem_append.mp hd with q | q
      · exact hfd d q
      · simp only [List.mem_singleton] at q
        exact ⟨_, q, (((hG.cut.app (Gl.one ((hIl.app hIu).mono (by omega)))).app hG.cut).app hG.cut).mono (by omega)⟩
    exact (show _ ∧ _ from last _ (.sh (.int (lo : Nat))) (.sh (.int (up : Nat))) (by simp; omega) hnew).2
  · ac_rfl
    exact (show _ ∧ _ from last fd _ _ (by omega) hfd).2
theorem bent_2 {R : Wv → Prop} {gs : List (List Nat)} {dr : List Int} {i j : Nat} (hg : GsN gs) (hi : i < gs.length) (hj : j < gs.length) (h : ∀ ps : List D, ps.length ≤ 20 → (∀ d ∈ ps, PapOk d) → R (.ow (.l ps))) :
    q__law_bent_groups_2 (endsOf R) [.sh (grsD gs), .sh (intsD dr), .sh (.int (i : Nat)), .sh (.int (j : Nat)), .un, .un, .un, .un, .un, .un] := by
  have hn2 := hg.n2
  have hgm : (gs.map natsD).length = gs.length := List.length_map _
  have egi : gs[i]? = some gs[i] := List.getElem?_eq_getElem hi
  obtain ⟨g1, g2, g3⟩ := hg.gl _ (List.getElem_mem hi)
  have hG := hg.gl'
  have hI : Il 12 (gs[i].map natD) := Il.nats g2 fun x hx => by have := g3 x hx; omega
  have tail := fun {fd : List D} (h1 : fd.length ≤ 15) (h2 : FdOk fd) => bent_5 (dr := dr) hg hi hj h1 h2 h (.sh (natsD gs[i]))
  unfold q__law_bent_groups_2
  generalize q__law_bent_groups_5 = t5 at *
  clear h
  ac_rfl
  rw [ixD_map _ egi]
  ac_rfl
  have c1 := (hG.cut (lo := some 0) (hi := some (i : Int))).len
  have c2 := (hG.cut (lo := some ((i : Int) + 1)) (hi := none)).len
  have c3 := hI.len
  have hmap : ∀ g ∈ gs, Il 30 (g.map natD).reverse := fun g hgg => (Il.nats (n := 30) (by have := (hg.gl g hgg).2.1; omega) fun x hx => by have := (hg.gl g hgg).2.2 x hx; omega).rev
  refine lc0_map (vs := [4]) natsD (fun g => .list (g.map natD).reverse) gs (fun g hgg acc K ha hK => ?_) (small (by omega)) ?_
  · ac_rfl
    exact hK
  · ac_rfl
    refine lc0_map (vs := [8]) natD (fun x => .list [natD x]) gs[i] (fun x hx acc K ha hK => ?_) (small (by omega)) ?_
    · ac_rfl
      exact hK
    · ac_rfl
      refine tail (by simp) ?_
      have k1 : Il 30 [PyData.int ((((gs.map natsD).length : Nat) : Int) + 30)] := (Il.one (by rw [hgm]; omega)).mono (by omega)
      intro d hd
      simp only [List.cons_append, List.nil_append, List.mem_cons, List.not_mem_nil, or_false] at hd
      rcases hd with rfl | rfl | rfl | rfl | rfl | rfl | rfl | rfl | rfl
      · exact ⟨_, rfl, hG.rev.mono (by omega)⟩
      · exact ⟨_, rfl, hG.cut.mono (by omega)⟩
      · exact ⟨_, rfl, (hG.app (Gl.one (Il.nil.mono (by omega)))).mono (by omega)⟩
      · exact ⟨_, rfl, (hG.app (Gl.one (hI.mono (by omega)))).mono (by omega)⟩
      · exact ⟨_, rfl, (Gl.map (fun g => (g.map natD).reverse) gs hmap hn2).mono (by omega)⟩
      · exact ⟨_, rfl, ((hG.cut.app (Gl.one (hI.cut.mono (by omega)))).app hG.cut).mono (by omega)⟩
      · exact ⟨_, rfl, ((hG.cut.app ((Gl.one (hI.cut.mono (by omega))).app (Gl.one (hI.cut.mono (by omega))))).app hG.cut).mono (by omega)⟩
      · exact ⟨_, rfl, ((hG.cut.app (Gl.one ((hI.app (Il.one (by rw [hgm]; omega))).mono (by omega)))).app hG.cut).mono (by omega)⟩
      · exact ⟨_, rfl, (Gl.mapN (fun x => [natD x]) gs[i] (fun x hx => (Il.one (by have := g3 x hx; omega)).mono (by omega)) g2).mono (by omega)⟩
theorem pure__law_bent_groups : ∀ ds R, ds.length = 2 → P__law_bent_groups ds R → q__law_bent_groups (endsOf R) (startEv 10 ds) := by
  rintro ds R - ⟨gs, dr, rfl, hg, hdl, hdr, h⟩
  have hn1 := hg.n1
  have hgm : (gs.map natsD).length = gs.length := List.length_map _
  obtain ⟨d0, e0, _⟩ := ints_at hdl (k := 0) (by omega) hdr
  obtain ⟨d1, e1, _⟩ := ints_at hdl (k := 1) (by omega) hdr
  have md : ∀ d : Nat, ∃ j : Nat, (d : Int) % ((gs.length : Nat) : Int) = (j : Int) ∧ j < gs.length := fun d => ⟨d % gs.length, by omega, Nat.mod_lt _ (by omega)⟩
  obtain ⟨i, ei, hi⟩ := md d0
  obtain ⟨j, ej, hj⟩ := md d1
  have tail := bent_2 (dr := dr) hg hi hj h
  unfold q__law_bent_groups
  generalize q__law_bent_groups_2 = t2 at *
  clear h
  ac_rfl
  rw [show ixD (dr.map PyData.int) 0 = _ from e0]
  ac_rfl
  rw [show ixD (dr.map PyData.int) 1 = _ from e1]
  ac_rfl
  rw [← ei, ← ej] at tail
  have e : (((gs.map natsD).length : Nat) : Int) = (gs.length : Int) := by rw [hgm]
  rw [← e] at tail
  exact tail
end PL

namespace PL
open PySem PySem.Spec PyProof.Rows L2
local macro_rules | `(tactic| ac_rfl) => `(tactic| ((conv => whnf); repeat ((first | refine Cif.yes ?_ | refine Cif.no ?_ | (refine And.intro ?_ ?_; · first | (show _ ≤ (_ : Int); omega) | (show _ < (_ : Int); omega) | assumption | exact trivial | exact rfl | (refine small ?_; first | omega | (simp only [List.length_map, List.length_cons, List.length_nil, List.length_append]; omega)) | (refine ltsmall ?_; first | omega | (simp only [List.length_map, List.length_cons, List.length_nil, List.length_append]; omega)) | (refine cdiv ?_ ?_ <;> omega) | (refine cmulR ?_ ?_ <;> omega) | (refine cmulL ?_ ?_ <;> omega) | (refine ⟨?_, ?_, ?_, ?_⟩ <;> omega))); (conv => whnf))))
local macro_rules | `(tactic| exists $e) => `(tactic| first | exact $e | exact And.right $e | exact And.right (And.right $e) | exact And.right (And.right (And.right $e)))
/-! ### what a verdict looks like -/
inductive VSh : D → Prop
  | grp (gs : List (List Nat)) : GsN gs → VSh (.tuple [.str (Str.ofString "groups"), grsD gs])
  | conf (ch : List Nat) (k : Str) : 1 ≤ ch.length → ch.length ≤ 12 → (∀ x ∈ ch, x < 12) → k.length ≤ 4 → VSh (.tuple [.str (Str.ofString "conflict"), natsD ch, .str k])
theorem groups_gn {cs : List Card} (hc : CsOk cs) (c1 : 1 ≤ cs.length) (h : List Str) (ks : List (List Str)) : GsN (groupsL (onesL cs h ks)) := by
  have gp := groups_gp hc h ks
  obtain ⟨g1, _⟩ := groups_ok (ones_gr hc h ks) (ones_sym hc h ks)
  have hn := hc.le
  refine ⟨?_, gp.le, fun g hg => ⟨List.length_pos_iff.mpr (g1.ne g hg), gp.one hn g hg, fun x hx => ?_⟩⟩
  · have := gp.all 0 (by omega)
    obtain ⟨g, hg, _⟩ := List.mem_flatten.mp this
    exact List.length_pos_of_mem hg
  · have := gp.lt x (List.mem_flatten.mpr ⟨g, hg, hx⟩)
    omega
theorem VerdD.sh {cs : List Card} {h : List Str} {ks : List (List Str)} {d : D} (dk : DeckOk cs h ks) (v : VerdD cs h ks d) : VSh d := by
  have hc := dk.ok
  have hn := hc.le
  unfold VerdD at v
  split at v
  · rw [v]
    exact .grp _ (groups_gn hc dk.c1 h ks)
  · rename_i p e
    obtain ⟨ch, k, h1, h2, rfl⟩ := v
    obtain ⟨p1, p2, p3, p4, p5⟩ := conf_some hc e
    have og := ones_gr hc h ks
    have os := ones_sym hc h ks
    have onl := ones_len cs h ks
    obtain ⟨sp, s1, s2⟩ := exists_sp og os (a := p.1) (c := p.2) (by rw [onl]; exact p2) (p4.symm os)
    have hl := h1.le sp s1.w
    refine .conf ch k ?_ (by omega) (fun x hx => ?_) (dk.hw k ?_)
    · obtain ⟨r, rfl⟩ := h1.w.hd
      simp
    · have := h1.w.lt og (by rw [onl]; exact p1) x hx
      omega
    · exact (List.mem_filter.mp (List.mem_of_getElem? h2)).1
theorem VSh.pap {d : D} (v : VSh d) : PapOk d := by
  cases v with
  | grp gs hg => exact pap_grp (hg.gl'.mono (by omega))
  | conf ch k h1 h2 h3 h4 => exact pap_conf ((Il.nats h2 fun x hx => by have := h3 x hx; omega).mono (by omega)) (by omega)
def q__law_papers_5 : QS :=
  (qSeq (qIfS (qB (qOp opEq (qOp opIx (qVar 3) (qC (.int 0))) (qC (.str "conflict"))))
   (qSeq (qAsg (qVar 3) (qgTup 3 (qgCons (qgN 10) (qgCons (qgN 11) (qgCons (qgN 12) qgNil)))))
   (qSeq (qAsg (qOp opAdd (qVar 7) (qLst (qCons (qTup (qCons (qVar 10) (qCons (qUn opRevL (qVar 11)) (qCons (qVar 12) qNil)))) (qCons (qTup (qCons (qVar 10) (qCons (qVar 11) (qCons (qVar 5) qNil)))) (qCons (qTup (qCons (qVar 10) (qCons (qSl (qVar 11) (qoS (qC (.int 1))) qoN) (qCons (qVar 12) qNil)))) (qCons (qTup (qCons (qVar 10) (qCons (qOp opAdd (qVar 11) (qSl (qVar 11) (qoS (qOp opSub (qUn opLen (qVar 11)) (qC (.int 2)))) (qoS (qOp opSub (qUn opLen (qVar 11)) (qC (.int 1)))))) (qCons (qVar 12) qNil)))) qNil)))))) (qgN 7))
   (qSeq (qAsg (qOp opAdd (qVar 7) (qLst (qCons (qTup (qCons (qVar 10) (qCons (qOp opAdd (qSl (qVar 11) (qoS (qC (.int 0))) (qoS (qC (.int 1)))) (qSl (qVar 11) (qoS (qC (.int 2))) qoN)) (qCons (qVar 12) qNil)))) (qCons (qTup (qCons (qVar 10) (qCons (qOp opAdd (qLst (qCons (qUn opLen (qVar 0)) qNil)) (qSl (qVar 11) (qoS (qC (.int 1))) qoN)) (qCons (qVar 12) qNil)))) (qCons (qTup (qCons (qVar 10) (qCons (qOp opAdd (qSl (qVar 11) (qoS (qC (.int 0))) (qoS (qC (.int 2)))) (qVar 11)) (qCons (qVar 12) qNil)))) qNil))))) (qgN 7))
   (qAsg (qOp opAdd (qVar 7) (qLst (qCons (qTup (qCons (qVar 10) (qCons (qOp opAdd (qSl (qVar 11) (qoS (qC (.int 0))) (qoS (qC (.int 1)))) (qVar 11)) (qCons (qVar 12) qNil)))) (qCons (qTup (qCons (qVar 10) (qCons (qOp opAdd (qLst (qCons (qUn opNeg (qC (.int 1))) qNil)) (qVar 11)) (qCons (qVar 12) qNil)))) qNil)))) (qgN 7)))))
   qNext)
  (qRet (qVar 7)))
def q__law_papers_3 : QS :=
  (qSeq (qAsg (qOp opAdd (qVar 7) (qCall 2 P__law_bent_groups (qCons (qVar 6) (qCons (qVar 4) qNil)))) (qgN 7))
  (qSeq (qFor (qiL (qVar 6)) (qgN 8)
   (qFor (qiL (qLst (qCons (qVar 8) (qCons (qUn opRevL (qVar 8)) (qCons (qLst (qCons (qOp opIx (qVar 8) (qC (.int 0))) (qCons (qOp opIx (qVar 8) (qOp opSub (qUn opLen (qVar 8)) (qC (.int 1)))) qNil))) qNil))))) (qgN 9)
    (qDrop (qApp 7 (qTup (qCons (qC (.str "conflict")) (qCons (qVar 9) (qCons (qVar 5) qNil))))))))
  q__law_papers_5))
-- _law_papers(cards, hard, ones, verdict, draws) slots: 0=cards 1=hard 2=ones 3=verdict 4=draws 5=kind 6=groups 7=found 8=group 9=other 10=word 11=chain 12=own
def q__law_papers : QS :=
  (qSeq (qAsg (qOp opIx (qOp opAdd (qVar 1) (qLst (qCons (qC (.str "none")) qNil))) (qOp opMod (qOp opIx (qVar 4) (qC (.int 2))) (qOp opAdd (qUn opLen (qVar 1)) (qC (.int 1))))) (qgN 5))
  (qSeq (qAsg (qCall 1 P__law_groups (qCons (qVar 2) qNil)) (qgN 6))
  (qFrz 6 (qSeq (qAsg (qLst (qCons (qVar 3) (qCons (qOp opAdd (qVar 3) (qTup (qCons (qVar 5) qNil))) (qCons (qSl (qVar 3) (qoS (qC (.int 0))) (qoS (qC (.int 1)))) (qCons (qOp opAdd (qTup (qCons (qC (.str "group")) qNil)) (qSl (qVar 3) (qoS (qC (.int 1))) qoN)) (qCons (qTup (qCons (qC (.str "groups")) (qCons (qVar 6) qNil))) (qCons (qTup (qCons (qC (.str "groups")) (qCons (qLst qNil) qNil))) (qCons (qTup (qCons (qC (.str "conflict")) (qCons (qLst (qCons (qC (.int 0)) qNil)) (qCons (qVar 5) qNil)))) qNil)))))))) (qgN 7))
  q__law_papers_3))))
def AllP (ps : List D) : Prop := ∀ d ∈ ps, PapOk d
theorem AllP.app {a b : List D} (h : AllP a) (h' : AllP b) : AllP (a ++ b) := fun d hd => by
  rcases List.mem_append.mp hd with q | q
  · exact h d q
  · exact h' d q
theorem AllP.cons {a : D} {b : List D} (h : PapOk a) (h' : AllP b) : AllP (a :: b) := fun d hd => by
  rcases List.mem_cons.mp hd with q | q
  · rw [q]
    exact h
  · exact h' d q
theorem AllP.nil : AllP [] := by simp [AllP]
theorem papers_5 {R : Wv → Prop} {cs : List Card} {d : D} {kk : Str} {fd : List D} (hv : VSh d) (hn : cs.length ≤ 12) (hk : kk.length ≤ 4) (hfl : fd.length ≤ 80) (hfd : AllP fd) (h : ∀ ps : List D, ps.length ≤ 100 → AllP ps → R (.ow (.l ps))) (x1 x2 x4 x6 x8 x9 : Sl) :
    q__law_papers_5 (endsOf R) [.sh (cardsD cs), x1, x2, .sh d, x4, .sh (.str kk), x6, .ow (.l fd), x8, x9, .un, .un, .un] := by
  cases hv with
  | grp gs hg =>
    ac_rfl
    exact h fd (by omega) hfd
  | conf ch k h1 h2 h3 h4 =>
    have hI : Il 12 (ch.map natD) := Il.nats h2 fun x hx => by have := h3 x hx; omega
    have hcl : (cs.map cardD).length = cs.length := List.length_map _
    have hl := hI.len
    have c1 := (hI.cut (lo := some 1) (hi := none)).len
    have c2 := (hI.cut (lo := some ((((ch.map natD).length : Nat) : Int) - 2)) (hi := some ((((ch.map natD).length : Nat) : Int) - 1))).len
    have c3 := (hI.cut (lo := some 0) (hi := some 1)).len
    have c4 := (hI.cut (lo := some 2) (hi := none)).len
    have c5 := (hI.cut (lo := some 0) (hi := some 2)).len
    ac_rfl
    refine h _ (by simp; omega) ?_
    have k1 : Il 1 [PyData.int (((cs.map cardD).length : Nat) : Int)] := Il.one (by rw [hcl]; omega)
    refine ((hfd.app ?_).app ?_).app ?_
    · exact .cons (pap_conf (hI.rev.mono (by omega)) (by omega)) (.cons (pap_conf (hI.mono (by omega)) (by omega)) (.cons (pap_conf (hI.cut.mono (by omega)) (by omega)) (.cons (pap_conf ((hI.app hI.cut).mono (by omega)) (by omega)) .nil)))
    · exact .cons (pap_conf ((hI.cut.app hI.cut).mono (by omega)) (by omega)) (.cons (pap_conf ((k1.app hI.cut).mono (by omega)) (by omega)) (.cons (pap_conf ((hI.cut.app hI).mono (by omega)) (by omega)) .nil))
    · exact .cons (pap_conf ((hI.cut.app hI).mono (by omega)) (by omega)) (.cons (pap_conf (((Il.one (by omega)).app hI).mono (by omega)) (by omega)) .nil)
theorem papers_3 {R : Wv → Prop} {cs : List Card} {d : D} {kk : Str} {fd : List D} {gs : List (List Nat)} {dr : List Int} (hg : GsN gs) (hdl : dr.length = 6) (hdr : ∀ x ∈ dr, 0 ≤ x ∧ x < 5040) (hv : VSh d) (hn : cs.length ≤ 12) (hk : kk.length ≤ 4) (hfl : fd.length ≤ 10) (hfd : AllP fd) (h : ∀ ps : List D, ps.length ≤ 100 → AllP ps → R (.ow (.l ps))) (x1 x2 : Sl) :
    q__law_papers_3 (endsOf R) [.sh (cardsD cs), x1, x2, .sh d, .sh (intsD dr), .sh (.str kk), .sh (grsD gs), .ow (.l fd), .un, .un, .un, .un, .un] := by
  have tail := fun {fd : List D} (h1 : fd.length ≤ 80) (h2 : AllP fd) x8 x9 => papers_5 hv hn hk h1 h2 h x1 x2 (.sh (intsD dr)) (.sh (grsD gs)) x8 x9
  unfold q__law_papers_3
  generalize q__law_papers_5 = t5 at *
  have hn2 := hg.n2
  clear h
  ac_rfl
  refine ⟨gs, dr, rfl, hg, hdl, hdr, fun ps hpl hps => ?_⟩
  ac_rfl
  refine forGo_ok natsD (fun r Γ => ∃ (fd : List D) (x8 x9 : Sl), Γ = [.sh (cardsD cs), x1, x2, .sh d, .sh (intsD dr), .sh (.str kk), .sh (grsD gs), .ow (.l fd), x8, x9, .un, .un, .un] ∧ fd.length + 3 * r.length ≤ 80 ∧ AllP fd ∧ ∀ g ∈ r, 1 ≤ g.length ∧ g.length ≤ 12 ∧ ∀ x ∈ g, x < 12) ?_ ?_ gs _ ⟨fd ++ ps, _, _, rfl, by simp; omega, hfd.app hps, hg.gl⟩
  · rintro Γ ⟨fd, x8, x9, rfl, h1, h2, _⟩
    exact tail (by simpa using h1) h2 _ _
  · rintro g r Γ K ⟨fd, x8, x9, rfl, h1, h2, h3⟩ hK
    obtain ⟨g1, g2, g3⟩ := h3 g (by simp)
    simp only [List.length_cons] at h1
    have hI : Il 12 (g.map natD) := Il.nats g2 fun x hx => by have := g3 x hx; omega
    have hgm : (g.map natD).length = g.length := List.length_map _
    have e0 : g[0]? = some g[0] := List.getElem?_eq_getElem (by omega)
    have e1 : g[g.length - 1]? = some g[g.length - 1] := List.getElem?_eq_getElem (by omega)
    have b0 := g3 _ (List.getElem_mem (show 0 < g.length by omega))
    have b1 := g3 _ (List.getElem_mem (show g.length - 1 < g.length by omega))
    clear tail
    ac_rfl
    rw [show ixD (g.map natD) 0 = some (natD g[0]) from ixD_map natD e0]
    ac_rfl
    rw [hgm, show (((g.length : Nat) : Int) - 1) = ((g.length - 1 : Nat) : Int) by omega, ixD_map natD e1]
    ac_rfl
    refine hK _ ⟨fd ++ [.tuple [.str (Str.ofString "conflict"), natsD g, .str kk]] ++ [.tuple [.str (Str.ofString "conflict"), .list (g.map natD).reverse, .str kk]] ++ [.tuple [.str (Str.ofString "conflict"), .list [natD g[0], natD g[g.length - 1]], .str kk]], _, _, rfl, by simp; omega, ?_, fun z hz => h3 z (List.mem_cons_of_mem _ hz)⟩
    refine ((h2.app (.cons (pap_conf (hI.mono (by omega)) (by omega)) .nil)).app (.cons (pap_conf (hI.rev.mono (by omega)) (by omega)) .nil)).app (.cons (pap_conf ?_ (by omega)) .nil)
    exact ((Il.one (x := (g[0] : Nat)) (by omega)).app (Il.one (x := (g[g.length - 1] : Nat)) (by omega))).mono (by omega)
def P__law_papers : PD := fun ds R => ∃ (cs : List Card) (h : List Str) (ks : List (List Str)) (d : D) (dr : List Int), ds = [cardsD cs, txtsD h, onD (onesL cs h ks), d, intsD dr] ∧ DeckOk cs h ks ∧ VSh d ∧ dr.length = 6 ∧ (∀ x ∈ dr, 0 ≤ x ∧ x < 5040) ∧ ∀ ps : List D, ps.length ≤ 100 → AllP ps → R (.ow (.l ps))
theorem pure__law_papers : ∀ ds R, ds.length = 5 → P__law_papers ds R → q__law_papers (endsOf R) (startEv 13 ds) := by
  rintro ds R - ⟨cs, hd, ks, d, dr, rfl, dk, hv, hdl, hdr, h⟩
  have hn := dk.ok.le
  have og := ones_gr dk.ok hd ks
  have hg := groups_gn dk.ok dk.c1 hd ks
  have hhl := dk.hl
  have hhm : (hd.map PyData.str).length = hd.length := List.length_map _
  obtain ⟨d2, e2, _⟩ := ints_at hdl (k := 2) (by omega) hdr
  have hnone : (Str.ofString "none").length = 4 := by decide +kernel
  have hkk : ∃ kk : Str, ixD (hd.map PyData.str ++ [.str (Str.ofString "none")]) ((d2 : Int) % (((hd.length : Nat) : Int) + 1)) = some (.str kk) ∧ kk.length ≤ 4 := by
    have hj : d2 % (hd.length + 1) < (hd ++ [Str.ofString "none"]).length := by
      rw [List.length_append]
      exact Nat.mod_lt _ (by omega)
    have em : (d2 : Int) % (((hd.length : Nat) : Int) + 1) = ((d2 % (hd.length + 1) : Nat) : Int) := by
      obtain ⟨m, hm⟩ : ∃ m, m = hd.length + 1 := ⟨_, rfl⟩
      rw [← hm, show (((hd.length : Nat) : Int) + 1) = (m : Int) by omega]
      omega
    rw [map_snocS, em, ixD_map PyData.str (List.getElem?_eq_getElem hj)]
    refine ⟨_, rfl, ?_⟩
    rcases List.mem_append.mp (List.getElem_mem hj) with q | q
    · exact dk.hw _ q
    · simp only [List.mem_singleton] at q
      rw [q]
      omega
  obtain ⟨kk, ek, hkl⟩ := hkk
  have tail := fun {fd : List D} (h1 : fd.length ≤ 10) (h2 : AllP fd) => papers_3 hg hdl hdr hv hn hkl h1 h2 h (.sh (txtsD hd)) (.sh (onD (onesL cs hd ks)))
  unfold q__law_papers
  generalize q__law_papers_3 = t3 at *
  clear h
  have hg0 := hg.gl'
  have hpv := hv.pap
  have n1 : ¬ Str.ofString "group" = Str.ofString "groups" := by decide +kernel
  have n2 : ¬ Str.ofString "group" = Str.ofString "conflict" := by decide +kernel
  have n3 : ¬ Str.ofString "conflict" = Str.ofString "groups" := by decide +kernel
  have n4 : ¬ Str.ofString "groups" = Str.ofString "conflict" := by decide +kernel
  have w1 : (Str.ofString "group").length ≤ 10 := by decide +kernel
  have w2 : (Str.ofString "groups").length ≤ 10 := by decide +kernel
  have w3 : (Str.ofString "conflict").length ≤ 10 := by decide +kernel
  have pk : Pd 0 4 (.str kk) := Pd.str.mono (by omega) hkl
  cases hv with
  | grp gs' hg' =>
    ac_rfl
    rw [show ixD (dr.map PyData.int) 2 = _ from e2]
    ac_rfl
    rw [hhm, ek]
    ac_rfl
    refine ⟨_, rfl, og, ?_⟩
    ac_rfl
    have pg := gl_pd hg'.gl'
    refine tail (by simp) (.cons hpv (.cons ?_ (.cons ?_ (.cons ?_ (.cons (pap_grp (hg0.mono (by omega))) (.cons (pap_grp (Gl.nil.mono (by omega))) (.cons (pap_conf ((Il.one (x := 0) (by omega)).mono (by omega)) (by omega)) .nil)))))))
    · exact pap_oth w2 (.cons pg (.cons (pk.mono (by omega) (Nat.le_refl _)) .nil)) (by omega) (fun z => by simp at z) (fun z => n4 z.1)
    · exact pap_oth w2 .nil (by omega) (fun z => by simp at z) (fun z => n4 z.1)
    · exact pap_oth w1 (.cons pg .nil) (by omega) (fun z => n1 z.1) (fun z => n2 z.1)
  | conf ch k h1 h2 h3 h4 =>
    ac_rfl
    rw [show ixD (dr.map PyData.int) 2 = _ from e2]
    ac_rfl
    rw [hhm, ek]
    ac_rfl
    refine ⟨_, rfl, og, ?_⟩
    ac_rfl
    refine ⟨small (by rw [show cutD [PyData.str (Str.ofString "conflict"), natsD ch, .str k] (some 1) none = [natsD ch, .str k] from rfl]; simp), ?_⟩
    ac_rfl
    have hI : Il 12 (ch.map natD) := Il.nats h2 fun x hx => by have := h3 x hx; omega
    have pc : Pd 2 (41 * 12) (natsD ch) := (il_pd hI).mono (by omega) (Nat.le_refl _)
    have pk2 : Pd 0 4 (.str k) := Pd.str.mono (by omega) h4
    refine tail (by simp) (.cons hpv (.cons ?_ (.cons ?_ (.cons ?_ (.cons (pap_grp (hg0.mono (by omega))) (.cons (pap_grp (Gl.nil.mono (by omega))) (.cons (pap_conf ((Il.one (x := 0) (by omega)).mono (by omega)) (by omega)) .nil)))))))
    · exact pap_oth w3 (.cons pc (.cons (pk2.mono (by omega) (Nat.le_refl _)) (.cons (pk.mono (by omega) (Nat.le_refl _)) .nil))) (by omega) (fun z => n3 z.1) (fun z => by simp at z)
    · exact pap_oth w3 .nil (by omega) (fun z => n3 z.1) (fun z => by simp at z)
    · exact pap_oth w1 (.cons pc (.cons (pk2.mono (by omega) (Nat.le_refl _)) .nil)) (by omega) (fun z => n1 z.1) (fun z => n2 z.1)
end PL

namespace PL
open PySem PySem.Spec PyProof.Rows L2
local macro_rules | `(tactic| ac_rfl) => `(tactic| ((conv => whnf); repeat ((first | refine Cif.yes ?_ | refine Cif.no ?_ | (refine And.intro ?_ ?_; · first | (show _ ≤ (_ : Int); omega) | (show _ < (_ : Int); omega) | assumption | exact trivial | exact rfl | (refine small ?_; first | omega | (simp only [List.length_map, List.length_cons, List.length_nil, List.length_append]; omega)) | (refine ltsmall ?_; first | omega | (simp only [List.length_map, List.length_cons, List.length_nil, List.length_append]; omega)) | (refine cdiv ?_ ?_ <;> omega) | (refine cmulR ?_ ?_ <;> omega) | (refine cmulL ?_ ?_ <;> omega) | (refine ⟨?_, ?_, ?_, ?_⟩ <;> omega))); (conv => whnf))))
local macro_rules | `(tactic| exists $e) => `(tactic| first | exact $e | exact And.right $e | exact And.right (And.right $e) | exact And.right (And.right (And.right $e)))
/-! ### never both kinds -/
theorem chain_reach {on : Gr} {c : List Int} (h : chainB on c = true) : ∀ (k : Nat) (a b : Nat), c[0]? = some (a : Int) → c[k]? = some (b : Int) → Reach on a b
  | 0, a, b, h1, h2 => by
    rw [h1] at h2
    have := Option.some.inj h2
    have : a = b := by omega
    rw [this]
    exact .refl b
  | k + 1, a, b, h1, h2 => by
    obtain ⟨hl, hs⟩ := chain_iff.mp h
    have hk := (List.getElem?_eq_some_iff.mp h2).1
    have e : c[k]? = some c[k] := List.getElem?_eq_getElem (by omega)
    obtain ⟨⟨p1, p2⟩, _⟩ := hs k _ e
    have hn := (hs (k + 1) _ h2).2 c[k] (by omega) e
    obtain ⟨y, hy, hyb⟩ := List.mem_map.mp hn
    have : y = b := by omega
    subst this
    exact (chain_reach h k a c[k].toNat h1 (by rw [e]; congr 1; omega)).tail hy
theorem parts_none {cs : List Card} {h : List Str} {ks : List (List Str)} (hc : CsOk cs) {gs : List (List Int)} (hp : partsB cs h ks gs = true) : confL cs h (groupsL (onesL cs h ks)) = none := by
  cases e : confL cs h (groupsL (onesL cs h ks)) with
  | none => rfl
  | some p =>
    exfalso
    obtain ⟨p1, p2, p3, p4, p5⟩ := conf_some hc e
    unfold partsB at hp
    simp only [Bool.and_eq_true, decide_eq_true_eq, List.all_eq_true] at hp
    obtain ⟨h1, _, _, h3⟩ := hp
    obtain ⟨_, _, t3⟩ := toN_spec h1
    have hin : p.1 ∈ (toN gs).flatten := t3.mem_iff.mpr (List.mem_range.mpr p1)
    obtain ⟨g, hg, hpg⟩ := List.mem_flatten.mp hin
    have hG := h3 g hg
    have hcl : Closed (onesL cs h ks) g := fun x hx y hy => by
      have := hG.1
      unfold closB at this
      simp only [List.all_eq_true, decide_eq_true_eq] at this
      exact this x hx y hy
    have h2g := hcl.reach p4 hpg
    have := hG.2
    unfold naB at this
    simp only [List.all_eq_true] at this
    have := this p.1 hpg p.2 h2g
    rw [p5] at this
    simp at this
theorem confP_some {cs : List Card} {h : List Str} {ks : List (List Str)} (hc : CsOk cs) {c : List Int} {k : Str} (hp : confPB cs h ks c k = true) : ∃ p, confL cs h (groupsL (onesL cs h ks)) = some p := by
  unfold confPB at hp
  simp only [Bool.and_eq_true, decide_eq_true_eq] at hp
  obtain ⟨hkh, hcb, hkd⟩ := hp
  obtain ⟨a, b, e1, e2, ha, hb, _⟩ := chain_ends hcb
  have hr := chain_reach hcb _ a b e1 e2
  rw [e1, e2] at hkd
  simp only [Option.getD_some, Int.toNat_natCast] at hkd
  have onl := ones_len cs h ks
  have og := ones_gr hc h ks
  have os := ones_sym hc h ks
  have hap : apB (cdAt cs a) (cdAt cs b) h = true := List.any_eq_true.mpr ⟨k, hkd, by simpa using hkh⟩
  rw [onl] at ha hb
  have key : ∀ i j, i < j → j < cs.length → Reach (onesL cs h ks) i j → apB (cdAt cs i) (cdAt cs j) h = true → ∃ p, confL cs h (groupsL (onesL cs h ks)) = some p := fun i j hij hj hre hap => by
    unfold confL
    rw [← Option.isSome_iff_exists, List.find?_isSome]
    refine ⟨(i, j), List.mem_flatMap.mpr ⟨i, List.mem_range.mpr (by omega), List.mem_map.mpr ⟨j, ?_, rfl⟩⟩, ?_⟩
    · refine List.mem_of_getElem? (i := j - (i + 1)) ?_
      rw [List.getElem?_drop, List.getElem?_range (by omega)]
      congr 1
      omega
    · unfold confB
      rw [(sameG_iff og os (by rw [onl]; omega)).mpr hre, hap]
      rfl
  by_cases hab : a < b
  · exact key a b hab hb hr hap
  · by_cases hba : b < a
    · exact key b a hba ha (hr.symm os) (by rw [ap_symm (hc.at hb) (hc.at ha)]; exact hap)
    · have : a = b := by omega
      subst this
      rw [ap_self (hc.at ha)] at hap
      cases hap
theorem pap_word {cs : List Card} {h : List Str} {ks : List (List Str)} (hc : CsOk cs) {w : Str} {r : List D} {d : D} (p : PapJ cs h ks w r true) (v : VerdD cs h ks d) : ∃ r', d = .tuple (.str w :: r') := by
  generalize hb : true = b at p
  cases p with
  | grp gs hg =>
    have := parts_none hc hb.symm
    unfold VerdD at v
    rw [this] at v
    exact ⟨_, v⟩
  | conf c k hl =>
    obtain ⟨p, hp⟩ := confP_some hc hb.symm
    unfold VerdD at v
    rw [hp] at v
    obtain ⟨ch, kk, _, _, e⟩ := v
    exact ⟨_, e⟩
  | oth _ _ h1 h2 => cases hb
/-! ### grown data -/
theorem PreA.refl : ∀ ds : List D, PreA ds ds
  | [] => .nil
  | d :: r => .cons (.refl d) (PreA.refl r)
theorem PreD.tup_inv {ds : List D} {d : D} (h : PreD (.tuple ds) d) : ∃ es, d = .tuple es ∧ PreA ds es := by
  cases h with
  | refl => exact ⟨ds, rfl, PreA.refl ds⟩
  | tup h => exact ⟨_, rfl, h⟩
theorem PreD.lst_inv {ds : List D} {d : D} (h : PreD (.list ds) d) : ∃ es m, d = .list (es ++ m) ∧ m.length ≤ 1 ∧ PreA ds es := by
  cases h with
  | refl => exact ⟨ds, [], by rw [List.append_nil], by simp, PreA.refl ds⟩
  | lst m hm h => exact ⟨_, m, rfl, hm, h⟩
theorem PreD.str_inv {w : Str} {d : D} (h : PreD (.str w) d) : d = .str w := by
  cases h with
  | refl => rfl
theorem PreA.len {ds es : List D} (h : PreA ds es) : es.length = ds.length := by
  induction ds generalizing es with
  | nil => cases h; rfl
  | cons d r ih =>
    cases h with
    | cons _ h => rw [List.length_cons, List.length_cons, ih h]
theorem deck_pd {cs : List Card} {h : List Str} {ks : List (List Str)} (dk : DeckOk cs h ks) : Pd 4 50000 (deckD cs h ks) := by
  have hn := dk.ok.le
  have p1 : Pd 3 2000 (cardsD cs) := by
    refine Pd.mono (.lst (PdA.mapL (k := 2) (w := 60) (n := 12) cardD cs (fun c hc => ?_) hn)) (by omega) (by omega)
    refine Pd.mono (.lst (PdA.mapL (k := 1) (w := 10) (n := 5) cpD c (fun p hp => ?_) (dk.ok.ok c hc).le)) (by omega) (by omega)
    have := dk.cw c hc p hp
    exact Pd.mono (.tup (.cons .str (.cons .str .nil))) (by omega) (by omega)
  have p2 : Pd 1 25 (txtsD h) := strs_pd dk.hw dk.hl
  have p3 : Pd 2 200 (kysD ks) := Pd.mono (.lst (PdA.mapL (k := 1) (w := 30) (n := 6) txtsD ks (fun k hk => strs_pd (dk.kl k hk).2 (dk.kl k hk).1) dk.kn)) (by omega) (by omega)
  exact Pd.mono (.tup (.cons p1 (.cons (p2.mono (by omega) (Nat.le_refl _)) (.cons (p3.mono (by omega) (Nat.le_refl _)) .nil)))) (by omega) (by omega)
end PL

namespace PL
open PySem PySem.Spec PyProof.Rows L2
local macro_rules | `(tactic| ac_rfl) => `(tactic| ((conv => whnf); repeat ((first | refine Cif.yes ?_ | refine Cif.no ?_ | (refine And.intro ?_ ?_; · first | (show _ ≤ (_ : Int); omega) | (show _ < (_ : Int); omega) | assumption | exact trivial | exact rfl | (refine small ?_; first | omega | (simp only [List.length_map, List.length_cons, List.length_nil, List.length_append]; omega)) | (refine ltsmall ?_; first | omega | (simp only [List.length_map, List.length_cons, List.length_nil, List.length_append]; omega)) | (refine cdiv ?_ ?_ <;> omega) | (refine cmulR ?_ ?_ <;> omega) | (refine cmulL ?_ ?_ <;> omega) | (refine ⟨?_, ?_, ?_, ?_⟩ <;> omega))); (conv => whnf))))
local macro_rules | `(tactic| exists $e) => `(tactic| first | exact $e | exact And.right $e | exact And.right (And.right $e) | exact And.right (And.right (And.right $e)))
theorem DeckOk.kso {cs : List Card} {h : List Str} {ks : List (List Str)} (d : DeckOk cs h ks) : KsOk ks := ⟨by have := d.kn; omega, fun k hk => by have := (d.kl k hk).1; omega⟩
def q_law_11 : QS :=
  (qRet (qAndV (qOp opEq (qVar 6) (qUn opShow (qTup (qCons (qVar 1) (qCons (qVar 2) (qCons (qVar 3) qNil)))))) (qOp opEq (qUn opLen (qLc [19] (qiL (qVar 12)) (qgN 19) (qB (qOp opNe (qVar 19) (qOp opIx (qVar 9) (qC (.int 0))))) (qVar 19))) (qC (.int 0)))))
def q_law_10 : QS :=
  (qSeq (qFor (qiL (qLst (qCons (qVar 9) (qCons (qTup (qCons (qC (.str "groups")) (qCons (qLc [18] (qiR1 (qCons (qUn opLen (qOp opIx (qVar 4) (qC (.int 0)))) qNil)) (qgN 18) qYes (qLst (qCons (qVar 18) qNil))) qNil))) qNil)))) (qgN 14)
   (qSeq (qAsg (qCall 4 P_judge_groups (qCons (qOp opIx (qVar 4) (qC (.int 0))) (qCons (qOp opIx (qVar 4) (qC (.int 1))) (qCons (qOp opIx (qVar 4) (qC (.int 2))) (qCons (qVar 14) qNil))))) (qgN 17))
   (qIfS (qOr (qNot (qB (qUn (opIsi "bool") (qVar 17)))) (qB (qOp opNe (qVar 17) (qCall 4 P__law_accepts (qCons (qOp opIx (qVar 4) (qC (.int 0))) (qCons (qOp opIx (qVar 4) (qC (.int 1))) (qCons (qCall 3 P__law_ones (qCons (qOp opIx (qVar 4) (qC (.int 0))) (qCons (qOp opIx (qVar 4) (qC (.int 1))) (qCons (qOp opIx (qVar 4) (qC (.int 2))) qNil)))) (qCons (qVar 14) qNil))))))))
    (qRet (qC (.bool false)))
    qNext)))
  q_law_11)
def q_law_7 : QS :=
  (qSeq (qAsg (qLst qNil) (qgN 12))
  (qSeq (qAsg (qCall 3 P__law_ones (qCons (qVar 1) (qCons (qVar 2) (qCons (qVar 3) qNil)))) (qgN 13))
  (qFrz 13 (qSeq (qFor (qiL (qCall 5 P__law_papers (qCons (qVar 1) (qCons (qVar 2) (qCons (qVar 13) (qCons (qVar 9) (qCons (qVar 5) qNil))))))) (qgN 14)
   (qSeq (qAsg (qUn opShow (qVar 14)) (qgN 15))
   (qFrz 15 (qSeq (qAsg (qCall 4 P__law_accepts (qCons (qVar 1) (qCons (qVar 2) (qCons (qVar 13) (qCons (qVar 14) qNil))))) (qgN 16))
   (qSeq (qAsg (qCall 4 P_judge_groups (qCons (qVar 1) (qCons (qVar 2) (qCons (qVar 3) (qCons (qVar 14) qNil))))) (qgN 17))
   (qSeq (qIfS (qOr (qNot (qB (qUn (opIsi "bool") (qVar 17)))) (qOr (qB (qOp opNe (qVar 17) (qVar 16))) (qB (qOp opNe (qUn opShow (qVar 14)) (qVar 15)))))
    (qRet (qC (.bool false)))
    qNext)
   (qIfS (qB (qVar 16))
    (qDrop (qApp 12 (qOp opIx (qVar 14) (qC (.int 0)))))
    qNext)))))))
  q_law_10))))
def q_law_6 : QS :=
  (qSeq (qFor (qiR1 (qCons (qC (.int 2)) qNil)) (qgN 10)
   (qSeq (qAsg (qCallD 3 P_find_groups (qCons (qVar 1) (qCons (qVar 2) (qCons (qVar 3) qNil)))) (qgN 11))
   (qSeq (qIfS (qNot (qB (qCallB 2 P__law_same [11, 9])))
    (qRet (qC (.bool false)))
    qNext)
   (qSeq (qDrop (qFgtK 11 (fun d => (some d).bind (ixP 1))))
   (qIfS (qB (qOp opEq (qIxP 11 (fun d => (some d).bind (ixP 0))) (qC (.str "groups"))))
    (qDrop (qFgtK 11 (fun d => ((fun d => (some d).bind (ixP 1)) d).bind (ixP 0))))
    qNext)))))
  q_law_7)
def q_law_5 : QS :=
  (qSeq (qAsg (qCall 3 P__law_group_paper (qCons (qVar 1) (qCons (qVar 2) (qCons (qVar 3) qNil)))) (qgN 9))
  q_law_6)
def q_law_3 : QS :=
  (qSeq (qAsg (qUn opShow (qTup (qCons (qVar 1) (qCons (qVar 2) (qCons (qVar 3) qNil))))) (qgN 6))
  (qFrz 6 (qSeq (qFor (qiL (qSl (qVar 1) (qoS (qC (.int 0))) (qoS (qC (.int 5))))) (qgN 7)
   (qFor (qiL (qSl (qVar 1) (qoS (qC (.int 0))) (qoS (qC (.int 5))))) (qgN 8)
    (qIfS (qNot (qB (qCall 2 P__law_same (qCons (qCall 4 P_relation (qCons (qVar 7) (qCons (qVar 8) (qCons (qVar 2) (qCons (qVar 3) qNil))))) (qCons (qCall 4 P__law_relation (qCons (qVar 7) (qCons (qVar 8) (qCons (qVar 2) (qCons (qVar 3) qNil))))) qNil)))))
     (qRet (qC (.bool false)))
     qNext)))
  q_law_5)))
-- law(script) slots: 0=script 1=cards 2=hard 3=keys 4=third 5=draws 6=kept 7=one 8=other 9=verdict* 10=turn 11=told 12=kinds 13=ones 14=paper 15=before 16=due 17=answer 18=k 19=kind
def q_law : QS :=
  (qSeq (qAsg (qCall 3 P__law_deck (qCons (qVar 0) (qCons (qC (.int 0)) (qCons (qOp opIx (qLst (qCons (qC (.int 4)) (qCons (qC (.int 8)) (qCons (qC (.int 12)) qNil)))) (qOp opMod (qCall 2 P__law_cell (qCons (qVar 0) (qCons (qC (.int 4)) qNil))) (qC (.int 3)))) qNil)))) (qgTup 3 (qgCons (qgN 1) (qgCons (qgN 2) (qgCons (qgN 3) qgNil)))))
  (qSeq (qAsg (qCall 3 P__law_deck (qCons (qVar 0) (qCons (qC (.int 2)) (qCons (qC (.int 6)) qNil)))) (qgN 4))
  (qSeq (qAsg (qCall 3 P__law_numbers (qCons (qCall 2 P__law_cell (qCons (qVar 0) (qCons (qC (.int 5)) qNil))) (qCons (qC (.int 6)) (qCons (qC (.int 5040)) qNil)))) (qgN 5))
  (qFrz 5 q_law_3))))
def P_law : PD := fun ds R => ∃ ns : List Int, ds = [scrD ns] ∧ ns.length ≤ 63 ∧ R (.sh (.bool true))
theorem law_11 {R : Wv → Prop} {cs : List Card} {hd : List Str} {ks : List (List Str)} (dk : DeckOk cs hd ks) {w : Str} {r : List D} {us : List Unit} (hu : us.length ≤ 1000) (h : R (.sh (.bool true))) (x0 x4 x5 x7 x8 x10 x11 x13 x14 x15 x16 x17 : Sl) :
    q_law_11 (endsOf R) [x0, .sh (cardsD cs), .sh (txtsD hd), .sh (kysD ks), x4, x5, .sh (.str (deckD cs hd ks).shown), x7, x8, .sh (.tuple (.str w :: r)), x10, x11, .ow (.l (us.map fun _ => .str w)), x13, x14, x15, x16, x17, .un, .un] := by
  have hp := deck_pd dk
  obtain ⟨s1, s2, s3⟩ := hp.show (by omega) (by omega)
  unfold deckD at s1 s2 s3
  ac_rfl
  rw [show PyData.eqv (.str (deckD cs hd ks).shown) (.str (PyData.tuple [cardsD cs, txtsD hd, kysD ks]).shown) = true by rw [eqv_str]; exact decide_eq_true rfl]
  ac_rfl
  refine lc0_fil (vs := [19]) (fun _ : Unit => .str w) (fun _ => false) (fun _ => .str w) us (fun x hx acc K ha hK1 hK2 => ?_) (small (by omega)) ?_
  · ac_rfl
    rw [eqv_str]
    refine Cif.ff (by simp) ?_
    exact hK2 rfl
  · ac_rfl
    have e0 : List.filter (fun _ : Unit => false) us = [] := List.filter_eq_nil_iff.mpr (by simp)
    rw [e0]
    exact h
theorem VSh.word {d : D} (v : VSh d) : ∃ w r, d = .tuple (.str w :: r) ∧ PapS w r := by
  obtain ⟨w, r, e, p, _⟩ := v.pap
  exact ⟨w, r, e, p⟩
theorem law_10 {R : Wv → Prop} {cs c3 : List Card} {hd h3 : List Str} {ks k3 : List (List Str)} (dk : DeckOk cs hd ks) (d3 : DeckOk c3 h3 k3) {d : D} (v : VSh d) {w : Str} {r : List D} (hw : d = .tuple (.str w :: r)) {us : List Unit} (hu : us.length ≤ 1000) (h : R (.sh (.bool true))) (x0 x5 x7 x8 x10 x11 x13 x14 x15 x16 x17 : Sl) :
    q_law_10 (endsOf R) [x0, .sh (cardsD cs), .sh (txtsD hd), .sh (kysD ks), .sh (deckD c3 h3 k3), x5, .sh (.str (deckD cs hd ks).shown), x7, x8, .sh d, x10, x11, .ow (.l (us.map fun _ => .str w)), x13, x14, x15, x16, x17, .un, .un] := by
  have tail := fun x14 x17 => law_11 (r := r) dk hu h x0 (.sh (deckD c3 h3 k3)) x5 x7 x8 x10 x11 x13 x14 x15 x16 x17 (w := w)
  unfold q_law_10
  generalize q_law_11 = t11 at *
  rw [← hw] at tail
  clear h
  have hn := d3.ok.le
  have hcl : (c3.map cardD).length = c3.length := List.length_map _
  have hsing : PapS (Str.ofString "groups") [.list ((List.range c3.length).map fun k => .list [natD k])] := by
    have : ((List.range c3.length).map fun k => PyData.list [natD k]) = ((List.range c3.length).map fun k : Nat => [(k : Int)]).map intsD := by
      rw [List.map_map]
      rfl
    rw [this]
    refine .grp _ ⟨by simp; omega, fun g hg => ?_⟩
    obtain ⟨k, _, rfl⟩ := List.mem_map.mp hg
    simp
  obtain ⟨w0, r0, e0, p0⟩ := v.word
  have turn : ∀ (w : Str) (r : List D) (p : PapS w r) (x14 x17 : Sl) (P : PEnds), P.nx [x0, .sh (cardsD cs), .sh (txtsD hd), .sh (kysD ks), .sh (deckD c3 h3 k3), x5, .sh (.str (deckD cs hd ks).shown), x7, x8, .sh d, x10, x11, .ow (.l (us.map fun _ => .str w)), x13, x14, x15, x16, x17, .un, .un] → True := fun _ _ _ _ _ _ _ => trivial
  clear turn
  ac_rfl
  rw [hcl]
  refine lc0_map (vs := [18]) (fun i : Nat => .int (i : Int)) (fun k => .list [natD k]) (List.range c3.length) (fun k hk acc K ha hK => ?_) (small (by simp; omega)) ?_
  · ac_rfl
    exact hK
  · ac_rfl
    obtain ⟨b, pj⟩ := p0.j c3 h3 k3
    obtain ⟨b1, pj1⟩ := hsing.j c3 h3 k3
    subst e0
    refine ⟨c3, h3, k3, w0, r0, b, rfl, d3.ok, d3.kso, pj, ?_⟩
    ac_rfl
    refine ⟨c3, h3, k3, rfl, d3.ok, d3.kso, ?_⟩
    ac_rfl
    refine ⟨c3, h3, k3, w0, r0, b, rfl, d3.ok, d3.kso, pj, ?_⟩
    ac_rfl
    refine Cif.ff (by rw [eqv_bool]; simp) ?_
    ac_rfl
    refine ⟨c3, h3, k3, _, _, b1, rfl, d3.ok, d3.kso, pj1, ?_⟩
    ac_rfl
    refine ⟨c3, h3, k3, rfl, d3.ok, d3.kso, ?_⟩
    ac_rfl
    refine ⟨c3, h3, k3, _, _, b1, rfl, d3.ok, d3.kso, pj1, ?_⟩
    ac_rfl
    refine Cif.ff (by rw [eqv_bool]; simp) ?_
    ac_rfl
    exact tail _ _
theorem law_7 {R : Wv → Prop} {cs c3 : List Card} {hd h3 : List Str} {ks k3 : List (List Str)} (dk : DeckOk cs hd ks) (d3 : DeckOk c3 h3 k3) {d : D} (vd : VerdD cs hd ks d) {dr : List Int} (hdl : dr.length = 6) (hdr : ∀ x ∈ dr, 0 ≤ x ∧ x < 5040) (h : R (.sh (.bool true))) (x0 x7 x8 x10 x11 : Sl) :
    q_law_7 (endsOf R) [x0, .sh (cardsD cs), .sh (txtsD hd), .sh (kysD ks), .sh (deckD c3 h3 k3), .sh (intsD dr), .sh (.str (deckD cs hd ks).shown), x7, x8, .sh d, x10, x11, .un, .un, .un, .un, .un, .un, .un, .un] := by
  have v := vd.sh dk
  obtain ⟨w, r, hw, _⟩ := v.word
  have tail := fun {us : List Unit} (hu : us.length ≤ 1000) x13 x14 x15 x16 x17 => law_10 dk d3 v hw hu h x0 (.sh (intsD dr)) x7 x8 x10 x11 x13 x14 x15 x16 x17
  unfold q_law_7
  generalize q_law_10 = t10 at *
  clear h
  ac_rfl
  refine ⟨cs, hd, ks, rfl, dk.ok, dk.kso, ?_⟩
  ac_rfl
  refine ⟨cs, hd, ks, d, dr, rfl, dk, v, hdl, hdr, fun ps hpl hps => ?_⟩
  ac_rfl
  rw [show ps = ps.map (fun d : D => d) from (List.map_id' ps).symm]
  refine forGo_ok (fun d : D => d) (fun q Γ => ∃ (us : List Unit) (x14 x15 x16 x17 : Sl), Γ = [x0, .sh (cardsD cs), .sh (txtsD hd), .sh (kysD ks), .sh (deckD c3 h3 k3), .sh (intsD dr), .sh (.str (deckD cs hd ks).shown), x7, x8, .sh d, x10, x11, .ow (.l (us.map fun _ => .str w)), .sh (onD (onesL cs hd ks)), x14, x15, x16, x17, .un, .un] ∧ us.length + q.length ≤ 100 ∧ AllP q) ?_ ?_ ps _ ⟨[], _, _, _, _, rfl, by simpa using hpl, hps⟩
  · rintro Γ ⟨us, x14, x15, x16, x17, rfl, hu, _⟩
    exact tail (by simp at hu; omega) _ _ _ _ _
  · rintro p q Γ K ⟨us, x14, x15, x16, x17, rfl, hu, hq⟩ hK
    obtain ⟨w1, r1, rfl, ps1, hpd⟩ := hq p (by simp)
    obtain ⟨s1, s2, s3⟩ := hpd.show (by omega) (by omega)
    obtain ⟨b, pj⟩ := ps1.j cs hd ks
    simp only [List.length_cons] at hu
    have hq2 : AllP q := fun z hz => hq z (List.mem_cons_of_mem _ hz)
    have hul : (us.map fun _ => PyData.str w).length ≤ 100 := by rw [List.length_map]; omega
    clear tail
    ac_rfl
    refine ⟨cs, hd, ks, w1, r1, b, rfl, dk.ok, dk.kso, pj, ?_⟩
    ac_rfl
    refine ⟨cs, hd, ks, w1, r1, b, rfl, dk.ok, dk.kso, pj, ?_⟩
    ac_rfl
    refine Cif.ff (by rw [eqv_bool]; simp) ?_
    ac_rfl
    rw [eqv_str]
    refine Cif.ff (by simp) ?_
    ac_rfl
    cases b with
    | true =>
      obtain ⟨r', hr'⟩ := pap_word dk.ok pj vd
      have hww : w1 = w := by
        rw [hw] at hr'
        have := PyData.tuple.inj hr'
        have := (List.cons.inj this).1
        exact (PyData.str.inj this).symm
      subst hww
      ac_rfl
      exact hK _ ⟨us ++ [()], _, _, _, _, by rw [List.map_append]; rfl, by simp; omega, hq2⟩
    | false =>
      ac_rfl
      exact hK _ ⟨us, _, _, _, _, rfl, by omega, hq2⟩
end PL

namespace PL
open PySem PySem.Spec PyProof.Rows L2
local macro_rules | `(tactic| ac_rfl) => `(tactic| ((conv => whnf); repeat ((first | refine Cif.yes ?_ | refine Cif.no ?_ | (refine And.intro ?_ ?_; · first | (show _ ≤ (_ : Int); omega) | (show _ < (_ : Int); omega) | assumption | exact trivial | exact rfl | (refine small ?_; first | omega | (simp only [List.length_map, List.length_cons, List.length_nil, List.length_append]; omega)) | (refine ltsmall ?_; first | omega | (simp only [List.length_map, List.length_cons, List.length_nil, List.length_append]; omega)) | (refine cdiv ?_ ?_ <;> omega) | (refine cmulR ?_ ?_ <;> omega) | (refine cmulL ?_ ?_ <;> omega) | (refine ⟨?_, ?_, ?_, ?_⟩ <;> omega))); (conv => whnf))))
local macro_rules | `(tactic| exists $e) => `(tactic| first | exact $e | exact And.right $e | exact And.right (And.right $e) | exact And.right (And.right (And.right $e)))
def QH : List D → Prop
  | .int _ :: _ => True
  | .list (.int _ :: _) :: _ => True
  | _ => False
theorem freeA_map {Q : List D → Prop} {α : Type} (f : α → D) : ∀ l : List α, (∀ x ∈ l, freeD Q (f x)) → freeA Q (l.map f)
  | [], _ => by simp [freeA]
  | x :: r, h => by
    rw [List.map_cons]
    exact ⟨h x (by simp), freeA_map f r fun y hy => h y (List.mem_cons_of_mem _ hy)⟩
theorem allA_map {Q : List D → Prop} {α : Type} (f : α → D) : ∀ l : List α, (∀ x ∈ l, allD Q (f x)) → allA Q (l.map f)
  | [], _ => by simp [allA]
  | x :: r, h => by
    rw [List.map_cons]
    exact ⟨h x (by simp), allA_map f r fun y hy => h y (List.mem_cons_of_mem _ hy)⟩
theorem free_txts (h : List Str) : freeD QH (txtsD h) := by
  refine ⟨?_, freeA_map _ _ fun x _ => by simp [freeD]⟩
  cases h <;> simp [QH]
theorem free_kys (ks : List (List Str)) : freeD QH (kysD ks) := by
  refine ⟨?_, freeA_map _ _ fun x _ => free_txts x⟩
  cases ks with
  | nil => simp [QH]
  | cons k r =>
    cases k <;> simp [QH, txtsD]
theorem free_card (c : Card) : freeD QH (cardD c) := by
  refine ⟨?_, freeA_map _ _ fun x _ => by simp [cpD, freeD, freeA]⟩
  cases c <;> simp [QH, cpD]
theorem free_cards (cs : List Card) : freeD QH (cardsD cs) := by
  refine ⟨?_, freeA_map _ _ fun x _ => free_card x⟩
  cases cs with
  | nil => simp [QH]
  | cons k r =>
    cases k <;> simp [QH, cardD, cpD]
theorem all_nats {l : List Nat} (h : 1 ≤ l.length) : allD QH (natsD l) := by
  refine ⟨?_, allA_map _ _ fun x _ => by simp [natD, allD]⟩
  cases l with
  | nil => simp at h
  | cons a r => simp [QH, natD]
theorem VSh.all {d : D} (v : VSh d) : allD QH d := by
  cases v with
  | grp gs hg =>
    refine ⟨by simp [allD], ⟨?_, allA_map _ _ fun x hx => all_nats (hg.gl x hx).1⟩, by simp [allA]⟩
    have h1 := hg.n1
    cases gs with
    | nil => simp at h1
    | cons g r =>
      have := (hg.gl g (by simp)).1
      cases g with
      | nil => simp at this
      | cons a b => simp [QH, natsD, natD]
  | conf ch k h1 h2 h3 h4 => exact ⟨by simp [allD], all_nats h1, by simp [allD], by simp [allA]⟩
theorem same_nats (l : List Nat) (n : Nat) (hl : l.length ≤ 1000) : sameOk (n + 2) (natsD l) = true := by
  unfold natsD sameOk
  simp only [Bool.and_eq_true, decide_eq_true_eq, List.all_eq_true, List.length_map]
  refine ⟨by omega, fun x hx => ?_⟩
  obtain ⟨y, _, rfl⟩ := List.mem_map.mp hx
  rfl
theorem VSh.same {d : D} (v : VSh d) : sameOk 4 d = true := by
  cases v with
  | grp gs hg =>
    have : sameOk 3 (grsD gs) = true := by
      unfold grsD sameOk
      simp only [Bool.and_eq_true, decide_eq_true_eq, List.all_eq_true, List.length_map]
      refine ⟨by have := hg.n2; omega, fun x hx => ?_⟩
      obtain ⟨y, hy, rfl⟩ := List.mem_map.mp hx
      exact same_nats y 0 (by have := (hg.gl y hy).2.1; omega)
    unfold sameOk
    simp only [List.all_cons, List.all_nil, this, Bool.and_true, Bool.true_and, Bool.and_eq_true, decide_eq_true_eq]
    exact ⟨by simp, rfl⟩
  | conf ch k h1 h2 h3 h4 =>
    have := same_nats ch 1 (by omega)
    unfold sameOk
    simp only [List.all_cons, List.all_nil, this, Bool.and_true, Bool.true_and, Bool.and_eq_true, decide_eq_true_eq]
    exact ⟨by simp, rfl, rfl⟩
end PL

namespace PL
open PySem PySem.Spec PyProof.Rows L2
local macro_rules | `(tactic| ac_rfl) => `(tactic| ((conv => whnf); repeat ((first | refine Cif.yes ?_ | refine Cif.no ?_ | (refine And.intro ?_ ?_; · first | (show _ ≤ (_ : Int); omega) | (show _ < (_ : Int); omega) | assumption | exact trivial | exact rfl | (refine small ?_; first | omega | (simp only [List.length_map, List.length_cons, List.length_nil, List.length_append]; omega)) | (refine ltsmall ?_; first | omega | (simp only [List.length_map, List.length_cons, List.length_nil, List.length_append]; omega)) | (refine cdiv ?_ ?_ <;> omega) | (refine cmulR ?_ ?_ <;> omega) | (refine cmulL ?_ ?_ <;> omega) | (refine ⟨?_, ?_, ?_, ?_⟩ <;> omega))); (conv => whnf))))
local macro_rules | `(tactic| exists $e) => `(tactic| first | exact $e | exact And.right $e | exact And.right (And.right $e) | exact And.right (And.right (And.right $e)))
theorem law_6 {R : Wv → Prop} {cs c3 : List Card} {hd h3 : List Str} {ks k3 : List (List Str)} (dk : DeckOk cs hd ks) (d3 : DeckOk c3 h3 k3) {d : D} (vd : VerdD cs hd ks d) {dr : List Int} (hdl : dr.length = 6) (hdr : ∀ x ∈ dr, 0 ≤ x ∧ x < 5040) (h : R (.sh (.bool true))) (x0 x7 x8 : Sl) :
    q_law_6 (endsOf R) [x0, .sh (cardsD cs), .sh (txtsD hd), .sh (kysD ks), .sh (deckD c3 h3 k3), .sh (intsD dr), .sh (.str (deckD cs hd ks).shown), x7, x8, .sh d, .un, .un, .un, .un, .un, .un, .un, .un, .un, .un] := by
  have v := vd.sh dk
  have tail := fun x10 x11 => law_7 dk d3 vd hdl hdr h x0 x7 x8 x10 x11
  unfold q_law_6
  generalize q_law_7 = t7 at *
  clear h
  refine seq_i ?_
  refine for_n (n := 2) ?_
  refine forGo_ok (fun i : Nat => .int (i : Int)) (fun q Γ => ∃ (x10 x11 : Sl), Γ = [x0, .sh (cardsD cs), .sh (txtsD hd), .sh (kysD ks), .sh (deckD c3 h3 k3), .sh (intsD dr), .sh (.str (deckD cs hd ks).shown), x7, x8, .sh d, x10, x11, .un, .un, .un, .un, .un, .un, .un, .un]) ?_ ?_ (List.range 2) _ ⟨.un, .un, rfl⟩
  · rintro Γ ⟨x10, x11, rfl⟩
    exact tail _ _
  · rintro p q Γ K ⟨x10, x11, rfl⟩ hK
    clear tail
    ac_rfl
    refine ⟨QH, ⟨free_cards cs, free_txts hd, free_kys ks, trivial⟩, ?_⟩
    ac_rfl
    refine ⟨cs, hd, ks, rfl, dk.ok, dk.kso, Nat.le_trans dk.hl (by decide), fun d' hd' => ?_⟩
    have e := VerdD.uniq hd' vd
    subst e
    refine ⟨v.all, ?_⟩
    ac_rfl
    refine ⟨d', rfl, v.same, ?_⟩
    ac_rfl
    have hs := v.same
    cases v with
    | grp gs hg =>
      have hg2 := hg.n2
      have hg1 := hg.n1
      ac_rfl
      intro d2 hd2
      obtain ⟨es, rfl, pe⟩ := hd2.tup_inv
      cases pe with
      | cons pa pe =>
      cases pe with
      | cons pb pe =>
      cases pe
      have ea := pa.str_inv
      subst ea
      obtain ⟨es2, m, rfl, hm, pe2⟩ := pb.lst_inv
      ac_rfl
      cases gs with
      | nil => simp at hg1
      | cons g r =>
      cases pe2 with
      | @cons _ e0 _ er pg pe2 =>
      have hgl := (hg.gl g (by simp)).2.1
      obtain ⟨es3, m3, rfl, hm3, pe3⟩ := pg.lst_inv
      have l3 := pe3.len
      have l4 : (g.map natD).length = g.length := List.length_map _
      have l5 : (es3 ++ m3).length ≤ 100 := by rw [List.length_append]; omega
      ac_rfl
      intro d3 hd3
      exact hK _ ⟨_, _, rfl⟩
    | conf ch k h1 h2 h3 h4 =>
      have l4 : (ch.map natD).length = ch.length := List.length_map _
      ac_rfl
      intro d2 hd2
      obtain ⟨es, rfl, pe⟩ := hd2.tup_inv
      cases pe with
      | cons pa pe =>
      have ea := pa.str_inv
      subst ea
      ac_rfl
      exact hK _ ⟨_, _, rfl⟩
theorem law_5 {R : Wv → Prop} {cs c3 : List Card} {hd h3 : List Str} {ks k3 : List (List Str)} (dk : DeckOk cs hd ks) (d3 : DeckOk c3 h3 k3) {dr : List Int} (hdl : dr.length = 6) (hdr : ∀ x ∈ dr, 0 ≤ x ∧ x < 5040) (h : R (.sh (.bool true))) (x0 x7 x8 : Sl) :
    q_law_5 (endsOf R) [x0, .sh (cardsD cs), .sh (txtsD hd), .sh (kysD ks), .sh (deckD c3 h3 k3), .sh (intsD dr), .sh (.str (deckD cs hd ks).shown), x7, x8, .un, .un, .un, .un, .un, .un, .un, .un, .un, .un, .un] := by
  have tail := fun {d} vd => law_6 (d := d) dk d3 vd hdl hdr h x0 x7 x8
  unfold q_law_5
  generalize q_law_6 = t6 at *
  clear h
  ac_rfl
  refine ⟨cs, hd, ks, rfl, dk.ok, dk.kso, Nat.le_trans dk.hl (by decide), fun d vd => ?_⟩
  ac_rfl
  exact tail vd
theorem law_3 {R : Wv → Prop} {cs c3 : List Card} {hd h3 : List Str} {ks k3 : List (List Str)} (dk : DeckOk cs hd ks) (d3 : DeckOk c3 h3 k3) {dr : List Int} (hdl : dr.length = 6) (hdr : ∀ x ∈ dr, 0 ≤ x ∧ x < 5040) (h : R (.sh (.bool true))) (x0 : Sl) :
    q_law_3 (endsOf R) [x0, .sh (cardsD cs), .sh (txtsD hd), .sh (kysD ks), .sh (deckD c3 h3 k3), .sh (intsD dr), .un, .un, .un, .un, .un, .un, .un, .un, .un, .un, .un, .un, .un, .un] := by
  have tail := fun x7 x8 => law_5 dk d3 hdl hdr h x0 x7 x8
  have hp := deck_pd dk
  obtain ⟨s1, s2, s3⟩ := hp.show (by omega) (by omega)
  unfold deckD at s1 s2 s3
  have hcd : ∀ c ∈ cs.take 5, CdOk c := fun c hc => dk.ok.ok c (List.mem_of_mem_take hc)
  have hle : (cs.take 5).length ≤ 5 := List.length_take_le _ _
  have h5 : cutG cs (some 0) (some 5) = cs.take 5 := cutG_to cs 5
  unfold q_law_3
  generalize q_law_5 = t5 at *
  clear h
  ac_rfl
  rw [cutD_map, h5]
  generalize cs.take 5 = l at *
  refine forGo_ok cardD (fun q Γ => ∃ (x7 x8 : Sl), Γ = [x0, .sh (cardsD cs), .sh (txtsD hd), .sh (kysD ks), .sh (deckD c3 h3 k3), .sh (intsD dr), .sh (.str (deckD cs hd ks).shown), x7, x8, .un, .un, .un, .un, .un, .un, .un, .un, .un, .un, .un] ∧ ∀ c ∈ q, CdOk c) ?_ ?_ l _ ⟨_, _, rfl, hcd⟩
  · rintro Γ ⟨x7, x8, rfl, _⟩
    exact tail _ _
  · rintro a q Γ K ⟨x7, x8, rfl, hq⟩ hK
    clear tail
    have ha := hq a (by simp)
    have hq2 : ∀ c ∈ q, CdOk c := fun c hc => hq c (List.mem_cons_of_mem _ hc)
    ac_rfl
    rw [cutD_map, h5]
    refine forGo_ok cardD (fun q2 Γ => ∃ (x8 : Sl), Γ = [x0, .sh (cardsD cs), .sh (txtsD hd), .sh (kysD ks), .sh (deckD c3 h3 k3), .sh (intsD dr), .sh (.str (deckD cs hd ks).shown), .sh (cardD a), x8, .un, .un, .un, .un, .un, .un, .un, .un, .un, .un, .un] ∧ ∀ c ∈ q2, CdOk c) ?_ ?_ l _ ⟨_, rfl, hcd⟩
    · rintro Γ ⟨x8, rfl, _⟩
      exact hK _ ⟨_, _, rfl, hq2⟩
    · rintro b q2 Γ K2 ⟨x8, rfl, hqb⟩ hK2
      have hb := hqb b (by simp)
      have hqb2 : ∀ c ∈ q2, CdOk c := fun c hc => hqb c (List.mem_cons_of_mem _ hc)
      clear hK
      ac_rfl
      refine ⟨a, b, hd, ks, rfl, ha, hb, dk.kso, ?_⟩
      ac_rfl
      refine ⟨a, b, hd, ks, rfl, ha, hb, dk.kso, ?_⟩
      ac_rfl
      refine ⟨_, rfl, rfl, ?_⟩
      ac_rfl
      exact hK2 _ ⟨_, rfl, hqb2⟩
theorem pure_law : ∀ ds R, ds.length = 1 → P_law ds R → q_law (endsOf R) (startEv 20 ds) := by
  rintro ds R - ⟨ns, rfl, hns, h⟩
  have tail := fun {cs c3 : List Card} {hd h3 : List Str} {ks k3 : List (List Str)} (dk : DeckOk cs hd ks) (d3 : DeckOk c3 h3 k3) {dr : List Int} (hdl : dr.length = 6) (hdr : ∀ x ∈ dr, 0 ≤ x ∧ x < 5040) => law_3 dk d3 hdl hdr h (.sh (scrD ns))
  unfold q_law
  generalize q_law_3 = t3 at *
  clear h
  ac_rfl
  refine ⟨ns, 4, rfl, hns, fun c => ?_⟩
  ac_rfl
  obtain ⟨m, hm, m1, m2⟩ : ∃ m : Nat, ixD [PyData.int 4, PyData.int 8, PyData.int 12] (c % 3) = some (.int (m : Int)) ∧ 1 ≤ m ∧ m ≤ 12 := by
    have h0 := Int.emod_nonneg c (show (3 : Int) ≠ 0 by decide)
    have h3 := Int.emod_lt_of_pos c (show (0 : Int) < 3 by decide)
    generalize c % 3 = z at *
    have : z = 0 ∨ z = 1 ∨ z = 2 := by omega
    rcases this with q | q | q <;> subst q
    · exact ⟨4, rfl, by decide, by decide⟩
    · exact ⟨8, rfl, by decide, by decide⟩
    · exact ⟨12, rfl, by decide, by decide⟩
  rw [hm]
  ac_rfl
  refine ⟨ns, 0, m, rfl, hns, m1, m2, fun cs hd ks dk => ?_⟩
  ac_rfl
  refine ⟨ns, 2, 6, rfl, hns, by decide, by decide, fun c3 h3 k3 d3 => ?_⟩
  ac_rfl
  refine ⟨ns, 5, rfl, hns, fun c5 => ?_⟩
  ac_rfl
  refine ⟨c5, 6, 5040, rfl, by decide, by decide, by decide, fun dr hdl hdr => ?_⟩
  ac_rfl
  exact tail dk d3 hdl hdr
end PL

namespace PL
open PySem PySem.Spec PyProof.Rows L2

structure Mg (mg : Str → Option Value) : Prop where
  all_ : mg "all" = none
  any_ : mg "any" = none
  bool_ : mg "bool" = none
  dict_ : mg "dict" = none
  enumerate_ : mg "enumerate" = none
  int_ : mg "int" = none
  isinstance_ : mg "isinstance" = none
  len_ : mg "len" = none
  list_ : mg "list" = none
  max_ : mg "max" = none
  min_ : mg "min" = none
  range_ : mg "range" = none
  repr_ : mg "repr" = none
  sorted_ : mg "sorted" = none
  str_ : mg "str" = none
  tuple_ : mg "tuple" = none
def topS (i : Nat) : Stmt := PySem.Challenge.pw_lettersacross_k72_cards_groups_and_confl.main.body.getD i (.Pass ⟨0, 0, 0, 0⟩)

section
variable {P : Program} {w : World} {K : PySem.W.Frag} {mg : Str → Option Value} {base : Heap}
abbrev s_agreed : Stmt := topS 1
abbrev N_agreed : List Str := ["one", "other", "worths", "kind", "worth"]
theorem sc_agreed : FnScope N_agreed ["one", "other"] (defScope s_agreed) := ⟨rfl, rfl, rfl, by decide +kernel, rfl, by decide +kernel, by decide +kernel⟩
theorem cal_agreed {f : Addr} {fd : FuncData} (M : Mg mg) (F : L2.Fun K "agreed" "agreed" s_agreed f fd) (hm : mg "agreed" = some (.ref f)) (b : Binds K fd ["one", "other"] []) : Cal P w K mg base 1 "agreed" (spD 2 P_agreed) :=
  have nd := sc_agreed.nd
  cal_mk F hm b sc_agreed fun cdv A outer s H E hr => ⟨_, q_agreed, (dss_cons (ds_set nd (d_dictP rfl M.dict_ (d_var 1)))
  (dss_one (ds_ret (b_lc (own := [("kind", 3), ("worth", 4)]) rfl nd (di_list (d_var 0)) (blkOk_by (by kernel_rfl)) (fun _ _ _ _ _ => (dg_tup rfl (dgs_cons (dg_name nd) (dgs_cons (dg_name nd) dgs_nil)))) (fun _ _ _ _ _ => (dts_one (dw_and (d_tdin hr (d_var 3) (d_var 2)) (dw_and1 (d_tcmp (or_eq hr) os_eq (d_dget hr (d_var 2) (d_var 3)) (d_var 4)))).dt)) (fun _ _ _ _ _ => (d_var 3)))))), pure_agreed⟩

abbrev s_differing : Stmt := topS 2
abbrev N_differing : List Str := ["one", "other", "worths", "kind", "worth"]
theorem sc_differing : FnScope N_differing ["one", "other"] (defScope s_differing) := ⟨rfl, rfl, rfl, by decide +kernel, rfl, by decide +kernel, by decide +kernel⟩
theorem cal_differing {f : Addr} {fd : FuncData} (M : Mg mg) (F : L2.Fun K "differing" "differing" s_differing f fd) (hm : mg "differing" = some (.ref f)) (b : Binds K fd ["one", "other"] []) : Cal P w K mg base 1 "differing" (spD 2 P_differing) :=
  have nd := sc_differing.nd
  cal_mk F hm b sc_differing fun cdv A outer s H E hr => ⟨_, q_differing, (dss_cons (ds_set nd (d_dictP rfl M.dict_ (d_var 1)))
  (dss_one (ds_ret (b_lc (own := [("kind", 3), ("worth", 4)]) rfl nd (di_list (d_var 0)) (blkOk_by (by kernel_rfl)) (fun _ _ _ _ _ => (dg_tup rfl (dgs_cons (dg_name nd) (dgs_cons (dg_name nd) dgs_nil)))) (fun _ _ _ _ _ => (dts_one (dw_and (d_tdin hr (d_var 3) (d_var 2)) (dw_and1 (d_tcmp (or_ne hr) os_ne (d_dget hr (d_var 2) (d_var 3)) (d_var 4)))).dt)) (fun _ _ _ _ _ => (d_var 3)))))), pure_differing⟩

abbrev s_are_apart : Stmt := topS 3
abbrev N_are_apart : List Str := ["one", "other", "hard", "kind"]
theorem sc_are_apart : FnScope N_are_apart ["one", "other", "hard"] (defScope s_are_apart) := ⟨rfl, rfl, rfl, by decide +kernel, rfl, by decide +kernel, by decide +kernel⟩
theorem cal_are_apart {f : Addr} {fd : FuncData} (M : Mg mg) (c_differing : Cal P w K mg base 1 "differing" (spD 2 P_differing)) (F : L2.Fun K "are_apart" "are_apart" s_are_apart f fd) (hm : mg "are_apart" = some (.ref f)) (b : Binds K fd ["one", "other", "hard"] []) : Cal P w K mg base 2 "are_apart" (spD 3 P_are_apart) :=
  have nd := sc_are_apart.nd
  cal_mk F hm b sc_are_apart fun cdv A outer s H E hr => ⟨_, q_are_apart, (dss_one (ds_ret (d_any rfl M.any_ (b_lc (own := [("kind", 3)]) rfl nd (di_list (d_call c_differing hr (da_cons (d_var 0) (da_cons (d_var 1) da_nil)))) (blkOk_by (by kernel_rfl)) (fun _ _ _ _ _ => (dg_name nd)) (fun _ _ _ _ _ => dts_nil) (fun _ _ _ _ _ => (d_cmp (or_in hr) os_in (d_var 3) (d_var 2))))))), pure_are_apart⟩

abbrev s_relation : Stmt := topS 4
abbrev N_relation : List Str := ["one", "other", "hard", "keys", "same", "key", "kind"]
theorem sc_relation : FnScope N_relation ["one", "other", "hard", "keys"] (defScope s_relation) := ⟨rfl, rfl, rfl, by decide +kernel, rfl, by decide +kernel, by decide +kernel⟩
theorem cal_relation {f : Addr} {fd : FuncData} (M : Mg mg) (c_agreed : Cal P w K mg base 1 "agreed" (spD 2 P_agreed)) (c_are_apart : Cal P w K mg base 2 "are_apart" (spD 3 P_are_apart)) (F : L2.Fun K "relation" "relation" s_relation f fd) (hm : mg "relation" = some (.ref f)) (b : Binds K fd ["one", "other", "hard", "keys"] []) : Cal P w K mg base 3 "relation" (spD 4 P_relation) :=
  have nd := sc_relation.nd
  cal_mk F hm b sc_relation fun cdv A outer s H E hr => ⟨_, q_relation, (dss_cons (ds_if (d_tb (d_call c_are_apart hr (da_cons (d_var 0) (da_cons (d_var 1) (da_cons (d_var 2) da_nil)))))
   (dss_one (ds_ret d_str))
   dss_nil)
  (dss_cons (ds_set nd (d_call c_agreed hr (da_cons (d_var 0) (da_cons (d_var 1) da_nil))))
  (dss_frz 4 (dss_cons (ds_for PassesOwn.never rfl (di_list (d_var 3)) (dg_name nd)
   (dss_one (ds_if (d_tb (d_all rfl M.all_ (b_lc (own := [("kind", 6)]) rfl nd (di_list (d_var 5)) (blkOk_by (by kernel_rfl)) (fun _ _ _ _ _ => (dg_name nd)) (fun _ _ _ _ _ => dts_nil) (fun _ _ _ _ _ => (d_cmp (or_in hr) os_in (d_var 6) (d_var 4))))))
    (dss_one (ds_ret d_str))
    dss_nil)))
  (dss_one (ds_ret d_str)))))), pure_relation⟩

abbrev s_ones_of : Stmt := topS 5
abbrev N_ones_of : List Str := ["cards", "hard", "keys", "count", "k", "j"]
theorem sc_ones_of : FnScope N_ones_of ["cards", "hard", "keys"] (defScope s_ones_of) := ⟨rfl, rfl, rfl, by decide +kernel, rfl, by decide +kernel, by decide +kernel⟩
theorem cal_ones_of {f : Addr} {fd : FuncData} (M : Mg mg) (c_relation : Cal P w K mg base 3 "relation" (spD 4 P_relation)) (F : L2.Fun K "ones_of" "ones_of" s_ones_of f fd) (hm : mg "ones_of" = some (.ref f)) (b : Binds K fd ["cards", "hard", "keys"] []) : Cal P w K mg base 4 "ones_of" (spD 3 P_ones_of) :=
  have nd := sc_ones_of.nd
  cal_mk F hm b sc_ones_of fun cdv A outer s H E hr => ⟨_, q_ones_of, (dss_cons (ds_set nd (d_rgV M.range_ (d_len M.len_ (d_var 0))))
  (dss_one (ds_ret (b_lc (own := [("k", 4)]) rfl nd (di_rgV (d_var 3)) (blkOk_by (by kernel_rfl)) (fun _ _ _ _ _ => (dg_name nd)) (fun _ _ _ _ _ => dts_nil) (fun _ _ _ _ _ => (b_lc (own := [("j", 5)]) rfl nd (di_rgV (d_var 3)) (blkOk_by (by kernel_rfl)) (fun _ _ _ _ _ => (dg_name nd)) (fun _ _ _ _ _ => (dts_one (dw_and (d_tcmp (or_ne hr) os_ne (d_var 5) (d_var 4)) (dw_and1 (d_tcmp (or_eq hr) os_eq (d_call c_relation hr (da_cons (d_sub_ix (d_var 0) (d_var 4)) (da_cons (d_sub_ix (d_var 0) (d_var 5)) (da_cons (d_var 1) (da_cons (d_var 2) da_nil))))) d_str))).dt)) (fun _ _ _ _ _ => (d_var 5)))))))), pure_ones_of⟩

abbrev s_group_of : Stmt := topS 6
abbrev N_group_of : List Str := ["ones", "card", "group", "at", "other"]
theorem sc_group_of : FnScope N_group_of ["ones", "card"] (defScope s_group_of) := ⟨rfl, rfl, rfl, by decide +kernel, rfl, by decide +kernel, by decide +kernel⟩
theorem cal_group_of {f : Addr} {fd : FuncData} (M : Mg mg) (F : L2.Fun K "group_of" "group_of" s_group_of f fd) (hm : mg "group_of" = some (.ref f)) (b : Binds K fd ["ones", "card"] []) : Cal P w K mg base 1 "group_of" (spD 2 P_group_of) :=
  have nd := sc_group_of.nd
  cal_mk F hm b sc_group_of fun cdv A outer s H E hr => ⟨_, q_group_of, (dss_cons (ds_set nd (d_lst (da_cons (d_var 1) da_nil)))
  (dss_cons (ds_set nd d_int)
  (dss_cons (ds_while PassesOwn.never (d_tcmp or_lt os_ord (d_var 3) (d_len M.len_ (d_var 2)))
   (dss_cons (ds_augL nd (b_lc (own := [("other", 4)]) rfl nd (di_list (d_sub_ix (d_var 0) (d_sub_ix (d_var 2) (d_var 3)))) (blkOk_by (by kernel_rfl)) (fun _ _ _ _ _ => (dg_name nd)) (fun _ _ _ _ _ => (dts_one (d_tcmp (or_notIn hr) os_in (d_var 4) (d_var 2)))) (fun _ _ _ _ _ => (d_var 4))))
   (dss_one (ds_aug nd or_iadd os_iadd d_int))))
  (dss_one (ds_ret (d_var 2)))))), pure_group_of⟩

abbrev s_groups_of : Stmt := topS 7
abbrev N_groups_of : List Str := ["ones", "found", "seen", "card", "group", "one"]
theorem sc_groups_of : FnScope N_groups_of ["ones"] (defScope s_groups_of) := ⟨rfl, rfl, rfl, by decide +kernel, rfl, by decide +kernel, by decide +kernel⟩
theorem cal_groups_of {f : Addr} {fd : FuncData} (M : Mg mg) (c_group_of : Cal P w K mg base 1 "group_of" (spD 2 P_group_of)) (F : L2.Fun K "groups_of" "groups_of" s_groups_of f fd) (hm : mg "groups_of" = some (.ref f)) (b : Binds K fd ["ones"] []) : Cal P w K mg base 2 "groups_of" (spD 1 P_groups_of) :=
  have nd := sc_groups_of.nd
  cal_mk F hm b sc_groups_of fun cdv A outer s H E hr => ⟨_, q_groups_of, (dss_cons (ds_set nd (d_lst da_nil))
  (dss_cons (ds_set nd d_dK)
  (dss_cons (ds_for PassesOwn.never rfl (di_range1 M.range_ (da_cons (d_len M.len_ (d_var 0)) da_nil)) (dg_name nd)
   (dss_one (ds_if (d_tdnotin hr (d_var 3) (d_var 2))
    (dss_cons (ds_set nd (d_call c_group_of hr (da_cons (d_var 0) (da_cons (d_var 3) da_nil))))
    (dss_frz 4 (dss_cons (ds_expr (d_append 1 (d_var 4)))
    (dss_one (ds_for PassesOwn.never rfl (di_list (d_var 4)) (dg_name nd)
     (dss_one (ds_dput 2 hr (d_var 5) d_bl)))))))
    dss_nil)))
  (dss_one (ds_ret (d_var 1)))))), pure_groups_of⟩

abbrev s_ways_to : Stmt := topS 8
abbrev N_ways_to : List Str := ["ones", "goal", "steps", "waiting", "at", "here", "card"]
theorem sc_ways_to : FnScope N_ways_to ["ones", "goal"] (defScope s_ways_to) := ⟨rfl, rfl, rfl, by decide +kernel, rfl, by decide +kernel, by decide +kernel⟩
theorem cal_ways_to {f : Addr} {fd : FuncData} (M : Mg mg) (F : L2.Fun K "ways_to" "ways_to" s_ways_to f fd) (hm : mg "ways_to" = some (.ref f)) (b : Binds K fd ["ones", "goal"] []) : Cal P w K mg base 1 "ways_to" (spD 2 P_ways_to) :=
  have nd := sc_ways_to.nd
  cal_mk F hm b sc_ways_to fun cdv A outer s H E hr => ⟨_, q_ways_to, (dss_cons (ds_set nd (d_dispK (d_var 1) d_int))
  (dss_cons (ds_set nd (d_lst (da_cons (d_var 1) da_nil)))
  (dss_cons (ds_set nd d_int)
  (dss_cons (ds_while PassesOwn.never (d_tcmp or_lt os_ord (d_var 4) (d_len M.len_ (d_var 3)))
   (dss_cons (ds_set nd (d_sub_ix (d_var 3) (d_var 4)))
   (dss_cons (ds_aug nd or_iadd os_iadd d_int)
   (dss_one (ds_for PassesOwn.never rfl (di_list (d_sub_ix (d_var 0) (d_var 5))) (dg_name nd)
    (dss_one (ds_if (d_tdnotin hr (d_var 6) (d_var 2))
     (dss_cons (ds_dput 2 hr (d_var 6) (d_add (d_dget hr (d_var 2) (d_var 5)) d_int))
     (dss_one (ds_expr (d_append 3 (d_var 6)))))
     dss_nil)))))))
  (dss_one (ds_ret (d_var 2))))))), pure_ways_to⟩

abbrev s_chain_between : Stmt := topS 9
abbrev N_chain_between : List Str := ["ones", "start", "goal", "steps", "chain", "here", "card"]
theorem sc_chain_between : FnScope N_chain_between ["ones", "start", "goal"] (defScope s_chain_between) := ⟨rfl, rfl, rfl, by decide +kernel, rfl, by decide +kernel, by decide +kernel⟩
theorem cal_chain_between {f : Addr} {fd : FuncData} (M : Mg mg) (c_ways_to : Cal P w K mg base 1 "ways_to" (spD 2 P_ways_to)) (F : L2.Fun K "chain_between" "chain_between" s_chain_between f fd) (hm : mg "chain_between" = some (.ref f)) (b : Binds K fd ["ones", "start", "goal"] []) : Cal P w K mg base 2 "chain_between" (spD 3 P_chain_between) :=
  have nd := sc_chain_between.nd
  cal_mk F hm b sc_chain_between fun cdv A outer s H E hr => ⟨_, q_chain_between, (dss_cons (ds_set nd (d_call c_ways_to hr (da_cons (d_var 0) (da_cons (d_var 2) da_nil))))
  (dss_cons (ds_set nd (d_lst (da_cons (d_var 1) da_nil)))
  (dss_cons (ds_while PassesOwn.never (d_tcmp (or_ne hr) os_ne (d_sub_ix (d_var 4) (d_neg d_int)) (d_var 2))
   (dss_cons (ds_set nd (d_sub_ix (d_var 4) (d_neg d_int)))
   (dss_one (ds_expr (d_append 4 (d_min rfl M.min_ (b_lc (own := [("card", 6)]) rfl nd (di_list (d_sub_ix (d_var 0) (d_var 5))) (blkOk_by (by kernel_rfl)) (fun _ _ _ _ _ => (dg_name nd)) (fun _ _ _ _ _ => (dts_one (d_tcmp (or_eq hr) os_eq (d_dget hr (d_var 3) (d_var 6)) (d_sub (d_dget hr (d_var 3) (d_var 5)) d_int)))) (fun _ _ _ _ _ => (d_var 6)))))))))
  (dss_one (ds_ret (d_var 4)))))), pure_chain_between⟩

abbrev s_conflict_in : Stmt := topS 10
abbrev N_conflict_in : List Str := ["cards", "hard", "groups", "places", "one", "other", "number", "group", "card"]
theorem sc_conflict_in : FnScope N_conflict_in ["cards", "hard", "groups"] (defScope s_conflict_in) := ⟨rfl, rfl, rfl, by decide +kernel, rfl, by decide +kernel, by decide +kernel⟩
theorem cal_conflict_in {f : Addr} {fd : FuncData} (M : Mg mg) (c_are_apart : Cal P w K mg base 2 "are_apart" (spD 3 P_are_apart)) (F : L2.Fun K "conflict_in" "conflict_in" s_conflict_in f fd) (hm : mg "conflict_in" = some (.ref f)) (b : Binds K fd ["cards", "hard", "groups"] []) : Cal P w K mg base 3 "conflict_in" (spD 3 P_conflict_in) :=
  have nd := sc_conflict_in.nd
  cal_mk F hm b sc_conflict_in fun cdv A outer s H E hr => ⟨_, q_conflict_in, (dss_cons (bs_setDc2 false [8] (own := [("number", 6), ("group", 7), ("card", 8)]) hr rfl nd (di_enum M.enumerate_ (da_cons (d_var 2) da_nil)) (blkOk_by (by kernel_rfl)) (fun _ _ _ _ _ => (dg_tup rfl (dgs_cons (dg_name nd) (dgs_cons (dg_name nd) dgs_nil)))) (fun _ _ _ _ _ => dts_nil) (fun _ _ _ _ _ => (di_list (d_var 7))) (fun _ _ _ _ _ => (dg_name nd)) (fun _ _ _ _ _ => dts_nil) (fun _ _ _ _ _ => (d_var 8)) (fun _ _ _ _ _ => (d_var 6)) (swd_true rfl rfl rfl (by decide +kernel)))
  (dss_cons (ds_for PassesOwn.never rfl (di_range1 M.range_ (da_cons (d_len M.len_ (d_var 0)) da_nil)) (dg_name nd)
   (dss_one (ds_for PassesOwn.never rfl (di_range2 M.range_ (da_cons (d_add (d_var 4) d_int) (da_cons (d_len M.len_ (d_var 0)) da_nil))) (dg_name nd)
    (dss_one (ds_if (dw_and (d_tcmp (or_eq hr) os_eq (d_dget hr (d_var 3) (d_var 4)) (d_dget hr (d_var 3) (d_var 5))) (dw_and1 (d_tb (d_call c_are_apart hr (da_cons (d_sub_ix (d_var 0) (d_var 4)) (da_cons (d_sub_ix (d_var 0) (d_var 5)) (da_cons (d_var 1) da_nil))))))).dt
     (dss_one (ds_ret (d_tup (da_cons (d_var 4) (da_cons (d_var 5) da_nil)))))
     dss_nil)))))
  (dss_one (ds_ret d_non)))), pure_conflict_in⟩

abbrev s_find_groups : Stmt := topS 11
abbrev N_find_groups : List Str := ["cards", "hard", "keys", "ones", "groups", "pair", "kinds", "kind"]
theorem sc_find_groups : FnScope N_find_groups ["cards", "hard", "keys"] (defScope s_find_groups) := ⟨rfl, rfl, rfl, by decide +kernel, rfl, by decide +kernel, by decide +kernel⟩
theorem cal_find_groups {f : Addr} {fd : FuncData} (M : Mg mg) (c_chain_between : Cal P w K mg base 2 "chain_between" (spD 3 P_chain_between)) (c_conflict_in : Cal P w K mg base 3 "conflict_in" (spD 3 P_conflict_in)) (c_differing : Cal P w K mg base 1 "differing" (spD 2 P_differing)) (c_groups_of : Cal P w K mg base 2 "groups_of" (spD 1 P_groups_of)) (c_ones_of : Cal P w K mg base 4 "ones_of" (spD 3 P_ones_of)) (F : L2.Fun K "find_groups" "find_groups" s_find_groups f fd) (hm : mg "find_groups" = some (.ref f)) (b : Binds K fd ["cards", "hard", "keys"] []) : Cal P w K mg base 5 "find_groups" (spD 3 P_find_groups) :=
  have nd := sc_find_groups.nd
  cal_mk F hm b sc_find_groups fun cdv A outer s H E hr => ⟨_, q_find_groups, (dss_cons (ds_set nd (d_call c_ones_of hr (da_cons (d_var 0) (da_cons (d_var 1) (da_cons (d_var 2) da_nil)))))
  (dss_frz 3 (dss_cons (ds_set nd (d_call c_groups_of hr (da_cons (d_var 3) da_nil)))
  (dss_frz 4 (dss_cons (ds_set nd (d_call c_conflict_in hr (da_cons (d_var 0) (da_cons (d_var 1) (da_cons (d_var 4) da_nil)))))
  (dss_cons (ds_if (d_tcmp op_isN os_is (d_var 5) d_non)
   (dss_one (ds_ret (d_tup (da_cons d_str (da_cons (d_var 4) da_nil)))))
   dss_nil)
  (dss_cons (ds_set nd (d_call c_differing hr (da_cons (d_sub_ix (d_var 0) (d_sub_ix (d_var 5) d_int)) (da_cons (d_sub_ix (d_var 0) (d_sub_ix (d_var 5) d_int)) da_nil))))
  (dss_frz 6 (dss_one (ds_ret (d_tup (da_cons d_str (da_cons (d_call c_chain_between hr (da_cons (d_var 3) (da_cons (d_sub_ix (d_var 5) d_int) (da_cons (d_sub_ix (d_var 5) d_int) da_nil)))) (da_cons (d_sub_ix (b_lc (own := [("kind", 7)]) rfl nd (di_list (d_var 1)) (blkOk_by (by kernel_rfl)) (fun _ _ _ _ _ => (dg_name nd)) (fun _ _ _ _ _ => (dts_one (d_tcmp (or_in hr) os_in (d_var 7) (d_var 6)))) (fun _ _ _ _ _ => (d_var 7))) d_int) da_nil)))))))))))))), pure_find_groups⟩

abbrev s_is_chain : Stmt := topS 12
abbrev N_is_chain : List Str := ["ones", "chain", "card", "k"]
theorem sc_is_chain : FnScope N_is_chain ["ones", "chain"] (defScope s_is_chain) := ⟨rfl, rfl, rfl, by decide +kernel, rfl, by decide +kernel, by decide +kernel⟩
theorem cal_is_chain {f : Addr} {fd : FuncData} (M : Mg mg) (F : L2.Fun K "is_chain" "is_chain" s_is_chain f fd) (hm : mg "is_chain" = some (.ref f)) (b : Binds K fd ["ones", "chain"] []) : Cal P w K mg base 1 "is_chain" (spD 2 P_is_chain) :=
  have nd := sc_is_chain.nd
  cal_mk F hm b sc_is_chain fun cdv A outer s H E hr => ⟨_, q_is_chain, (dss_cons (ds_if (dw_or (d_tcmp or_lt os_ord (d_len M.len_ (d_var 1)) d_int) (dw_or1 (dt_not (d_tb (d_all rfl M.all_ (b_lc (own := [("card", 2)]) rfl nd (di_list (d_var 1)) (blkOk_by (by kernel_rfl)) (fun _ _ _ _ _ => (dg_name nd)) (fun _ _ _ _ _ => dts_nil) (fun _ _ _ _ _ => (d_chain or_le or_lt os_ord os_ord d_int (d_var 2) (d_len M.len_ (d_var 0)))))))))).dt
   (dss_one (ds_ret d_bl))
   dss_nil)
  (dss_one (ds_ret (d_all rfl M.all_ (b_lc (own := [("k", 3)]) rfl nd (di_range1 M.range_ (da_cons (d_sub (d_len M.len_ (d_var 1)) d_int) da_nil)) (blkOk_by (by kernel_rfl)) (fun _ _ _ _ _ => (dg_name nd)) (fun _ _ _ _ _ => dts_nil) (fun _ _ _ _ _ => (d_cmp (or_in hr) os_in (d_sub_ix (d_var 1) (d_add (d_var 3) d_int)) (d_sub_ix (d_var 0) (d_sub_ix (d_var 1) (d_var 3)))))))))), pure_is_chain⟩

abbrev s_is_tied : Stmt := topS 13
abbrev N_is_tied : List Str := ["ones", "group", "k", "card"]
theorem sc_is_tied : FnScope N_is_tied ["ones", "group"] (defScope s_is_tied) := ⟨rfl, rfl, rfl, by decide +kernel, rfl, by decide +kernel, by decide +kernel⟩
theorem cal_is_tied {f : Addr} {fd : FuncData} (M : Mg mg) (F : L2.Fun K "is_tied" "is_tied" s_is_tied f fd) (hm : mg "is_tied" = some (.ref f)) (b : Binds K fd ["ones", "group"] []) : Cal P w K mg base 1 "is_tied" (spD 2 P_is_tied) :=
  have nd := sc_is_tied.nd
  cal_mk F hm b sc_is_tied fun cdv A outer s H E hr => ⟨_, q_is_tied, (dss_one (ds_ret (d_all rfl M.all_ (b_lc (own := [("k", 2)]) rfl nd (di_range2 M.range_ (da_cons d_int (da_cons (d_len M.len_ (d_var 1)) da_nil))) (blkOk_by (by kernel_rfl)) (fun _ _ _ _ _ => (dg_name nd)) (fun _ _ _ _ _ => dts_nil) (fun _ _ _ _ _ => (d_any rfl M.any_ (b_lc (own := [("card", 3)]) rfl nd (di_list (d_slice (d_var 1) do_none (do_some (d_var 2)))) (blkOk_by (by kernel_rfl)) (fun _ _ _ _ _ => (dg_name nd)) (fun _ _ _ _ _ => dts_nil) (fun _ _ _ _ _ => (d_cmp (or_in hr) os_in (d_var 3) (d_sub_ix (d_var 0) (d_sub_ix (d_var 1) (d_var 2)))))))))))), pure_is_tied⟩

abbrev s_judge_parts : Stmt := topS 14
abbrev N_judge_parts : List Str := ["cards", "hard", "keys", "groups", "ones", "group", "card", "other"]
theorem sc_judge_parts : FnScope N_judge_parts ["cards", "hard", "keys", "groups"] (defScope s_judge_parts) := ⟨rfl, rfl, rfl, by decide +kernel, rfl, by decide +kernel, by decide +kernel⟩
theorem cal_judge_parts {f : Addr} {fd : FuncData} (M : Mg mg) (c_are_apart : Cal P w K mg base 2 "are_apart" (spD 3 P_are_apart)) (c_is_tied : Cal P w K mg base 1 "is_tied" (spD 2 P_is_tied)) (c_ones_of : Cal P w K mg base 4 "ones_of" (spD 3 P_ones_of)) (F : L2.Fun K "judge_parts" "judge_parts" s_judge_parts f fd) (hm : mg "judge_parts" = some (.ref f)) (b : Binds K fd ["cards", "hard", "keys", "groups"] []) : Cal P w K mg base 5 "judge_parts" (spD 4 P_judge_parts) :=
  have nd := sc_judge_parts.nd
  cal_mk F hm b sc_judge_parts fun cdv A outer s H E hr => ⟨_, q_judge_parts, (dss_cons (ds_if (dw_or (d_tcmp (or_ne hr) os_ne (d_sortI M.sorted_ (b_lc2 (own := [("group", 5), ("card", 6)]) [6] rfl nd (di_list (d_var 3)) (blkOk_by (by kernel_rfl)) (fun _ _ _ _ _ => (dg_name nd)) (fun _ _ _ _ _ => dts_nil) (fun _ _ _ _ _ => (di_list (d_var 5))) (fun _ _ _ _ _ => (dg_name nd)) (fun _ _ _ _ _ => dts_nil) (fun _ _ _ _ _ => (d_var 6)))) (d_listR1 rfl M.list_ M.range_ (d_len M.len_ (d_var 0)))) (dw_or1 (d_tcmp (or_in hr) os_in (d_lst da_nil) (d_var 3)))).dt
   (dss_one (ds_ret d_bl))
   dss_nil)
  (dss_cons (ds_set nd (d_call c_ones_of hr (da_cons (d_var 0) (da_cons (d_var 1) (da_cons (d_var 2) da_nil)))))
  (dss_frz 4 (dss_cons (ds_if (dt_not (d_tb (d_all rfl M.all_ (b_lc (own := [("group", 5)]) rfl nd (di_list (d_var 3)) (blkOk_by (by kernel_rfl)) (fun _ _ _ _ _ => (dg_name nd)) (fun _ _ _ _ _ => dts_nil) (fun _ _ _ _ _ => (d_call c_is_tied hr (da_cons (d_var 4) (da_cons (d_var 5) da_nil))))))))
   (dss_one (ds_ret d_bl))
   dss_nil)
  (dss_cons (ds_for PassesOwn.never rfl (di_list (d_var 3)) (dg_name nd)
   (dss_cons (ds_if (d_tb (d_any rfl M.any_ (b_lc2 (own := [("card", 6), ("other", 7)]) [7] rfl nd (di_list (d_var 5)) (blkOk_by (by kernel_rfl)) (fun _ _ _ _ _ => (dg_name nd)) (fun _ _ _ _ _ => dts_nil) (fun _ _ _ _ _ => (di_list (d_sub_ix (d_var 4) (d_var 6)))) (fun _ _ _ _ _ => (dg_name nd)) (fun _ _ _ _ _ => dts_nil) (fun _ _ _ _ _ => (d_cmp (or_notIn hr) os_in (d_var 7) (d_var 5))))))
    (dss_one (ds_ret d_bl))
    dss_nil)
   (dss_one (ds_if (d_tb (d_any rfl M.any_ (b_lc2 (own := [("card", 6), ("other", 7)]) [7] rfl nd (di_list (d_var 5)) (blkOk_by (by kernel_rfl)) (fun _ _ _ _ _ => (dg_name nd)) (fun _ _ _ _ _ => dts_nil) (fun _ _ _ _ _ => (di_list (d_var 5))) (fun _ _ _ _ _ => (dg_name nd)) (fun _ _ _ _ _ => dts_nil) (fun _ _ _ _ _ => (d_call c_are_apart hr (da_cons (d_sub_ix (d_var 0) (d_var 6)) (da_cons (d_sub_ix (d_var 0) (d_var 7)) (da_cons (d_var 1) da_nil))))))))
    (dss_one (ds_ret d_bl))
    dss_nil))))
  (dss_one (ds_ret d_bl))))))), pure_judge_parts⟩

abbrev s_judge_conflict : Stmt := topS 15
abbrev N_judge_conflict : List Str := ["cards", "hard", "keys", "chain", "kind"]
theorem sc_judge_conflict : FnScope N_judge_conflict ["cards", "hard", "keys", "chain", "kind"] (defScope s_judge_conflict) := ⟨rfl, rfl, rfl, by decide +kernel, rfl, by decide +kernel, by decide +kernel⟩
theorem cal_judge_conflict {f : Addr} {fd : FuncData} (M : Mg mg) (c_differing : Cal P w K mg base 1 "differing" (spD 2 P_differing)) (c_is_chain : Cal P w K mg base 1 "is_chain" (spD 2 P_is_chain)) (c_ones_of : Cal P w K mg base 4 "ones_of" (spD 3 P_ones_of)) (F : L2.Fun K "judge_conflict" "judge_conflict" s_judge_conflict f fd) (hm : mg "judge_conflict" = some (.ref f)) (b : Binds K fd ["cards", "hard", "keys", "chain", "kind"] []) : Cal P w K mg base 5 "judge_conflict" (spD 5 P_judge_conflict) :=
  have nd := sc_judge_conflict.nd
  cal_mk F hm b sc_judge_conflict fun cdv A outer s H E hr => ⟨_, q_judge_conflict, (dss_cons (ds_if (dw_or (d_tcmp (or_notIn hr) os_in (d_var 4) (d_var 1)) (dw_or1 (dt_not (d_tb (d_call c_is_chain hr (da_cons (d_call c_ones_of hr (da_cons (d_var 0) (da_cons (d_var 1) (da_cons (d_var 2) da_nil)))) (da_cons (d_var 3) da_nil))))))).dt
   (dss_one (ds_ret d_bl))
   dss_nil)
  (dss_one (ds_ret (d_cmp (or_in hr) os_in (d_var 4) (d_call c_differing hr (da_cons (d_sub_ix (d_var 0) (d_sub_ix (d_var 3) d_int)) (da_cons (d_sub_ix (d_var 0) (d_sub_ix (d_var 3) (d_neg d_int))) da_nil))))))), pure_judge_conflict⟩

abbrev s_judge_groups : Stmt := topS 16
abbrev N_judge_groups : List Str := ["cards", "hard", "keys", "verdict"]
theorem sc_judge_groups : FnScope N_judge_groups ["cards", "hard", "keys", "verdict"] (defScope s_judge_groups) := ⟨rfl, rfl, rfl, by decide +kernel, rfl, by decide +kernel, by decide +kernel⟩
theorem cal_judge_groups {f : Addr} {fd : FuncData} (M : Mg mg) (c_judge_conflict : Cal P w K mg base 5 "judge_conflict" (spD 5 P_judge_conflict)) (c_judge_parts : Cal P w K mg base 5 "judge_parts" (spD 4 P_judge_parts)) (F : L2.Fun K "judge_groups" "judge_groups" s_judge_groups f fd) (hm : mg "judge_groups" = some (.ref f)) (b : Binds K fd ["cards", "hard", "keys", "verdict"] []) : Cal P w K mg base 6 "judge_groups" (spD 4 P_judge_groups) :=
  have nd := sc_judge_groups.nd
  cal_mk F hm b sc_judge_groups fun cdv A outer s H E hr => ⟨_, q_judge_groups, (dss_cons (ds_if (dw_and (d_tcmp (or_eq hr) os_eq (d_len M.len_ (d_var 3)) d_int) (dw_and1 (d_tcmp (or_eq hr) os_eq (d_sub_ix (d_var 3) d_int) d_str))).dt
   (dss_one (ds_ret (d_call c_judge_parts hr (da_cons (d_var 0) (da_cons (d_var 1) (da_cons (d_var 2) (da_cons (d_sub_ix (d_var 3) d_int) da_nil)))))))
   dss_nil)
  (dss_cons (ds_if (dw_or (d_tcmp (or_ne hr) os_ne (d_len M.len_ (d_var 3)) d_int) (dw_or1 (d_tcmp (or_ne hr) os_ne (d_sub_ix (d_var 3) d_int) d_str))).dt
   (dss_one (ds_ret d_bl))
   dss_nil)
  (dss_one (ds_ret (d_call c_judge_conflict hr (da_cons (d_var 0) (da_cons (d_var 1) (da_cons (d_var 2) (da_cons (d_sub_ix (d_var 3) d_int) (da_cons (d_sub_ix (d_var 3) d_int) da_nil)))))))))), pure_judge_groups⟩

abbrev s__law_cell : Stmt := topS 18
abbrev N__law_cell : List Str := ["script", "k"]
theorem sc__law_cell : FnScope N__law_cell ["script", "k"] (defScope s__law_cell) := ⟨rfl, rfl, rfl, by decide +kernel, rfl, by decide +kernel, by decide +kernel⟩
theorem cal__law_cell {f : Addr} {fd : FuncData} (M : Mg mg) (F : L2.Fun K "_law_cell" "_law_cell" s__law_cell f fd) (hm : mg "_law_cell" = some (.ref f)) (b : Binds K fd ["script", "k"] []) : Cal P w K mg base 1 "_law_cell" (spD 2 P__law_cell) :=
  have nd := sc__law_cell.nd
  cal_mk F hm b sc__law_cell fun cdv A outer s H E hr => ⟨_, q__law_cell, (dss_cons (ds_if (d_tcmp or_lt os_ord (d_var 1) (d_len M.len_ (d_var 0)))
   (dss_one (ds_ret (d_int1 M.int_ (d_sub_ix (d_var 0) (d_var 1)))))
   dss_nil)
  (dss_one (ds_ret d_int))), pure__law_cell⟩

abbrev s__law_numbers : Stmt := topS 19
abbrev N__law_numbers : List Str := ["cell", "count", "limit", "found", "k", "mixed"]
theorem sc__law_numbers : FnScope N__law_numbers ["cell", "count", "limit"] (defScope s__law_numbers) := ⟨rfl, rfl, rfl, by decide +kernel, rfl, by decide +kernel, by decide +kernel⟩
theorem cal__law_numbers {f : Addr} {fd : FuncData} (M : Mg mg) (F : L2.Fun K "_law_numbers" "_law_numbers" s__law_numbers f fd) (hm : mg "_law_numbers" = some (.ref f)) (b : Binds K fd ["cell", "count", "limit"] []) : Cal P w K mg base 1 "_law_numbers" (spD 3 P__law_numbers) :=
  have nd := sc__law_numbers.nd
  cal_mk F hm b sc__law_numbers fun cdv A outer s H E hr => ⟨_, q__law_numbers, (dss_cons (ds_set nd (d_lst da_nil))
  (dss_cons (ds_if (d_tcmp or_ge os_ord (d_var 0) (d_pow d_int d_int))
   (dss_cons (ds_for PassesOwn.never rfl (di_range1 M.range_ (da_cons (d_var 1) da_nil)) (dg_name nd)
    (dss_cons (ds_expr (d_append 3 (d_mod (d_int1 M.int_ (d_var 0)) (d_var 2))))
    (dss_one (ds_set nd (d_fdiv (d_int1 M.int_ (d_var 0)) (d_var 2))))))
   (dss_one (ds_ret (d_var 3))))
   dss_nil)
  (dss_cons (ds_for PassesOwn.never rfl (di_range1 M.range_ (da_cons (d_var 1) da_nil)) (dg_name nd)
   (dss_cons (ds_set nd (d_mod (d_int1 M.int_ (d_add (d_add (d_mul (d_var 0) d_int) (d_mul (d_var 4) d_int)) d_int)) d_int))
   (dss_cons (ds_set nd (d_mod (d_int1 M.int_ (d_add (d_add (d_add (d_mul (d_var 5) (d_var 5)) (d_mul (d_var 5) d_int)) (d_mul (d_var 4) d_int)) d_int)) d_int))
   (dss_one (ds_expr (d_append 3 (d_mod (d_int1 M.int_ (d_fdiv (d_var 5) d_int)) (d_var 2))))))))
  (dss_one (ds_ret (d_var 3)))))), pure__law_numbers⟩

abbrev s__law_same : Stmt := topS 20
abbrev N__law_same : List Str := ["told", "due", "k"]
theorem sc__law_same : FnScope N__law_same ["told", "due"] (defScope s__law_same) := ⟨rfl, rfl, rfl, by decide +kernel, rfl, by decide +kernel, by decide +kernel⟩
theorem calr__law_same {f : Addr} {fd : FuncData} (M : Mg mg) (F : L2.Fun K "_law_same" "_law_same" s__law_same f fd) (hm : mg "_law_same" = some (.ref f)) (b : Binds K fd ["told", "due"] []) : ∀ n : Nat, Cal P w K mg base (n + 1) "_law_same" (spD 2 (PR__law_same n))
  | 0 => cal_no F hm b sc__law_same
  | m + 1 =>
    have nd := sc__law_same.nd
    have c__law_same := calr__law_same M F hm b m
    cal_mk (k := m + 1) F hm b sc__law_same fun cdv A outer s H E hr => ⟨_, q__law_same (PR__law_same m), (dss_cons (ds_if (d_tb (d_isi (T := "list") (by simp) M.isinstance_ M.list_ (by decide +kernel) (d_var 1)))
   (dss_one (ds_if (dw_or (dt_not (d_tb (d_isi (T := "list") (by simp) M.isinstance_ M.list_ (by decide +kernel) (d_var 0)))) (dw_or1 (d_tcmp (or_ne hr) os_ne (d_len M.len_ (d_var 0)) (d_len M.len_ (d_var 1))))).dt
    (dss_one (ds_ret d_bl))
    dss_nil))
   (dss_one (ds_if (d_tb (d_isi (T := "tuple") (by simp) M.isinstance_ M.tuple_ (by decide +kernel) (d_var 1)))
    (dss_one (ds_if (dw_or (dt_not (d_tb (d_isi (T := "tuple") (by simp) M.isinstance_ M.tuple_ (by decide +kernel) (d_var 0)))) (dw_or1 (d_tcmp (or_ne hr) os_ne (d_len M.len_ (d_var 0)) (d_len M.len_ (d_var 1))))).dt
     (dss_one (ds_ret d_bl))
     dss_nil))
    (dss_one (ds_if (d_tcmp op_isN os_is (d_var 1) d_non)
     (dss_one (ds_ret (d_cmp op_isN os_is (d_var 0) d_non)))
     (dss_one (ds_if (d_tb (d_isi (T := "bool") (by simp) M.isinstance_ M.bool_ (by decide +kernel) (d_var 1)))
      (dss_one (ds_ret (d_and (d_isi (T := "bool") (by simp) M.isinstance_ M.bool_ (by decide +kernel) (d_var 0)) (d_one (d_cmp (or_eq hr) os_eq (d_var 0) (d_var 1))))))
      (dss_one (ds_if (d_tb (d_isi (T := "int") (by simp) M.isinstance_ M.int_ (by decide +kernel) (d_var 1)))
       (dss_one (ds_ret (d_and (d_isi (T := "int") (by simp) M.isinstance_ M.int_ (by decide +kernel) (d_var 0)) (d_and (d_not (d_isi (T := "bool") (by simp) M.isinstance_ M.bool_ (by decide +kernel) (d_var 0))) (d_one (d_cmp (or_eq hr) os_eq (d_var 0) (d_var 1)))))))
       (dss_one (ds_ret (d_and (d_isi (T := "str") (by simp) M.isinstance_ M.str_ (by decide +kernel) (d_var 0)) (d_one (d_cmp (or_eq hr) os_eq (d_var 0) (d_var 1)))))))))))))))
  (dss_cons (ds_for PassesOwn.never rfl (di_range1 M.range_ (da_cons (d_len M.len_ (d_var 1)) da_nil)) (dg_name nd)
   (dss_one (ds_if (dt_not (d_tb (d_call c__law_same hr (da_cons (d_sub_ix (d_var 0) (d_var 2)) (da_cons (d_sub_ix (d_var 1) (d_var 2)) da_nil)) (hk := Nat.le_refl _))))
    (dss_one (ds_ret d_bl))
    dss_nil)))
  (dss_one (ds_ret d_bl)))), pure__law_same m⟩
theorem cal__law_same {f : Addr} {fd : FuncData} (M : Mg mg) (F : L2.Fun K "_law_same" "_law_same" s__law_same f fd) (hm : mg "_law_same" = some (.ref f)) (b : Binds K fd ["told", "due"] []) : Cal P w K mg base 5 "_law_same" (spD 2 P__law_same) := calr__law_same M F hm b 4

abbrev s__law_letters : Stmt := topS 21
abbrev N__law_letters : List Str := ["draw", "count", "found", "k"]
theorem sc__law_letters : FnScope N__law_letters ["draw", "count"] (defScope s__law_letters) := ⟨rfl, rfl, rfl, by decide +kernel, rfl, by decide +kernel, by decide +kernel⟩
theorem cal__law_letters {f : Addr} {fd : FuncData} (M : Mg mg) (F : L2.Fun K "_law_letters" "_law_letters" s__law_letters f fd) (hm : mg "_law_letters" = some (.ref f)) (b : Binds K fd ["draw", "count"] []) : Cal P w K mg base 1 "_law_letters" (spD 2 P__law_letters) :=
  have nd := sc__law_letters.nd
  cal_mk F hm b sc__law_letters fun cdv A outer s H E hr => ⟨_, q__law_letters, (dss_cons (ds_set nd d_str)
  (dss_cons (ds_for PassesOwn.never rfl (di_range1 M.range_ (da_cons (d_var 1) da_nil)) (dg_name nd)
   (dss_cons (ds_set nd (d_add (d_var 2) (d_sub_ix d_str (d_mod (d_int1 M.int_ (d_var 0)) d_int))))
   (dss_one (ds_set nd (d_add (d_fdiv (d_int1 M.int_ (d_var 0)) d_int) (d_mul d_int (d_var 3)))))))
  (dss_one (ds_ret (d_var 2))))), pure__law_letters⟩

abbrev s__law_deck : Stmt := topS 22
abbrev N__law_deck : List Str := ["script", "at", "most", "head", "kinds", "k", "kind", "values", "cards", "rows", "draws", "hard", "keys", "key", "j"]
theorem sc__law_deck : FnScope N__law_deck ["script", "at", "most"] (defScope s__law_deck) := ⟨rfl, rfl, rfl, by decide +kernel, rfl, by decide +kernel, by decide +kernel⟩
theorem cal__law_deck {f : Addr} {fd : FuncData} (M : Mg mg) (c__law_cell : Cal P w K mg base 1 "_law_cell" (spD 2 P__law_cell)) (c__law_letters : Cal P w K mg base 1 "_law_letters" (spD 2 P__law_letters)) (c__law_numbers : Cal P w K mg base 1 "_law_numbers" (spD 3 P__law_numbers)) (F : L2.Fun K "_law_deck" "_law_deck" s__law_deck f fd) (hm : mg "_law_deck" = some (.ref f)) (b : Binds K fd ["script", "at", "most"] []) : Cal P w K mg base 2 "_law_deck" (spD 3 P__law_deck) :=
  have nd := sc__law_deck.nd
  cal_mk F hm b sc__law_deck fun cdv A outer s H E hr => ⟨_, q__law_deck, (dss_cons (ds_set nd (d_call c__law_numbers hr (da_cons (d_call c__law_cell hr (da_cons (d_var 0) (da_cons (d_var 1) da_nil))) (da_cons d_int (da_cons d_int da_nil)))))
  (dss_frz 3 (dss_cons (ds_set nd (d_lst da_nil))
  (dss_cons (ds_for PassesOwn.never rfl (di_range1 M.range_ (da_cons d_int da_nil)) (dg_name nd)
   (dss_cons (ds_set nd (d_call c__law_letters hr (da_cons (d_add (d_sub_ix (d_var 3) (d_var 5)) (d_mul (d_var 5) d_int)) (da_cons (d_add d_int (d_mod (d_fdiv (d_sub_ix (d_var 3) (d_var 5)) d_int) d_int)) da_nil))))
   (dss_one (ds_if (d_tcmp (or_notIn hr) os_in (d_var 6) (d_var 4))
    (dss_one (ds_expr (d_append 4 (d_var 6))))
    dss_nil))))
  (dss_cons (ds_set nd (d_sortS M.sorted_ (d_var 4)))
  (dss_cons (ds_set nd (d_slice (d_lst (da_cons d_str (da_cons d_str (da_cons d_str (da_cons d_str (da_cons d_str da_nil)))))) (do_some d_int) (do_some (d_add d_int (d_mod (d_sub_ix (d_var 3) d_int) d_int)))))
  (dss_frz 7 (dss_cons (ds_set nd (d_lst da_nil))
  (dss_cons (ds_set nd (d_call c__law_numbers hr (da_cons (d_call c__law_cell hr (da_cons (d_var 0) (da_cons (d_add (d_var 1) d_int) da_nil))) (da_cons (d_mul d_int (d_var 2)) (da_cons d_int da_nil)))))
  (dss_frz 9 (dss_cons (ds_for PassesOwn.never rfl (di_range1 M.range_ (da_cons (d_add d_int (d_mod (d_sub_ix (d_var 3) d_int) (d_var 2))) da_nil)) (dg_name nd)
   (dss_cons (ds_set nd (d_slice (d_var 9) (do_some (d_mul d_int (d_var 5))) (do_some (d_add (d_mul d_int (d_var 5)) d_int))))
   (dss_frz 10 (dss_one (ds_expr (d_append 8 (b_lc (own := [("j", 14)]) rfl nd (di_range1 M.range_ (da_cons (d_len M.len_ (d_var 4)) da_nil)) (blkOk_by (by kernel_rfl)) (fun _ _ _ _ _ => (dg_name nd)) (fun _ _ _ _ _ => (dts_one (d_tcmp or_gt os_ord (d_mod (d_sub_ix (d_var 10) (d_var 14)) d_int) d_int))) (fun _ _ _ _ _ => (d_tup (da_cons (d_sub_ix (d_var 4) (d_var 14)) (da_cons (d_sub_ix (d_var 7) (d_mod (d_fdiv (d_sub_ix (d_var 10) (d_var 14)) d_int) (d_len M.len_ (d_var 7)))) da_nil)))))))))))
  (dss_cons (bs_setLc (own := [("j", 14)]) rfl nd (di_range1 M.range_ (da_cons (d_len M.len_ (d_var 4)) da_nil)) (blkOk_by (by kernel_rfl)) (fun _ _ _ _ _ => (dg_name nd)) (fun _ _ _ _ _ => (dts_one (d_tcmp (or_eq hr) os_eq (d_mod (d_sub_ix (d_var 3) (d_add d_int (d_var 14))) (d_sub_ix (d_lst (da_cons d_int (da_cons d_int (da_cons d_int da_nil)))) (d_mod (d_sub_ix (d_var 3) d_int) d_int))) d_int))) (fun _ _ _ _ _ => (d_sub_ix (d_var 4) (d_var 14))) (sw_true rfl rfl rfl (by decide +kernel)))
  (dss_frz 11 (dss_cons (ds_set nd (d_lst da_nil))
  (dss_cons (ds_for PassesOwn.never rfl (di_range1 M.range_ (da_cons (d_mod (d_sub_ix (d_var 3) d_int) d_int) da_nil)) (dg_name nd)
   (dss_cons (bs_setLc (own := [("j", 14)]) rfl nd (di_range1 M.range_ (da_cons (d_len M.len_ (d_var 4)) da_nil)) (blkOk_by (by kernel_rfl)) (fun _ _ _ _ _ => (dg_name nd)) (fun _ _ _ _ _ => (dts_one (d_tcmp (or_eq hr) os_eq (d_mod (d_sub_ix (d_var 3) (d_add (d_add d_int (d_mul d_int (d_var 5))) (d_var 14))) d_int) d_int))) (fun _ _ _ _ _ => (d_sub_ix (d_var 4) (d_var 14))) (sw_true rfl rfl rfl (by decide +kernel)))
   (dss_frz 13 (dss_one (ds_expr (d_append 12 (d_add (d_var 13) (d_slice (d_lst (da_cons (d_sub_ix (d_var 4) (d_mod (d_sub_ix (d_var 3) (d_add d_int (d_mul d_int (d_var 5)))) (d_len M.len_ (d_var 4)))) da_nil)) (do_some d_int) (do_some (d_int1 M.int_ (d_cmp (or_eq hr) os_eq (d_len M.len_ (d_var 13)) d_int)))))))))))
  (dss_cons (ds_if (d_tcmp (or_eq hr) os_eq (d_mod (d_sub_ix (d_var 3) d_int) d_int) d_int)
   (dss_one (ds_expr (d_append 12 (d_lst (da_cons d_str da_nil)))))
   dss_nil)
  (dss_one (ds_ret (d_tup (da_cons (d_var 8) (da_cons (d_var 11) (da_cons (d_var 12) da_nil)))))))))))))))))))))), pure__law_deck⟩

abbrev s__law_value : Stmt := topS 23
abbrev N__law_value : List Str := ["card", "kind", "one", "value"]
theorem sc__law_value : FnScope N__law_value ["card", "kind"] (defScope s__law_value) := ⟨rfl, rfl, rfl, by decide +kernel, rfl, by decide +kernel, by decide +kernel⟩
theorem cal__law_value {f : Addr} {fd : FuncData} (M : Mg mg) (F : L2.Fun K "_law_value" "_law_value" s__law_value f fd) (hm : mg "_law_value" = some (.ref f)) (b : Binds K fd ["card", "kind"] []) : Cal P w K mg base 1 "_law_value" (spD 2 P__law_value) :=
  have nd := sc__law_value.nd
  cal_mk F hm b sc__law_value fun cdv A outer s H E hr => ⟨_, q__law_value, (dss_cons (ds_for PassesOwn.never rfl (di_list (d_var 0)) (dg_tup rfl (dgs_cons (dg_name nd) (dgs_cons (dg_name nd) dgs_nil)))
   (dss_one (ds_if (d_tcmp (or_eq hr) os_eq (d_var 2) (d_var 1))
    (dss_one (ds_ret (d_var 3)))
    dss_nil)))
  (dss_one (ds_ret d_non))), pure__law_value⟩

abbrev s__law_agreed : Stmt := topS 24
abbrev N__law_agreed : List Str := ["one", "other", "kind", "value"]
theorem sc__law_agreed : FnScope N__law_agreed ["one", "other"] (defScope s__law_agreed) := ⟨rfl, rfl, rfl, by decide +kernel, rfl, by decide +kernel, by decide +kernel⟩
theorem cal__law_agreed {f : Addr} {fd : FuncData} (M : Mg mg) (c__law_value : Cal P w K mg base 1 "_law_value" (spD 2 P__law_value)) (F : L2.Fun K "_law_agreed" "_law_agreed" s__law_agreed f fd) (hm : mg "_law_agreed" = some (.ref f)) (b : Binds K fd ["one", "other"] []) : Cal P w K mg base 2 "_law_agreed" (spD 2 P__law_agreed) :=
  have nd := sc__law_agreed.nd
  cal_mk F hm b sc__law_agreed fun cdv A outer s H E hr => ⟨_, q__law_agreed, (dss_one (ds_ret (b_lc (own := [("kind", 2), ("value", 3)]) rfl nd (di_list (d_var 0)) (blkOk_by (by kernel_rfl)) (fun _ _ _ _ _ => (dg_tup rfl (dgs_cons (dg_name nd) (dgs_cons (dg_name nd) dgs_nil)))) (fun _ _ _ _ _ => (dts_one (d_tcmp (or_eq hr) os_eq (d_call c__law_value hr (da_cons (d_var 1) (da_cons (d_var 2) da_nil))) (d_var 3)))) (fun _ _ _ _ _ => (d_var 2))))), pure__law_agreed⟩

abbrev s__law_differing : Stmt := topS 25
abbrev N__law_differing : List Str := ["one", "other", "kind", "value"]
theorem sc__law_differing : FnScope N__law_differing ["one", "other"] (defScope s__law_differing) := ⟨rfl, rfl, rfl, by decide +kernel, rfl, by decide +kernel, by decide +kernel⟩
theorem cal__law_differing {f : Addr} {fd : FuncData} (M : Mg mg) (c__law_value : Cal P w K mg base 1 "_law_value" (spD 2 P__law_value)) (F : L2.Fun K "_law_differing" "_law_differing" s__law_differing f fd) (hm : mg "_law_differing" = some (.ref f)) (b : Binds K fd ["one", "other"] []) : Cal P w K mg base 2 "_law_differing" (spD 2 P__law_differing) :=
  have nd := sc__law_differing.nd
  cal_mk F hm b sc__law_differing fun cdv A outer s H E hr => ⟨_, q__law_differing, (dss_one (ds_ret (b_lc (own := [("kind", 2), ("value", 3)]) rfl nd (di_list (d_var 0)) (blkOk_by (by kernel_rfl)) (fun _ _ _ _ _ => (dg_tup rfl (dgs_cons (dg_name nd) (dgs_cons (dg_name nd) dgs_nil)))) (fun _ _ _ _ _ => (dts_one (dw_and (d_tcmp op_notN os_isNot (d_call c__law_value hr (da_cons (d_var 1) (da_cons (d_var 2) da_nil))) d_non) (dw_and1 (d_tcmp (or_ne hr) os_ne (d_call c__law_value hr (da_cons (d_var 1) (da_cons (d_var 2) da_nil))) (d_var 3)))).dt)) (fun _ _ _ _ _ => (d_var 2))))), pure__law_differing⟩

abbrev s__law_relation : Stmt := topS 26
abbrev N__law_relation : List Str := ["one", "other", "hard", "keys", "same", "key", "kind"]
theorem sc__law_relation : FnScope N__law_relation ["one", "other", "hard", "keys"] (defScope s__law_relation) := ⟨rfl, rfl, rfl, by decide +kernel, rfl, by decide +kernel, by decide +kernel⟩
theorem cal__law_relation {f : Addr} {fd : FuncData} (M : Mg mg) (c__law_agreed : Cal P w K mg base 2 "_law_agreed" (spD 2 P__law_agreed)) (c__law_differing : Cal P w K mg base 2 "_law_differing" (spD 2 P__law_differing)) (F : L2.Fun K "_law_relation" "_law_relation" s__law_relation f fd) (hm : mg "_law_relation" = some (.ref f)) (b : Binds K fd ["one", "other", "hard", "keys"] []) : Cal P w K mg base 3 "_law_relation" (spD 4 P__law_relation) :=
  have nd := sc__law_relation.nd
  cal_mk F hm b sc__law_relation fun cdv A outer s H E hr => ⟨_, q__law_relation, (dss_cons (ds_if (d_tcmp or_gt os_ord (d_len M.len_ (b_lc (own := [("kind", 6)]) rfl nd (di_list (d_call c__law_differing hr (da_cons (d_var 0) (da_cons (d_var 1) da_nil)))) (blkOk_by (by kernel_rfl)) (fun _ _ _ _ _ => (dg_name nd)) (fun _ _ _ _ _ => (dts_one (d_tcmp (or_in hr) os_in (d_var 6) (d_var 2)))) (fun _ _ _ _ _ => (d_var 6)))) d_int)
   (dss_one (ds_ret d_str))
   dss_nil)
  (dss_cons (ds_set nd (d_call c__law_agreed hr (da_cons (d_var 0) (da_cons (d_var 1) da_nil))))
  (dss_frz 4 (dss_cons (ds_for PassesOwn.never rfl (di_list (d_var 3)) (dg_name nd)
   (dss_one (ds_if (d_tcmp (or_eq hr) os_eq (d_len M.len_ (b_lc (own := [("kind", 6)]) rfl nd (di_list (d_var 5)) (blkOk_by (by kernel_rfl)) (fun _ _ _ _ _ => (dg_name nd)) (fun _ _ _ _ _ => (dts_one (d_tcmp (or_notIn hr) os_in (d_var 6) (d_var 4)))) (fun _ _ _ _ _ => (d_var 6)))) d_int)
    (dss_one (ds_ret d_str))
    dss_nil)))
  (dss_one (ds_ret d_str)))))), pure__law_relation⟩

abbrev s__law_ones : Stmt := topS 27
abbrev N__law_ones : List Str := ["cards", "hard", "keys", "found", "k", "j"]
theorem sc__law_ones : FnScope N__law_ones ["cards", "hard", "keys"] (defScope s__law_ones) := ⟨rfl, rfl, rfl, by decide +kernel, rfl, by decide +kernel, by decide +kernel⟩
theorem cal__law_ones {f : Addr} {fd : FuncData} (M : Mg mg) (c__law_relation : Cal P w K mg base 3 "_law_relation" (spD 4 P__law_relation)) (F : L2.Fun K "_law_ones" "_law_ones" s__law_ones f fd) (hm : mg "_law_ones" = some (.ref f)) (b : Binds K fd ["cards", "hard", "keys"] []) : Cal P w K mg base 4 "_law_ones" (spD 3 P__law_ones) :=
  have nd := sc__law_ones.nd
  cal_mk F hm b sc__law_ones fun cdv A outer s H E hr => ⟨_, q__law_ones, (dss_cons (ds_set nd (d_lst da_nil))
  (dss_cons (ds_for PassesOwn.never rfl (di_range1 M.range_ (da_cons (d_len M.len_ (d_var 0)) da_nil)) (dg_name nd)
   (dss_one (ds_expr (d_append 3 (b_lc (own := [("j", 5)]) rfl nd (di_range1 M.range_ (da_cons (d_len M.len_ (d_var 0)) da_nil)) (blkOk_by (by kernel_rfl)) (fun _ _ _ _ _ => (dg_name nd)) (fun _ _ _ _ _ => (dts_one (dw_and (d_tcmp (or_ne hr) os_ne (d_var 5) (d_var 4)) (dw_and1 (d_tcmp (or_eq hr) os_eq (d_call c__law_relation hr (da_cons (d_sub_ix (d_var 0) (d_var 4)) (da_cons (d_sub_ix (d_var 0) (d_var 5)) (da_cons (d_var 1) (da_cons (d_var 2) da_nil))))) d_str))).dt)) (fun _ _ _ _ _ => (d_var 5)))))))
  (dss_one (ds_ret (d_var 3))))), pure__law_ones⟩

abbrev s__law_is_chain : Stmt := topS 28
abbrev N__law_is_chain : List Str := ["ones", "chain", "k"]
theorem sc__law_is_chain : FnScope N__law_is_chain ["ones", "chain"] (defScope s__law_is_chain) := ⟨rfl, rfl, rfl, by decide +kernel, rfl, by decide +kernel, by decide +kernel⟩
theorem cal__law_is_chain {f : Addr} {fd : FuncData} (M : Mg mg) (F : L2.Fun K "_law_is_chain" "_law_is_chain" s__law_is_chain f fd) (hm : mg "_law_is_chain" = some (.ref f)) (b : Binds K fd ["ones", "chain"] []) : Cal P w K mg base 1 "_law_is_chain" (spD 2 P__law_is_chain) :=
  have nd := sc__law_is_chain.nd
  cal_mk F hm b sc__law_is_chain fun cdv A outer s H E hr => ⟨_, q__law_is_chain, (dss_cons (ds_if (d_tcmp or_lt os_ord (d_len M.len_ (d_var 1)) d_int)
   (dss_one (ds_ret d_bl))
   dss_nil)
  (dss_cons (ds_for PassesOwn.never rfl (di_range1 M.range_ (da_cons (d_len M.len_ (d_var 1)) da_nil)) (dg_name nd)
   (dss_one (ds_if (dw_or (d_tcmp or_lt os_ord (d_sub_ix (d_var 1) (d_var 2)) d_int) (dw_or (d_tcmp or_ge os_ord (d_sub_ix (d_var 1) (d_var 2)) (d_len M.len_ (d_var 0))) (dw_or1 (dw_and (d_tcmp or_gt os_ord (d_var 2) d_int) (dw_and1 (d_tcmp (or_notIn hr) os_in (d_sub_ix (d_var 1) (d_var 2)) (d_sub_ix (d_var 0) (d_sub_ix (d_var 1) (d_sub (d_var 2) d_int)))))).dt))).dt
    (dss_one (ds_ret d_bl))
    dss_nil)))
  (dss_one (ds_ret d_bl)))), pure__law_is_chain⟩

abbrev s__law_groups : Stmt := topS 29
abbrev N__law_groups : List Str := ["ones", "found", "seen", "k", "group", "at", "other"]
theorem sc__law_groups : FnScope N__law_groups ["ones"] (defScope s__law_groups) := ⟨rfl, rfl, rfl, by decide +kernel, rfl, by decide +kernel, by decide +kernel⟩
theorem cal__law_groups {f : Addr} {fd : FuncData} (M : Mg mg) (F : L2.Fun K "_law_groups" "_law_groups" s__law_groups f fd) (hm : mg "_law_groups" = some (.ref f)) (b : Binds K fd ["ones"] []) : Cal P w K mg base 1 "_law_groups" (spD 1 P__law_groups) :=
  have nd := sc__law_groups.nd
  cal_mk F hm b sc__law_groups fun cdv A outer s H E hr => ⟨_, q__law_groups, (dss_cons (ds_set nd (d_lst da_nil))
  (dss_cons (ds_set nd (d_lst da_nil))
  (dss_frz 2 (dss_cons (ds_for PassesOwn.never rfl (di_range1 M.range_ (da_cons (d_len M.len_ (d_var 0)) da_nil)) (dg_name nd)
   (dss_one (ds_if (d_tcmp (or_notIn hr) os_in (d_var 3) (d_var 2))
    (dss_cons (ds_set nd (d_lst (da_cons (d_var 3) da_nil)))
    (dss_cons (ds_set nd d_int)
    (dss_cons (ds_while PassesOwn.never (d_tcmp or_lt os_ord (d_var 5) (d_len M.len_ (d_var 4)))
     (dss_cons (ds_for PassesOwn.never rfl (di_list (d_sub_ix (d_var 0) (d_sub_ix (d_var 4) (d_var 5)))) (dg_name nd)
      (dss_one (ds_if (d_tcmp (or_notIn hr) os_in (d_var 6) (d_var 4))
       (dss_one (ds_expr (d_append 4 (d_var 6))))
       dss_nil)))
     (dss_one (ds_set nd (d_add (d_var 5) d_int)))))
    (dss_cons (ds_expr (d_append 1 (d_var 4)))
    (dss_one (ds_set nd (d_add (d_var 2) (d_var 4))))))))
    dss_nil)))
  (dss_one (ds_ret (d_var 1))))))), pure__law_groups⟩

abbrev s__law_is_apart : Stmt := topS 30
abbrev N__law_is_apart : List Str := ["cards", "hard", "one", "other"]
theorem sc__law_is_apart : FnScope N__law_is_apart ["cards", "hard", "one", "other"] (defScope s__law_is_apart) := ⟨rfl, rfl, rfl, by decide +kernel, rfl, by decide +kernel, by decide +kernel⟩
theorem cal__law_is_apart {f : Addr} {fd : FuncData} (M : Mg mg) (c__law_relation : Cal P w K mg base 3 "_law_relation" (spD 4 P__law_relation)) (F : L2.Fun K "_law_is_apart" "_law_is_apart" s__law_is_apart f fd) (hm : mg "_law_is_apart" = some (.ref f)) (b : Binds K fd ["cards", "hard", "one", "other"] []) : Cal P w K mg base 4 "_law_is_apart" (spD 4 P__law_is_apart) :=
  have nd := sc__law_is_apart.nd
  cal_mk F hm b sc__law_is_apart fun cdv A outer s H E hr => ⟨_, q__law_is_apart, (dss_one (ds_ret (d_cmp (or_eq hr) os_eq (d_call c__law_relation hr (da_cons (d_sub_ix (d_var 0) (d_var 2)) (da_cons (d_sub_ix (d_var 0) (d_var 3)) (da_cons (d_var 1) (da_cons (d_lst da_nil) da_nil))))) d_str))), pure__law_is_apart⟩

abbrev s__law_group_paper : Stmt := topS 31
abbrev N__law_group_paper : List Str := ["cards", "hard", "keys", "ones", "groups", "one", "other", "both", "level", "size", "done", "kinds", "more", "seen", "chain", "card", "group", "kind"]
theorem sc__law_group_paper : FnScope N__law_group_paper ["cards", "hard", "keys"] (defScope s__law_group_paper) := ⟨rfl, rfl, rfl, by decide +kernel, rfl, by decide +kernel, by decide +kernel⟩
theorem cal__law_group_paper {f : Addr} {fd : FuncData} (M : Mg mg) (c__law_differing : Cal P w K mg base 2 "_law_differing" (spD 2 P__law_differing)) (c__law_groups : Cal P w K mg base 1 "_law_groups" (spD 1 P__law_groups)) (c__law_is_apart : Cal P w K mg base 4 "_law_is_apart" (spD 4 P__law_is_apart)) (c__law_ones : Cal P w K mg base 4 "_law_ones" (spD 3 P__law_ones)) (F : L2.Fun K "_law_group_paper" "_law_group_paper" s__law_group_paper f fd) (hm : mg "_law_group_paper" = some (.ref f)) (b : Binds K fd ["cards", "hard", "keys"] []) : Cal P w K mg base 5 "_law_group_paper" (spD 3 P__law_group_paper) :=
  have nd := sc__law_group_paper.nd
  cal_mk F hm b sc__law_group_paper fun cdv A outer s H E hr => ⟨_, q__law_group_paper, (dss_cons (ds_set nd (d_call c__law_ones hr (da_cons (d_var 0) (da_cons (d_var 1) (da_cons (d_var 2) da_nil)))))
  (dss_frz 3 (dss_cons (ds_set nd (d_call c__law_groups hr (da_cons (d_var 3) da_nil)))
  (dss_frz 4 (dss_cons (ds_for PassesOwn.never rfl (di_range1 M.range_ (da_cons (d_len M.len_ (d_var 0)) da_nil)) (dg_name nd)
   (dss_one (ds_for PassesOwn.never rfl (di_range2 M.range_ (da_cons (d_add (d_var 5) d_int) (da_cons (d_len M.len_ (d_var 0)) da_nil))) (dg_name nd)
    (dss_cons (bs_setLc (own := [("group", 16)]) rfl nd (di_list (d_var 4)) (blkOk_by (by kernel_rfl)) (fun _ _ _ _ _ => (dg_name nd)) (fun _ _ _ _ _ => (dts_one (dw_and (d_tcmp (or_in hr) os_in (d_var 5) (d_var 16)) (dw_and1 (d_tcmp (or_in hr) os_in (d_var 6) (d_var 16)))).dt)) (fun _ _ _ _ _ => (d_var 16)) (sw_true rfl rfl rfl (by decide +kernel)))
    (dss_frz 7 (dss_one (ds_if (dw_and (d_tcmp or_gt os_ord (d_len M.len_ (d_var 7)) d_int) (dw_and1 (d_tb (d_call c__law_is_apart hr (da_cons (d_var 0) (da_cons (d_var 1) (da_cons (d_var 5) (da_cons (d_var 6) da_nil)))))))).dt
     (dss_cons (ds_set nd (d_lst (da_cons (d_lst (da_cons (d_var 5) da_nil)) da_nil)))
     (dss_frz 8 (dss_one (ds_for PassesOwn.never rfl (di_range1 M.range_ (da_cons (d_len M.len_ (d_var 0)) da_nil)) (dg_name nd)
      (dss_cons (bs_setLc (own := [("chain", 14)]) rfl nd (di_list (d_var 8)) (blkOk_by (by kernel_rfl)) (fun _ _ _ _ _ => (dg_name nd)) (fun _ _ _ _ _ => (dts_one (d_tcmp (or_eq hr) os_eq (d_sub_ix (d_var 14) (d_sub (d_len M.len_ (d_var 14)) d_int)) (d_var 6)))) (fun _ _ _ _ _ => (d_var 14)) (sw_true rfl rfl rfl (by decide +kernel)))
      (dss_frz 10 (dss_cons (ds_if (d_tcmp or_gt os_ord (d_len M.len_ (d_var 10)) d_int)
       (dss_cons (ds_set nd (d_call c__law_differing hr (da_cons (d_sub_ix (d_var 0) (d_var 5)) (da_cons (d_sub_ix (d_var 0) (d_var 6)) da_nil))))
       (dss_frz 11 (dss_one (ds_ret (d_tup (da_cons d_str (da_cons (d_min1 hr rfl M.min_ (d_var 10)) (da_cons (d_sub_ix (b_lc (own := [("kind", 17)]) rfl nd (di_list (d_var 1)) (blkOk_by (by kernel_rfl)) (fun _ _ _ _ _ => (dg_name nd)) (fun _ _ _ _ _ => (dts_one (d_tcmp (or_in hr) os_in (d_var 17) (d_var 11)))) (fun _ _ _ _ _ => (d_var 17))) d_int) da_nil))))))))
       dss_nil)
      (dss_cons (ds_set nd (d_lst da_nil))
      (dss_cons (ds_set nd (d_lst da_nil))
      (dss_cons (ds_for PassesOwn.never rfl (di_list (d_var 8)) (dg_name nd)
       (dss_one (ds_for PassesOwn.never rfl (di_list (d_sub_ix (d_var 3) (d_sub_ix (d_var 14) (d_sub (d_len M.len_ (d_var 14)) d_int)))) (dg_name nd)
        (dss_one (ds_if (dw_and (d_tcmp (or_notIn hr) os_in (d_var 15) (d_var 14)) (dw_and1 (d_tcmp (or_notIn hr) os_in (d_var 15) (d_var 13)))).dt
         (dss_cons (ds_expr (d_append 12 (d_add (d_var 14) (d_lst (da_cons (d_var 15) da_nil)))))
         (dss_one (ds_expr (d_append 13 (d_var 15)))))
         dss_nil)))))
      (dss_one (ds_set nd (d_var 12)))))))))))))
     dss_nil)))))))
  (dss_one (ds_ret (d_tup (da_cons d_str (da_cons (d_var 4) da_nil)))))))))), pure__law_group_paper⟩

abbrev s__law_accepts : Stmt := topS 32
abbrev N__law_accepts : List Str := ["cards", "hard", "ones", "verdict", "word", "chain", "kind", "some", "group", "k", "card"]
theorem sc__law_accepts : FnScope N__law_accepts ["cards", "hard", "ones", "verdict"] (defScope s__law_accepts) := ⟨rfl, rfl, rfl, by decide +kernel, rfl, by decide +kernel, by decide +kernel⟩
theorem cal__law_accepts {f : Addr} {fd : FuncData} (M : Mg mg) (c__law_differing : Cal P w K mg base 2 "_law_differing" (spD 2 P__law_differing)) (c__law_is_apart : Cal P w K mg base 4 "_law_is_apart" (spD 4 P__law_is_apart)) (c__law_is_chain : Cal P w K mg base 1 "_law_is_chain" (spD 2 P__law_is_chain)) (F : L2.Fun K "_law_accepts" "_law_accepts" s__law_accepts f fd) (hm : mg "_law_accepts" = some (.ref f)) (b : Binds K fd ["cards", "hard", "ones", "verdict"] []) : Cal P w K mg base 5 "_law_accepts" (spD 4 P__law_accepts) :=
  have nd := sc__law_accepts.nd
  cal_mk F hm b sc__law_accepts fun cdv A outer s H E hr => ⟨_, q__law_accepts, (dss_cons (ds_if (dw_and (d_tcmp (or_eq hr) os_eq (d_len M.len_ (d_var 3)) d_int) (dw_and1 (d_tcmp (or_eq hr) os_eq (d_sub_ix (d_var 3) d_int) d_str))).dt
   (dss_cons (ds_asg (d_var 3) (dg_tup rfl (dgs_cons (dg_name nd) (dgs_cons (dg_name nd) (dgs_cons (dg_name nd) dgs_nil)))))
   (dss_cons (ds_if (dw_or (d_tcmp (or_notIn hr) os_in (d_var 6) (d_var 1)) (dw_or1 (dt_not (d_tb (d_call c__law_is_chain hr (da_cons (d_var 2) (da_cons (d_var 5) da_nil))))))).dt
    (dss_one (ds_ret d_bl))
    dss_nil)
   (dss_one (ds_ret (d_cmp (or_in hr) os_in (d_var 6) (d_call c__law_differing hr (da_cons (d_sub_ix (d_var 0) (d_sub_ix (d_var 5) d_int)) (da_cons (d_sub_ix (d_var 0) (d_sub_ix (d_var 5) (d_sub (d_len M.len_ (d_var 5)) d_int))) da_nil))))))))
   dss_nil)
  (dss_cons (ds_if (dw_or (d_tcmp (or_ne hr) os_ne (d_len M.len_ (d_var 3)) d_int) (dw_or1 (d_tcmp (or_ne hr) os_ne (d_sub_ix (d_var 3) d_int) d_str))).dt
   (dss_one (ds_ret d_bl))
   dss_nil)
  (dss_cons (ds_set nd (d_lst da_nil))
  (dss_frz 7 (dss_cons (ds_for PassesOwn.never rfl (di_list (d_sub_ix (d_var 3) d_int)) (dg_name nd)
   (dss_one (ds_set nd (d_add (d_var 7) (d_var 8)))))
  (dss_cons (ds_if (dw_or (d_tcmp (or_ne hr) os_ne (d_sortI M.sorted_ (d_var 7)) (d_listR1 rfl M.list_ M.range_ (d_len M.len_ (d_var 0)))) (dw_or1 (d_tcmp (or_in hr) os_in (d_lst da_nil) (d_sub_ix (d_var 3) d_int)))).dt
   (dss_one (ds_ret d_bl))
   dss_nil)
  (dss_cons (ds_for PassesOwn.never rfl (di_list (d_sub_ix (d_var 3) d_int)) (dg_name nd)
   (dss_one (ds_for PassesOwn.never rfl (di_range1 M.range_ (da_cons (d_len M.len_ (d_var 8)) da_nil)) (dg_name nd)
    (dss_cons (ds_if (dw_and (d_tcmp or_gt os_ord (d_var 9) d_int) (dw_and1 (d_tcmp (or_eq hr) os_eq (d_len M.len_ (b_lc (own := [("card", 10)]) rfl nd (di_list (d_slice (d_var 8) (do_some d_int) (do_some (d_var 9)))) (blkOk_by (by kernel_rfl)) (fun _ _ _ _ _ => (dg_name nd)) (fun _ _ _ _ _ => (dts_one (d_tcmp (or_in hr) os_in (d_var 10) (d_sub_ix (d_var 2) (d_sub_ix (d_var 8) (d_var 9)))))) (fun _ _ _ _ _ => (d_var 10)))) d_int))).dt
     (dss_one (ds_ret d_bl))
     dss_nil)
    (dss_cons (ds_if (d_tcmp or_gt os_ord (d_len M.len_ (b_lc (own := [("card", 10)]) rfl nd (di_list (d_sub_ix (d_var 2) (d_sub_ix (d_var 8) (d_var 9)))) (blkOk_by (by kernel_rfl)) (fun _ _ _ _ _ => (dg_name nd)) (fun _ _ _ _ _ => (dts_one (d_tcmp (or_notIn hr) os_in (d_var 10) (d_var 8)))) (fun _ _ _ _ _ => (d_var 10)))) d_int)
     (dss_one (ds_ret d_bl))
     dss_nil)
    (dss_one (ds_if (d_tcmp or_gt os_ord (d_len M.len_ (b_lc (own := [("card", 10)]) rfl nd (di_list (d_var 8)) (blkOk_by (by kernel_rfl)) (fun _ _ _ _ _ => (dg_name nd)) (fun _ _ _ _ _ => (dts_one (d_tb (d_call c__law_is_apart hr (da_cons (d_var 0) (da_cons (d_var 1) (da_cons (d_var 10) (da_cons (d_sub_ix (d_var 8) (d_var 9)) da_nil)))))))) (fun _ _ _ _ _ => (d_var 10)))) d_int)
     (dss_one (ds_ret d_bl))
     dss_nil)))))))
  (dss_one (ds_ret d_bl))))))))), pure__law_accepts⟩

abbrev s__law_bent_groups : Stmt := topS 33
abbrev N__law_bent_groups : List Str := ["groups", "draws", "at", "to", "group", "found", "low", "high", "card", "some"]
theorem sc__law_bent_groups : FnScope N__law_bent_groups ["groups", "draws"] (defScope s__law_bent_groups) := ⟨rfl, rfl, rfl, by decide +kernel, rfl, by decide +kernel, by decide +kernel⟩
theorem cal__law_bent_groups {f : Addr} {fd : FuncData} (M : Mg mg) (F : L2.Fun K "_law_bent_groups" "_law_bent_groups" s__law_bent_groups f fd) (hm : mg "_law_bent_groups" = some (.ref f)) (b : Binds K fd ["groups", "draws"] []) : Cal P w K mg base 1 "_law_bent_groups" (spD 2 P__law_bent_groups) :=
  have nd := sc__law_bent_groups.nd
  cal_mk F hm b sc__law_bent_groups fun cdv A outer s H E hr => ⟨_, q__law_bent_groups, (dss_cons (ds_set nd (d_mod (d_sub_ix (d_var 1) d_int) (d_len M.len_ (d_var 0))))
  (dss_cons (ds_set nd (d_mod (d_sub_ix (d_var 1) d_int) (d_len M.len_ (d_var 0))))
  (dss_cons (ds_set nd (d_sub_ix (d_var 0) (d_var 2)))
  (dss_frz 4 (dss_cons (ds_set nd (d_lst (da_cons (d_revL (d_var 0)) (da_cons (d_slice (d_var 0) (do_some d_int) do_none) (da_cons (d_add (d_var 0) (d_lst (da_cons (d_lst da_nil) da_nil))) (da_cons (d_add (d_var 0) (d_lst (da_cons (d_var 4) da_nil))) (da_cons (b_lc (own := [("group", 4)]) rfl nd (di_list (d_var 0)) (blkOk_by (by kernel_rfl)) (fun _ _ _ _ _ => (dg_name nd)) (fun _ _ _ _ _ => dts_nil) (fun _ _ _ _ _ => (d_revL (d_var 4)))) (da_cons (d_add (d_add (d_slice (d_var 0) (do_some d_int) (do_some (d_var 2))) (d_lst (da_cons (d_slice (d_var 4) (do_some d_int) do_none) da_nil))) (d_slice (d_var 0) (do_some (d_add (d_var 2) d_int)) do_none)) da_nil))))))))
  (dss_cons (ds_set nd (d_add (d_var 5) (d_lst (da_cons (d_add (d_add (d_slice (d_var 0) (do_some d_int) (do_some (d_var 2))) (d_lst (da_cons (d_slice (d_var 4) (do_some d_int) (do_some d_int)) (da_cons (d_slice (d_var 4) (do_some d_int) do_none) da_nil)))) (d_slice (d_var 0) (do_some (d_add (d_var 2) d_int)) do_none)) (da_cons (d_add (d_add (d_slice (d_var 0) (do_some d_int) (do_some (d_var 2))) (d_lst (da_cons (d_add (d_var 4) (d_lst (da_cons (d_add (d_len M.len_ (d_var 0)) d_int) da_nil))) da_nil))) (d_slice (d_var 0) (do_some (d_add (d_var 2) d_int)) do_none)) (da_cons (b_lc (own := [("card", 8)]) rfl nd (di_list (d_var 4)) (blkOk_by (by kernel_rfl)) (fun _ _ _ _ _ => (dg_name nd)) (fun _ _ _ _ _ => dts_nil) (fun _ _ _ _ _ => (d_lst (da_cons (d_var 8) da_nil)))) da_nil))))))
  (dss_cons (ds_if (d_tcmp (or_ne hr) os_ne (d_var 3) (d_var 2))
   (dss_cons (ds_set nd (d_min2 rfl M.min_ (d_var 2) (d_var 3)))
   (dss_cons (ds_set nd (d_max2 rfl M.max_ (d_var 2) (d_var 3)))
   (dss_one (ds_expr (d_append 5 (d_add (d_add (d_add (d_slice (d_var 0) (do_some d_int) (do_some (d_var 6))) (d_lst (da_cons (d_add (d_sub_ix (d_var 0) (d_var 6)) (d_sub_ix (d_var 0) (d_var 7))) da_nil))) (d_slice (d_var 0) (do_some (d_add (d_var 6) d_int)) (do_some (d_var 7)))) (d_slice (d_var 0) (do_some (d_add (d_var 7) d_int)) do_none)))))))
   dss_nil)
  (dss_one (ds_ret (b_lc (own := [("some", 9)]) rfl nd (di_list (d_var 5)) (blkOk_by (by kernel_rfl)) (fun _ _ _ _ _ => (dg_name nd)) (fun _ _ _ _ _ => dts_nil) (fun _ _ _ _ _ => (d_tup (da_cons d_str (da_cons (d_var 9) da_nil)))))))))))))), pure__law_bent_groups⟩

abbrev s__law_papers : Stmt := topS 34
abbrev N__law_papers : List Str := ["cards", "hard", "ones", "verdict", "draws", "kind", "groups", "found", "group", "other", "word", "chain", "own"]
theorem sc__law_papers : FnScope N__law_papers ["cards", "hard", "ones", "verdict", "draws"] (defScope s__law_papers) := ⟨rfl, rfl, rfl, by decide +kernel, rfl, by decide +kernel, by decide +kernel⟩
theorem cal__law_papers {f : Addr} {fd : FuncData} (M : Mg mg) (c__law_bent_groups : Cal P w K mg base 1 "_law_bent_groups" (spD 2 P__law_bent_groups)) (c__law_groups : Cal P w K mg base 1 "_law_groups" (spD 1 P__law_groups)) (F : L2.Fun K "_law_papers" "_law_papers" s__law_papers f fd) (hm : mg "_law_papers" = some (.ref f)) (b : Binds K fd ["cards", "hard", "ones", "verdict", "draws"] []) : Cal P w K mg base 2 "_law_papers" (spD 5 P__law_papers) :=
  have nd := sc__law_papers.nd
  cal_mk F hm b sc__law_papers fun cdv A outer s H E hr => ⟨_, q__law_papers, (dss_cons (ds_set nd (d_sub_ix (d_add (d_var 1) (d_lst (da_cons d_str da_nil))) (d_mod (d_sub_ix (d_var 4) d_int) (d_add (d_len M.len_ (d_var 1)) d_int))))
  (dss_cons (ds_set nd (d_call c__law_groups hr (da_cons (d_var 2) da_nil)))
  (dss_frz 6 (dss_cons (ds_set nd (d_lst (da_cons (d_var 3) (da_cons (d_add (d_var 3) (d_tup (da_cons (d_var 5) da_nil))) (da_cons (d_slice (d_var 3) (do_some d_int) (do_some d_int)) (da_cons (d_add (d_tup (da_cons d_str da_nil)) (d_slice (d_var 3) (do_some d_int) do_none)) (da_cons (d_tup (da_cons d_str (da_cons (d_var 6) da_nil))) (da_cons (d_tup (da_cons d_str (da_cons (d_lst da_nil) da_nil))) (da_cons (d_tup (da_cons d_str (da_cons (d_lst (da_cons d_int da_nil)) (da_cons (d_var 5) da_nil)))) da_nil)))))))))
  (dss_cons (ds_set nd (d_add (d_var 7) (d_call c__law_bent_groups hr (da_cons (d_var 6) (da_cons (d_var 4) da_nil)))))
  (dss_cons (ds_for PassesOwn.never rfl (di_list (d_var 6)) (dg_name nd)
   (dss_one (ds_for PassesOwn.never rfl (di_list (d_lst (da_cons (d_var 8) (da_cons (d_revL (d_var 8)) (da_cons (d_lst (da_cons (d_sub_ix (d_var 8) d_int) (da_cons (d_sub_ix (d_var 8) (d_sub (d_len M.len_ (d_var 8)) d_int)) da_nil))) da_nil))))) (dg_name nd)
    (dss_one (ds_expr (d_append 7 (d_tup (da_cons d_str (da_cons (d_var 9) (da_cons (d_var 5) da_nil))))))))))
  (dss_cons (ds_if (d_tcmp (or_eq hr) os_eq (d_sub_ix (d_var 3) d_int) d_str)
   (dss_cons (ds_asg (d_var 3) (dg_tup rfl (dgs_cons (dg_name nd) (dgs_cons (dg_name nd) (dgs_cons (dg_name nd) dgs_nil)))))
   (dss_cons (ds_set nd (d_add (d_var 7) (d_lst (da_cons (d_tup (da_cons (d_var 10) (da_cons (d_revL (d_var 11)) (da_cons (d_var 12) da_nil)))) (da_cons (d_tup (da_cons (d_var 10) (da_cons (d_var 11) (da_cons (d_var 5) da_nil)))) (da_cons (d_tup (da_cons (d_var 10) (da_cons (d_slice (d_var 11) (do_some d_int) do_none) (da_cons (d_var 12) da_nil)))) (da_cons (d_tup (da_cons (d_var 10) (da_cons (d_add (d_var 11) (d_slice (d_var 11) (do_some (d_sub (d_len M.len_ (d_var 11)) d_int)) (do_some (d_sub (d_len M.len_ (d_var 11)) d_int)))) (da_cons (d_var 12) da_nil)))) da_nil)))))))
   (dss_cons (ds_set nd (d_add (d_var 7) (d_lst (da_cons (d_tup (da_cons (d_var 10) (da_cons (d_add (d_slice (d_var 11) (do_some d_int) (do_some d_int)) (d_slice (d_var 11) (do_some d_int) do_none)) (da_cons (d_var 12) da_nil)))) (da_cons (d_tup (da_cons (d_var 10) (da_cons (d_add (d_lst (da_cons (d_len M.len_ (d_var 0)) da_nil)) (d_slice (d_var 11) (do_some d_int) do_none)) (da_cons (d_var 12) da_nil)))) (da_cons (d_tup (da_cons (d_var 10) (da_cons (d_add (d_slice (d_var 11) (do_some d_int) (do_some d_int)) (d_var 11)) (da_cons (d_var 12) da_nil)))) da_nil))))))
   (dss_one (ds_set nd (d_add (d_var 7) (d_lst (da_cons (d_tup (da_cons (d_var 10) (da_cons (d_add (d_slice (d_var 11) (do_some d_int) (do_some d_int)) (d_var 11)) (da_cons (d_var 12) da_nil)))) (da_cons (d_tup (da_cons (d_var 10) (da_cons (d_add (d_lst (da_cons (d_neg d_int) da_nil)) (d_var 11)) (da_cons (d_var 12) da_nil)))) da_nil)))))))))
   dss_nil)
  (dss_one (ds_ret (d_var 7)))))))))), pure__law_papers⟩

abbrev s_law : Stmt := topS 35
abbrev N_law : List Str := ["script", "cards", "hard", "keys", "third", "draws", "kept", "one", "other", "verdict", "turn", "told", "kinds", "ones", "paper", "before", "due", "answer", "k", "kind"]
theorem sc_law : FnScope N_law ["script"] (defScope s_law) := ⟨rfl, rfl, rfl, by decide +kernel, rfl, by decide +kernel, by decide +kernel⟩
theorem ok_law {f : Addr} {fd : FuncData} (M : Mg mg) (c__law_accepts : Cal P w K mg base 5 "_law_accepts" (spD 4 P__law_accepts)) (c__law_cell : Cal P w K mg base 1 "_law_cell" (spD 2 P__law_cell)) (c__law_deck : Cal P w K mg base 2 "_law_deck" (spD 3 P__law_deck)) (c__law_group_paper : Cal P w K mg base 5 "_law_group_paper" (spD 3 P__law_group_paper)) (c__law_numbers : Cal P w K mg base 1 "_law_numbers" (spD 3 P__law_numbers)) (c__law_ones : Cal P w K mg base 4 "_law_ones" (spD 3 P__law_ones)) (c__law_papers : Cal P w K mg base 2 "_law_papers" (spD 5 P__law_papers)) (c__law_relation : Cal P w K mg base 3 "_law_relation" (spD 4 P__law_relation)) (c__law_same : Cal P w K mg base 5 "_law_same" (spD 2 P__law_same)) (c_find_groups : Cal P w K mg base 5 "find_groups" (spD 3 P_find_groups)) (c_judge_groups : Cal P w K mg base 6 "judge_groups" (spD 4 P_judge_groups)) (c_relation : Cal P w K mg base 3 "relation" (spD 4 P_relation)) (F : L2.Fun K "law" "law" s_law f fd) : FnG P w K mg base CX0 7 f fd ["script"] (spD 1 P_law) :=
  have nd := sc_law.nd
  fng_mk F sc_law fun cdv A outer s H E hr hgu => ⟨_, q_law, (dss_cons (ds_asg (d_call c__law_deck hr (da_cons (d_var 0) (da_cons d_int (da_cons (d_sub_ix (d_lst (da_cons d_int (da_cons d_int (da_cons d_int da_nil)))) (d_mod (d_call c__law_cell hr (da_cons (d_var 0) (da_cons d_int da_nil))) d_int)) da_nil)))) (dg_tup rfl (dgs_cons (dg_name nd) (dgs_cons (dg_name nd) (dgs_cons (dg_name nd) dgs_nil)))))
  (dss_cons (ds_set nd (d_call c__law_deck hr (da_cons (d_var 0) (da_cons d_int (da_cons d_int da_nil)))))
  (dss_cons (ds_set nd (d_call c__law_numbers hr (da_cons (d_call c__law_cell hr (da_cons (d_var 0) (da_cons d_int da_nil))) (da_cons d_int (da_cons d_int da_nil)))))
  (dss_frz 5 (dss_cons (ds_set nd (d_repr hr hgu M.repr_ (d_tup (da_cons (d_var 1) (da_cons (d_var 2) (da_cons (d_var 3) da_nil))))))
  (dss_frz 6 (dss_cons (ds_for PassesOwn.never rfl (di_list (d_slice (d_var 1) (do_some d_int) (do_some d_int))) (dg_name nd)
   (dss_one (ds_for PassesOwn.never rfl (di_list (d_slice (d_var 1) (do_some d_int) (do_some d_int))) (dg_name nd)
    (dss_one (ds_if (dt_not (d_tb (d_call c__law_same hr (da_cons (d_call c_relation hr (da_cons (d_var 7) (da_cons (d_var 8) (da_cons (d_var 2) (da_cons (d_var 3) da_nil))))) (da_cons (d_call c__law_relation hr (da_cons (d_var 7) (da_cons (d_var 8) (da_cons (d_var 2) (da_cons (d_var 3) da_nil))))) da_nil)))))
     (dss_one (ds_ret d_bl))
     dss_nil)))))
  (dss_cons (ds_set nd (d_call c__law_group_paper hr (da_cons (d_var 1) (da_cons (d_var 2) (da_cons (d_var 3) da_nil)))))
  (dss_cons (ds_for PassesOwn.never rfl (di_range1 M.range_ (da_cons d_int da_nil)) (dg_name nd)
   (dss_cons (ds_set nd (d_callD c_find_groups hr (da_cons (d_var 1) (da_cons (d_var 2) (da_cons (d_var 3) da_nil)))))
   (dss_cons (ds_if (dt_not (d_tb (d_callB c__law_same hr (dn_cons (dn_cons dn_nil)))))
    (dss_one (ds_ret d_bl))
    dss_nil)
   (dss_cons (ds_expr (d_fgtK (path_s (c := 1) (path_0 11)) pa_int))
   (dss_one (ds_if (d_tcmp (or_eq hr) os_eq (d_ixP (path_s (c := 0) (path_0 11))) d_str)
    (dss_one (ds_expr (d_fgtK (path_s (c := 0) (path_s (c := 1) (path_0 11))) pa_int)))
    dss_nil))))))
  (dss_cons (ds_set nd (d_lst da_nil))
  (dss_cons (ds_set nd (d_call c__law_ones hr (da_cons (d_var 1) (da_cons (d_var 2) (da_cons (d_var 3) da_nil)))))
  (dss_frz 13 (dss_cons (ds_for PassesOwn.never rfl (di_list (d_call c__law_papers hr (da_cons (d_var 1) (da_cons (d_var 2) (da_cons (d_var 13) (da_cons (d_var 9) (da_cons (d_var 5) da_nil))))))) (dg_name nd)
   (dss_cons (ds_set nd (d_repr hr hgu M.repr_ (d_var 14)))
   (dss_frz 15 (dss_cons (ds_set nd (d_call c__law_accepts hr (da_cons (d_var 1) (da_cons (d_var 2) (da_cons (d_var 13) (da_cons (d_var 14) da_nil))))))
   (dss_cons (ds_set nd (d_call c_judge_groups hr (da_cons (d_var 1) (da_cons (d_var 2) (da_cons (d_var 3) (da_cons (d_var 14) da_nil))))))
   (dss_cons (ds_if (dw_or (dt_not (d_tb (d_isi (T := "bool") (by simp) M.isinstance_ M.bool_ (by decide +kernel) (d_var 17)))) (dw_or (d_tcmp (or_ne hr) os_ne (d_var 17) (d_var 16)) (dw_or1 (d_tcmp (or_ne hr) os_ne (d_repr hr hgu M.repr_ (d_var 14)) (d_var 15))))).dt
    (dss_one (ds_ret d_bl))
    dss_nil)
   (dss_one (ds_if (d_tb (d_var 16))
    (dss_one (ds_expr (d_append 12 (d_sub_ix (d_var 14) d_int))))
    dss_nil))))))))
  (dss_cons (ds_for PassesOwn.never rfl (di_list (d_lst (da_cons (d_var 9) (da_cons (d_tup (da_cons d_str (da_cons (b_lc (own := [("k", 18)]) rfl nd (di_range1 M.range_ (da_cons (d_len M.len_ (d_sub_ix (d_var 4) d_int)) da_nil)) (blkOk_by (by kernel_rfl)) (fun _ _ _ _ _ => (dg_name nd)) (fun _ _ _ _ _ => dts_nil) (fun _ _ _ _ _ => (d_lst (da_cons (d_var 18) da_nil)))) da_nil))) da_nil)))) (dg_name nd)
   (dss_cons (ds_set nd (d_call c_judge_groups hr (da_cons (d_sub_ix (d_var 4) d_int) (da_cons (d_sub_ix (d_var 4) d_int) (da_cons (d_sub_ix (d_var 4) d_int) (da_cons (d_var 14) da_nil))))))
   (dss_one (ds_if (dw_or (dt_not (d_tb (d_isi (T := "bool") (by simp) M.isinstance_ M.bool_ (by decide +kernel) (d_var 17)))) (dw_or1 (d_tcmp (or_ne hr) os_ne (d_var 17) (d_call c__law_accepts hr (da_cons (d_sub_ix (d_var 4) d_int) (da_cons (d_sub_ix (d_var 4) d_int) (da_cons (d_call c__law_ones hr (da_cons (d_sub_ix (d_var 4) d_int) (da_cons (d_sub_ix (d_var 4) d_int) (da_cons (d_sub_ix (d_var 4) d_int) da_nil)))) (da_cons (d_var 14) da_nil)))))))).dt
    (dss_one (ds_ret d_bl))
    dss_nil))))
  (dss_one (ds_ret (d_and (d_cmp (or_eq hr) os_eq (d_var 6) (d_repr hr hgu M.repr_ (d_tup (da_cons (d_var 1) (da_cons (d_var 2) (da_cons (d_var 3) da_nil)))))) (d_one (d_cmp (or_eq hr) os_eq (d_len M.len_ (b_lc (own := [("kind", 19)]) rfl nd (di_list (d_var 12)) (blkOk_by (by kernel_rfl)) (fun _ _ _ _ _ => (dg_name nd)) (fun _ _ _ _ _ => (dts_one (d_tcmp (or_ne hr) os_ne (d_var 19) (d_sub_ix (d_var 9) d_int)))) (fun _ _ _ _ _ => (d_var 19)))) d_int))))))))))))))))))), pure_law⟩

end
theorem all_mk {l : PySem.W.OpenLaw} {w : World} {K : PySem.W.Frag} {h : Heap} {mg : Str → Option Value} {fa : Addr} (X : K.In h) (G : h.Ns mainGlobals mg) (hfa : mg "law" = some (.ref fa))
    {f0 : Addr} {od0 an0 : Option Addr} {sl0 : Array (Option Value)} {oc0 kV0 dc0 pm0 cd0 ct0 : Value}
    {f1 : Addr} {od1 an1 : Option Addr} {sl1 : Array (Option Value)} {oc1 kV1 dc1 pm1 cd1 ct1 : Value}
    {f2 : Addr} {od2 an2 : Option Addr} {sl2 : Array (Option Value)} {oc2 kV2 dc2 pm2 cd2 ct2 : Value}
    {f3 : Addr} {od3 an3 : Option Addr} {sl3 : Array (Option Value)} {oc3 kV3 dc3 pm3 cd3 ct3 : Value}
    {f4 : Addr} {od4 an4 : Option Addr} {sl4 : Array (Option Value)} {oc4 kV4 dc4 pm4 cd4 ct4 : Value}
    {f5 : Addr} {od5 an5 : Option Addr} {sl5 : Array (Option Value)} {oc5 kV5 dc5 pm5 cd5 ct5 : Value}
    {f6 : Addr} {od6 an6 : Option Addr} {sl6 : Array (Option Value)} {oc6 kV6 dc6 pm6 cd6 ct6 : Value}
    {f7 : Addr} {od7 an7 : Option Addr} {sl7 : Array (Option Value)} {oc7 kV7 dc7 pm7 cd7 ct7 : Value}
    {f8 : Addr} {od8 an8 : Option Addr} {sl8 : Array (Option Value)} {oc8 kV8 dc8 pm8 cd8 ct8 : Value}
    {f9 : Addr} {od9 an9 : Option Addr} {sl9 : Array (Option Value)} {oc9 kV9 dc9 pm9 cd9 ct9 : Value}
    {f10 : Addr} {od10 an10 : Option Addr} {sl10 : Array (Option Value)} {oc10 kV10 dc10 pm10 cd10 ct10 : Value}
    {f11 : Addr} {od11 an11 : Option Addr} {sl11 : Array (Option Value)} {oc11 kV11 dc11 pm11 cd11 ct11 : Value}
    {f12 : Addr} {od12 an12 : Option Addr} {sl12 : Array (Option Value)} {oc12 kV12 dc12 pm12 cd12 ct12 : Value}
    {f13 : Addr} {od13 an13 : Option Addr} {sl13 : Array (Option Value)} {oc13 kV13 dc13 pm13 cd13 ct13 : Value}
    {f14 : Addr} {od14 an14 : Option Addr} {sl14 : Array (Option Value)} {oc14 kV14 dc14 pm14 cd14 ct14 : Value}
    {f15 : Addr} {od15 an15 : Option Addr} {sl15 : Array (Option Value)} {oc15 kV15 dc15 pm15 cd15 ct15 : Value}
    {f16 : Addr} {od16 an16 : Option Addr} {sl16 : Array (Option Value)} {oc16 kV16 dc16 pm16 cd16 ct16 : Value}
    {f17 : Addr} {od17 an17 : Option Addr} {sl17 : Array (Option Value)} {oc17 kV17 dc17 pm17 cd17 ct17 : Value}
    {f18 : Addr} {od18 an18 : Option Addr} {sl18 : Array (Option Value)} {oc18 kV18 dc18 pm18 cd18 ct18 : Value}
    {f19 : Addr} {od19 an19 : Option Addr} {sl19 : Array (Option Value)} {oc19 kV19 dc19 pm19 cd19 ct19 : Value}
    {f20 : Addr} {od20 an20 : Option Addr} {sl20 : Array (Option Value)} {oc20 kV20 dc20 pm20 cd20 ct20 : Value}
    {f21 : Addr} {od21 an21 : Option Addr} {sl21 : Array (Option Value)} {oc21 kV21 dc21 pm21 cd21 ct21 : Value}
    {f22 : Addr} {od22 an22 : Option Addr} {sl22 : Array (Option Value)} {oc22 kV22 dc22 pm22 cd22 ct22 : Value}
    {f23 : Addr} {od23 an23 : Option Addr} {sl23 : Array (Option Value)} {oc23 kV23 dc23 pm23 cd23 ct23 : Value}
    {f24 : Addr} {od24 an24 : Option Addr} {sl24 : Array (Option Value)} {oc24 kV24 dc24 pm24 cd24 ct24 : Value}
    {f25 : Addr} {od25 an25 : Option Addr} {sl25 : Array (Option Value)} {oc25 kV25 dc25 pm25 cd25 ct25 : Value}
    {f26 : Addr} {od26 an26 : Option Addr} {sl26 : Array (Option Value)} {oc26 kV26 dc26 pm26 cd26 ct26 : Value}
    {f27 : Addr} {od27 an27 : Option Addr} {sl27 : Array (Option Value)} {oc27 kV27 dc27 pm27 cd27 ct27 : Value}
    {f28 : Addr} {od28 an28 : Option Addr} {sl28 : Array (Option Value)} {oc28 kV28 dc28 pm28 cd28 ct28 : Value}
    {f29 : Addr} {od29 an29 : Option Addr} {sl29 : Array (Option Value)} {oc29 kV29 dc29 pm29 cd29 ct29 : Value}
    {f30 : Addr} {od30 an30 : Option Addr} {sl30 : Array (Option Value)} {oc30 kV30 dc30 pm30 cd30 ct30 : Value}
    {f31 : Addr} {od31 an31 : Option Addr} {sl31 : Array (Option Value)} {oc31 kV31 dc31 pm31 cd31 ct31 : Value}
    {f32 : Addr} {od32 an32 : Option Addr} {sl32 : Array (Option Value)} {oc32 kV32 dc32 pm32 cd32 ct32 : Value}
    {f33 : Addr} {od33 an33 : Option Addr} {sl33 : Array (Option Value)} {oc33 kV33 dc33 pm33 cd33 ct33 : Value}
    (a0 : PySem.W.nsIn K mainGlobals "agreed" = some (some (.ref f0))) (l0 : K.lookup f0 = some ⟨oc0, od0, .func (PySem.W.fnOf "agreed" "agreed" (defArgs s_agreed) (defBody s_agreed) (defScope s_agreed) .none kV0 dc0 pm0 an0 cd0 ct0), sl0⟩) (c0 : PySem.W.codeIn K cd0 "agreed" = true) (k0 : PySem.W.keepIn K (.ref f0) = true)
    (a1 : PySem.W.nsIn K mainGlobals "differing" = some (some (.ref f1))) (l1 : K.lookup f1 = some ⟨oc1, od1, .func (PySem.W.fnOf "differing" "differing" (defArgs s_differing) (defBody s_differing) (defScope s_differing) .none kV1 dc1 pm1 an1 cd1 ct1), sl1⟩) (c1 : PySem.W.codeIn K cd1 "differing" = true) (k1 : PySem.W.keepIn K (.ref f1) = true)
    (a2 : PySem.W.nsIn K mainGlobals "are_apart" = some (some (.ref f2))) (l2 : K.lookup f2 = some ⟨oc2, od2, .func (PySem.W.fnOf "are_apart" "are_apart" (defArgs s_are_apart) (defBody s_are_apart) (defScope s_are_apart) .none kV2 dc2 pm2 an2 cd2 ct2), sl2⟩) (c2 : PySem.W.codeIn K cd2 "are_apart" = true) (k2 : PySem.W.keepIn K (.ref f2) = true)
    (a3 : PySem.W.nsIn K mainGlobals "relation" = some (some (.ref f3))) (l3 : K.lookup f3 = some ⟨oc3, od3, .func (PySem.W.fnOf "relation" "relation" (defArgs s_relation) (defBody s_relation) (defScope s_relation) .none kV3 dc3 pm3 an3 cd3 ct3), sl3⟩) (c3 : PySem.W.codeIn K cd3 "relation" = true) (k3 : PySem.W.keepIn K (.ref f3) = true)
    (a4 : PySem.W.nsIn K mainGlobals "ones_of" = some (some (.ref f4))) (l4 : K.lookup f4 = some ⟨oc4, od4, .func (PySem.W.fnOf "ones_of" "ones_of" (defArgs s_ones_of) (defBody s_ones_of) (defScope s_ones_of) .none kV4 dc4 pm4 an4 cd4 ct4), sl4⟩) (c4 : PySem.W.codeIn K cd4 "ones_of" = true) (k4 : PySem.W.keepIn K (.ref f4) = true)
    (a5 : PySem.W.nsIn K mainGlobals "group_of" = some (some (.ref f5))) (l5 : K.lookup f5 = some ⟨oc5, od5, .func (PySem.W.fnOf "group_of" "group_of" (defArgs s_group_of) (defBody s_group_of) (defScope s_group_of) .none kV5 dc5 pm5 an5 cd5 ct5), sl5⟩) (c5 : PySem.W.codeIn K cd5 "group_of" = true) (k5 : PySem.W.keepIn K (.ref f5) = true)
    (a6 : PySem.W.nsIn K mainGlobals "groups_of" = some (some (.ref f6))) (l6 : K.lookup f6 = some ⟨oc6, od6, .func (PySem.W.fnOf "groups_of" "groups_of" (defArgs s_groups_of) (defBody s_groups_of) (defScope s_groups_of) .none kV6 dc6 pm6 an6 cd6 ct6), sl6⟩) (c6 : PySem.W.codeIn K cd6 "groups_of" = true) (k6 : PySem.W.keepIn K (.ref f6) = true)
    (a7 : PySem.W.nsIn K mainGlobals "ways_to" = some (some (.ref f7))) (l7 : K.lookup f7 = some ⟨oc7, od7, .func (PySem.W.fnOf "ways_to" "ways_to" (defArgs s_ways_to) (defBody s_ways_to) (defScope s_ways_to) .none kV7 dc7 pm7 an7 cd7 ct7), sl7⟩) (c7 : PySem.W.codeIn K cd7 "ways_to" = true) (k7 : PySem.W.keepIn K (.ref f7) = true)
    (a8 : PySem.W.nsIn K mainGlobals "chain_between" = some (some (.ref f8))) (l8 : K.lookup f8 = some ⟨oc8, od8, .func (PySem.W.fnOf "chain_between" "chain_between" (defArgs s_chain_between) (defBody s_chain_between) (defScope s_chain_between) .none kV8 dc8 pm8 an8 cd8 ct8), sl8⟩) (c8 : PySem.W.codeIn K cd8 "chain_between" = true) (k8 : PySem.W.keepIn K (.ref f8) = true)
    (a9 : PySem.W.nsIn K mainGlobals "conflict_in" = some (some (.ref f9))) (l9 : K.lookup f9 = some ⟨oc9, od9, .func (PySem.W.fnOf "conflict_in" "conflict_in" (defArgs s_conflict_in) (defBody s_conflict_in) (defScope s_conflict_in) .none kV9 dc9 pm9 an9 cd9 ct9), sl9⟩) (c9 : PySem.W.codeIn K cd9 "conflict_in" = true) (k9 : PySem.W.keepIn K (.ref f9) = true)
    (a10 : PySem.W.nsIn K mainGlobals "find_groups" = some (some (.ref f10))) (l10 : K.lookup f10 = some ⟨oc10, od10, .func (PySem.W.fnOf "find_groups" "find_groups" (defArgs s_find_groups) (defBody s_find_groups) (defScope s_find_groups) .none kV10 dc10 pm10 an10 cd10 ct10), sl10⟩) (c10 : PySem.W.codeIn K cd10 "find_groups" = true) (k10 : PySem.W.keepIn K (.ref f10) = true)
    (a11 : PySem.W.nsIn K mainGlobals "is_chain" = some (some (.ref f11))) (l11 : K.lookup f11 = some ⟨oc11, od11, .func (PySem.W.fnOf "is_chain" "is_chain" (defArgs s_is_chain) (defBody s_is_chain) (defScope s_is_chain) .none kV11 dc11 pm11 an11 cd11 ct11), sl11⟩) (c11 : PySem.W.codeIn K cd11 "is_chain" = true) (k11 : PySem.W.keepIn K (.ref f11) = true)
    (a12 : PySem.W.nsIn K mainGlobals "is_tied" = some (some (.ref f12))) (l12 : K.lookup f12 = some ⟨oc12, od12, .func (PySem.W.fnOf "is_tied" "is_tied" (defArgs s_is_tied) (defBody s_is_tied) (defScope s_is_tied) .none kV12 dc12 pm12 an12 cd12 ct12), sl12⟩) (c12 : PySem.W.codeIn K cd12 "is_tied" = true) (k12 : PySem.W.keepIn K (.ref f12) = true)
    (a13 : PySem.W.nsIn K mainGlobals "judge_parts" = some (some (.ref f13))) (l13 : K.lookup f13 = some ⟨oc13, od13, .func (PySem.W.fnOf "judge_parts" "judge_parts" (defArgs s_judge_parts) (defBody s_judge_parts) (defScope s_judge_parts) .none kV13 dc13 pm13 an13 cd13 ct13), sl13⟩) (c13 : PySem.W.codeIn K cd13 "judge_parts" = true) (k13 : PySem.W.keepIn K (.ref f13) = true)
    (a14 : PySem.W.nsIn K mainGlobals "judge_conflict" = some (some (.ref f14))) (l14 : K.lookup f14 = some ⟨oc14, od14, .func (PySem.W.fnOf "judge_conflict" "judge_conflict" (defArgs s_judge_conflict) (defBody s_judge_conflict) (defScope s_judge_conflict) .none kV14 dc14 pm14 an14 cd14 ct14), sl14⟩) (c14 : PySem.W.codeIn K cd14 "judge_conflict" = true) (k14 : PySem.W.keepIn K (.ref f14) = true)
    (a15 : PySem.W.nsIn K mainGlobals "judge_groups" = some (some (.ref f15))) (l15 : K.lookup f15 = some ⟨oc15, od15, .func (PySem.W.fnOf "judge_groups" "judge_groups" (defArgs s_judge_groups) (defBody s_judge_groups) (defScope s_judge_groups) .none kV15 dc15 pm15 an15 cd15 ct15), sl15⟩) (c15 : PySem.W.codeIn K cd15 "judge_groups" = true) (k15 : PySem.W.keepIn K (.ref f15) = true)
    (a16 : PySem.W.nsIn K mainGlobals "_law_cell" = some (some (.ref f16))) (l16 : K.lookup f16 = some ⟨oc16, od16, .func (PySem.W.fnOf "_law_cell" "_law_cell" (defArgs s__law_cell) (defBody s__law_cell) (defScope s__law_cell) .none kV16 dc16 pm16 an16 cd16 ct16), sl16⟩) (c16 : PySem.W.codeIn K cd16 "_law_cell" = true) (k16 : PySem.W.keepIn K (.ref f16) = true)
    (a17 : PySem.W.nsIn K mainGlobals "_law_numbers" = some (some (.ref f17))) (l17 : K.lookup f17 = some ⟨oc17, od17, .func (PySem.W.fnOf "_law_numbers" "_law_numbers" (defArgs s__law_numbers) (defBody s__law_numbers) (defScope s__law_numbers) .none kV17 dc17 pm17 an17 cd17 ct17), sl17⟩) (c17 : PySem.W.codeIn K cd17 "_law_numbers" = true) (k17 : PySem.W.keepIn K (.ref f17) = true)
    (a18 : PySem.W.nsIn K mainGlobals "_law_same" = some (some (.ref f18))) (l18 : K.lookup f18 = some ⟨oc18, od18, .func (PySem.W.fnOf "_law_same" "_law_same" (defArgs s__law_same) (defBody s__law_same) (defScope s__law_same) .none kV18 dc18 pm18 an18 cd18 ct18), sl18⟩) (c18 : PySem.W.codeIn K cd18 "_law_same" = true) (k18 : PySem.W.keepIn K (.ref f18) = true)
    (a19 : PySem.W.nsIn K mainGlobals "_law_letters" = some (some (.ref f19))) (l19 : K.lookup f19 = some ⟨oc19, od19, .func (PySem.W.fnOf "_law_letters" "_law_letters" (defArgs s__law_letters) (defBody s__law_letters) (defScope s__law_letters) .none kV19 dc19 pm19 an19 cd19 ct19), sl19⟩) (c19 : PySem.W.codeIn K cd19 "_law_letters" = true) (k19 : PySem.W.keepIn K (.ref f19) = true)
    (a20 : PySem.W.nsIn K mainGlobals "_law_deck" = some (some (.ref f20))) (l20 : K.lookup f20 = some ⟨oc20, od20, .func (PySem.W.fnOf "_law_deck" "_law_deck" (defArgs s__law_deck) (defBody s__law_deck) (defScope s__law_deck) .none kV20 dc20 pm20 an20 cd20 ct20), sl20⟩) (c20 : PySem.W.codeIn K cd20 "_law_deck" = true) (k20 : PySem.W.keepIn K (.ref f20) = true)
    (a21 : PySem.W.nsIn K mainGlobals "_law_value" = some (some (.ref f21))) (l21 : K.lookup f21 = some ⟨oc21, od21, .func (PySem.W.fnOf "_law_value" "_law_value" (defArgs s__law_value) (defBody s__law_value) (defScope s__law_value) .none kV21 dc21 pm21 an21 cd21 ct21), sl21⟩) (c21 : PySem.W.codeIn K cd21 "_law_value" = true) (k21 : PySem.W.keepIn K (.ref f21) = true)
    (a22 : PySem.W.nsIn K mainGlobals "_law_agreed" = some (some (.ref f22))) (l22 : K.lookup f22 = some ⟨oc22, od22, .func (PySem.W.fnOf "_law_agreed" "_law_agreed" (defArgs s__law_agreed) (defBody s__law_agreed) (defScope s__law_agreed) .none kV22 dc22 pm22 an22 cd22 ct22), sl22⟩) (c22 : PySem.W.codeIn K cd22 "_law_agreed" = true) (k22 : PySem.W.keepIn K (.ref f22) = true)
    (a23 : PySem.W.nsIn K mainGlobals "_law_differing" = some (some (.ref f23))) (l23 : K.lookup f23 = some ⟨oc23, od23, .func (PySem.W.fnOf "_law_differing" "_law_differing" (defArgs s__law_differing) (defBody s__law_differing) (defScope s__law_differing) .none kV23 dc23 pm23 an23 cd23 ct23), sl23⟩) (c23 : PySem.W.codeIn K cd23 "_law_differing" = true) (k23 : PySem.W.keepIn K (.ref f23) = true)
    (a24 : PySem.W.nsIn K mainGlobals "_law_relation" = some (some (.ref f24))) (l24 : K.lookup f24 = some ⟨oc24, od24, .func (PySem.W.fnOf "_law_relation" "_law_relation" (defArgs s__law_relation) (defBody s__law_relation) (defScope s__law_relation) .none kV24 dc24 pm24 an24 cd24 ct24), sl24⟩) (c24 : PySem.W.codeIn K cd24 "_law_relation" = true) (k24 : PySem.W.keepIn K (.ref f24) = true)
    (a25 : PySem.W.nsIn K mainGlobals "_law_ones" = some (some (.ref f25))) (l25 : K.lookup f25 = some ⟨oc25, od25, .func (PySem.W.fnOf "_law_ones" "_law_ones" (defArgs s__law_ones) (defBody s__law_ones) (defScope s__law_ones) .none kV25 dc25 pm25 an25 cd25 ct25), sl25⟩) (c25 : PySem.W.codeIn K cd25 "_law_ones" = true) (k25 : PySem.W.keepIn K (.ref f25) = true)
    (a26 : PySem.W.nsIn K mainGlobals "_law_is_chain" = some (some (.ref f26))) (l26 : K.lookup f26 = some ⟨oc26, od26, .func (PySem.W.fnOf "_law_is_chain" "_law_is_chain" (defArgs s__law_is_chain) (defBody s__law_is_chain) (defScope s__law_is_chain) .none kV26 dc26 pm26 an26 cd26 ct26), sl26⟩) (c26 : PySem.W.codeIn K cd26 "_law_is_chain" = true) (k26 : PySem.W.keepIn K (.ref f26) = true)
    (a27 : PySem.W.nsIn K mainGlobals "_law_groups" = some (some (.ref f27))) (l27 : K.lookup f27 = some ⟨oc27, od27, .func (PySem.W.fnOf "_law_groups" "_law_groups" (defArgs s__law_groups) (defBody s__law_groups) (defScope s__law_groups) .none kV27 dc27 pm27 an27 cd27 ct27), sl27⟩) (c27 : PySem.W.codeIn K cd27 "_law_groups" = true) (k27 : PySem.W.keepIn K (.ref f27) = true)
    (a28 : PySem.W.nsIn K mainGlobals "_law_is_apart" = some (some (.ref f28))) (l28 : K.lookup f28 = some ⟨oc28, od28, .func (PySem.W.fnOf "_law_is_apart" "_law_is_apart" (defArgs s__law_is_apart) (defBody s__law_is_apart) (defScope s__law_is_apart) .none kV28 dc28 pm28 an28 cd28 ct28), sl28⟩) (c28 : PySem.W.codeIn K cd28 "_law_is_apart" = true) (k28 : PySem.W.keepIn K (.ref f28) = true)
    (a29 : PySem.W.nsIn K mainGlobals "_law_group_paper" = some (some (.ref f29))) (l29 : K.lookup f29 = some ⟨oc29, od29, .func (PySem.W.fnOf "_law_group_paper" "_law_group_paper" (defArgs s__law_group_paper) (defBody s__law_group_paper) (defScope s__law_group_paper) .none kV29 dc29 pm29 an29 cd29 ct29), sl29⟩) (c29 : PySem.W.codeIn K cd29 "_law_group_paper" = true) (k29 : PySem.W.keepIn K (.ref f29) = true)
    (a30 : PySem.W.nsIn K mainGlobals "_law_accepts" = some (some (.ref f30))) (l30 : K.lookup f30 = some ⟨oc30, od30, .func (PySem.W.fnOf "_law_accepts" "_law_accepts" (defArgs s__law_accepts) (defBody s__law_accepts) (defScope s__law_accepts) .none kV30 dc30 pm30 an30 cd30 ct30), sl30⟩) (c30 : PySem.W.codeIn K cd30 "_law_accepts" = true) (k30 : PySem.W.keepIn K (.ref f30) = true)
    (a31 : PySem.W.nsIn K mainGlobals "_law_bent_groups" = some (some (.ref f31))) (l31 : K.lookup f31 = some ⟨oc31, od31, .func (PySem.W.fnOf "_law_bent_groups" "_law_bent_groups" (defArgs s__law_bent_groups) (defBody s__law_bent_groups) (defScope s__law_bent_groups) .none kV31 dc31 pm31 an31 cd31 ct31), sl31⟩) (c31 : PySem.W.codeIn K cd31 "_law_bent_groups" = true) (k31 : PySem.W.keepIn K (.ref f31) = true)
    (a32 : PySem.W.nsIn K mainGlobals "_law_papers" = some (some (.ref f32))) (l32 : K.lookup f32 = some ⟨oc32, od32, .func (PySem.W.fnOf "_law_papers" "_law_papers" (defArgs s__law_papers) (defBody s__law_papers) (defScope s__law_papers) .none kV32 dc32 pm32 an32 cd32 ct32), sl32⟩) (c32 : PySem.W.codeIn K cd32 "_law_papers" = true) (k32 : PySem.W.keepIn K (.ref f32) = true)
    (a33 : PySem.W.nsIn K mainGlobals "law" = some (some (.ref f33))) (l33 : K.lookup f33 = some ⟨oc33, od33, .func (PySem.W.fnOf "law" "law" (defArgs s_law) (defBody s_law) (defScope s_law) .none kV33 dc33 pm33 an33 cd33 ct33), sl33⟩) (c33 : PySem.W.codeIn K cd33 "law" = true) (k33 : PySem.W.keepIn K (.ref f33) = true)
    (z_all : PySem.W.nsIn K mainGlobals "all" = some none)
    (z_any : PySem.W.nsIn K mainGlobals "any" = some none)
    (z_bool : PySem.W.nsIn K mainGlobals "bool" = some none)
    (z_dict : PySem.W.nsIn K mainGlobals "dict" = some none)
    (z_enumerate : PySem.W.nsIn K mainGlobals "enumerate" = some none)
    (z_int : PySem.W.nsIn K mainGlobals "int" = some none)
    (z_isinstance : PySem.W.nsIn K mainGlobals "isinstance" = some none)
    (z_len : PySem.W.nsIn K mainGlobals "len" = some none)
    (z_list : PySem.W.nsIn K mainGlobals "list" = some none)
    (z_max : PySem.W.nsIn K mainGlobals "max" = some none)
    (z_min : PySem.W.nsIn K mainGlobals "min" = some none)
    (z_range : PySem.W.nsIn K mainGlobals "range" = some none)
    (z_repr : PySem.W.nsIn K mainGlobals "repr" = some none)
    (z_sorted : PySem.W.nsIn K mainGlobals "sorted" = some none)
    (z_str : PySem.W.nsIn K mainGlobals "str" = some none)
    (z_tuple : PySem.W.nsIn K mainGlobals "tuple" = some none)
    : ∃ fd : FuncData, (∀ (s : Shared) (v : Value), BindsTo s fd ⟨[v], []⟩ [("script", v)]) ∧ ∀ base : Heap, K.In base → base.Ns mainGlobals mg → FnG l.prog w K mg base CX0 7 fa fd ["script"] (spD 1 P_law) := by
  have e := hfa.symm.trans (PySem.W.mg_of X G a33)
  cases e
  have M : Mg mg := ⟨PySem.W.mg_none_of X G z_all, PySem.W.mg_none_of X G z_any, PySem.W.mg_none_of X G z_bool, PySem.W.mg_none_of X G z_dict, PySem.W.mg_none_of X G z_enumerate, PySem.W.mg_none_of X G z_int, PySem.W.mg_none_of X G z_isinstance, PySem.W.mg_none_of X G z_len, PySem.W.mg_none_of X G z_list, PySem.W.mg_none_of X G z_max, PySem.W.mg_none_of X G z_min, PySem.W.mg_none_of X G z_range, PySem.W.mg_none_of X G z_repr, PySem.W.mg_none_of X G z_sorted, PySem.W.mg_none_of X G z_str, PySem.W.mg_none_of X G z_tuple⟩
  have F0 := fun_mk (st := s_agreed) l0 c0 k0
  have b0 := F0.binds (ps := ["one", "other"]) fun _ _ _ _ _ _ us hl => match us, hl with | [_, _], _ => rfl
  have F1 := fun_mk (st := s_differing) l1 c1 k1
  have b1 := F1.binds (ps := ["one", "other"]) fun _ _ _ _ _ _ us hl => match us, hl with | [_, _], _ => rfl
  have F2 := fun_mk (st := s_are_apart) l2 c2 k2
  have b2 := F2.binds (ps := ["one", "other", "hard"]) fun _ _ _ _ _ _ us hl => match us, hl with | [_, _, _], _ => rfl
  have F3 := fun_mk (st := s_relation) l3 c3 k3
  have b3 := F3.binds (ps := ["one", "other", "hard", "keys"]) fun _ _ _ _ _ _ us hl => match us, hl with | [_, _, _, _], _ => rfl
  have F4 := fun_mk (st := s_ones_of) l4 c4 k4
  have b4 := F4.binds (ps := ["cards", "hard", "keys"]) fun _ _ _ _ _ _ us hl => match us, hl with | [_, _, _], _ => rfl
  have F5 := fun_mk (st := s_group_of) l5 c5 k5
  have b5 := F5.binds (ps := ["ones", "card"]) fun _ _ _ _ _ _ us hl => match us, hl with | [_, _], _ => rfl
  have F6 := fun_mk (st := s_groups_of) l6 c6 k6
  have b6 := F6.binds (ps := ["ones"]) fun _ _ _ _ _ _ us hl => match us, hl with | [_], _ => rfl
  have F7 := fun_mk (st := s_ways_to) l7 c7 k7
  have b7 := F7.binds (ps := ["ones", "goal"]) fun _ _ _ _ _ _ us hl => match us, hl with | [_, _], _ => rfl
  have F8 := fun_mk (st := s_chain_between) l8 c8 k8
  have b8 := F8.binds (ps := ["ones", "start", "goal"]) fun _ _ _ _ _ _ us hl => match us, hl with | [_, _, _], _ => rfl
  have F9 := fun_mk (st := s_conflict_in) l9 c9 k9
  have b9 := F9.binds (ps := ["cards", "hard", "groups"]) fun _ _ _ _ _ _ us hl => match us, hl with | [_, _, _], _ => rfl
  have F10 := fun_mk (st := s_find_groups) l10 c10 k10
  have b10 := F10.binds (ps := ["cards", "hard", "keys"]) fun _ _ _ _ _ _ us hl => match us, hl with | [_, _, _], _ => rfl
  have F11 := fun_mk (st := s_is_chain) l11 c11 k11
  have b11 := F11.binds (ps := ["ones", "chain"]) fun _ _ _ _ _ _ us hl => match us, hl with | [_, _], _ => rfl
  have F12 := fun_mk (st := s_is_tied) l12 c12 k12
  have b12 := F12.binds (ps := ["ones", "group"]) fun _ _ _ _ _ _ us hl => match us, hl with | [_, _], _ => rfl
  have F13 := fun_mk (st := s_judge_parts) l13 c13 k13
  have b13 := F13.binds (ps := ["cards", "hard", "keys", "groups"]) fun _ _ _ _ _ _ us hl => match us, hl with | [_, _, _, _], _ => rfl
  have F14 := fun_mk (st := s_judge_conflict) l14 c14 k14
  have b14 := F14.binds (ps := ["cards", "hard", "keys", "chain", "kind"]) fun _ _ _ _ _ _ us hl => match us, hl with | [_, _, _, _, _], _ => rfl
  have F15 := fun_mk (st := s_judge_groups) l15 c15 k15
  have b15 := F15.binds (ps := ["cards", "hard", "keys", "verdict"]) fun _ _ _ _ _ _ us hl => match us, hl with | [_, _, _, _], _ => rfl
  have F16 := fun_mk (st := s__law_cell) l16 c16 k16
  have b16 := F16.binds (ps := ["script", "k"]) fun _ _ _ _ _ _ us hl => match us, hl with | [_, _], _ => rfl
  have F17 := fun_mk (st := s__law_numbers) l17 c17 k17
  have b17 := F17.binds (ps := ["cell", "count", "limit"]) fun _ _ _ _ _ _ us hl => match us, hl with | [_, _, _], _ => rfl
  have F18 := fun_mk (st := s__law_same) l18 c18 k18
  have b18 := F18.binds (ps := ["told", "due"]) fun _ _ _ _ _ _ us hl => match us, hl with | [_, _], _ => rfl
  have F19 := fun_mk (st := s__law_letters) l19 c19 k19
  have b19 := F19.binds (ps := ["draw", "count"]) fun _ _ _ _ _ _ us hl => match us, hl with | [_, _], _ => rfl
  have F20 := fun_mk (st := s__law_deck) l20 c20 k20
  have b20 := F20.binds (ps := ["script", "at", "most"]) fun _ _ _ _ _ _ us hl => match us, hl with | [_, _, _], _ => rfl
  have F21 := fun_mk (st := s__law_value) l21 c21 k21
  have b21 := F21.binds (ps := ["card", "kind"]) fun _ _ _ _ _ _ us hl => match us, hl with | [_, _], _ => rfl
  have F22 := fun_mk (st := s__law_agreed) l22 c22 k22
  have b22 := F22.binds (ps := ["one", "other"]) fun _ _ _ _ _ _ us hl => match us, hl with | [_, _], _ => rfl
  have F23 := fun_mk (st := s__law_differing) l23 c23 k23
  have b23 := F23.binds (ps := ["one", "other"]) fun _ _ _ _ _ _ us hl => match us, hl with | [_, _], _ => rfl
  have F24 := fun_mk (st := s__law_relation) l24 c24 k24
  have b24 := F24.binds (ps := ["one", "other", "hard", "keys"]) fun _ _ _ _ _ _ us hl => match us, hl with | [_, _, _, _], _ => rfl
  have F25 := fun_mk (st := s__law_ones) l25 c25 k25
  have b25 := F25.binds (ps := ["cards", "hard", "keys"]) fun _ _ _ _ _ _ us hl => match us, hl with | [_, _, _], _ => rfl
  have F26 := fun_mk (st := s__law_is_chain) l26 c26 k26
  have b26 := F26.binds (ps := ["ones", "chain"]) fun _ _ _ _ _ _ us hl => match us, hl with | [_, _], _ => rfl
  have F27 := fun_mk (st := s__law_groups) l27 c27 k27
  have b27 := F27.binds (ps := ["ones"]) fun _ _ _ _ _ _ us hl => match us, hl with | [_], _ => rfl
  have F28 := fun_mk (st := s__law_is_apart) l28 c28 k28
  have b28 := F28.binds (ps := ["cards", "hard", "one", "other"]) fun _ _ _ _ _ _ us hl => match us, hl with | [_, _, _, _], _ => rfl
  have F29 := fun_mk (st := s__law_group_paper) l29 c29 k29
  have b29 := F29.binds (ps := ["cards", "hard", "keys"]) fun _ _ _ _ _ _ us hl => match us, hl with | [_, _, _], _ => rfl
  have F30 := fun_mk (st := s__law_accepts) l30 c30 k30
  have b30 := F30.binds (ps := ["cards", "hard", "ones", "verdict"]) fun _ _ _ _ _ _ us hl => match us, hl with | [_, _, _, _], _ => rfl
  have F31 := fun_mk (st := s__law_bent_groups) l31 c31 k31
  have b31 := F31.binds (ps := ["groups", "draws"]) fun _ _ _ _ _ _ us hl => match us, hl with | [_, _], _ => rfl
  have F32 := fun_mk (st := s__law_papers) l32 c32 k32
  have b32 := F32.binds (ps := ["cards", "hard", "ones", "verdict", "draws"]) fun _ _ _ _ _ _ us hl => match us, hl with | [_, _, _, _, _], _ => rfl
  have F33 := fun_mk (st := s_law) l33 c33 k33
  refine ⟨PySem.W.fnOf "law" "law" (defArgs s_law) (defBody s_law) (defScope s_law) .none kV33 dc33 pm33 an33 cd33 ct33, fun s v => .of_eq rfl, fun base _ _ => ?_⟩
  have D_agreed : Cal l.prog w K mg base 1 "agreed" (spD 2 P_agreed) := cal_agreed M F0 (PySem.W.mg_of X G a0) b0
  have D_differing : Cal l.prog w K mg base 1 "differing" (spD 2 P_differing) := cal_differing M F1 (PySem.W.mg_of X G a1) b1
  have D_are_apart : Cal l.prog w K mg base 2 "are_apart" (spD 3 P_are_apart) := cal_are_apart M D_differing F2 (PySem.W.mg_of X G a2) b2
  have D_relation : Cal l.prog w K mg base 3 "relation" (spD 4 P_relation) := cal_relation M D_agreed D_are_apart F3 (PySem.W.mg_of X G a3) b3
  have D_ones_of : Cal l.prog w K mg base 4 "ones_of" (spD 3 P_ones_of) := cal_ones_of M D_relation F4 (PySem.W.mg_of X G a4) b4
  have D_group_of : Cal l.prog w K mg base 1 "group_of" (spD 2 P_group_of) := cal_group_of M F5 (PySem.W.mg_of X G a5) b5
  have D_groups_of : Cal l.prog w K mg base 2 "groups_of" (spD 1 P_groups_of) := cal_groups_of M D_group_of F6 (PySem.W.mg_of X G a6) b6
  have D_ways_to : Cal l.prog w K mg base 1 "ways_to" (spD 2 P_ways_to) := cal_ways_to M F7 (PySem.W.mg_of X G a7) b7
  have D_chain_between : Cal l.prog w K mg base 2 "chain_between" (spD 3 P_chain_between) := cal_chain_between M D_ways_to F8 (PySem.W.mg_of X G a8) b8
  have D_conflict_in : Cal l.prog w K mg base 3 "conflict_in" (spD 3 P_conflict_in) := cal_conflict_in M D_are_apart F9 (PySem.W.mg_of X G a9) b9
  have D_find_groups : Cal l.prog w K mg base 5 "find_groups" (spD 3 P_find_groups) := cal_find_groups M D_chain_between D_conflict_in D_differing D_groups_of D_ones_of F10 (PySem.W.mg_of X G a10) b10
  have D_is_chain : Cal l.prog w K mg base 1 "is_chain" (spD 2 P_is_chain) := cal_is_chain M F11 (PySem.W.mg_of X G a11) b11
  have D_is_tied : Cal l.prog w K mg base 1 "is_tied" (spD 2 P_is_tied) := cal_is_tied M F12 (PySem.W.mg_of X G a12) b12
  have D_judge_parts : Cal l.prog w K mg base 5 "judge_parts" (spD 4 P_judge_parts) := cal_judge_parts M D_are_apart D_is_tied D_ones_of F13 (PySem.W.mg_of X G a13) b13
  have D_judge_conflict : Cal l.prog w K mg base 5 "judge_conflict" (spD 5 P_judge_conflict) := cal_judge_conflict M D_differing D_is_chain D_ones_of F14 (PySem.W.mg_of X G a14) b14
  have D_judge_groups : Cal l.prog w K mg base 6 "judge_groups" (spD 4 P_judge_groups) := cal_judge_groups M D_judge_conflict D_judge_parts F15 (PySem.W.mg_of X G a15) b15
  have D__law_cell : Cal l.prog w K mg base 1 "_law_cell" (spD 2 P__law_cell) := cal__law_cell M F16 (PySem.W.mg_of X G a16) b16
  have D__law_numbers : Cal l.prog w K mg base 1 "_law_numbers" (spD 3 P__law_numbers) := cal__law_numbers M F17 (PySem.W.mg_of X G a17) b17
  have D__law_same : Cal l.prog w K mg base 5 "_law_same" (spD 2 P__law_same) := cal__law_same M F18 (PySem.W.mg_of X G a18) b18
  have D__law_letters : Cal l.prog w K mg base 1 "_law_letters" (spD 2 P__law_letters) := cal__law_letters M F19 (PySem.W.mg_of X G a19) b19
  have D__law_deck : Cal l.prog w K mg base 2 "_law_deck" (spD 3 P__law_deck) := cal__law_deck M D__law_cell D__law_letters D__law_numbers F20 (PySem.W.mg_of X G a20) b20
  have D__law_value : Cal l.prog w K mg base 1 "_law_value" (spD 2 P__law_value) := cal__law_value M F21 (PySem.W.mg_of X G a21) b21
  have D__law_agreed : Cal l.prog w K mg base 2 "_law_agreed" (spD 2 P__law_agreed) := cal__law_agreed M D__law_value F22 (PySem.W.mg_of X G a22) b22
  have D__law_differing : Cal l.prog w K mg base 2 "_law_differing" (spD 2 P__law_differing) := cal__law_differing M D__law_value F23 (PySem.W.mg_of X G a23) b23
  have D__law_relation : Cal l.prog w K mg base 3 "_law_relation" (spD 4 P__law_relation) := cal__law_relation M D__law_agreed D__law_differing F24 (PySem.W.mg_of X G a24) b24
  have D__law_ones : Cal l.prog w K mg base 4 "_law_ones" (spD 3 P__law_ones) := cal__law_ones M D__law_relation F25 (PySem.W.mg_of X G a25) b25
  have D__law_is_chain : Cal l.prog w K mg base 1 "_law_is_chain" (spD 2 P__law_is_chain) := cal__law_is_chain M F26 (PySem.W.mg_of X G a26) b26
  have D__law_groups : Cal l.prog w K mg base 1 "_law_groups" (spD 1 P__law_groups) := cal__law_groups M F27 (PySem.W.mg_of X G a27) b27
  have D__law_is_apart : Cal l.prog w K mg base 4 "_law_is_apart" (spD 4 P__law_is_apart) := cal__law_is_apart M D__law_relation F28 (PySem.W.mg_of X G a28) b28
  have D__law_group_paper : Cal l.prog w K mg base 5 "_law_group_paper" (spD 3 P__law_group_paper) := cal__law_group_paper M D__law_differing D__law_groups D__law_is_apart D__law_ones F29 (PySem.W.mg_of X G a29) b29
  have D__law_accepts : Cal l.prog w K mg base 5 "_law_accepts" (spD 4 P__law_accepts) := cal__law_accepts M D__law_differing D__law_is_apart D__law_is_chain F30 (PySem.W.mg_of X G a30) b30
  have D__law_bent_groups : Cal l.prog w K mg base 1 "_law_bent_groups" (spD 2 P__law_bent_groups) := cal__law_bent_groups M F31 (PySem.W.mg_of X G a31) b31
  have D__law_papers : Cal l.prog w K mg base 2 "_law_papers" (spD 5 P__law_papers) := cal__law_papers M D__law_bent_groups D__law_groups F32 (PySem.W.mg_of X G a32) b32
  exact ok_law M D__law_accepts D__law_cell D__law_deck D__law_group_paper D__law_numbers D__law_ones D__law_papers D__law_relation D__law_same D_find_groups D_judge_groups D_relation F33

end PL
open PySem PySem.W PyProof.Rows
set_option maxHeartbeats 0 in
theorem PySem.Challenge.cw_lettersacross_k72_cards_groups_and_confl_holds : PySem.Challenge.rw_lettersacross_k72_cards_groups_and_confl.Holds := by
  w_on; o_law; k_head; (case hw => w_witness2)
  k_fill
  refine PL.walk_ofG (l := PySem.Challenge.rw_lettersacross_k72_cards_groups_and_confl) (n := 63) (k := 7) (x := "script") (sp := fun _ => PL.spD 1 PL.P_law) rfl (by decide) rfl ⟨rfl, by decide, by decide⟩ (fun w h Y => PySem.W.kIn_of Y) ?F ?hsp
  case hsp =>
    intro w H a ns hl hO hS
    refine PL.law_sp ?hk hO hS ⟨ns, rfl, hl, rfl⟩
    (case hk => kernel_rfl)
  case F =>
    intro w mg fa h KX G hmg
    refine' PL.all_mk KX G hmg ?a0 ?l0 ?c0 ?k0 ?a1 ?l1 ?c1 ?k1 ?a2 ?l2 ?c2 ?k2 ?a3 ?l3 ?c3 ?k3 ?a4 ?l4 ?c4 ?k4 ?a5 ?l5 ?c5 ?k5 ?a6 ?l6 ?c6 ?k6 ?a7 ?l7 ?c7 ?k7 ?a8 ?l8 ?c8 ?k8 ?a9 ?l9 ?c9 ?k9 ?a10 ?l10 ?c10 ?k10 ?a11 ?l11 ?c11 ?k11 ?a12 ?l12 ?c12 ?k12 ?a13 ?l13 ?c13 ?k13 ?a14 ?l14 ?c14 ?k14 ?a15 ?l15 ?c15 ?k15 ?a16 ?l16 ?c16 ?k16 ?a17 ?l17 ?c17 ?k17 ?a18 ?l18 ?c18 ?k18 ?a19 ?l19 ?c19 ?k19 ?a20 ?l20 ?c20 ?k20 ?a21 ?l21 ?c21 ?k21 ?a22 ?l22 ?c22 ?k22 ?a23 ?l23 ?c23 ?k23 ?a24 ?l24 ?c24 ?k24 ?a25 ?l25 ?c25 ?k25 ?a26 ?l26 ?c26 ?k26 ?a27 ?l27 ?c27 ?k27 ?a28 ?l28 ?c28 ?k28 ?a29 ?l29 ?c29 ?k29 ?a30 ?l30 ?c30 ?k30 ?a31 ?l31 ?c31 ?k31 ?a32 ?l32 ?c32 ?k32 ?a33 ?l33 ?c33 ?k33 ?z_all ?z_any ?z_bool ?z_dict ?z_enumerate ?z_int ?z_isinstance ?z_len ?z_list ?z_max ?z_min ?z_range ?z_repr ?z_sorted ?z_str ?z_tuple
    (case a0 => k_is)
    (case l0 => k_is)
    (case c0 => k_is)
    (case k0 => k_is)
    (case a1 => k_is)
    (case l1 => k_is)
    (case c1 => k_is)
    (case k1 => k_is)
    (case a2 => k_is)
    (case l2 => k_is)
    (case c2 => k_is)
    (case k2 => k_is)
    (case a3 => k_is)
    (case l3 => k_is)
    (case c3 => k_is)
    (case k3 => k_is)
    (case a4 => k_is)
    (case l4 => k_is)
    (case c4 => k_is)
    (case k4 => k_is)
    (case a5 => k_is)
    (case l5 => k_is)
    (case c5 => k_is)
    (case k5 => k_is)
    (case a6 => k_is)
    (case l6 => k_is)
    (case c6 => k_is)
    (case k6 => k_is)
    (case a7 => k_is)
    (case l7 => k_is)
    (case c7 => k_is)
    (case k7 => k_is)
    (case a8 => k_is)
    (case l8 => k_is)
    (case c8 => k_is)
    (case k8 => k_is)
    (case a9 => k_is)
    (case l9 => k_is)
    (case c9 => k_is)
    (case k9 => k_is)
    (case a10 => k_is)
    (case l10 => k_is)
    (case c10 => k_is)
    (case k10 => k_is)
    (case a11 => k_is)
    (case l11 => k_is)
    (case c11 => k_is)
    (case k11 => k_is)
    (case a12 => k_is)
    (case l12 => k_is)
    (case c12 => k_is)
    (case k12 => k_is)
    (case a13 => k_is)
    (case l13 => k_is)
    (case c13 => k_is)
    (case k13 => k_is)
    (case a14 => k_is)
    (case l14 => k_is)
    (case c14 => k_is)
    (case k14 => k_is)
    (case a15 => k_is)
    (case l15 => k_is)
    (case c15 => k_is)
    (case k15 => k_is)
    (case a16 => k_is)
    (case l16 => k_is)
    (case c16 => k_is)
    (case k16 => k_is)
    (case a17 => k_is)
    (case l17 => k_is)
    (case c17 => k_is)
    (case k17 => k_is)
    (case a18 => k_is)
    (case l18 => k_is)
    (case c18 => k_is)
    (case k18 => k_is)
    (case a19 => k_is)
    (case l19 => k_is)
    (case c19 => k_is)
    (case k19 => k_is)
    (case a20 => k_is)
    (case l20 => k_is)
    (case c20 => k_is)
    (case k20 => k_is)
    (case a21 => k_is)
    (case l21 => k_is)
    (case c21 => k_is)
    (case k21 => k_is)
    (case a22 => k_is)
    (case l22 => k_is)
    (case c22 => k_is)
    (case k22 => k_is)
    (case a23 => k_is)
    (case l23 => k_is)
    (case c23 => k_is)
    (case k23 => k_is)
    (case a24 => k_is)
    (case l24 => k_is)
    (case c24 => k_is)
    (case k24 => k_is)
    (case a25 => k_is)
    (case l25 => k_is)
    (case c25 => k_is)
    (case k25 => k_is)
    (case a26 => k_is)
    (case l26 => k_is)
    (case c26 => k_is)
    (case k26 => k_is)
    (case a27 => k_is)
    (case l27 => k_is)
    (case c27 => k_is)
    (case k27 => k_is)
    (case a28 => k_is)
    (case l28 => k_is)
    (case c28 => k_is)
    (case k28 => k_is)
    (case a29 => k_is)
    (case l29 => k_is)
    (case c29 => k_is)
    (case k29 => k_is)
    (case a30 => k_is)
    (case l30 => k_is)
    (case c30 => k_is)
    (case k30 => k_is)
    (case a31 => k_is)
    (case l31 => k_is)
    (case c31 => k_is)
    (case k31 => k_is)
    (case a32 => k_is)
    (case l32 => k_is)
    (case c32 => k_is)
    (case k32 => k_is)
    (case a33 => k_is)
    (case l33 => k_is)
    (case c33 => k_is)
    (case k33 => k_is)
    (case z_all => k_is)
    (case z_any => k_is)
    (case z_bool => k_is)
    (case z_dict => k_is)
    (case z_enumerate => k_is)
    (case z_int => k_is)
    (case z_isinstance => k_is)
    (case z_len => k_is)
    (case z_list => k_is)
    (case z_max => k_is)
    (case z_min => k_is)
    (case z_range => k_is)
    (case z_repr => k_is)
    (case z_sorted => k_is)
    (case z_str => k_is)
    (case z_tuple => k_is)


