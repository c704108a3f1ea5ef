import PyProof.Rows.All
import Wide.All
import OpenK.AllK
import Wide.FinOn
import HandS.ForMost
import HandS.Deep
import HandS.ForExc
import HandS.Zip
import HandS.DictComp
import HandS.TupAny
import HandS.IsInst
import HandS.Style
import HandS.SortInts
import HandS.Codes
import HandS.TupLen
import HandS.Replace
import HandS.TupMul
import KE.DataMinMax
import HandS.Exc
import HandS.ExcOwn
import HandS.ExcIs
import HandS.TryOnly
import HandS.WordsExc
import KE.DatumIndex
import PyProof.ReprLen
import HandS.Text
import HandS.StrMore
import HandS.Conv
import PyProof.Rows.StrPadFill
import PyProof.Rows.StrCase
import HandS.Iter
import HandS.DictTup
import HandS.RevRange
import HandS.Steps
import KE.KDictDisplayH
import HandS.SetFor
import PySem.Challenge.RW_lettersacross_k70_orders_of_renamings_or
set_option Elab.async false
set_option linter.all false
set_option maxRecDepth 100000
set_option maxHeartbeats 4000000
/-! PL0: data without a heap: what a value bears (Rp), the environment of a def by slots (Rel), own cells -/
namespace PL
open PySem PySem.Spec PyProof.Rows L2

abbrev D := PyData
/-- by cases, as a goal of two -/
structure Cif (c : Bool) (A B : Prop) : Prop where
  t : c = true → A
  f : c = false → B

def keyD : Key → D
  | .inl i => .int i
  | .inr x => .str x

/-! ### a value bears data, in the frozen heap F -/
mutual
inductive Rp (F : Hp) : V → D → Prop
  | non : Rp F .non .none
  | bl (b : Bool) : Rp F (.bl b) (.bool b)
  | int (i : Int) : Rp F (.int i) (.int i)
  | str (x : Str) (h : PyData.strOk x = true) : Rp F (.str x) (.str x)
  | lst {a : Addr} {xs : List V} {ds : List D} : F a = some (.lst xs) → RpA F xs ds → Rp F (.ref a) (.list ds)
  /-- the script: a list that is known to the object -/
  | fz {a : Addr} {o : Obj} {xs : List V} {ds : List D} : F a = some (.frz o (.lst xs)) → RpA F xs ds → Rp F (.ref a) (.dict [(.none, .list ds)])
  | tup {a : Addr} {xs : List V} {ds : List D} : F a = some (.tup xs) → RpA F xs ds → Rp F (.ref a) (.tuple ds)
  | dk {a : Addr} {kvs : List (Key × V)} {ds : List (D × D)} : F a = some (.dK kvs) → RpK F kvs ds → Rp F (.ref a) (.dict ds)
  | dt {a : Addr} {kvs : List (List Key × V)} {ds : List (D × D)} : F a = some (.dT kvs) → RpT F kvs ds → Rp F (.ref a) (.dict ds)
inductive RpA (F : Hp) : List V → List D → Prop
  | nil : RpA F [] []
  | cons {v : V} {vs : List V} {d : D} {ds : List D} : Rp F v d → RpA F vs ds → RpA F (v :: vs) (d :: ds)
inductive RpK (F : Hp) : List (Key × V) → List (D × D) → Prop
  | nil : RpK F [] []
  | cons {k : Key} {v : V} {r : List (Key × V)} {d : D} {ds : List (D × D)} : Rp F v d → RpK F r ds → RpK F ((k, v) :: r) ((keyD k, d) :: ds)
inductive RpT (F : Hp) : List (List Key × V) → List (D × D) → Prop
  | nil : RpT F [] []
  | cons {k : List Key} {v : V} {r : List (List Key × V)} {d : D} {ds : List (D × D)} : Rp F v d → RpT F r ds → RpT F ((k, v) :: r) ((.tuple (k.map keyD), d) :: ds)
end

theorem rd_same {H H' : Hp} {a : Addr} {u : HO} (e : Same H H') (h : Rd H a u) : Rd H' a u := by
  rcases h with h | ⟨o, h⟩
  · exact Or.inl (e a _ h)
  · exact Or.inr ⟨o, e a _ h⟩

mutual
theorem Rp.mono {F F' : Hp} (e : Same F F') : ∀ {v : V} {d : D}, Rp F v d → Rp F' v d
  | _, _, .non => .non
  | _, _, .bl b => .bl b
  | _, _, .int i => .int i
  | _, _, .str x h => .str x h
  | _, _, .lst h r => .lst (e _ _ h) (RpA.mono e r)
  | _, _, .fz h r => .fz (e _ _ h) (RpA.mono e r)
  | _, _, .tup h r => .tup (e _ _ h) (RpA.mono e r)
  | _, _, .dk h r => .dk (e _ _ h) (RpK.mono e r)
  | _, _, .dt h r => .dt (e _ _ h) (RpT.mono e r)
theorem RpA.mono {F F' : Hp} (e : Same F F') : ∀ {vs : List V} {ds : List D}, RpA F vs ds → RpA F' vs ds
  | _, _, .nil => .nil
  | _, _, .cons h r => .cons (Rp.mono e h) (RpA.mono e r)
theorem RpK.mono {F F' : Hp} (e : Same F F') : ∀ {vs : List (Key × V)} {ds : List (D × D)}, RpK F vs ds → RpK F' vs ds
  | _, _, .nil => .nil
  | _, _, .cons h r => .cons (Rp.mono e h) (RpK.mono e r)
theorem RpT.mono {F F' : Hp} (e : Same F F') : ∀ {vs : List (List Key × V)} {ds : List (D × D)}, RpT F vs ds → RpT F' vs ds
  | _, _, .nil => .nil
  | _, _, .cons h r => .cons (Rp.mono e h) (RpT.mono e r)
end

theorem RpA.length {F : Hp} : ∀ {vs : List V} {ds : List D}, RpA F vs ds → vs.length = ds.length
  | _, _, .nil => rfl
  | _, _, .cons _ r => congrArg (· + 1) (RpA.length r)
theorem RpA.get {F : Hp} : ∀ {vs : List V} {ds : List D} {i : Nat} {d : D}, RpA F vs ds → ds[i]? = some d → ∃ v, vs[i]? = some v ∧ Rp F v d
  | _, _, _, _, .nil, e => by simp at e
  | _, _, 0, _, .cons h _, e => by
    simp at e
    subst e
    exact ⟨_, rfl, h⟩
  | _, _, i + 1, d, .cons _ r, e => by
    obtain ⟨v, h1, h2⟩ := RpA.get (i := i) (d := d) r (by simpa using e)
    exact ⟨v, by simpa using h1, h2⟩
theorem RpA.getV {F : Hp} : ∀ {vs : List V} {ds : List D} {i : Nat} {v : V}, RpA F vs ds → vs[i]? = some v → ∃ d, ds[i]? = some d ∧ Rp F v d
  | _, _, _, _, .nil, e => by simp at e
  | _, _, 0, _, .cons h _, e => by
    simp at e
    subst e
    exact ⟨_, rfl, h⟩
  | _, _, i + 1, v, .cons _ r, e => by
    obtain ⟨d, h1, h2⟩ := RpA.getV (i := i) (v := v) r (by simpa using e)
    exact ⟨d, by simpa using h1, h2⟩
theorem RpA.append {F : Hp} : ∀ {vs us : List V} {ds es : List D}, RpA F vs ds → RpA F us es → RpA F (vs ++ us) (ds ++ es)
  | _, _, _, _, .nil, s => s
  | _, _, _, _, .cons h r, s => .cons h (RpA.append r s)
theorem RpA.take {F : Hp} : ∀ {vs : List V} {ds : List D} (n : Nat), RpA F vs ds → RpA F (vs.take n) (ds.take n)
  | _, _, 0, _ => .nil
  | _, _, _ + 1, .nil => .nil
  | _, _, n + 1, .cons h r => .cons h (RpA.take n r)
theorem RpA.drop {F : Hp} : ∀ {vs : List V} {ds : List D} (n : Nat), RpA F vs ds → RpA F (vs.drop n) (ds.drop n)
  | _, _, 0, r => r
  | _, _, _ + 1, .nil => .nil
  | _, _, n + 1, .cons _ r => RpA.drop n r
theorem RpA.set {F : Hp} {v : V} {d : D} (h0 : Rp F v d) : ∀ {vs : List V} {ds : List D} (n : Nat), RpA F vs ds → RpA F (vs.set n v) (ds.set n d)
  | _, _, _, .nil => .nil
  | _, _, 0, .cons _ r => .cons h0 r
  | _, _, n + 1, .cons h r => .cons h (RpA.set h0 n r)
theorem RpA.rep {F : Hp} {vs : List V} {ds : List D} (h : RpA F vs ds) : ∀ n : Nat, RpA F (List.replicate n vs).flatten (List.replicate n ds).flatten
  | 0 => .nil
  | n + 1 => by
    simp only [List.replicate_succ, List.flatten_cons]
    exact h.append (RpA.rep h n)
theorem RpA.reverse {F : Hp} : ∀ {vs : List V} {ds : List D}, RpA F vs ds → RpA F vs.reverse ds.reverse
  | _, _, .nil => .nil
  | _, _, .cons h r => by
    rw [List.reverse_cons, List.reverse_cons]
    exact (RpA.reverse r).append (.cons h .nil)
theorem RpA.map {F : Hp} {α : Type} (f : α → V) (g : α → D) : ∀ (xs : List α), (∀ x ∈ xs, Rp F (f x) (g x)) → RpA F (xs.map f) (xs.map g)
  | [], _ => .nil
  | x :: xs, h => .cons (h x List.mem_cons_self) (RpA.map f g xs fun y hy => h y (List.mem_cons_of_mem _ hy))

/-! ### data without dicts are the hand layer's -/
mutual
theorem Rp.dp {K : PySem.W.Frag} {F : Hp} : ∀ {v : V} {d : D}, Rp F v d → d.hasDict = false → Dp K F v d
  | _, _, .non, _ => .non
  | _, _, .bl b, _ => .bl b
  | _, _, .int i, _ => .int i
  | _, _, .str x _, _ => .str x
  | _, _, .lst h r, e => .lst (.inl (.inl h)) (RpA.dp r (by simpa [PyData.hasDict] using e))
  | _, _, .tup h r, e => .tup (.inl (.inl h)) (RpA.dp r (by simpa [PyData.hasDict] using e))
  | _, _, .dk _ _, e => by simp [PyData.hasDict] at e
  | _, _, .fz _ _, e => by simp [PyData.hasDict] at e
  | _, _, .dt _ _, e => by simp [PyData.hasDict] at e
theorem RpA.dp {K : PySem.W.Frag} {F : Hp} : ∀ {vs : List V} {ds : List D}, RpA F vs ds → PyData.hasDictAll ds = false → DpAll K F vs ds
  | _, _, .nil, _ => .nil
  | _, _, .cons h r, e => by
    simp only [PyData.hasDictAll, Bool.or_eq_false_iff] at e
    exact .cons (Rp.dp h e.1) (RpA.dp r e.2)
end
mutual
theorem Rp.lay {F : Hp} : ∀ {v : V} {d : D}, Rp F v d → d.hasDict = false → d.canLay0 = true
  | _, _, .non, _ => by simp [PyData.canLay0]
  | _, _, .bl b, _ => by simp [PyData.canLay0]
  | _, _, .int i, _ => by simp [PyData.canLay0]
  | _, _, .str x h, _ => by simp [PyData.canLay0, h]
  | _, _, .lst _ r, e => by
    simp only [PyData.canLay0]
    exact RpA.lay r (by simpa [PyData.hasDict] using e)
  | _, _, .tup _ r, e => by
    simp only [PyData.canLay0]
    exact RpA.lay r (by simpa [PyData.hasDict] using e)
  | _, _, .dk _ _, e => by simp [PyData.hasDict] at e
  | _, _, .fz _ _, e => by simp [PyData.hasDict] at e
  | _, _, .dt _ _, e => by simp [PyData.hasDict] at e
theorem RpA.lay {F : Hp} : ∀ {vs : List V} {ds : List D}, RpA F vs ds → PyData.hasDictAll ds = false → PyData.canLayAll0 ds = true
  | _, _, .nil, _ => by simp [PyData.canLayAll0]
  | _, _, .cons h r, e => by
    simp only [PyData.hasDictAll, Bool.or_eq_false_iff] at e
    simp only [PyData.canLayAll0, Bool.and_eq_true]
    exact ⟨Rp.lay h e.1, RpA.lay r e.2⟩
end
/-- without dicts and not too deep -/
def flat (n : Nat) (d : D) : Bool := !d.hasDict && decide (d.depth ≤ n)
theorem Rp.shaped {F : Hp} {v : V} {d : D} (h : Rp F v d) (e : flat 60 d = true) : SeqAt.shaped d = true := by
  simp only [flat, Bool.and_eq_true, Bool.not_eq_true', decide_eq_true_eq] at e
  show (d.canLay0 && decide (d.depth ≤ 64)) = true
  rw [Bool.and_eq_true]
  exact ⟨h.lay e.1, decide_eq_true (by omega)⟩
theorem Rp.dpf {K : PySem.W.Frag} {F : Hp} {v : V} {d : D} (h : Rp F v d) (e : flat 60 d = true) : Dp K F v d := by
  simp only [flat, Bool.and_eq_true, Bool.not_eq_true'] at e
  exact h.dp e.1

/-- the frozen heap with some cells of H -/
def frz (F H : Hp) (f : List Addr) : Hp := fun a => if a ∈ f then H a else F a
/-! ### own objects: what only a slot (or a value just made) holds -/
inductive O where
  | l (ds : List D)
  /-- a dict whose keys are ints and texts; one whose keys are tuples of such -/
  | k (kvs : List (D × D))
  | t (kvs : List (D × D))
  /-- data all of whose lists are own -/
  | dp (d : D)
def O.toD : O → D
  | .l ds => .list ds
  | .k kvs => .dict kvs
  | .t kvs => .dict kvs
  | .dp d => d

/-- the tuples of a heap -/
def tups (F : Hp) : Hp := fun a => match F a with
  | some (.tup xs) => some (.tup xs)
  | _ => none
theorem tups_sub {F : Hp} : Same (tups F) F := fun a o h => by
  unfold tups at h
  split at h
  · rename_i xs e
    cases h
    exact e
  · cases h
theorem tups_of {F : Hp} {a : Addr} {xs : List V} (h : F a = some (.tup xs)) : tups F a = some (.tup xs) := by
  unfold tups
  rw [h]
theorem tups_is {F : Hp} {a : Addr} {o : HO} (h : tups F a = some o) : ∃ xs, o = .tup xs := by
  unfold tups at h
  split at h
  · rename_i xs e
    cases h
    exact ⟨xs, rfl⟩
  · cases h
theorem tups_mono {F F' : Hp} (e : Same F F') : Same (tups F) (tups F') := fun a o h => by
  obtain ⟨xs, rfl⟩ := tups_is h
  exact tups_of (e a _ (tups_sub a _ h))
inductive RO (F H : Hp) : V → O → List Addr → Prop
  | l {a : Addr} {xs : List V} {ds : List D} : H a = some (.lst xs) → RpA F xs ds → RO F H (.ref a) (.l ds) [a]
  | k {a : Addr} {kvs : List (Key × V)} {ds : List (D × D)} : H a = some (.dK kvs) → RpK F kvs ds → RO F H (.ref a) (.k ds) [a]
  | t {a : Addr} {kvs : List (List Key × V)} {ds : List (D × D)} : H a = some (.dT kvs) → RpT F kvs ds → RO F H (.ref a) (.t ds) [a]
  | dp {v : V} {d : D} {f : List Addr} : Rp (frz (tups F) H f) v d → (∀ a ∈ f, ∃ xs, H a = some (.lst xs)) → RO F H v (.dp d) f

theorem RO.mem {F H : Hp} {v : V} {o : O} {f : List Addr} (r : RO F H v o f) : ∀ a ∈ f, H a ≠ none := by
  cases r with
  | l h _ => intro a ha; simp at ha; subst ha; rw [h]; exact fun z => nomatch z
  | k h _ => intro a ha; simp at ha; subst ha; rw [h]; exact fun z => nomatch z
  | t h _ => intro a ha; simp at ha; subst ha; rw [h]; exact fun z => nomatch z
  | dp _ h => intro a ha; obtain ⟨xs, e⟩ := h a ha; rw [e]; exact fun z => nomatch z
theorem RO.no_tup {F H : Hp} {v : V} {o : O} {f : List Addr} (r : RO F H v o f) : ∀ a ∈ f, ∀ xs, H a ≠ some (.tup xs) := by
  cases r with
  | l h _ => intro a ha xs e; simp at ha; subst ha; rw [h] at e; cases e
  | k h _ => intro a ha xs e; simp at ha; subst ha; rw [h] at e; cases e
  | t h _ => intro a ha xs e; simp at ha; subst ha; rw [h] at e; cases e
  | dp _ h => intro a ha xs e; obtain ⟨ys, e'⟩ := h a ha; rw [e'] at e; cases e
/-- the cells stay, the frozen heap grows -/
theorem RO.mono {F F' H H' : Hp} {v : V} {o : O} {f : List Addr} (r : RO F H v o f) (e : Same F F') (hc : ∀ a ∈ f, H' a = H a) : RO F' H' v o f := by
  cases r with
  | l h r => exact .l (by rw [hc _ (by simp)]; exact h) (r.mono e)
  | k h r => exact .k (by rw [hc _ (by simp)]; exact h) (r.mono e)
  | t h r => exact .t (by rw [hc _ (by simp)]; exact h) (r.mono e)
  | dp r h =>
    exact .dp (r.mono fun a o q => by
      unfold frz at q ⊢
      split at q
      · rename_i m
        rw [if_pos m, hc a m]
        exact q
      · rename_i m
        rw [if_neg m]
        exact tups_mono e a o q) fun a ha => by rw [hc a ha]; exact h a ha
/-- read in the heap that is -/
theorem RO.rp {F H : Hp} {v : V} {o : O} {f : List Addr} (r : RO F H v o f) (e : Same F H) : Rp H v o.toD := by
  cases r with
  | l h r => exact .lst h (r.mono e)
  | k h r => exact .dk h (r.mono e)
  | t h r => exact .dt h (r.mono e)
  | dp r h =>
    exact r.mono fun a o q => by
      unfold frz at q
      split at q
      · exact q
      · exact e a o (tups_sub a o q)

/-! ### slots, values -/
inductive Sl where
  | un
  | sh (d : D)
  | ow (o : O)
  /-- an exception that a clause names -/
  | ex (a : Addr)
abbrev Ev := List Sl
theorem ex_ne {Γ : Ev} {i j : Nat} {a : Addr} {s : Sl} (hs : ∀ a, s ≠ Sl.ex a) (q : (Γ.set i s)[j]? = some (.ex a)) : i ≠ j ∧ Γ[j]? = some (.ex a) := by
  by_cases hj : i = j
  · subst hj
    rw [List.getElem?_set] at q
    split at q
    · split at q
      · cases q
        exact absurd rfl (hs a)
      · cases q
    · rename_i hn
      exact absurd rfl hn
  · rw [List.getElem?_set_ne hj] at q
    exact ⟨hj, q⟩
inductive Wv where
  | sh (d : D)
  | ow (o : O)
  | at (i : Nat)

structure Ext (B F F' : Hp) : Prop where
  same : Same F F'
  new : ∀ a, F' a ≠ none → F a = none → B a = none ∨ ∃ xs, F' a = some (.tup xs)
theorem Ext.refl {B F : Hp} : Ext B F F := ⟨Same.refl F, fun _ h e => absurd e h⟩
theorem Ext.trans {B F F1 F2 : Hp} (a : Ext B F F1) (b : Ext B F1 F2) : Ext B F F2 := ⟨a.same.trans b.same, fun x h e => by
  cases q : F1 x with
  | none => exact b.new x h q
  | some o => exact (a.new x (by rw [q]; exact fun z => nomatch z) e).imp id fun ⟨xs, z⟩ => ⟨xs, b.same x _ z⟩⟩

structure Rel (B F : Hp) (Γ : Ev) (σ : L2.St) (H : Hp) (fp : Nat → List Addr) : Prop where
  bx : Same B H
  fx : Same F H
  len : Γ.length = σ.length
  sh : ∀ (i : Nat) (d : D), Γ[i]? = some (Sl.sh d) → ∃ v, σ[i]? = some (some v) ∧ Rp F v d
  ow : ∀ (i : Nat) (o : O), Γ[i]? = some (Sl.ow o) → ∃ v, σ[i]? = some (some v) ∧ RO F H v o (fp i)
  nb : ∀ i a, a ∈ fp i → B a = none ∧ F a = none ∧ H a ≠ none
  dj : ∀ i j a, a ∈ fp i → a ∈ fp j → i = j
  ex : ∀ (i : Nat) (a : Addr), Γ[i]? = some (Sl.ex a) → σ[i]? = some (some (.ref a))

inductive RW (B F : Hp) (Γ : Ev) (σ : L2.St) (H : Hp) (fp : Nat → List Addr) (v : V) : Wv → Prop
  | sh {d : D} : Rp F v d → RW B F Γ σ H fp v (.sh d)
  | ow {o : O} {f : List Addr} : RO F H v o f → (∀ a ∈ f, B a = none ∧ F a = none ∧ ∀ i, a ∉ fp i) → RW B F Γ σ H fp v (.ow o)
  | at {i : Nat} : σ[i]? = some (some v) → RW B F Γ σ H fp v (.at i)

theorem frz_same {F H : Hp} {f : List Addr} (h : ∀ a ∈ f, F a = none) : Same F (frz F H f) := fun a o e => by
  unfold frz
  split
  · rename_i hm
    rw [h a hm] at e
    cases e
  · exact e
theorem frz_sub {F H : Hp} {f : List Addr} (e : Same F H) : Same (frz F H f) H := fun a o h => by
  unfold frz at h
  split at h
  · exact h
  · exact e a o h
theorem frz_ext {B F H : Hp} {f : List Addr} (h : ∀ a ∈ f, F a = none) (hb : ∀ a ∈ f, B a = none) : Ext B F (frz F H f) := ⟨frz_same h, fun a q e => by
  unfold frz at q
  split at q
  · rename_i hm
    exact .inl (hb a hm)
  · exact absurd e q⟩
theorem frz_ro {F H : Hp} {v : V} {o : O} {f : List Addr} (r : RO F H v o f) (h : ∀ a ∈ f, F a = none) : Rp (frz F H f) v o.toD := by
  have s := frz_same (H := H) h
  have at_ : ∀ a, a ∈ f → frz F H f a = H a := fun a ha => if_pos ha
  cases r with
  | l e r => exact .lst (by rw [at_ _ (by simp)]; exact e) (r.mono s)
  | k e r => exact .dk (by rw [at_ _ (by simp)]; exact e) (r.mono s)
  | t e r => exact .dt (by rw [at_ _ (by simp)]; exact e) (r.mono s)
  | dp r _ =>
    exact r.mono fun a o q => by
      unfold frz at q ⊢
      split
      · rename_i m
        rw [if_pos m] at q
        exact q
      · rename_i m
        rw [if_neg m] at q
        exact tups_sub a o q

section
variable {B F : Hp} {Γ : Ev} {σ : L2.St} {H : Hp} {fp : Nat → List Addr} {v : V} {w : Wv}

/-- a freed place of the own cells -/
def dropF (fp : Nat → List Addr) (i : Nat) : Nat → List Addr := fun j => if j = i then [] else fp j
def putF (fp : Nat → List Addr) (i : Nat) (f : List Addr) : Nat → List Addr := fun j => if j = i then f else fp j
theorem mem_dropF {i j : Nat} {a : Addr} (h : a ∈ dropF fp i j) : j ≠ i ∧ a ∈ fp j := by
  unfold dropF at h
  split at h
  · simp at h
  · rename_i q
    exact ⟨q, h⟩
theorem dropF_ne {i j : Nat} (h : j ≠ i) : dropF fp i j = fp j := if_neg h
theorem putF_same {i : Nat} {f : List Addr} : putF fp i f i = f := if_pos rfl
theorem putF_ne {i j : Nat} {f : List Addr} (h : j ≠ i) : putF fp i f j = fp j := if_neg h

/-- cells become frozen that no slot holds -/
theorem Rel.freeze (r : Rel B F Γ σ H fp) {f : List Addr} (h : ∀ a ∈ f, F a = none ∧ ∀ i, a ∉ fp i) : Rel B (frz F H f) Γ σ H fp := by
  have s := frz_same (H := H) fun a ha => (h a ha).1
  refine ⟨r.bx, frz_sub r.fx, r.len, fun i d e => ?_, fun i o e => ?_, fun i a ha => ?_, r.dj, r.ex⟩
  · obtain ⟨v, h1, h2⟩ := r.sh i d e
    exact ⟨v, h1, h2.mono s⟩
  · obtain ⟨v, h1, h2⟩ := r.ow i o e
    exact ⟨v, h1, h2.mono s fun _ _ => rfl⟩
  · obtain ⟨b, c, d⟩ := r.nb i a ha
    refine ⟨b, ?_, d⟩
    unfold frz
    split
    · rename_i hm
      exact absurd ha ((h a hm).2 i)
    · exact c
/-- slot i's own object is frozen -/
theorem Rel.freezeAt (r : Rel B F Γ σ H fp) {i : Nat} {o : O} (e : Γ[i]? = some (Sl.ow o)) :
    ∃ v, σ[i]? = some (some v) ∧ Ext B F (frz F H (fp i)) ∧ Rel B (frz F H (fp i)) (Γ.set i (.sh o.toD)) σ H (dropF fp i) ∧ Rp (frz F H (fp i)) v o.toD := by
  obtain ⟨v, h1, h2⟩ := r.ow i o e
  have nF : ∀ a ∈ fp i, F a = none := fun a ha => (r.nb i a ha).2.1
  have s := frz_same (H := H) nF
  have il : i < Γ.length := (List.getElem?_eq_some_iff.mp e).1
  refine ⟨v, h1, frz_ext nF fun a ha => (r.nb i a ha).1, ⟨r.bx, frz_sub r.fx, by rw [List.length_set]; exact r.len, fun j d q => ?_, fun j u q => ?_, fun j a ha => ?_, fun j k a ha hb => ?_, fun j a q => ?_⟩, frz_ro h2 nF⟩
  · by_cases hj : i = j
    · subst hj
      rw [List.getElem?_set_self il] at q
      cases q
      exact ⟨v, h1, frz_ro h2 nF⟩
    · rw [List.getElem?_set_ne hj] at q
      obtain ⟨u, g1, g2⟩ := r.sh j d q
      exact ⟨u, g1, g2.mono s⟩
  · by_cases hj : i = j
    · subst hj
      rw [List.getElem?_set_self il] at q
      cases q
    · rw [List.getElem?_set_ne hj] at q
      obtain ⟨u, g1, g2⟩ := r.ow j _ q
      refine ⟨u, g1, ?_⟩
      rw [dropF_ne (Ne.symm hj)]
      exact g2.mono s fun _ _ => rfl
  · obtain ⟨hj, ha⟩ := mem_dropF ha
    obtain ⟨b, c, d⟩ := r.nb j a ha
    refine ⟨b, ?_, d⟩
    unfold frz
    split
    · rename_i hm
      exact absurd (r.dj j i a ha hm) hj
    · exact c
  · exact r.dj j k a (mem_dropF ha).2 (mem_dropF hb).2
  · exact r.ex j a (ex_ne (fun _ => Sl.noConfusion) q).2

/-- a value taken for good: what is own becomes frozen -/
def shr (w : Wv) (Γ : Ev) (k : D → Ev → Prop) : Prop :=
  match w with
  | .sh d => k d Γ
  | .ow o => k o.toD Γ
  | .at i => match Γ[i]? with
    | some (.sh d) => k d Γ
    | some (.ow o) => k o.toD (Γ.set i (.sh o.toD))
    | _ => False
theorem shr_ok {k : D → Ev → Prop} (r : Rel B F Γ σ H fp) (h : RW B F Γ σ H fp v w) (q : shr w Γ k) : ∃ d Γ' F' fp', Ext B F F' ∧ Rel B F' Γ' σ H fp' ∧ Rp F' v d ∧ k d Γ' := by
  cases h with
  | sh h => exact ⟨_, Γ, F, fp, .refl, r, h, q⟩
  | @ow o f h hf =>
    have nF : ∀ a ∈ f, F a = none := fun a ha => (hf a ha).2.1
    exact ⟨_, Γ, _, fp, frz_ext nF fun a ha => (hf a ha).1, r.freeze fun a ha => ⟨(hf a ha).2.1, (hf a ha).2.2⟩, frz_ro h nF, q⟩
  | @«at» i h =>
    unfold shr at q
    simp only at q
    split at q
    · rename_i d e
      obtain ⟨u, h1, h2⟩ := r.sh i d e
      rw [h] at h1
      cases h1
      exact ⟨d, Γ, F, fp, .refl, r, h2, q⟩
    · rename_i o e
      obtain ⟨u, h1, x, r', h2⟩ := r.freezeAt e
      rw [h] at h1
      cases h1
      exact ⟨_, _, _, _, x, r', h2, q⟩
    · exact q.elim

/-- the data of a value that is looked at -/
def borO (o : O) (k : D → Prop) : Prop := match o with
  | .l ds => k (.list ds)
  | .k kvs => k (.dict kvs)
  | .t kvs => k (.dict kvs)
  | .dp _ => False
theorem borO_to {o : O} {k : D → Prop} (h : borO o k) : k o.toD := by
  cases o with
  | dp _ => exact h.elim
  | _ => exact h
def bor (w : Wv) (Γ : Ev) (k : D → Prop) : Prop :=
  match w with
  | .sh d => k d
  | .ow o => borO o k
  | .at i => match Γ[i]? with
    | some (.sh d) => k d
    | some (.ow o) => borO o k
    | _ => False
theorem bor_ok {k : D → Prop} (r : Rel B F Γ σ H fp) (h : RW B F Γ σ H fp v w) (q : bor w Γ k) : ∃ d, Rp H v d ∧ k d := by
  cases h with
  | sh h => exact ⟨_, h.mono r.fx, q⟩
  | ow h hf => exact ⟨_, h.rp r.fx, borO_to q⟩
  | @«at» i h =>
    unfold bor at q
    simp only at q
    split at q
    · rename_i d e
      obtain ⟨u, h1, h2⟩ := r.sh i d e
      rw [h] at h1
      cases h1
      exact ⟨d, h2.mono r.fx, q⟩
    · rename_i o e
      obtain ⟨u, h1, h2⟩ := r.ow i o e
      rw [h] at h1
      cases h1
      exact ⟨_, h2.rp r.fx, borO_to q⟩
    · exact q.elim
end
end PL

namespace PL
open PySem PySem.Spec PyProof.Rows L2

/-! ### looked at: the top in H, what is within in F -/
inductive Rb (F H : Hp) : V → D → Prop
  | non : Rb F H .non .none
  | bl (b : Bool) : Rb F H (.bl b) (.bool b)
  | int (i : Int) : Rb F H (.int i) (.int i)
  | str (x : Str) (h : PyData.strOk x = true) : Rb F H (.str x) (.str x)
  | lst {a : Addr} {xs : List V} {ds : List D} : H a = some (.lst xs) → RpA F xs ds → Rb F H (.ref a) (.list ds)
  | fz {a : Addr} {o : Obj} {xs : List V} {ds : List D} : H a = some (.frz o (.lst xs)) → RpA F xs ds → Rb F H (.ref a) (.dict [(.none, .list ds)])
  | tup {a : Addr} {xs : List V} {ds : List D} : F a = some (.tup xs) → H a = some (.tup xs) → RpA F xs ds → Rb F H (.ref a) (.tuple ds)
  | dk {a : Addr} {kvs : List (Key × V)} {ds : List (D × D)} : H a = some (.dK kvs) → RpK F kvs ds → Rb F H (.ref a) (.dict ds)
  | dt {a : Addr} {kvs : List (List Key × V)} {ds : List (D × D)} : H a = some (.dT kvs) → RpT F kvs ds → Rb F H (.ref a) (.dict ds)
theorem Rp.rb {F H : Hp} {v : V} {d : D} (h : Rp F v d) (e : Same F H) : Rb F H v d := by
  cases h with
  | non => exact .non
  | bl b => exact .bl b
  | int i => exact .int i
  | str x h => exact .str x h
  | lst h r => exact .lst (e _ _ h) r
  | fz h r => exact .fz (e _ _ h) r
  | tup h r => exact .tup h (e _ _ h) r
  | dk h r => exact .dk (e _ _ h) r
  | dt h r => exact .dt (e _ _ h) r
theorem RO.rb {F H : Hp} {v : V} {o : O} {f : List Addr} {k : D → Prop} (r : RO F H v o f) (z : borO o k) : Rb F H v o.toD := by
  cases r with
  | dp _ _ => exact z.elim
  | l h r => exact .lst h r
  | k h r => exact .dk h r
  | t h r => exact .dt h r
theorem Rb.rp {F H : Hp} {v : V} {d : D} (h : Rb F H v d) (e : Same F H) : Rp H v d := by
  cases h with
  | non => exact .non
  | bl b => exact .bl b
  | int i => exact .int i
  | str x h => exact .str x h
  | lst h r => exact .lst h (r.mono e)
  | fz h r => exact .fz h (r.mono e)
  | tup _ h r => exact .tup h (r.mono e)
  | dk h r => exact .dk h (r.mono e)
  | dt h r => exact .dt h (r.mono e)

section
variable {B F : Hp} {Γ : Ev} {σ : L2.St} {H : Hp} {fp : Nat → List Addr} {v : V} {w : Wv}
theorem bor_rb {k : D → Prop} (r : Rel B F Γ σ H fp) (h : RW B F Γ σ H fp v w) (q : bor w Γ k) : ∃ d, Rb F H v d ∧ k d := by
  cases h with
  | sh h => exact ⟨_, h.rb r.fx, q⟩
  | ow h hf => exact ⟨_, h.rb q, borO_to q⟩
  | @«at» i h =>
    unfold bor at q
    simp only at q
    split at q
    · rename_i d e
      obtain ⟨u, h1, h2⟩ := r.sh i d e
      rw [h] at h1
      cases h1
      exact ⟨d, h2.rb r.fx, q⟩
    · rename_i o e
      obtain ⟨u, h1, h2⟩ := r.ow i o e
      rw [h] at h1
      cases h1
      exact ⟨_, h2.rb q, borO_to q⟩
    · exact q.elim
/-- a new cell -/
theorem Rel.new {p : Addr} {o : HO} (r : Rel B F Γ σ H fp) (hp : H p = none) : Rel B F Γ σ (upd H p o) fp :=
  ⟨fun a u e => by
    rw [upd_ne (ne_of_none (r.bx a u e) hp)]
    exact r.bx a u e, fun a u e => by
    rw [upd_ne (ne_of_none (r.fx a u e) hp)]
    exact r.fx a u e, r.len, r.sh, fun i o e => by
    obtain ⟨v, h1, h2⟩ := r.ow i o e
    refine ⟨v, h1, h2.mono (Same.refl F) fun a ha => upd_ne fun z => h2.mem a ha ?_⟩
    rw [z]
    exact hp, fun i a ha => by
    obtain ⟨b, c, d⟩ := r.nb i a ha
    refine ⟨b, c, ?_⟩
    rw [upd_ne fun z => d (by rw [z]; exact hp)]
    exact d, r.dj, r.ex⟩
theorem free_of {p : Addr} (r : Rel B F Γ σ H fp) (hp : H p = none) : B p = none ∧ F p = none ∧ ∀ i, p ∉ fp i := by
  refine ⟨r.bx.free hp, r.fx.free hp, fun i h => (r.nb i p h).2.2 hp⟩
/-- a new cell, frozen at once -/
theorem Rel.newF {p : Addr} {o : HO} (r : Rel B F Γ σ H fp) (hp : H p = none) : Ext B F (upd F p o) ∧ Rel B (upd F p o) Γ σ (upd H p o) fp := by
  obtain ⟨b, c, d⟩ := free_of r hp
  have r' : Rel B F Γ σ (upd H p o) fp := r.new hp
  have e : frz F (upd H p o) [p] = upd F p o := by
    funext a
    unfold frz upd
    by_cases h : a = p
    · simp [h]
    · simp [h]
  have x := r'.freeze (f := [p]) fun a ha => by
    simp only [List.mem_singleton] at ha
    subst ha
    exact ⟨c, d⟩
  have y : Ext B F (frz F (upd H p o) [p]) := frz_ext (fun a ha => by
    simp only [List.mem_singleton] at ha
    subst ha
    exact c) fun a ha => by
    simp only [List.mem_singleton] at ha
    subst ha
    exact b
  rw [e] at x y
  exact ⟨y, x⟩
/-- a value is held while something else is worked out -/
theorem Rel.guard (r : Rel B F Γ σ H fp) (h : RW B F Γ σ H fp v w) :
    ∃ B', Rel B' F Γ σ H fp ∧ ∀ F2 Γ2 H2 fp2, Ext B' F F2 → Rel B' F2 Γ2 σ H2 fp2 → Ext B F F2 ∧ Rel B F2 Γ2 σ H2 fp2 ∧ RW B F2 Γ2 σ H2 fp2 v w ∧ ∀ v2 w2, RW B' F2 Γ2 σ H2 fp2 v2 w2 → RW B F2 Γ2 σ H2 fp2 v2 w2 := by
  cases h with
  | sh h => exact ⟨B, r, fun F2 Γ2 H2 fp2 x r2 => ⟨x, r2, .sh (h.mono x.same), fun _ _ q => q⟩⟩
  | «at» h => exact ⟨B, r, fun F2 Γ2 H2 fp2 x r2 => ⟨x, r2, .at h, fun _ _ q => q⟩⟩
  | @ow o f h hf =>
    have nB : ∀ a ∈ f, B a = none := fun a ha => (hf a ha).1
    have bb : Same B (frz B H f) := frz_same nB
    have bn : ∀ a, frz B H f a = none → a ∉ f ∧ B a = none := fun a e => by
      have nf : a ∉ f := fun z => by
        unfold frz at e
        rw [if_pos z] at e
        exact h.mem a z e
      refine ⟨nf, ?_⟩
      unfold frz at e
      rw [if_neg nf] at e
      exact e
    refine ⟨frz B H f, ⟨frz_sub r.bx, r.fx, r.len, r.sh, r.ow, fun i a ha => ?_, r.dj, r.ex⟩, fun F2 Γ2 H2 fp2 x r2 => ⟨⟨x.same, fun a q e => (x.new a q e).imp (fun z => (bn a z).2) id⟩, ⟨bb.trans r2.bx, r2.fx, r2.len, r2.sh, r2.ow, fun i a ha => ?_, r2.dj, r2.ex⟩, ?_, fun v2 w2 q => ?_⟩⟩
    · obtain ⟨b, c, d⟩ := r.nb i a ha
      refine ⟨?_, c, d⟩
      unfold frz
      rw [if_neg fun z => (hf a z).2.2 i ha]
      exact b
    · obtain ⟨b, c, d⟩ := r2.nb i a ha
      exact ⟨(bn a b).2, c, d⟩
    · refine .ow (f := f) (h.mono x.same fun a ha => ?_) fun a ha => ⟨nB a ha, ?_, fun i hi => ?_⟩
      · cases q : H a with
        | none => exact absurd q (h.mem a ha)
        | some u => exact r2.bx a u (by unfold frz; rw [if_pos ha]; exact q)
      · cases q : F2 a with
        | none => rfl
        | some u =>
          rcases x.new a (by rw [q]; exact fun z => nomatch z) (hf a ha).2.1 with z | ⟨xs, z⟩
          · exact absurd ha (bn a z).1
          · cases q2 : H a with
            | none => exact absurd q2 (h.mem a ha)
            | some u2 =>
              have e1 := r2.bx a u2 (by unfold frz; rw [if_pos ha]; exact q2)
              rw [r2.fx a _ z] at e1
              cases e1
              exact absurd q2 (h.no_tup a ha xs)
      · exact (bn a (r2.nb i a hi).1).1 ha
    · cases q with
      | sh q => exact .sh q
      | «at» q => exact .at q
      | ow q hq => exact .ow q fun a ha => ⟨(bn a (hq a ha).1).2, (hq a ha).2⟩
end

/-! ### transformers of pure environments -/
abbrev EXP := Value → Ev → Prop
abbrev QE := Ev → (Wv → Ev → Prop) → EXP → Prop
abbrev QT := Ev → (Bool → Ev → Prop) → EXP → Prop
abbrev QA := Ev → (List D → Ev → Prop) → EXP → Prop
structure PEnds where
  nx : Ev → Prop
  rt : Wv → Ev → Prop
  bk : Ev → Prop
  ct : Ev → Prop
  ex : EXP
abbrev QS := PEnds → Ev → Prop

def AfE (W : WX) (B F : Hp) (σ : L2.St) (EX : EXP) : Prop := ∀ c Γ' F' H' fp', Ext B F F' → Rel B F' Γ' σ H' fp' → EX c Γ' → W c none σ H'
theorem AfE.mono {W : WX} {B F F1 : Hp} {σ : L2.St} {EX : EXP} (a : AfE W B F σ EX) (x : Ext B F F1) : AfE W B F1 σ EX := fun c Γ' F' H' fp' y r q => a c Γ' F' H' fp' (x.trans y) r q
def SE (W : WX) (te : TE) (p : QE) : Prop := ∀ {B F : Hp} {Γ : Ev} {σ : L2.St} {H : Hp} {fp : Nat → List Addr} (R : Wv → Ev → Prop) (EX : EXP) (Q : VK), Rel B F Γ σ H fp → p Γ R EX →
  (∀ w Γ' v F' H' fp', Ext B F F' → Rel B F' Γ' σ H' fp' → RW B F' Γ' σ H' fp' v w → R w Γ' → Q v H') → AfE W B F σ EX → te σ H Q
def ST (W : WX) (tt : TT) (p : QT) : Prop := ∀ {B F : Hp} {Γ : Ev} {σ : L2.St} {H : Hp} {fp : Nat → List Addr} (R : Bool → Ev → Prop) (EX : EXP) (Q : Bool → Hp → Prop), Rel B F Γ σ H fp → p Γ R EX →
  (∀ b Γ' F' H' fp', Ext B F F' → Rel B F' Γ' σ H' fp' → R b Γ' → Q b H') → AfE W B F σ EX → tt σ H Q
def SA (W : WX) (ta : TA) (p : QA) : Prop := ∀ {B F : Hp} {Γ : Ev} {σ : L2.St} {H : Hp} {fp : Nat → List Addr} (R : List D → Ev → Prop) (EX : EXP) (Q : List V → Hp → Prop), Rel B F Γ σ H fp → p Γ R EX →
  (∀ ds Γ' vs F' H' fp', Ext B F F' → Rel B F' Γ' σ H' fp' → RpA F' vs ds → R ds Γ' → Q vs H') → AfE W B F σ EX → ta σ H Q
structure AfS (W : WX) (B F : Hp) (P : PEnds) (D : Ends) : Prop where
  nx : ∀ Γ' F' σ' H' fp', Ext B F F' → Rel B F' Γ' σ' H' fp' → P.nx Γ' → D.nx σ' H'
  rt : ∀ w Γ' v F' σ' H' fp', Ext B F F' → Rel B F' Γ' σ' H' fp' → RW B F' Γ' σ' H' fp' v w → P.rt w Γ' → D.rt v H'
  bk : ∀ Γ' F' σ' H' fp', Ext B F F' → Rel B F' Γ' σ' H' fp' → P.bk Γ' → D.bk σ' H'
  ct : ∀ Γ' F' σ' H' fp', Ext B F F' → Rel B F' Γ' σ' H' fp' → P.ct Γ' → D.ct σ' H'
  ex : ∀ c Γ' F' σ' H' fp', Ext B F F' → Rel B F' Γ' σ' H' fp' → P.ex c Γ' → W c none σ' H'
theorem AfS.mono {W : WX} {B F F1 : Hp} {P : PEnds} {D : Ends} (a : AfS W B F P D) (x : Ext B F F1) : AfS W B F1 P D :=
  ⟨fun Γ' F' σ' H' fp' y => a.nx Γ' F' σ' H' fp' (x.trans y), fun w Γ' v F' σ' H' fp' y => a.rt w Γ' v F' σ' H' fp' (x.trans y), fun Γ' F' σ' H' fp' y => a.bk Γ' F' σ' H' fp' (x.trans y), fun Γ' F' σ' H' fp' y => a.ct Γ' F' σ' H' fp' (x.trans y), fun c Γ' F' σ' H' fp' y => a.ex c Γ' F' σ' H' fp' (x.trans y)⟩
theorem AfS.afe {W : WX} {B F : Hp} {P : PEnds} {D : Ends} {σ : L2.St} (a : AfS W B F P D) : AfE W B F σ P.ex := fun c Γ' F' H' fp' x r q => a.ex c Γ' F' σ H' fp' x r q
def SS (W : WX) (ts : TS) (p : QS) : Prop := ∀ {B F : Hp} {Γ : Ev} {σ : L2.St} {H : Hp} {fp : Nat → List Addr} (P : PEnds) (D : Ends), Rel B F Γ σ H fp → p P Γ → AfS W B F P D → ts D σ H

structure DE (X : Cx) (W : WX) (e : Expr) (te : TE) (p : QE) : Prop where
  pe : PE X e te
  se : SE W te p
structure DT (X : Cx) (W : WX) (e : Expr) (tt : TT) (p : QT) : Prop where
  pt : PT X e tt
  st : ST W tt p
structure DA (X : Cx) (W : WX) (es : List Expr) (ta : TA) (p : QA) : Prop where
  pa : PA X es ta
  sa : SA W ta p
structure DS (X : Cx) (W : WX) (s : Stmt) (ts : TS) (p : QS) : Prop where
  ps : PS X s ts
  ss : SS W ts p
structure DSs (X : Cx) (W : WX) (s : List Stmt) (ts : TS) (p : QS) : Prop where
  ps : PSs X s ts
  ss : SS W ts p

section
variable {X : Cx} {W : WX} {pos : Pos} {a b c : Expr} {ta tb tc : TE} {pa pb pc : QE}

/-! ### names, constants -/
def qVar (i : Nat) : QE := fun Γ R _ => match Γ[i]? with
  | some (.sh d) => R (.sh d) Γ
  | some (.ow _) => R (.at i) Γ
  | _ => False
theorem se_var {i : Nat} : SE W (tVar i) (qVar i) := fun {B F Γ σ H fp} R EX Q r h k _ => by
  unfold qVar at h
  split at h
  · rename_i d e
    obtain ⟨v, h1, h2⟩ := r.sh i d e
    exact ⟨v, h1, k _ _ _ _ _ _ .refl r (.sh h2) h⟩
  · rename_i o e
    obtain ⟨v, h1, h2⟩ := r.ow i o e
    exact ⟨v, h1, k _ _ _ _ _ _ .refl r (.at h1) h⟩
  · exact h.elim
theorem d_var (i : Nat) {x : Str} (hN : X.N[i]? = some x := by rfl) (hv : Vis X.env.scope x := by first | exact Or.inl rfl | exact Or.inr (Or.inl rfl) | exact Or.inr (Or.inr rfl)) (hd : (x == ("__debug__" : Str)) = false := by decide)
    (hcd : (x == ("__classdict__" : Str)) = false := by decide) : DE X W (.Name x pos) (tVar i) (qVar i) := ⟨pe_var hN hv hd hcd, se_var⟩
def qC (d : D) : QE := fun Γ R _ => R (.sh d) Γ
theorem se_c {v : V} {d : D} (h : ∀ F, Rp F v d) : SE W (tC v) (qC d) := fun {B F Γ σ H fp} R EX Q r q k _ => k _ _ _ _ _ _ .refl r (.sh (h F)) q
theorem d_int {i j} : DE X W (.Constant (.int i) j pos) (tC (.int i)) (qC (.int i)) := ⟨pe_int, se_c fun _ => .int i⟩
theorem d_bl {i j} : DE X W (.Constant (.bool i) j pos) (tC (.bl i)) (qC (.bool i)) := ⟨pe_bl, se_c fun _ => .bl i⟩
theorem d_non {j} : DE X W (.Constant .none j pos) (tC .non) (qC .none) := ⟨pe_non, se_c fun _ => .non⟩
theorem d_str {x j} (h : PyData.strOk x = true := by decide +kernel) : DE X W (.Constant (.str x) j pos) (tC (.str x)) (qC (.str x)) := ⟨pe_str, se_c fun _ => .str x h⟩
/-- a constant of the module: a text, an int -/
theorem d_gs {x y : Str} {t : Tok} (hm : X.mg x = some (.str y t)) (h : PyData.strOk y = true) (hg : Gl X x := by rfl) (hd : (x == ("__debug__" : Str)) = false := by decide) : DE X W (.Name x pos) (tC (.str y)) (qC (.str y)) := ⟨pe_glob hg hm ⟨_, rfl⟩ hd, se_c fun _ => .str y h⟩
theorem d_gi {x : Str} {i : Int} {t : Tok} (hm : X.mg x = some (.int i t)) (hg : Gl X x := by rfl) (hd : (x == ("__debug__" : Str)) = false := by decide) : DE X W (.Name x pos) (tC (.int i)) (qC (.int i)) := ⟨pe_glob hg hm ⟨_, rfl⟩ hd, se_c fun _ => .int i⟩

/-! ### operations on two values that are looked at -/
abbrev OP2 := D → D → (Wv → Prop) → Prop
def OpS (r : R2) (o : OP2) : Prop := ∀ {B F : Hp} {Γ : Ev} {σ : L2.St} {H : Hp} {fp : Nat → List Addr} {x y : V} {d1 d2 : D} (k : Wv → Prop) (Q : VK), Rel B F Γ σ H fp → Rb F H x d1 → Rb F H y d2 → o d1 d2 k →
  (∀ w v F' H', Ext B F F' → Rel B F' Γ σ H' fp → RW B F' Γ σ H' fp v w → k w → Q v H') → r x y H Q
def qOp (o : OP2) (pa pb : QE) : QE := fun Γ R E => pa Γ (fun w1 Γ1 => pb Γ1 (fun w2 Γ2 => bor w1 Γ2 fun d1 => bor w2 Γ2 fun d2 => o d1 d2 fun w => R w Γ2) E) E
theorem se_two (ha : SE W ta pa) (hb : SE W tb pb) {Z : Wv → Wv → Ev → Prop} {EX : EXP} {B F : Hp} {Γ : Ev} {σ : L2.St} {H : Hp} {fp : Nat → List Addr} (r : Rel B F Γ σ H fp)
    (h : pa Γ (fun w1 Γ1 => pb Γ1 (fun w2 Γ2 => Z w1 w2 Γ2) EX) EX) {T : V → V → Hp → Prop}
    (k : ∀ w1 w2 Γ' x y F' H' fp', Ext B F F' → Rel B F' Γ' σ H' fp' → RW B F' Γ' σ H' fp' x w1 → RW B F' Γ' σ H' fp' y w2 → Z w1 w2 Γ' → T x y H') (e : AfE W B F σ EX) : ta σ H fun x H1 => tb σ H1 fun y H2 => T x y H2 := by
  refine ha _ EX _ r h (fun w1 Γ1 x F1 H1 fp1 x1 r1 v1 h1 => ?_) e
  obtain ⟨B', r1', g⟩ := r1.guard v1
  refine hb _ EX _ r1' h1 (fun w2 Γ2 y F2 H2 fp2 x2 r2 v2 h2 => ?_) fun c Γ' F' H' fp' x2 r2 q => ?_
  · obtain ⟨x3, r3, v3, g2⟩ := g F2 Γ2 H2 fp2 x2 r2
    exact k w1 w2 Γ2 x y F2 H2 fp2 (x1.trans x3) r3 v3 (g2 _ _ v2) h2
  · obtain ⟨x3, r3, _, _⟩ := g F' Γ' H' fp' x2 r2
    exact e c Γ' F' H' fp' (x1.trans x3) r3 q
theorem se_op {r : R2} {o : OP2} (hs : OpS r o) (ha : SE W ta pa) (hb : SE W tb pb) : SE W (tOp r ta tb) (qOp o pa pb) := fun {B F Γ σ H fp} R EX Q rr h k e => by
  refine se_two ha hb rr h (Z := fun w1 w2 Γ2 => bor w1 Γ2 fun d1 => bor w2 Γ2 fun d2 => o d1 d2 fun w => R w Γ2) (fun w1 w2 Γ' x y F' H' fp' x1 r1 v1 v2 z => ?_) e
  obtain ⟨d1, b1, z⟩ := bor_rb r1 v1 z
  obtain ⟨d2, b2, z⟩ := bor_rb r1 v2 z
  exact hs _ Q r1 b1 b2 z fun w v F2 H2 x2 r2 q2 kk => k w Γ' v F2 H2 fp' (x1.trans x2) r2 q2 kk
theorem d_op {op : Operator} {r : R2} {o : OP2} (ho : OpR X (binaryOp op) r) (hs : OpS r o) (ha : DE X W a ta pa) (hb : DE X W b tb pb) : DE X W (.BinOp a op b pos) (tOp r ta tb) (qOp o pa pb) := ⟨pe_op ho ha.pe hb.pe, se_op hs ha.se hb.se⟩
theorem d_cmp {op : CmpOp} {r : R2} {o : OP2} (ho : OpR X (compareOp op) r) (hs : OpS r o) (ha : DE X W a ta pa) (hb : DE X W b tb pb) (hm : behindInMarks op b = false := by first | exact nomark _ | with_unfolding_all rfl) :
    DE X W (.Compare a [op] [b] pos) (tOp r ta tb) (qOp o pa pb) := ⟨pe_cmpR ho ha.pe hb.pe hm, se_op hs ha.se hb.se⟩
theorem d_ix {r : R2} {o : OP2} (ho : IxR X r) (hs : OpS r o) (ha : DE X W a ta pa) (hb : DE X W b tb pb) (hx : PlainIx b := by exact fun _ _ => rfl) : DE X W (.Subscript a b pos) (tOp r ta tb) (qOp o pa pb) := ⟨pe_ix ho ha.pe hb.pe hx, se_op hs ha.se hb.se⟩
abbrev OP1 := D → (Wv → Prop) → Prop
def UnS (r : V → Hp → VK → Prop) (o : OP1) : Prop := ∀ {B F : Hp} {Γ : Ev} {σ : L2.St} {H : Hp} {fp : Nat → List Addr} {x : V} {d : D} (k : Wv → Prop) (Q : VK), Rel B F Γ σ H fp → Rb F H x d → o d k →
  (∀ w v F' H', Ext B F F' → Rel B F' Γ σ H' fp → RW B F' Γ σ H' fp v w → k w → Q v H') → r x H Q
def qUn (o : OP1) (pa : QE) : QE := fun Γ R E => pa Γ (fun w1 Γ1 => bor w1 Γ1 fun d => o d fun w => R w Γ1) E
theorem se_un {r : V → Hp → VK → Prop} {o : OP1} (hs : UnS r o) (ha : SE W ta pa) : SE W (tUn r ta) (qUn o pa) := fun {B F Γ σ H fp} R EX Q rr h k e => by
  refine ha _ EX _ rr h (fun w1 Γ1 x F1 H1 fp1 x1 r1 v1 h1 => ?_) e
  obtain ⟨d, b, z⟩ := bor_rb r1 v1 h1
  exact hs _ Q r1 b z fun w v F2 H2 x2 r2 q2 kk => k w Γ1 v F2 H2 fp1 (x1.trans x2) r2 q2 kk
theorem d_un {op : UnaryOp} {r : V → Hp → VK → Prop} {o : OP1} (ho : UnR X (unaryOp op) r) (hs : UnS r o) (ha : DE X W a ta pa) : DE X W (.UnaryOp op a pos) (tUn r ta) (qUn o pa) := ⟨pe_un ho ha.pe, se_un hs ha.se⟩

/-! ### tests -/
/-- a value that is a bool, as a test -/
def qB (p : QE) : QT := fun Γ R E => p Γ (fun w Γ1 => match w with
  | .sh (.bool b) => R b Γ1
  | _ => False) E
theorem st_tt (ha : SE W ta pa) : ST W (tTest ta) (qB pa) := fun {B F Γ σ H fp} R EX Q r h k e => by
  refine ha _ EX _ r h (fun w Γ1 v F1 H1 fp1 x1 r1 v1 h1 => ?_) e
  split at h1
  · rename_i b
    cases v1 with
    | sh q =>
      cases q
      exact ⟨b, rfl, k b Γ1 F1 H1 fp1 x1 r1 h1⟩
  · exact h1.elim
theorem d_tcmp {op : CmpOp} {r : R2} {o : OP2} (ho : OpR X (compareOp op) r) (hs : OpS r o) (ha : DE X W a ta pa) (hb : DE X W b tb pb) (hm : behindInMarks op b = false := by first | exact nomark _ | with_unfolding_all rfl) :
    DT X W (.Compare a [op] [b] pos) (tTest (tOp r ta tb)) (qB (qOp o pa pb)) := ⟨pt_cmpR ho ha.pe hb.pe hm, st_tt (se_op hs ha.se hb.se)⟩
/-- the truth of any value -/
def truD : D → Option Bool
  | .none => some false
  | .bool b => some b
  | .int i => some (i != 0)
  | .str x => some ((x.length : Int) != 0)
  | .list xs => some (!xs.isEmpty)
  | .tuple xs => some (!xs.isEmpty)
  | .dict _ => Option.none
def truOk : D → Prop
  | .str x => x.length ≤ sizeLine
  | _ => True
def qTru (p : QE) : QT := fun Γ R E => p Γ (fun w Γ1 => bor w Γ1 fun d => truOk d ∧ match truD d with
  | some b => R b Γ1
  | none => False) E
theorem tru_rb {K : PySem.W.Frag} {F H : Hp} {v : V} {d : D} {b : Bool} (h : Rb F H v d) (e : truD d = some b) (hs : truOk d) : TruV K v H b := by
  cases h with
  | non => exact (Option.some.inj e).symm
  | bl b => exact (Option.some.inj e).symm
  | int i => exact (Option.some.inj e).symm
  | str x _ => exact ⟨hs, (Option.some.inj e).symm⟩
  | lst h r =>
    refine .inl ⟨_, .inl (.inl h), ?_⟩
    rw [← Option.some.inj e]
    cases r <;> rfl
  | tup _ h r =>
    refine .inr (.inl ⟨_, .inl (.inl h), ?_⟩)
    rw [← Option.some.inj e]
    cases r <;> rfl
  | dk h r => cases e
  | dt h r => cases e
  | fz h r => cases e
theorem st_tru {K : PySem.W.Frag} (ha : SE W ta pa) : ST W (fun σ H Q => ta σ H fun x H' => ∃ k, TruV K x H' k ∧ Q k H') (qTru pa) := fun {B F Γ σ H fp} R EX Q r h k e => by
  refine ha _ EX _ r h (fun w Γ1 v F1 H1 fp1 x1 r1 v1 h1 => ?_) e
  obtain ⟨d, b, hs, h2⟩ := bor_rb r1 v1 h1
  split at h2
  · rename_i c hc
    exact ⟨c, tru_rb b hc hs, k c Γ1 F1 H1 fp1 x1 r1 h2⟩
  · exact h2.elim
theorem d_tru (ha : DE X W a ta pa) (he : ∀ whole, isTrue a X.env whole = (do let v ← whole; standAt a.pos; holding [v] (truthy v)) := by intro _; rfl) :
    DT X W a (fun σ H Q => ta σ H fun x H' => ∃ k, TruV X.K x H' k ∧ Q k H') (qTru pa) := ⟨pt_truth ha.pe he, st_tru ha.se⟩
/-- a call or name that gives a bool -/
theorem d_tb (ha : DE X W a ta pa) (he : ∀ whole, isTrue a X.env whole = (do let v ← whole; standAt a.pos; holding [v] (truthy v)) := by intro _; rfl) : DT X W a (tB ta) (qB pa) := ⟨pt_val ha.pe he, st_tt ha.se⟩

variable {tA tB' : TT} {qa qb : QT} {rest : List Expr}
structure DW (X : Cx) (W : WX) (e : Expr) (tt : TT) (p : QT) : Prop where
  pw : PW X e tt
  st : ST W tt p
def qAnd (p q : QT) : QT := fun Γ R E => p Γ (fun c Γ1 => Cif c (q Γ1 R E) (R false Γ1)) E
def qOr (p q : QT) : QT := fun Γ R E => p Γ (fun c Γ1 => Cif c (R true Γ1) (q Γ1 R E)) E
def qNot (p : QT) : QT := fun Γ R E => p Γ (fun c Γ1 => R (!c) Γ1) E
theorem st_and (ha : ST W tA qa) (hb : ST W tB' qb) : ST W (tAnd tA tB') (qAnd qa qb) := fun {B F Γ σ H fp} R EX Q r h k e => by
  refine ha _ EX _ r h (fun c Γ1 F1 H1 fp1 x1 r1 h1 => ?_) e
  cases c with
  | true => exact hb _ EX _ r1 (h1.t rfl) (fun c Γ2 F2 H2 fp2 x2 r2 h2 => k c Γ2 F2 H2 fp2 (x1.trans x2) r2 h2) (e.mono x1)
  | false => exact k false Γ1 F1 H1 fp1 x1 r1 (h1.f rfl)
theorem st_or (ha : ST W tA qa) (hb : ST W tB' qb) : ST W (tOr tA tB') (qOr qa qb) := fun {B F Γ σ H fp} R EX Q r h k e => by
  refine ha _ EX _ r h (fun c Γ1 F1 H1 fp1 x1 r1 h1 => ?_) e
  cases c with
  | false => exact hb _ EX _ r1 (h1.f rfl) (fun c Γ2 F2 H2 fp2 x2 r2 h2 => k c Γ2 F2 H2 fp2 (x1.trans x2) r2 h2) (e.mono x1)
  | true => exact k true Γ1 F1 H1 fp1 x1 r1 (h1.t rfl)
theorem dw_and1 (ha : DT X W a tA qa) : DW X W (.BoolOp .And [a] pos) tA qa := ⟨pw_and1 ha.pt, ha.st⟩
theorem dw_or1 (ha : DT X W a tA qa) : DW X W (.BoolOp .Or [a] pos) tA qa := ⟨pw_or1 ha.pt, ha.st⟩
theorem dw_and (ha : DT X W a tA qa) (hb : DW X W (.BoolOp .And (b :: rest) pos) tB' qb) : DW X W (.BoolOp .And (a :: b :: rest) pos) (tAnd tA tB') (qAnd qa qb) := ⟨pw_and ha.pt hb.pw, st_and ha.st hb.st⟩
theorem dw_or (ha : DT X W a tA qa) (hb : DW X W (.BoolOp .Or (b :: rest) pos) tB' qb) : DW X W (.BoolOp .Or (a :: b :: rest) pos) (tOr tA tB') (qOr qa qb) := ⟨pw_or ha.pt hb.pw, st_or ha.st hb.st⟩
theorem DW.dt {e : Expr} (h : DW X W e tA qa) : DT X W e tA qa := ⟨h.pw.pt, h.st⟩
theorem dt_not (ha : DT X W a tA qa) : DT X W (.UnaryOp .Not a pos) (tNot tA) (qNot qa) := ⟨pt_not ha.pt, fun {B F Γ σ H fp} R EX Q r h k e => ha.st _ EX _ r h (fun c Γ1 F1 H1 fp1 x1 r1 h1 => k (!c) Γ1 F1 H1 fp1 x1 r1 h1) e⟩
/-- .. as values (bools) -/
def qAndV (p q : QE) : QE := fun Γ R E => p Γ (fun w Γ1 => match w with
  | .sh (.bool c) => Cif c (q Γ1 R E) (R (.sh (.bool false)) Γ1)
  | _ => False) E
def qOrV (p q : QE) : QE := fun Γ R E => p Γ (fun w Γ1 => match w with
  | .sh (.bool c) => Cif c (R (.sh (.bool true)) Γ1) (q Γ1 R E)
  | _ => False) E
def qNotV (p : QE) : QE := fun Γ R E => p Γ (fun w Γ1 => match w with
  | .sh (.bool c) => R (.sh (.bool (!c))) Γ1
  | _ => False) E
theorem d_one {op} (ha : DE X W a ta pa) : DE X W (.BoolOp op [a] pos) ta pa := ⟨pe_one ha.pe, ha.se⟩
theorem d_and (ha : DE X W a ta pa) (hb : DE X W (.BoolOp .And (b :: rest) pos) tb pb) : DE X W (.BoolOp .And (a :: b :: rest) pos) (tAndV ta tb) (qAndV pa pb) := ⟨pe_and ha.pe hb.pe, fun {B F Γ σ H fp} R EX Q r h k e => by
  refine ha.se _ EX _ r h (fun w Γ1 v F1 H1 fp1 x1 r1 v1 h1 => ?_) e
  split at h1
  · rename_i c
    cases v1 with
    | sh q =>
      cases q
      refine ⟨c, rfl, ?_⟩
      cases c with
      | true => exact hb.se _ EX _ r1 (h1.t rfl) (fun w Γ2 v F2 H2 fp2 x2 r2 v2 h2 => k w Γ2 v F2 H2 fp2 (x1.trans x2) r2 v2 h2) (e.mono x1)
      | false => exact k _ Γ1 _ F1 H1 fp1 x1 r1 (.sh (.bl false)) (h1.f rfl)
  · exact h1.elim⟩
theorem d_or (ha : DE X W a ta pa) (hb : DE X W (.BoolOp .Or (b :: rest) pos) tb pb) : DE X W (.BoolOp .Or (a :: b :: rest) pos) (tOrV ta tb) (qOrV pa pb) := ⟨pe_or ha.pe hb.pe, fun {B F Γ σ H fp} R EX Q r h k e => by
  refine ha.se _ EX _ r h (fun w Γ1 v F1 H1 fp1 x1 r1 v1 h1 => ?_) e
  split at h1
  · rename_i c
    cases v1 with
    | sh q =>
      cases q
      refine ⟨c, rfl, ?_⟩
      cases c with
      | false => exact hb.se _ EX _ r1 (h1.f rfl) (fun w Γ2 v F2 H2 fp2 x2 r2 v2 h2 => k w Γ2 v F2 H2 fp2 (x1.trans x2) r2 v2 h2) (e.mono x1)
      | true => exact k _ Γ1 _ F1 H1 fp1 x1 r1 (.sh (.bl true)) (h1.t rfl)
  · exact h1.elim⟩
theorem d_not (ha : DE X W a ta pa) : DE X W (.UnaryOp .Not a pos) (tNotV ta) (qNotV pa) := ⟨pe_not ha.pe, fun {B F Γ σ H fp} R EX Q r h k e => by
  refine ha.se _ EX _ r h (fun w Γ1 v F1 H1 fp1 x1 r1 v1 h1 => ?_) e
  split at h1
  · rename_i c
    cases v1 with
    | sh q =>
      cases q
      exact ⟨c, rfl, k _ Γ1 _ F1 H1 fp1 x1 r1 (.sh (.bl (!c))) h1⟩
  · exact h1.elim⟩
def qIf (t : QT) (p q : QE) : QE := fun Γ R E => t Γ (fun c Γ1 => Cif c (p Γ1 R E) (q Γ1 R E)) E
theorem d_if {cc : Expr} (hc : DT X W cc tA qa) (ha : DE X W a ta pa) (hb : DE X W b tb pb) : DE X W (.IfExp cc a b pos) (tIf tA ta tb) (qIf qa pa pb) := ⟨pe_ifExp hc.pt ha.pe hb.pe, fun {B F Γ σ H fp} R EX Q r h k e => by
  refine hc.st _ EX _ r h (fun c Γ1 F1 H1 fp1 x1 r1 h1 => ?_) e
  cases c with
  | true => exact ha.se _ EX _ r1 (h1.t rfl) (fun w Γ2 v F2 H2 fp2 x2 r2 v2 h2 => k w Γ2 v F2 H2 fp2 (x1.trans x2) r2 v2 h2) (e.mono x1)
  | false => exact hb.se _ EX _ r1 (h1.f rfl) (fun w Γ2 v F2 H2 fp2 x2 r2 v2 h2 => k w Γ2 v F2 H2 fp2 (x1.trans x2) r2 v2 h2) (e.mono x1)⟩
/-- a op1 b op2 c, all looked at -/
def qChain (o o' : OP2) (pa pb pc : QE) : QE := fun Γ R E => pa Γ (fun w1 Γ1 => pb Γ1 (fun w2 Γ2 => bor w1 Γ2 fun d1 => bor w2 Γ2 fun d2 => o d1 d2 fun w => match w with
  | .sh (.bool k) => Cif k (pc Γ2 (fun w3 Γ3 => bor w2 Γ3 fun d2' => bor w3 Γ3 fun d3 => o' d2' d3 fun w => R w Γ3) E) (R (.sh (.bool false)) Γ2)
  | _ => False) E) E
theorem se_chain {r r' : R2} {o o' : OP2} (hs : OpS r o) (hs' : OpS r' o') (ha : SE W ta pa) (hb : SE W tb pb) (hc : SE W tc pc) : SE W (tChain r r' ta tb tc) (qChain o o' pa pb pc) := fun {B F Γ σ H fp} R EX Q rr h k e => by
  refine se_two ha hb rr h (Z := fun w1 w2 Γ2 => bor w1 Γ2 fun d1 => bor w2 Γ2 fun d2 => o d1 d2 fun w => match w with
    | .sh (.bool k) => Cif k (pc Γ2 (fun w3 Γ3 => bor w2 Γ3 fun d2' => bor w3 Γ3 fun d3 => o' d2' d3 fun w => R w Γ3) EX) (R (.sh (.bool false)) Γ2)
    | _ => False) (fun w1 w2 Γ' x y F' H' fp' x1 r1 v1 v2 z => ?_) e
  obtain ⟨B', r1', g⟩ := r1.guard v2
  obtain ⟨d1, b1, z⟩ := bor_rb r1 v1 z
  obtain ⟨d2, b2, z⟩ := bor_rb r1 v2 z
  refine hs _ _ r1' b1 b2 z fun w v F2 H2 x2 r2 q2 kk => ?_
  split at kk
  · rename_i c
    cases q2 with
    | sh q =>
      cases q
      refine ⟨c, rfl, ?_⟩
      obtain ⟨x3, r3, v3, _⟩ := g F2 Γ' H2 fp' x2 r2
      cases c with
      | true =>
        obtain ⟨B'', r3', g'⟩ := r3.guard v3
        refine hc _ EX _ r3' (kk.t rfl) (fun w3 Γ3 y3 F4 H4 fp4 x4 r4 v4 h4 => ?_) fun c Γ' F' H' fp' x2 r2 q => ?_
        · obtain ⟨x5, r5, v5, g5⟩ := g' F4 Γ3 H4 fp4 x4 r4
          obtain ⟨e1, c1, z1⟩ := bor_rb r5 v5 h4
          obtain ⟨e2, c2, z2⟩ := bor_rb r5 (g5 _ _ v4) z1
          exact hs' _ Q r5 c1 c2 z2 fun w v F6 H6 x6 r6 q6 kk => k w Γ3 v F6 H6 fp4 (((x1.trans x3).trans x5).trans x6) r6 q6 kk
        · obtain ⟨x5, r5, _, _⟩ := g' F' Γ' H' fp' x2 r2
          exact e c Γ' F' H' fp' ((x1.trans x3).trans x5) r5 q
      | false => exact k _ Γ' _ F2 H2 fp' (x1.trans x3) r3 (.sh (.bl false)) (kk.f rfl)
  · exact kk.elim
theorem d_chain {op op' : CmpOp} {r r' : R2} {o o' : OP2} (ho : OpR X (compareOp op) r) (ho' : OpR X (compareOp op') r') (hs : OpS r o) (hs' : OpS r' o') (ha : DE X W a ta pa) (hb : DE X W b tb pb) (hc : DE X W c tc pc)
    (hm : lastMarks [op, op'] [b, c] = false := by with_unfolding_all rfl) : DE X W (.Compare a [op, op'] [b, c] pos) (tChain r r' ta tb tc) (qChain o o' pa pb pc) := ⟨pe_chain ho ho' ha.pe hb.pe hc.pe hm, se_chain hs hs' ha.se hb.se hc.se⟩
theorem d_tchain {op op' : CmpOp} {r r' : R2} {o o' : OP2} (ho : OpR X (compareOp op) r) (ho' : OpR X (compareOp op') r') (hs : OpS r o) (hs' : OpS r' o') (ha : DE X W a ta pa) (hb : DE X W b tb pb) (hc : DE X W c tc pc)
    (hm : lastMarks [op, op'] [b, c] = false := by with_unfolding_all rfl) : DT X W (.Compare a [op, op'] [b, c] pos) (tTest (tChain r r' ta tb tc)) (qB (qChain o o' pa pb pc)) := ⟨pt_chain ho ho' ha.pe hb.pe hc.pe hm, st_tt (se_chain hs hs' ha.se hb.se hc.se)⟩

/-! ### argument lists, taken for good; displays -/
variable {es : List Expr} {tr : TA} {pr : QA} {e : Expr}
def qNil : QA := fun Γ R _ => R [] Γ
def qCons (p : QE) (q : QA) : QA := fun Γ R E => p Γ (fun w Γ1 => shr w Γ1 fun d Γ2 => q Γ2 (fun ds Γ3 => R (d :: ds) Γ3) E) E
theorem da_nil : DA X W [] tNil qNil := ⟨pa_nil, fun {B F Γ σ H fp} R EX Q r h k _ => k [] Γ [] F H fp .refl r .nil h⟩
theorem sa_cons (ha : SE W ta pa) (hr : SA W tr pr) : SA W (tCons ta tr) (qCons pa pr) := fun {B F Γ σ H fp} R EX Q r h k e => by
  refine ha _ EX _ r h (fun w Γ1 v F1 H1 fp1 x1 r1 v1 h1 => ?_) e
  obtain ⟨d, Γ2, F2, fp2, x2, r2, b2, h2⟩ := shr_ok r1 v1 h1
  refine hr _ EX _ r2 h2 (fun ds Γ3 vs F3 H3 fp3 x3 r3 b3 h3 => ?_) (e.mono (x1.trans x2))
  exact k _ Γ3 _ F3 H3 fp3 ((x1.trans x2).trans x3) r3 (.cons (b2.mono x3.same) b3) h3
theorem da_cons (ha : DE X W e ta pa) (hr : DA X W es tr pr) (hs : starEach (e :: es) X.env = (false, eval e X.env) :: starEach es X.env := by rfl) : DA X W (e :: es) (tCons ta tr) (qCons pa pr) := ⟨pa_cons ha.pe hr.pa hs, sa_cons ha.se hr.sa⟩
def qTup (p : QA) : QE := fun Γ R E => p Γ (fun ds Γ1 => ds.length ≤ sizeLine ∧ R (.sh (.tuple ds)) Γ1) E
def qLst (p : QA) : QE := fun Γ R E => p Γ (fun ds Γ1 => ds.length ≤ sizeLine ∧ R (.ow (.l ds)) Γ1) E
theorem new_tup {B F : Hp} {Γ : Ev} {σ : L2.St} {H : Hp} {fp : Nat → List Addr} {p : Addr} {vs : List V} {ds : List D} (r : Rel B F Γ σ H fp) (h : RpA F vs ds) (hp : H p = none) :
    Ext B F (upd F p (.tup vs)) ∧ Rel B (upd F p (.tup vs)) Γ σ (upd H p (.tup vs)) fp ∧ RW B (upd F p (.tup vs)) Γ σ (upd H p (.tup vs)) fp (.ref p) (.sh (.tuple ds)) := by
  obtain ⟨x, r'⟩ := r.newF (o := .tup vs) hp
  exact ⟨x, r', .sh (.tup upd_same (h.mono x.same))⟩
theorem new_lst {B F : Hp} {Γ : Ev} {σ : L2.St} {H : Hp} {fp : Nat → List Addr} {p : Addr} {vs : List V} {ds : List D} (r : Rel B F Γ σ H fp) (h : RpA F vs ds) (hp : H p = none) :
    Rel B F Γ σ (upd H p (.lst vs)) fp ∧ RW B F Γ σ (upd H p (.lst vs)) fp (.ref p) (.ow (.l ds)) := by
  refine ⟨r.new hp, .ow (.l upd_same h) fun a ha => ?_⟩
  simp only [List.mem_singleton] at ha
  subst ha
  exact free_of r hp
theorem d_tup {x1} (h : DA X W es tr pr) : DE X W (.Tuple es x1 pos) (tTup tr) (qTup pr) := ⟨pe_tup h.pa, fun {B F Γ σ H fp} R EX Q r q k e => h.sa _ EX _ r q (fun ds Γ1 vs F1 H1 fp1 x1 r1 b1 h1 => ⟨by rw [b1.length]; exact h1.1, fun p hp => by
  obtain ⟨x2, r2, v2⟩ := new_tup r1 b1 hp
  exact k _ Γ1 _ _ _ fp1 (x1.trans x2) r2 v2 h1.2⟩) e⟩
theorem d_lst (h : DA X W es tr pr) : DE X W (.List es pos) (tLst tr) (qLst pr) := ⟨pe_lst h.pa, fun {B F Γ σ H fp} R EX Q r q k e => h.sa _ EX _ r q (fun ds Γ1 vs F1 H1 fp1 x1 r1 b1 h1 => ⟨by rw [b1.length]; exact h1.1, fun p hp => by
  obtain ⟨r2, v2⟩ := new_lst r1 b1 hp
  exact k _ Γ1 _ _ _ fp1 x1 r2 v2 h1.2⟩) e⟩
end
end PL

namespace PL
open PySem PySem.Spec PyProof.Rows L2

section
variable {B F : Hp} {Γ : Ev} {σ : L2.St} {H : Hp} {fp : Nat → List Addr} {v : V} {w : Wv}

/-! ### slots stored -/
/-- slot i holds a datum -/
theorem Rel.setSh (r : Rel B F Γ σ H fp) {d : D} (h : Rp F v d) (i : Nat) : Rel B F (Γ.set i (.sh d)) (σ.set i (some v)) H (dropF fp i) := by
  refine ⟨r.bx, r.fx, by rw [List.length_set, List.length_set]; exact r.len, fun j d' q => ?_, fun j u q => ?_, fun j a ha => r.nb j a (mem_dropF ha).2, fun j k a ha hb => r.dj j k a (mem_dropF ha).2 (mem_dropF hb).2, fun j a q => by
    obtain ⟨hj, q⟩ := ex_ne (fun _ => Sl.noConfusion) q
    rw [List.getElem?_set_ne hj]
    exact r.ex j a q⟩
  · by_cases hj : i = j
    · subst hj
      rw [List.getElem?_set] at q
      split at q
      · split at q
        · rename_i hl
          cases q
          exact ⟨v, by rw [List.getElem?_set_self (by rw [← r.len]; exact hl)], h⟩
        · cases q
      · rename_i hn
        exact absurd rfl hn
    · rw [List.getElem?_set_ne hj] at q
      obtain ⟨u, g1, g2⟩ := r.sh j d' q
      exact ⟨u, by rw [List.getElem?_set_ne hj]; exact g1, g2⟩
  · by_cases hj : i = j
    · subst hj
      rw [List.getElem?_set] at q
      split at q
      · split at q <;> cases q
      · rename_i hn
        exact absurd rfl hn
    · rw [List.getElem?_set_ne hj] at q
      obtain ⟨u, g1, g2⟩ := r.ow j _ q
      refine ⟨u, by rw [List.getElem?_set_ne hj]; exact g1, ?_⟩
      rw [dropF_ne (Ne.symm hj)]
      exact g2
/-- slot i holds an own object that nothing else holds -/
theorem Rel.setOw (r : Rel B F Γ σ H fp) {o : O} {f : List Addr} (h : RO F H v o f) (hf : ∀ a ∈ f, B a = none ∧ F a = none ∧ ∀ j, j ≠ i → a ∉ fp j) (i : Nat) (hi : ∀ a ∈ f, B a = none ∧ F a = none ∧ ∀ j, j ≠ i → a ∉ fp j) :
    Rel B F (Γ.set i (.ow o)) (σ.set i (some v)) H (putF fp i f) := by
  refine ⟨r.bx, r.fx, by rw [List.length_set, List.length_set]; exact r.len, fun j d' q => ?_, fun j u q => ?_, fun j a ha => ?_, fun j k a ha hb => ?_, fun j a q => by
    obtain ⟨hj, q⟩ := ex_ne (fun _ => Sl.noConfusion) q
    rw [List.getElem?_set_ne hj]
    exact r.ex j a q⟩
  · by_cases hj : i = j
    · subst hj
      rw [List.getElem?_set] at q
      split at q
      · split at q <;> cases q
      · rename_i hn
        exact absurd rfl hn
    · rw [List.getElem?_set_ne hj] at q
      obtain ⟨u, g1, g2⟩ := r.sh j d' q
      exact ⟨u, by rw [List.getElem?_set_ne hj]; exact g1, g2⟩
  · by_cases hj : i = j
    · subst hj
      rw [List.getElem?_set] at q
      split at q
      · split at q
        · rename_i hl
          cases q
          refine ⟨v, by rw [List.getElem?_set_self (by rw [← r.len]; exact hl)], ?_⟩
          rw [putF_same]
          exact h
        · cases q
      · rename_i hn
        exact absurd rfl hn
    · rw [List.getElem?_set_ne hj] at q
      obtain ⟨u, g1, g2⟩ := r.ow j _ q
      refine ⟨u, by rw [List.getElem?_set_ne hj]; exact g1, ?_⟩
      rw [putF_ne (Ne.symm hj)]
      exact g2
  · by_cases hj : j = i
    · subst hj
      rw [putF_same] at ha
      exact ⟨(hi a ha).1, (hi a ha).2.1, h.mem a ha⟩
    · rw [putF_ne hj] at ha
      exact r.nb j a ha
  · by_cases hj : j = i
    · subst hj
      by_cases hk : k = j
      · exact hk.symm
      · rw [putF_same] at ha
        rw [putF_ne hk] at hb
        exact absurd hb ((hi a ha).2.2 k hk)
    · by_cases hk : k = i
      · subst hk
        rw [putF_same] at hb
        rw [putF_ne hj] at ha
        exact absurd ha ((hi a hb).2.2 j hj)
      · rw [putF_ne hj] at ha
        rw [putF_ne hk] at hb
        exact r.dj j k a ha hb
def setSl (i : Nat) (w : Wv) (Γ : Ev) (k : Ev → Prop) : Prop :=
  match w with
  | .sh d => k (Γ.set i (.sh d))
  | .ow o => k (Γ.set i (.ow o))
  | .at j => match Γ[j]? with
    | some (.sh d) => k (Γ.set i (.sh d))
    | some (.ow o) => k ((Γ.set j (.sh o.toD)).set i (.sh o.toD))
    | _ => False
theorem setSl_ok {k : Ev → Prop} {i : Nat} (r : Rel B F Γ σ H fp) (h : RW B F Γ σ H fp v w) (q : setSl i w Γ k) : ∃ Γ' F' fp', Ext B F F' ∧ Rel B F' Γ' (σ.set i (some v)) H fp' ∧ k Γ' := by
  cases h with
  | sh h => exact ⟨_, F, _, .refl, r.setSh h i, q⟩
  | @ow o f h hf => exact ⟨_, F, _, .refl, r.setOw (i := i) h (fun a ha => ⟨(hf a ha).1, (hf a ha).2.1, fun j _ => (hf a ha).2.2 j⟩) i fun a ha => ⟨(hf a ha).1, (hf a ha).2.1, fun j _ => (hf a ha).2.2 j⟩, q⟩
  | @«at» j h =>
    unfold setSl at q
    simp only at q
    split at q
    · rename_i d e
      obtain ⟨u, h1, h2⟩ := r.sh j d e
      rw [h] at h1
      cases h1
      exact ⟨_, F, _, .refl, r.setSh h2 i, q⟩
    · rename_i o e
      obtain ⟨u, h1, x, r', h2⟩ := r.freezeAt e
      rw [h] at h1
      cases h1
      exact ⟨_, _, _, x, r'.setSh h2 i, q⟩
    · exact q.elim
end

/-! ### targets -/
/-- only the slots js change -/
def Chg (js : List Nat) (σ σ' : L2.St) : Prop := σ'.length = σ.length ∧ ∀ i, i ∉ js → σ'[i]? = σ[i]?
theorem Chg.trans {js ks : List Nat} {σ σ1 σ2 : L2.St} (a : Chg js σ σ1) (b : Chg ks σ1 σ2) : Chg (js ++ ks) σ σ2 :=
  ⟨b.1.trans a.1, fun i h => (b.2 i fun z => h (List.mem_append_right _ z)).trans (a.2 i fun z => h (List.mem_append_left _ z))⟩
abbrev QG := Wv → Ev → (Ev → Prop) → Prop
abbrev QGs := List D → Ev → (Ev → Prop) → Prop
def SG (g : TG) (q : QG) (js : List Nat) : Prop := ∀ {B F : Hp} {Γ : Ev} {σ : L2.St} {H : Hp} {fp : Nat → List Addr} {v : V} {w : Wv} (k : Ev → Prop) (Q : L2.St → Hp → Prop), Rel B F Γ σ H fp → RW B F Γ σ H fp v w → q w Γ k →
  (∀ Γ' F' σ' fp', Ext B F F' → Rel B F' Γ' σ' H fp' → Chg js σ σ' → k Γ' → Q σ' H) → g v σ H Q
def SGs (g : TGs) (q : QGs) (js : List Nat) : Prop := ∀ {B F : Hp} {Γ : Ev} {σ : L2.St} {H : Hp} {fp : Nat → List Addr} {vs : List V} {ds : List D} (k : Ev → Prop) (Q : L2.St → Hp → Prop), Rel B F Γ σ H fp → RpA F vs ds → q ds Γ k →
  (∀ Γ' F' σ' fp', Ext B F F' → Rel B F' Γ' σ' H fp' → Chg js σ σ' → k Γ' → Q σ' H) → g vs σ H Q
structure DG (X : Cx) (tg : Expr) (g : TG) (q : QG) (js : List Nat) : Prop where
  pg : PG X tg g
  sg : SG g q js
structure DGs (X : Cx) (tgs : List Expr) (g : TGs) (q : QGs) (js : List Nat) : Prop where
  pg : PGs X tgs g
  sg : SGs g q js
section
variable {X : Cx} {pos : Pos}
def qgN (i : Nat) : QG := fun w Γ k => setSl i w Γ k
theorem sg_name {i : Nat} : SG (gName i) (qgN i) [i] := fun {B F Γ σ H fp v w} k Q r h q c => by
  obtain ⟨Γ', F', fp', x, r', z⟩ := setSl_ok r h q
  exact c Γ' F' _ fp' x r' ⟨by rw [List.length_set], fun j hj => List.getElem?_set_ne fun e => hj (by simp [e])⟩ z
theorem dg_name {i : Nat} {x : Str} (hN : X.N.Nodup) (hi : X.N[i]? = some x := by rfl) (hx : Loc X.env.scope x := by first | exact Or.inl rfl | exact Or.inr rfl) (hf : X.fn x = true ∨ X.env.scope.names.lookup x = some .local := by first | exact .inl rfl | exact .inr rfl | assumption) :
    DG X (.Name x pos) (gName i) (qgN i) [i] := ⟨pg_name hN hi hx hf, sg_name⟩
def qgNil : QGs := fun ds Γ k => ds = [] ∧ k Γ
def qgCons (p : QG) (q : QGs) : QGs := fun ds Γ k => match ds with
  | d :: r => p (.sh d) Γ fun Γ' => q r Γ' k
  | [] => False
theorem dgs_nil : DGs X [] gNil qgNil [] := ⟨pgs_nil, fun {B F Γ σ H fp vs ds} k Q r h q c => by
  obtain ⟨rfl, q⟩ := q
  cases h
  exact ⟨rfl, c Γ F σ fp .refl r ⟨rfl, fun _ _ => rfl⟩ q⟩⟩
theorem dgs_cons {e : Expr} {es : List Expr} {g : TG} {u : TGs} {p : QG} {q : QGs} {js ks : List Nat} (h1 : DG X e g p js) (h2 : DGs X es u q ks)
    (hs : (assignEach (e :: es) X.env).map (·.2) = assign e X.env :: (assignEach es X.env).map (·.2) := by rfl) : DGs X (e :: es) (gCons g u) (qgCons p q) (js ++ ks) := ⟨pgs_cons h1.pg h2.pg hs, fun {B F Γ σ H fp vs ds} k Q r h z c => by
  cases h with
  | nil => exact z.elim
  | @cons v vs d ds h t =>
    refine ⟨v, vs, rfl, h1.sg _ _ r (.sh h) z fun Γ1 F1 σ1 fp1 x1 r1 c1 z1 => ?_⟩
    exact h2.sg _ _ r1 (t.mono x1.same) z1 fun Γ2 F2 σ2 fp2 x2 r2 c2 z2 => c Γ2 F2 σ2 fp2 (x1.trans x2) r2 (c1.trans c2) z2⟩
def qgTup (n : Nat) (q : QGs) : QG := fun w Γ k => bor w Γ fun d => match d with
  | .tuple ds => ds.length = n ∧ q ds Γ k
  | _ => False
theorem dg_tup {es : List Expr} {kk : Nat} {g : TGs} {q : QGs} {js : List Nat} {n : Nat} (hc : X.calm = true) (h : DGs X es g q js)
    (hn : (assignEach es X.env).length = n := by rfl) (hst : (assignEach es X.env).findIdx? (·.1) = none := by rfl) : DG X (.Tuple es kk pos) (gTup X.K n g) (qgTup n q) js := ⟨pg_tup hc h.pg hn hst, fun {B F Γ σ H fp v w} k Q r hw z c => by
  obtain ⟨d, b, z⟩ := bor_rb r hw z
  cases b with
  | tup _ e t => exact ⟨_, _, rfl, .inl (.inl e), by rw [t.length]; exact z.1, h.sg _ _ r t z.2 c⟩
  | _ => exact z.elim⟩
/-- a list of that length -/
def qgLst (n : Nat) (q : QGs) : QG := fun w Γ k => bor w Γ fun d => match d with
  | .list ds => ds.length = n ∧ q ds Γ k
  | _ => False
theorem dg_lst {es : List Expr} {kk : Nat} {g : TGs} {q : QGs} {js : List Nat} {n : Nat} (hc : X.calm = true) (h : DGs X es g q js)
    (hn : (assignEach es X.env).length = n := by rfl) (hst : (assignEach es X.env).findIdx? (·.1) = none := by rfl) : DG X (.Tuple es kk pos) (gLst X.K n g) (qgLst n q) js := ⟨pg_lst hc h.pg hn hst, fun {B F Γ σ H fp v w} k Q r hw z c => by
  obtain ⟨d, b, z⟩ := bor_rb r hw z
  cases b with
  | lst e t => exact ⟨_, _, rfl, .inl (.inl e), by rw [t.length]; exact z.1, h.sg _ _ r t z.2 c⟩
  | _ => exact z.elim⟩
end

/-! ### statements -/
section
variable {X : Cx} {W : WX} {pos : Pos} {e : Expr} {te : TE} {p : QE} {st : Stmt} {rest : List Stmt} {ts tu : TS} {ps pu : QS} {tt : TT} {pt : QT}
def qNext : QS := fun P Γ => P.nx Γ
def qSeq (p q : QS) : QS := fun P Γ => p { P with nx := q P } Γ
theorem ss_next : SS W tNext qNext := fun {B F Γ σ H fp} P D r h a => a.nx Γ F σ H fp .refl r h
theorem ss_seq (h1 : SS W ts ps) (h2 : SS W tu pu) : SS W (tSeq ts tu) (qSeq ps pu) := fun {B F Γ σ H fp} P D r h a =>
  h1 { P with nx := pu P } { D with nx := tu D } r h ⟨fun Γ' F' σ' H' fp' x r' q => h2 P D r' q (a.mono x), a.rt, a.bk, a.ct, a.ex⟩
theorem dss_nil : DSs X W [] tNext qNext := ⟨pss_nil, ss_next⟩
theorem dss_cons (h1 : DS X W st ts ps) (h2 : DSs X W rest tu pu) : DSs X W (st :: rest) (tSeq ts tu) (qSeq ps pu) := ⟨pss_cons h1.ps h2.ps, ss_seq h1.ss h2.ss⟩
theorem dss_one (h1 : DS X W st ts ps) : DSs X W [st] ts ps := ⟨pss_one h1.ps, h1.ss⟩
/-- slot i's own object is frozen ahead of a block -/
def qFrz (i : Nat) (p : QS) : QS := fun P Γ => match Γ[i]? with
  | some (.ow o) => p P (Γ.set i (.sh o.toD))
  | _ => p P Γ
theorem dss_frz (i : Nat) (h : DSs X W rest tu pu) : DSs X W rest tu (qFrz i pu) := ⟨h.ps, fun {B F Γ σ H fp} P D r q a => by
  unfold qFrz at q
  split at q
  · rename_i o e
    obtain ⟨v, h1, x, r', h2⟩ := r.freezeAt e
    exact h.ss P D r' q (a.mono x)
  · exact h.ss P D r q a⟩
theorem ds_pass : DS X W (.Pass pos) tNext qNext := ⟨ps_pass, ss_next⟩
def qBreak : QS := fun P Γ => P.bk Γ
def qCont : QS := fun P Γ => P.ct Γ
theorem ds_break : DS X W (.Break pos) tBreak qBreak := ⟨ps_break, fun {B F Γ σ H fp} P D r h a => a.bk Γ F σ H fp .refl r h⟩
theorem ds_continue : DS X W (.Continue pos) tCont qCont := ⟨ps_continue, fun {B F Γ σ H fp} P D r h a => a.ct Γ F σ H fp .refl r h⟩
def qDrop (p : QE) : QS := fun P Γ => p Γ (fun _ Γ1 => P.nx Γ1) P.ex
theorem ss_drop (h : SE W te p) : SS W (tDrop te) (qDrop p) := fun {B F Γ σ H fp} P D r q a => h _ _ _ r q (fun w Γ1 v F1 H1 fp1 x1 r1 _ h1 => a.nx Γ1 F1 σ H1 fp1 x1 r1 h1) a.afe
theorem ds_expr (he : DE X W e te p) (hs : swapsWith e none pos.line X.env = pure false := by rfl) : DS X W (.Expr e pos) (tDrop te) (qDrop p) := ⟨ps_expr he.pe hs, ss_drop he.se⟩
theorem ds_doc {x j pos pos'} : DS X W (.Expr (.Constant (.str x) j pos) pos') tNext qNext := ⟨ps_doc, ss_next⟩
def qRet (p : QE) : QS := fun P Γ => p Γ P.rt P.ex
theorem ds_ret (he : DE X W e te p) : DS X W (.Return (some e) pos) (tRet te) (qRet p) := ⟨ps_ret he.pe, fun {B F Γ σ H fp} P D r q a => he.se _ _ _ r q (fun w Γ1 v F1 H1 fp1 x1 r1 v1 h1 => a.rt w Γ1 v F1 σ H1 fp1 x1 r1 v1 h1) a.afe⟩
def qRetN : QS := fun P Γ => P.rt (.sh .none) Γ
theorem ds_retN : DS X W (.Return none pos) tRetN qRetN := ⟨ps_retN, fun {B F Γ σ H fp} P D r q a => a.rt _ Γ _ F σ H fp .refl r (.sh .non) q⟩
def qIfS (c : QT) (t u : QS) : QS := fun P Γ => c Γ (fun b Γ1 => Cif b (t P Γ1) (u P Γ1)) P.ex
theorem ds_if {c : Expr} {a b : List Stmt} (hc : DT X W c tt pt) (ha : DSs X W a ts ps) (hb : DSs X W b tu pu) : DS X W (.If c a b pos) (tIfS tt ts tu) (qIfS pt ps pu) := ⟨ps_if hc.pt ha.ps hb.ps, fun {B F Γ σ H fp} P D r q a => by
  refine hc.st _ _ _ r q (fun b Γ1 F1 H1 fp1 x1 r1 h1 => ?_) a.afe
  cases b with
  | true => exact ha.ss P D r1 (h1.t rfl) (a.mono x1)
  | false => exact hb.ss P D r1 (h1.f rfl) (a.mono x1)⟩
/-- target = value -/
def qAsg (p : QE) (g : QG) : QS := fun P Γ => p Γ (fun w Γ1 => g w Γ1 P.nx) P.ex
theorem ss_asg {tg : TG} {g : QG} {js : List Nat} (he : SE W te p) (hg : SG tg g js) : SS W (tAsg te tg) (qAsg p g) := fun {B F Γ σ H fp} P D r q a =>
  he _ _ _ r q (fun w Γ1 v F1 H1 fp1 x1 r1 v1 h1 => hg _ _ r1 v1 h1 fun Γ2 F2 σ2 fp2 x2 r2 _ h2 => a.nx Γ2 F2 σ2 H1 fp2 (x1.trans x2) r2 h2) a.afe
theorem ds_asg {tg : Expr} {g : TG} {q : QG} {js : List Nat} (he : DE X W e te p) (hg : DG X tg g q js) (hs : swapsWithSole [tg] e pos.line X.env = pure false := by rfl) (hw : swappedStores [tg] e X.env = pure none := by rfl)
    (h1 : (assignEach [tg] X.env).map (·.2) = [assign tg X.env] := by rfl) : DS X W (.Assign [tg] e pos) (tAsg te g) (qAsg p q) := ⟨ps_asg he.pe hg.pg hs hw h1, ss_asg he.se hg.sg⟩
theorem ds_set {i : Nat} {x : Str} {pos' : Pos} (hN : X.N.Nodup) (he : DE X W e te p) (hi : X.N[i]? = some x := by rfl) (hx : Loc X.env.scope x := by first | exact Or.inl rfl | exact Or.inr rfl) (hs : swapsWith e (some (.Name x pos')) pos.line X.env = pure false := by rfl)
    (hf : X.fn x = true ∨ X.env.scope.names.lookup x = some .local := by first | exact .inl rfl | exact .inr rfl | assumption) : DS X W (.Assign [.Name x pos'] e pos) (tAsg te (gName i)) (qAsg p (qgN i)) := ⟨ps_set hN hi hx he.pe hs hf, ss_asg he.se sg_name⟩
/-- name op= e, the name's value a datum -/
def qAug (i : Nat) (o : OP2) (p : QE) : QS := fun P Γ => match Γ[i]? with
  | some (.sh d1) => p Γ (fun w2 Γ1 => bor w2 Γ1 fun d2 => o d1 d2 fun w => setSl i w Γ1 P.nx) P.ex
  | _ => False
theorem ds_aug {i : Nat} {x : Str} {op : Operator} {r : R2} {o : OP2} {pos' : Pos} (hN : X.N.Nodup) (ho : OpR X (inplaceOp op) r) (hs : OpS r o) (he : DE X W e te p) (hi : X.N[i]? = some x := by rfl) (hx : Loc X.env.scope x := by first | exact Or.inl rfl | exact Or.inr rfl)
    (hf : X.fn x = true ∨ X.env.scope.names.lookup x = some .local := by first | exact .inl rfl | exact .inr rfl | assumption) : DS X W (.AugAssign (.Name x pos') op e pos) (tAug i te r) (qAug i o p) :=
  ⟨ps_aug hN hi hx he.pe (fun pins s σ H x y v u Q I rx ry h => ho pins s σ H x y v u Q I rx ry h) hf, fun {B F Γ σ H fp} P D rr q a => by
  unfold qAug at q
  split at q
  · rename_i d1 e1
    obtain ⟨v, h1, h2⟩ := rr.sh i d1 e1
    refine ⟨v, h1, he.se _ _ _ rr q (fun w2 Γ1 y F1 H1 fp1 x1 r1 v1 h3 => ?_) a.afe⟩
    obtain ⟨d2, b2, z⟩ := bor_rb r1 v1 h3
    refine hs _ _ r1 ((h2.mono x1.same).rb r1.fx) b2 z fun w v F2 H2 x2 r2 q2 kk => ?_
    obtain ⟨Γ3, F3, fp3, x3, r3, z3⟩ := setSl_ok r2 q2 kk
    exact a.nx Γ3 F3 _ H2 fp3 ((x1.trans x2).trans x3) r3 z3
  · exact q.elim⟩
/-- while, by an invariant with a measure -/
def qWhile (c : QT) (t : QS) : QS := fun P Γ => ∃ I : Nat → Ev → Prop, (∃ m, I m Γ) ∧ ∀ m Γ, I m Γ → c Γ (fun b Γ1 => Cif b (t { P with nx := fun Γ' => ∃ m', m' < m ∧ I m' Γ', ct := fun Γ' => ∃ m', m' < m ∧ I m' Γ', bk := P.nx } Γ1) (P.nx Γ1)) P.ex
theorem ds_while {c : Expr} {body : List Stmt} (hp : PassesOwn (model X.prog X.w) X.A X.env X.xe) (hc : DT X W c tt pt) (hb : DSs X W body ts ps) : DS X W (.While c body [] pos) (tWhile tt ts) (qWhile pt ps) := ⟨ps_while hp hc.pt hb.ps, fun {B F Γ σ H fp} P D r q a => by
  obtain ⟨I, ⟨m0, h0⟩, hs⟩ := q
  refine ⟨fun m σ' H' => ∃ Γ' F' fp', Ext B F F' ∧ Rel B F' Γ' σ' H' fp' ∧ I m Γ', ⟨m0, Γ, F, fp, .refl, r, h0⟩, ?_⟩
  rintro m σ' H' ⟨Γ', F', fp', x, r', hi⟩
  refine hc.st _ _ _ r' (hs m Γ' hi) (fun b Γ1 F1 H1 fp1 x1 r1 h1 => ?_) (a.mono x).afe
  cases b with
  | true =>
    refine ⟨fun σ2 H2 => ∃ m', m' < m ∧ ∃ Γ2 F2 fp2, Ext B F F2 ∧ Rel B F2 Γ2 σ2 H2 fp2 ∧ I m' Γ2, fun σ2 H2 h => h, hb.ss _ _ r1 (h1.t rfl) ?_⟩
    have am := a.mono (x.trans x1)
    exact ⟨fun Γ2 F2 σ2 H2 fp2 x2 r2 ⟨m', hm, q⟩ => ⟨m', hm, Γ2, F2, fp2, (x.trans x1).trans x2, r2, q⟩, am.rt, am.nx, fun Γ2 F2 σ2 H2 fp2 x2 r2 ⟨m', hm, q⟩ => ⟨m', hm, Γ2, F2, fp2, (x.trans x1).trans x2, r2, q⟩, am.ex⟩
  | false => exact (a.mono x).nx Γ1 F1 σ' H1 fp1 x1 r1 (h1.f rfl)⟩
end

/-! ### what is walked -/
abbrev QI := QA
/-- the iterator goes through the data ds -/
def ItOk (J : It) (F : Hp) (ds : List D) : Prop := ∀ (B F2 : Hp) (Γ2 : Ev) (σ2 : L2.St) (H2 : Hp) (fp2 : Nat → List Addr), Same F F2 → Rel B F2 Γ2 σ2 H2 fp2 → ∀ i,
  (∀ d, ds[i]? = some d → J.go i H2 ∧ ∀ x H3, J.yld i H2 x H3 → ∃ F3, Ext B F2 F3 ∧ Rel B F3 Γ2 σ2 H3 fp2 ∧ Rp F3 x d) ∧ (ds.length ≤ i → J.stop i H2)
def SI (W : WX) (wi : TI) (p : QI) : Prop := ∀ {B F : Hp} {Γ : Ev} {σ : L2.St} {H : Hp} {fp : Nat → List Addr} (R : List D → Ev → Prop) (EX : EXP) (Q : It → Hp → Prop), Rel B F Γ σ H fp → p Γ R EX →
  (∀ ds Γ' J F' H' fp', Ext B F F' → Rel B F' Γ' σ H' fp' → ItOk J F' ds → R ds Γ' → Q J H') → AfE W B F σ EX → wi σ H Q
structure DI (X : Cx) (W : WX) (tg iter : Expr) (wi : TI) (p : QI) : Prop where
  pi : PI X tg iter wi
  si : SI W wi p
section
variable {X : Cx} {W : WX} {pos : Pos} {e tg : Expr} {te : TE} {p : QE}
/-- over a list (taken for good) -/
def qiL (p : QE) : QI := fun Γ R E => p Γ (fun w Γ1 => shr w Γ1 fun d Γ2 => match d with
  | .list ds => R ds Γ2
  | _ => False) E
def qiT (p : QE) : QI := fun Γ R E => p Γ (fun w Γ1 => shr w Γ1 fun d Γ2 => match d with
  | .tuple ds => R ds Γ2
  | _ => False) E
def signD (c : Nat) : D := .str ⟨#[c]⟩
def qiS (p : QE) : QI := fun Γ R E => p Γ (fun w Γ1 => shr w Γ1 fun d Γ2 => match d with
  | .str x => R (x.cps.toList.map signD) Γ2
  | _ => False) E
theorem di_list (h : DE X W e te p) : DI X W tg e (iList X.K te) (qiL p) := ⟨pi_list h.pe, fun {B F Γ σ H fp} R EX Q r q k a => by
  refine h.se _ _ _ r q (fun w Γ1 v F1 H1 fp1 x1 r1 v1 h1 => ?_) a
  obtain ⟨d, Γ2, F2, fp2, x2, r2, b2, h2⟩ := shr_ok r1 v1 h1
  cases b2 with
  | @lst aa xs ds e2 t =>
    refine ⟨aa, rfl, ⟨xs, .inl (.inl (r2.fx _ _ e2))⟩, k ds Γ2 _ F2 H1 fp2 (x1.trans x2) r2 ?_ h2⟩
    intro B3 F3 Γ3 σ3 H3 fp3 s3 r3 i
    have hl : SqL X.K H3 aa xs := .inl (.inl ((s3.trans r3.fx) _ _ e2))
    refine ⟨fun d hd => ?_, fun hi => ⟨xs, hl, by rw [t.length]; exact hi⟩⟩
    obtain ⟨u, g1, g2⟩ := t.get hd
    exact ⟨⟨xs, u, hl, g1⟩, fun x H4 ⟨e4, f4⟩ => by
      subst e4
      have := f4 xs hl
      rw [g1] at this
      cases this
      exact ⟨F3, .refl, r3, g2.mono s3⟩⟩
  | _ => exact h2.elim⟩
theorem di_tup (h : DE X W e te p) : DI X W tg e (iTup X.K te) (qiT p) := ⟨pi_tup h.pe, fun {B F Γ σ H fp} R EX Q r q k a => by
  refine h.se _ _ _ r q (fun w Γ1 v F1 H1 fp1 x1 r1 v1 h1 => ?_) a
  obtain ⟨d, Γ2, F2, fp2, x2, r2, b2, h2⟩ := shr_ok r1 v1 h1
  cases b2 with
  | @tup aa xs ds e2 t =>
    refine ⟨aa, rfl, ⟨xs, .inl (.inl (r2.fx _ _ e2))⟩, k ds Γ2 _ F2 H1 fp2 (x1.trans x2) r2 ?_ h2⟩
    intro B3 F3 Γ3 σ3 H3 fp3 s3 r3 i
    have hl : SqT X.K H3 aa xs := .inl (.inl ((s3.trans r3.fx) _ _ e2))
    refine ⟨fun d hd => ?_, fun hi => ⟨xs, hl, by rw [t.length]; exact hi⟩⟩
    obtain ⟨u, g1, g2⟩ := t.get hd
    exact ⟨⟨xs, u, hl, g1⟩, fun x H4 ⟨e4, f4⟩ => by
      subst e4
      have := f4 xs hl
      rw [g1] at this
      cases this
      exact ⟨F3, .refl, r3, g2.mono s3⟩⟩
  | _ => exact h2.elim⟩
theorem strOk_sign {x : Str} (h : PyData.strOk x = true) {i c : Nat} (e : x.cps[i]? = some c) : PyData.strOk ⟨#[c]⟩ = true := by
  have h' : x.cps.all (· < 0x110000) = true := h
  rw [Array.all_eq_true] at h'
  obtain ⟨hi, he⟩ := Array.getElem?_eq_some_iff.mp e
  have := h' i hi
  rw [he] at this
  show (#[c] : Array Nat).all (· < 0x110000) = true
  simpa using this
theorem di_str (h : DE X W e te p) : DI X W tg e (iStr te) (qiS p) := ⟨pi_str h.pe, fun {B F Γ σ H fp} R EX Q r q k a => by
  refine h.se _ _ _ r q (fun w Γ1 v F1 H1 fp1 x1 r1 v1 h1 => ?_) a
  obtain ⟨d, Γ2, F2, fp2, x2, r2, b2, h2⟩ := shr_ok r1 v1 h1
  cases b2 with
  | str x ok =>
    refine ⟨x, rfl, k _ Γ2 _ F2 H1 fp2 (x1.trans x2) r2 ?_ h2⟩
    intro B3 F3 Γ3 σ3 H3 fp3 s3 r3 i
    refine ⟨fun d hd => ?_, fun hi => ?_⟩
    · rw [List.getElem?_map] at hd
      have hi : i < x.cps.size := by
        cases z : x.cps.toList[i]? with
        | none =>
          rw [z] at hd
          cases hd
        | some c =>
          have := (List.getElem?_eq_some_iff.mp z).1
          simpa using this
      refine ⟨hi, fun y H4 ⟨e4, c, hc, ey⟩ => ?_⟩
      subst e4 ey
      have hc' : x.cps.toList[i]? = some c := by rw [Array.getElem?_toList]; exact hc
      rw [hc'] at hd
      cases hd
      exact ⟨F3, .refl, r3, .str _ (strOk_sign ok hc)⟩
    · show x.cps.size ≤ i
      simpa using hi
  | _ => exact h2.elim⟩
/-- range(n), range(a, b) -/
def qiR1 (p : QA) : QI := fun Γ R E => p Γ (fun ds Γ1 => match ds with
  | [.int n] => -(2 ^ 62) ≤ n ∧ n < 2 ^ 62 ∧ R ((List.range n.toNat).map fun (i : Nat) => .int (i : Int)) Γ1
  | _ => False) E
def qiR2 (p : QA) : QI := fun Γ R E => p Γ (fun ds Γ1 => match ds with
  | [.int m, .int n] => (-(2 ^ 62) ≤ m ∧ m < 2 ^ 62 ∧ -(2 ^ 62) ≤ n ∧ n < 2 ^ 62) ∧ R ((List.range (n - m).toNat).map fun (i : Nat) => .int (m + (i : Int))) Γ1
  | _ => False) E
theorem it_range {F : Hp} (lo : Int) (n : Nat) (f : Nat → D) (hf : ∀ i, f i = .int (lo + (i : Int))) : ItOk (Itr lo n) F ((List.range n).map f) := fun B3 F3 Γ3 σ3 H3 fp3 s3 r3 i => by
  refine ⟨fun d hd => ?_, fun hi => show n ≤ i by simpa using hi⟩
  rw [List.getElem?_map] at hd
  have hi : i < n := by
    cases z : (List.range n)[i]? with
    | none =>
      rw [z] at hd
      cases hd
    | some c => simpa using (List.getElem?_eq_some_iff.mp z).1
  rw [List.getElem?_range hi] at hd
  refine ⟨hi, fun y H4 ⟨e4, ey⟩ => ?_⟩
  subst e4 ey
  have hd' : f i = d := Option.some.inj hd
  rw [← hd', hf]
  exact ⟨F3, .refl, r3, .int _⟩
theorem di_range1 {a : Expr} {ta : TA} {pa : QA} {p : Pos} (hm : X.mg "range" = none) (ha : DA X W [a] ta pa) (hg : Gl X "range" := by rfl) (hs : starEach [a] X.env = [(false, eval a X.env)] := by rfl) :
    DI X W tg (.Call (.Name "range" p) [a] [] pos) (iRng1 ta) (qiR1 pa) := ⟨pi_range1 hg hm ha.pa hs, fun {B F Γ σ H fp} R EX Q r q k e => by
  refine ha.sa _ _ _ r q (fun ds Γ1 vs F1 H1 fp1 x1 r1 b1 h1 => ?_) e
  split at h1
  · rename_i n
    cases b1 with
    | cons h t =>
      cases t
      cases h
      refine ⟨n, rfl, h1.1, h1.2.1, k _ Γ1 _ F1 H1 fp1 x1 r1 (it_range 0 _ _ fun i => by simp) h1.2.2⟩
  · exact h1.elim⟩
theorem di_range2 {a b : Expr} {ta : TA} {pa : QA} {p : Pos} (hm : X.mg "range" = none) (ha : DA X W [a, b] ta pa) (hg : Gl X "range" := by rfl) (hs : starEach [a, b] X.env = [(false, eval a X.env), (false, eval b X.env)] := by rfl) (hs2 : starEach [b] X.env = [(false, eval b X.env)] := by rfl) :
    DI X W tg (.Call (.Name "range" p) [a, b] [] pos) (iRng2 ta) (qiR2 pa) := ⟨pi_range2 hg hm ha.pa hs hs2, fun {B F Γ σ H fp} R EX Q r q k e => by
  refine ha.sa _ _ _ r q (fun ds Γ1 vs F1 H1 fp1 x1 r1 b1 h1 => ?_) e
  split at h1
  · rename_i m n
    cases b1 with
    | cons h t =>
      cases t with
      | cons h' t' =>
        cases t'
        cases h
        cases h'
        exact ⟨m, n, rfl, h1.1, k _ Γ1 _ F1 H1 fp1 x1 r1 (it_range m _ _ fun _ => rfl) h1.2⟩
  · exact h1.elim⟩
/-- enumerate(list) -/
def enumD (n : Nat) : List D → List D
  | [] => []
  | d :: r => .tuple [.int n, d] :: enumD (n + 1) r
theorem enumD_get : ∀ (ds : List D) (n i : Nat), (enumD n ds)[i]? = ds[i]?.map fun d => .tuple [.int ((n + i : Nat) : Int), d]
  | [], n, i => by simp [enumD]
  | d :: r, n, 0 => by simp [enumD]
  | d :: r, n, i + 1 => by
    simp only [enumD, List.getElem?_cons_succ]
    rw [enumD_get r (n + 1) i]
    have e : n + 1 + i = n + (i + 1) := by omega
    rw [e]
theorem enumD_length : ∀ (ds : List D) (n : Nat), (enumD n ds).length = ds.length
  | [], _ => rfl
  | _ :: r, n => congrArg (· + 1) (enumD_length r (n + 1))
def qiE (p : QA) : QI := fun Γ R E => p Γ (fun ds Γ1 => match ds with
  | [.list xs] => R (enumD 0 xs) Γ1
  | _ => False) E
theorem di_enum {ta : TA} {pa : QA} {p tpos : Pos} {elts : List Expr} {kk : Nat} (hm : X.mg "enumerate" = none) (ha : DA X W [e] ta pa) (hg : Gl X "enumerate" := by rfl) (hs : starEach [e] X.env = [(false, eval e X.env)] := by rfl) :
    DI X W (.Tuple elts kk tpos) (.Call (.Name "enumerate" p) [e] [] pos) (iEnum X.K ta) (qiE pa) := ⟨pi_enum hg hm ha.pa hs, fun {B F Γ σ H fp} R EX Q r q k e => by
  refine ha.sa _ _ _ r q (fun ds Γ1 vs F1 H1 fp1 x1 r1 b1 h1 => ?_) e
  split at h1
  · rename_i xs
    cases b1 with
    | cons h t =>
      cases t
      cases h with
      | @lst aa vs ds e2 t =>
        refine ⟨aa, vs, rfl, .inl (.inl (r1.fx _ _ e2)), k _ Γ1 _ F1 H1 fp1 x1 r1 ?_ h1⟩
        intro B3 F3 Γ3 σ3 H3 fp3 s3 r3 i
        have hl : SqL X.K H3 aa vs := .inl (.inl ((s3.trans r3.fx) _ _ e2))
        refine ⟨fun d hd => ?_, fun hi => ⟨vs, hl, by rw [t.length, ← enumD_length xs 0]; exact hi⟩⟩
        rw [enumD_get] at hd
        cases z : xs[i]? with
        | none =>
          rw [z] at hd
          cases hd
        | some c =>
          rw [z] at hd
          obtain ⟨u, g1, g2⟩ := t.get z
          refine ⟨⟨vs, u, hl, g1⟩, fun y H4 ⟨T, x, ey, nT, e4, f4⟩ => ?_⟩
          have := f4 vs hl
          rw [g1] at this
          cases this
          subst ey e4
          obtain ⟨x5, r5⟩ := r3.newF (o := .tup [.int (i : Nat), u]) nT
          have hd' : PyData.tuple [.int ((0 + i : Nat) : Int), c] = d := Option.some.inj hd
          rw [← hd', Nat.zero_add]
          exact ⟨_, x5, r5, .tup upd_same (.cons (.int _) (.cons ((g2.mono s3).mono x5.same) .nil))⟩
  · exact h1.elim⟩
/-- zip(list, list) -/
def zipD : List D → List D → List D
  | a :: r, b :: s => .tuple [a, b] :: zipD r s
  | _, _ => []
theorem zipD_get : ∀ (xs ys : List D) (i : Nat), (zipD xs ys)[i]? = (xs[i]?.bind fun a => ys[i]?.map fun b => .tuple [a, b])
  | [], ys, i => by simp [zipD]
  | a :: r, [], i => by simp [zipD]
  | a :: r, b :: s, 0 => by simp [zipD]
  | a :: r, b :: s, i + 1 => by
    simp only [zipD, List.getElem?_cons_succ]
    exact zipD_get r s i
theorem zipD_length : ∀ (xs ys : List D), (zipD xs ys).length = min xs.length ys.length
  | [], ys => by simp [zipD]
  | a :: r, [] => by simp [zipD]
  | a :: r, b :: s => by
    simp only [zipD, List.length_cons, zipD_length r s]
    omega
def qiZ (p : QA) : QI := fun Γ R E => p Γ (fun ds Γ1 => match ds with
  | [.list xs, .list ys] => R (zipD xs ys) Γ1
  | [.tuple xs, .tuple ys] => R (zipD xs ys) Γ1
  | _ => False) E
theorem di_zip {e2 : Expr} {ta : TA} {pa : QA} {p tpos : Pos} {elts : List Expr} {kk : Nat} (hm : X.mg "zip" = none) (ha : DA X W [e, e2] ta pa) (hg : Gl X "zip" := by rfl)
    (hs : starEach [e, e2] X.env = (false, eval e X.env) :: starEach [e2] X.env := by rfl) (hpl : (backTo pos (starEach [e2] X.env)).any (·.1) = false := by rfl) :
    DI X W (.Tuple elts kk tpos) (.Call (.Name "zip" p) [e, e2] [] pos) (RZ.iZipA X.K ta) (qiZ pa) := ⟨RZ.pi_zipA hg hm ha.pa hs hpl, fun {B F Γ σ H fp} R EX Q r q k e => by
  refine ha.sa _ _ _ r q (fun ds Γ1 vs F1 H1 fp1 x1 r1 b1 h1 => ?_) e
  split at h1
  · rename_i xs ys
    cases b1 with
    | cons h t =>
      cases t with
      | cons h' t' =>
        cases t'
        cases h with
        | @lst aa vs ds e2 t =>
          cases h' with
          | @lst ba ws ds' e3 t3 =>
            refine ⟨aa, ba, vs, ws, rfl, .inl ⟨.inl (.inl (r1.fx _ _ e2)), .inl (.inl (r1.fx _ _ e3)), k _ Γ1 _ F1 H1 fp1 x1 r1 ?_ h1⟩⟩
            intro B3 F3 Γ3 σ3 H3 fp3 s3 r3 i
            have hl : SqL X.K H3 aa vs := .inl (.inl ((s3.trans r3.fx) _ _ e2))
            have hl2 : SqL X.K H3 ba ws := .inl (.inl ((s3.trans r3.fx) _ _ e3))
            refine ⟨fun d hd => ?_, fun hi => ⟨vs, ws, hl, hl2, by rw [zipD_length] at hi; rw [t.length, t3.length]; omega⟩⟩
            rw [zipD_get] at hd
            cases z : xs[i]? with
            | none =>
              rw [z] at hd
              cases hd
            | some c =>
              rw [z] at hd
              cases z2 : ys[i]? with
              | none =>
                rw [z2] at hd
                cases hd
              | some c2 =>
                rw [z2] at hd
                obtain ⟨u, g1, g2⟩ := t.get z
                obtain ⟨u2, g3, g4⟩ := t3.get z2
                refine ⟨⟨vs, ws, u, u2, hl, hl2, g1, g3⟩, fun y H4 ⟨T, x, x', ey, nT, e4, f4, f5⟩ => ?_⟩
                have := f4 vs hl
                rw [g1] at this
                cases this
                have := f5 ws hl2
                rw [g3] at this
                cases this
                subst ey e4
                obtain ⟨x5, r5⟩ := r3.newF (o := .tup [u, u2]) nT
                have hd' : PyData.tuple [c, c2] = d := Option.some.inj hd
                rw [← hd']
                exact ⟨_, x5, r5, .tup upd_same (.cons ((g2.mono s3).mono x5.same) (.cons ((g4.mono s3).mono x5.same) .nil))⟩
  · rename_i xs ys
    cases b1 with
    | cons h t =>
      cases t with
      | cons h' t' =>
        cases t'
        cases h with
        | @tup aa vs ds e2 t =>
          cases h' with
          | @tup ba ws ds' e3 t3 =>
            refine ⟨aa, ba, vs, ws, rfl, .inr ⟨.inl (.inl (r1.fx _ _ e2)), .inl (.inl (r1.fx _ _ e3)), k _ Γ1 _ F1 H1 fp1 x1 r1 ?_ h1⟩⟩
            intro B3 F3 Γ3 σ3 H3 fp3 s3 r3 i
            have hl : SqT X.K H3 aa vs := .inl (.inl ((s3.trans r3.fx) _ _ e2))
            have hl2 : SqT X.K H3 ba ws := .inl (.inl ((s3.trans r3.fx) _ _ e3))
            refine ⟨fun d hd => ?_, fun hi => ⟨vs, ws, hl, hl2, by rw [zipD_length] at hi; rw [t.length, t3.length]; omega⟩⟩
            rw [zipD_get] at hd
            cases z : xs[i]? with
            | none =>
              rw [z] at hd
              cases hd
            | some c =>
              rw [z] at hd
              cases z2 : ys[i]? with
              | none =>
                rw [z2] at hd
                cases hd
              | some c2 =>
                rw [z2] at hd
                obtain ⟨u, g1, g2⟩ := t.get z
                obtain ⟨u2, g3, g4⟩ := t3.get z2
                refine ⟨⟨vs, ws, u, u2, hl, hl2, g1, g3⟩, fun y H4 ⟨T, x, x', ey, nT, e4, f4, f5⟩ => ?_⟩
                have := f4 vs hl
                rw [g1] at this
                cases this
                have := f5 ws hl2
                rw [g3] at this
                cases this
                subst ey e4
                obtain ⟨x5, r5⟩ := r3.newF (o := .tup [u, u2]) nT
                have hd' : PyData.tuple [c, c2] = d := Option.some.inj hd
                rw [← hd']
                exact ⟨_, x5, r5, .tup upd_same (.cons ((g2.mono s3).mono x5.same) (.cons ((g4.mono s3).mono x5.same) .nil))⟩
  · exact h1.elim⟩
end

/-! ### for -/
def forGo (g : QG) (t : QS) (P : PEnds) : List D → Ev → Prop
  | [], Γ => P.nx Γ
  | d :: r, Γ => g (.sh d) Γ fun Γ1 => t { P with nx := forGo g t P r, ct := forGo g t P r, bk := P.nx } Γ1
def qFor (i : QI) (g : QG) (t : QS) : QS := fun P Γ => i Γ (fun ds Γ1 => forGo g t P ds Γ1) P.ex
section
variable {X : Cx} {W : WX} {pos : Pos} {ts : TS} {ps : QS}
theorem ds_for {tg iter : Expr} {body : List Stmt} {wi : TI} {qi : QI} {g : TG} {qg : QG} {js : List Nat} (hp : PassesOwn (model X.prog X.w) X.A X.env X.xe) (hc : X.calm = true) (hi : DI X W tg iter wi qi) (hg : DG X tg g qg js) (hb : DSs X W body ts ps)
    (hs : ∀ x, foldedSetIterable iter X.env x = pure x := by intro _; rfl) : DS X W (.For tg iter body [] pos) (tFor wi g ts) (qFor qi qg ps) := ⟨ps_for hp hc hi.pi hg.pg hb.ps hs, fun {B F Γ σ H fp} P D r q a => by
  refine hi.si _ _ _ r q (fun ds Γ1 J F1 H1 fp1 x1 r1 ok h1 => ?_) a.afe
  refine ⟨fun i m σ' H' => m + i = ds.length ∧ ∃ Γ' F' fp', Ext B F1 F' ∧ Rel B F' Γ' σ' H' fp' ∧ forGo qg ps P (ds.drop i) Γ', ⟨ds.length, rfl, Γ1, F1, fp1, .refl, r1, h1⟩, ?_⟩
  rintro i m σ' H' ⟨hm, Γ', F', fp', x, r', hf⟩
  obtain ⟨o1, o2⟩ := ok B F' Γ' σ' H' fp' x.same r' i
  by_cases hlt : i < ds.length
  · obtain ⟨go, yld⟩ := o1 ds[i] (List.getElem?_eq_getElem hlt)
    refine .inr ⟨go, fun σ2 H2 => ∃ m', m' < m ∧ (m' + (i + 1) = ds.length ∧ ∃ Γ' F' fp', Ext B F1 F' ∧ Rel B F' Γ' σ2 H2 fp' ∧ forGo qg ps P (ds.drop (i + 1)) Γ'), fun σ2 H2 h => h, fun y H2 hy => ?_⟩
    obtain ⟨F2, x2, r2, b2⟩ := yld y H2 hy
    rw [List.drop_eq_getElem_cons hlt] at hf
    refine hg.sg _ _ r2 (.sh b2) hf fun Γ3 F3 σ3 fp3 x3 r3 _ h3 => ?_
    have xx := (x.trans x2).trans x3
    have am := a.mono (x1.trans xx)
    refine hb.ss _ _ r3 h3 ⟨fun Γ4 F4 σ4 H4 fp4 x4 r4 h4 => ⟨m - 1, by omega, by omega, Γ4, F4, fp4, xx.trans x4, r4, h4⟩, am.rt, am.nx, fun Γ4 F4 σ4 H4 fp4 x4 r4 h4 => ⟨m - 1, by omega, by omega, Γ4, F4, fp4, xx.trans x4, r4, h4⟩, am.ex⟩
  · refine .inl ⟨o2 (by omega), ?_⟩
    rw [List.drop_of_length_le (by omega)] at hf
    exact a.nx Γ' F' σ' H' fp' (x1.trans x) r' hf⟩
end
end PL

namespace PL
open PySem PySem.Spec PyProof.Rows L2

/-! ### comprehensions -/
/-- the slots vs forgotten; put back as they were in Γ0 -/
def wipEv (vs : List Nat) : Ev → Ev := fun Γ => vs.foldr (fun i Γ => Γ.set i .un) Γ
def backEv (Γ0 : Ev) (vs : List Nat) : Ev → Ev := fun Γ => vs.foldr (fun i Γ => Γ.set i ((Γ0[i]?).getD .un)) Γ
def isOw : Option Sl → Bool
  | some (.ow _) => true
  | _ => false
def noOw (Γ : Ev) (vs : List Nat) : Bool := vs.all fun i => !isOw Γ[i]?
theorem wipEv_length (Γ : Ev) : ∀ vs : List Nat, (wipEv vs Γ).length = Γ.length
  | [] => rfl
  | v :: vs => by
    show ((wipEv vs Γ).set v .un).length = _
    rw [List.length_set, wipEv_length Γ vs]
theorem backEv_length (Γ0 Γ : Ev) : ∀ vs : List Nat, (backEv Γ0 vs Γ).length = Γ.length
  | [] => rfl
  | v :: vs => by
    show ((backEv Γ0 vs Γ).set v _).length = _
    rw [List.length_set, backEv_length Γ0 Γ vs]
theorem wipEv_get (Γ : Ev) : ∀ (vs : List Nat) (i : Nat), (i ∈ vs ∧ ((wipEv vs Γ)[i]? = some .un ∨ (wipEv vs Γ)[i]? = none)) ∨ (i ∉ vs ∧ (wipEv vs Γ)[i]? = Γ[i]?)
  | [], i => .inr ⟨by simp, rfl⟩
  | v :: vs, i => by
    show (i ∈ v :: vs ∧ (((wipEv vs Γ).set v .un)[i]? = some .un ∨ ((wipEv vs Γ).set v .un)[i]? = none)) ∨ (i ∉ v :: vs ∧ ((wipEv vs Γ).set v .un)[i]? = Γ[i]?)
    by_cases e : v = i
    · subst e
      refine .inl ⟨List.mem_cons_self, ?_⟩
      rw [List.getElem?_set]
      simp only [if_true]
      split
      · exact .inl rfl
      · exact .inr rfl
    · rw [List.getElem?_set_ne e]
      rcases wipEv_get Γ vs i with ⟨h, q⟩ | ⟨h, q⟩
      · exact .inl ⟨List.mem_cons_of_mem _ h, q⟩
      · exact .inr ⟨fun z => by
          rcases List.mem_cons.mp z with z | z
          · exact e z.symm
          · exact h z, q⟩
theorem backEv_get (Γ0 Γ : Ev) (hl : Γ0.length = Γ.length) : ∀ (vs : List Nat) (i : Nat), (i ∈ vs ∧ (backEv Γ0 vs Γ)[i]? = Γ0[i]?) ∨ (i ∉ vs ∧ (backEv Γ0 vs Γ)[i]? = Γ[i]?)
  | [], i => .inr ⟨by simp, rfl⟩
  | v :: vs, i => by
    show (i ∈ v :: vs ∧ ((backEv Γ0 vs Γ).set v ((Γ0[v]?).getD .un))[i]? = Γ0[i]?) ∨ (i ∉ v :: vs ∧ ((backEv Γ0 vs Γ).set v ((Γ0[v]?).getD .un))[i]? = Γ[i]?)
    by_cases e : v = i
    · subst e
      refine .inl ⟨List.mem_cons_self, ?_⟩
      rw [List.getElem?_set]
      simp only [if_true]
      rw [backEv_length]
      split
      · rename_i h
        rw [← hl] at h
        rw [List.getElem?_eq_getElem h]
        rfl
      · rename_i h
        rw [← hl] at h
        rw [List.getElem?_eq_none (by omega)]
    · rw [List.getElem?_set_ne e]
      rcases backEv_get Γ0 Γ hl vs i with ⟨h, q⟩ | ⟨h, q⟩
      · exact .inl ⟨List.mem_cons_of_mem _ h, q⟩
      · exact .inr ⟨fun z => by
          rcases List.mem_cons.mp z with z | z
          · exact e z.symm
          · exact h z, q⟩
theorem wipe_get (σ : L2.St) : ∀ (vs : List Nat) (i : Nat), (i ∈ vs ∧ ((wipe σ vs)[i]? = some none ∨ (wipe σ vs)[i]? = none)) ∨ (i ∉ vs ∧ (wipe σ vs)[i]? = σ[i]?)
  | [], i => .inr ⟨by simp, rfl⟩
  | v :: vs, i => by
    show (i ∈ v :: vs ∧ (((wipe σ vs).set v none)[i]? = some none ∨ ((wipe σ vs).set v none)[i]? = none)) ∨ (i ∉ v :: vs ∧ ((wipe σ vs).set v none)[i]? = σ[i]?)
    by_cases e : v = i
    · subst e
      refine .inl ⟨List.mem_cons_self, ?_⟩
      rw [List.getElem?_set]
      simp only [if_true]
      split
      · exact .inl rfl
      · exact .inr rfl
    · rw [List.getElem?_set_ne e]
      rcases wipe_get σ vs i with ⟨h, q⟩ | ⟨h, q⟩
      · exact .inl ⟨List.mem_cons_of_mem _ h, q⟩
      · exact .inr ⟨fun z => by
          rcases List.mem_cons.mp z with z | z
          · exact e z.symm
          · exact h z, q⟩
/-- what the block's targets do is forgotten by wiping -/
theorem wipe_chg {σ σ2 : L2.St} {js vs : List Nat} (c : Chg js (wipe σ vs) σ2) (hj : ∀ j ∈ js, j ∈ vs) : wipe σ2 vs = wipe σ vs := by
  apply List.ext_getElem?
  intro i
  have hl : σ2.length = σ.length := by rw [c.1, wipe_length]
  rcases wipe_get σ2 vs i with ⟨h, q⟩ | ⟨h, q⟩
  · rcases wipe_get σ vs i with ⟨h', q'⟩ | ⟨h', q'⟩
    · by_cases hi : i < σ.length
      · have e1 : (wipe σ2 vs)[i]? ≠ none := by
          rw [List.getElem?_eq_getElem (by rw [wipe_length]; omega)]
          exact fun z => nomatch z
        have e2 : (wipe σ vs)[i]? ≠ none := by
          rw [List.getElem?_eq_getElem (by rw [wipe_length]; omega)]
          exact fun z => nomatch z
        rcases q with q | q
        · rcases q' with q' | q'
          · rw [q, q']
          · exact absurd q' e2
        · exact absurd q e1
      · rw [List.getElem?_eq_none (by rw [wipe_length]; omega), List.getElem?_eq_none (by rw [wipe_length]; omega)]
    · exact absurd h h'
  · rw [q]
    exact c.2 i fun z => h (hj i z)
section
variable {B F : Hp} {Γ Γ' : Ev} {σ σ' : L2.St} {H : Hp} {fp : Nat → List Addr}
/-- fewer slots are known -/
theorem Rel.sub (r : Rel B F Γ σ H fp) (hl : Γ'.length = σ'.length) (h : ∀ (i : Nat) (s : Sl), Γ'[i]? = some s → s = .un ∨ (Γ[i]? = some s ∧ σ'[i]? = σ[i]?)) : Rel B F Γ' σ' H fp := by
  refine ⟨r.bx, r.fx, hl, fun i d e => ?_, fun i o e => ?_, r.nb, r.dj, fun i a e => ?_⟩
  · rcases h i _ e with q | ⟨q, z⟩
    · cases q
    · rw [z]
      exact r.sh i d q
  · rcases h i _ e with q | ⟨q, z⟩
    · cases q
    · rw [z]
      exact r.ow i o q
  · rcases h i _ e with q | ⟨q, z⟩
    · cases q
    · rw [z]
      exact r.ex i a q
theorem Rel.wip (r : Rel B F Γ σ H fp) (vs : List Nat) : Rel B F (wipEv vs Γ) (wipe σ vs) H fp := by
  refine r.sub (by rw [wipEv_length, wipe_length]; exact r.len) fun i s e => ?_
  rcases wipEv_get Γ vs i with ⟨h, q⟩ | ⟨h, q⟩
  · rcases q with q | q
    · rw [q] at e
      exact .inl (Option.some.inj e).symm
    · rw [q] at e
      cases e
  · rw [q] at e
    rcases wipe_get σ vs i with ⟨h', _⟩ | ⟨_, q'⟩
    · exact absurd h' h
    · exact .inr ⟨e, q'⟩
/-- behind the block: its slots as they were -/
theorem Rel.back {Γ2 : Ev} {F2 H2 : Hp} {fp2 : Nat → List Addr} {vs : List Nat} (r : Rel B F Γ σ H fp) (ho : noOw Γ vs = true) (x : Same F F2) (r2 : Rel B F2 Γ2 (wipe σ vs) H2 fp2) : Rel B F2 (backEv Γ vs Γ2) σ H2 fp2 := by
  have hl : Γ.length = Γ2.length := by rw [r.len, r2.len, wipe_length]
  refine ⟨r2.bx, r2.fx, by rw [backEv_length, r2.len, wipe_length], fun i d e => ?_, fun i o e => ?_, r2.nb, r2.dj, fun i a e => ?_⟩
  · rcases backEv_get Γ Γ2 hl vs i with ⟨h, q⟩ | ⟨h, q⟩
    · rw [q] at e
      obtain ⟨v, h1, h2⟩ := r.sh i d e
      exact ⟨v, h1, h2.mono x⟩
    · rw [q] at e
      obtain ⟨v, h1, h2⟩ := r2.sh i d e
      rcases wipe_get σ vs i with ⟨h', _⟩ | ⟨_, q'⟩
      · exact absurd h' h
      · exact ⟨v, by rw [← q']; exact h1, h2⟩
  · rcases backEv_get Γ Γ2 hl vs i with ⟨h, q⟩ | ⟨h, q⟩
    · rw [q] at e
      unfold noOw at ho
      rw [List.all_eq_true] at ho
      have := ho i h
      rw [e] at this
      cases this
    · rw [q] at e
      obtain ⟨v, h1, h2⟩ := r2.ow i o e
      rcases wipe_get σ vs i with ⟨h', _⟩ | ⟨_, q'⟩
      · exact absurd h' h
      · exact ⟨v, by rw [← q']; exact h1, h2⟩
  · rcases backEv_get Γ Γ2 hl vs i with ⟨h, q⟩ | ⟨h, q⟩
    · rw [q] at e
      exact r.ex i a e
    · rw [q] at e
      have h1 := r2.ex i a e
      rcases wipe_get σ vs i with ⟨h', _⟩ | ⟨_, q'⟩
      · exact absurd h' h
      · rw [← q']
        exact h1
/-- an own object that no slot holds -/
def OwnV (B F H : Hp) (fp : Nat → List Addr) (v : V) (o : O) : Prop := ∃ f, RO F H v o f ∧ ∀ a ∈ f, B a = none ∧ F a = none ∧ ∀ i, a ∉ fp i
theorem OwnV.rw {v : V} {o : O} (h : OwnV B F H fp v o) : RW B F Γ σ H fp v (.ow o) := by
  obtain ⟨f, h1, h2⟩ := h
  exact .ow h1 h2
theorem RW.own {v : V} {o : O} (h : RW B F Γ σ H fp v (.ow o)) : OwnV B F H fp v o := by
  cases h with
  | ow h1 h2 => exact ⟨_, h1, h2⟩
/-- it is held while something else is worked out -/
theorem Rel.hold {v : V} {o : O} (r : Rel B F Γ σ H fp) (h : OwnV B F H fp v o) :
    ∃ B', Rel B' F Γ σ H fp ∧ ∀ F2 Γ2 σ2 H2 fp2, Ext B' F F2 → Rel B' F2 Γ2 σ2 H2 fp2 → Ext B F F2 ∧ Rel B F2 Γ2 σ2 H2 fp2 ∧ OwnV B F2 H2 fp2 v o := by
  obtain ⟨f, h, hf⟩ := h
  have nB : ∀ a ∈ f, B a = none := fun a ha => (hf a ha).1
  have bb : Same B (frz B H f) := frz_same nB
  have bn : ∀ a, frz B H f a = none → a ∉ f ∧ B a = none := fun a e => by
    have nf : a ∉ f := fun z => by
      unfold frz at e
      rw [if_pos z] at e
      exact h.mem a z e
    refine ⟨nf, ?_⟩
    unfold frz at e
    rw [if_neg nf] at e
    exact e
  refine ⟨frz B H f, ⟨frz_sub r.bx, r.fx, r.len, r.sh, r.ow, fun i a ha => ?_, r.dj, r.ex⟩, fun F2 Γ2 σ2 H2 fp2 x r2 => ⟨⟨x.same, fun a q e => (x.new a q e).imp (fun z => (bn a z).2) id⟩, ⟨bb.trans r2.bx, r2.fx, r2.len, r2.sh, r2.ow, fun i a ha => ?_, r2.dj, r2.ex⟩, f, ?_, fun a ha => ⟨nB a ha, ?_, fun i hi => ?_⟩⟩⟩
  · obtain ⟨b, c, d⟩ := r.nb i a ha
    refine ⟨?_, c, d⟩
    unfold frz
    rw [if_neg fun z => (hf a z).2.2 i ha]
    exact b
  · obtain ⟨b, c, d⟩ := r2.nb i a ha
    exact ⟨(bn a b).2, c, d⟩
  · refine h.mono x.same fun a ha => ?_
    cases q : H a with
    | none => exact absurd q (h.mem a ha)
    | some u => exact r2.bx a u (by unfold frz; rw [if_pos ha]; exact q)
  · cases q : F2 a with
    | none => rfl
    | some u =>
      rcases x.new a (by rw [q]; exact fun z => nomatch z) (hf a ha).2.1 with z | ⟨xs, z⟩
      · exact absurd ha (bn a z).1
      · cases q2 : H a with
        | none => exact absurd q2 (h.mem a ha)
        | some u2 =>
          have e1 := r2.bx a u2 (by unfold frz; rw [if_pos ha]; exact q2)
          rw [r2.fx a _ z] at e1
          cases e1
          exact absurd q2 (h.no_tup a ha xs)
  · exact (bn a (r2.nb i a hi).1).1 ha
/-- an item appended to a list that only this value holds -/
theorem own_app {Dl : Addr} {acc : List D} {y : V} {d : D} (r : Rel B F Γ σ H fp) (h : OwnV B F H fp (.ref Dl) (.l acc)) (hy : Rp F y d) :
    ∃ xs, H Dl = some (.lst xs) ∧ xs.length = acc.length ∧ Rel B F Γ σ (upd H Dl (.lst (xs ++ [y]))) fp ∧ OwnV B F (upd H Dl (.lst (xs ++ [y]))) fp (.ref Dl) (.l (acc ++ [d])) := by
  obtain ⟨f, h, hf⟩ := h
  cases h with
  | @l a xs ds e t =>
    obtain ⟨b1, b2, b3⟩ := hf Dl (by simp)
    refine ⟨xs, e, t.length, ⟨fun a u q => ?_, fun a u q => ?_, r.len, r.sh, fun i o q => ?_, fun i a ha => ?_, r.dj, r.ex⟩, [Dl], .l upd_same (t.append (.cons hy .nil)), hf⟩
    · rw [upd_ne fun z => by subst z; rw [b1] at q; cases q]
      exact r.bx a u q
    · rw [upd_ne fun z => by subst z; rw [b2] at q; cases q]
      exact r.fx a u q
    · obtain ⟨v, h1, h2⟩ := r.ow i o q
      exact ⟨v, h1, h2.mono (Same.refl F) fun a ha => upd_ne fun z => b3 i (by rw [← z]; exact ha)⟩
    · obtain ⟨c1, c2, c3⟩ := r.nb i a ha
      refine ⟨c1, c2, ?_⟩
      rw [upd_ne fun z => b3 i (by rw [← z]; exact ha)]
      exact c3
end

def noEX : EXP := fun _ _ => False
/-- the turns of a list comprehension -/
def lcGo (vs : List Nat) (g : QG) (t : QT) (p : QE) (k : List D → Ev → Prop) : List D → List D → Ev → Prop
  | [], acc, Γ => k acc Γ
  | d :: r, acc, Γ => g (.sh d) Γ fun Γ1 => t Γ1 (fun b Γ2 => Cif b (p Γ2 (fun w Γ3 => shr w Γ3 fun y Γ4 => acc.length < sizeLine ∧ lcGo vs g t p k r (acc ++ [y]) (wipEv vs Γ4)) noEX) (lcGo vs g t p k r acc (wipEv vs Γ2))) noEX
def qLc (vs : List Nat) (i : QI) (g : QG) (t : QT) (p : QE) : QE := fun Γ R E => i Γ (fun ds Γ1 => noOw Γ1 vs = true ∧ lcGo vs g t p (fun acc Γ2 => R (.ow (.l acc)) (backEv Γ1 vs Γ2)) ds [] (wipEv vs Γ1)) E
section
variable {W : WX} {wi : TI} {qi : QI} {g : TG} {qg : QG} {js : List Nat} {tt : TT} {qt : QT} {te : TE} {qe : QE} {vs : List Nat}
theorem afe_no {W : WX} {B F : Hp} {σ : L2.St} : AfE W B F σ noEX := fun _ _ _ _ _ _ _ h => h.elim
theorem se_lc (hi : SI W wi qi) (hg : SG g qg js) (ht : ST (fun _ _ _ _ => False) tt qt) (he : SE (fun _ _ _ _ => False) te qe) (hj : ∀ j ∈ js, j ∈ vs) : SE W (tLc wi g tt te vs) (qLc vs qi qg qt qe) := fun {B F Γ σ H fp} R EX Q r q k e => by
  refine hi _ _ _ r q (fun ds Γ1 J F1 H1 fp1 x1 r1 ok h1 => ?_) e
  obtain ⟨ho, h1⟩ := h1
  intro Dl hD
  have r2 : Rel B F1 (wipEv vs Γ1) (wipe σ vs) H1 fp1 := r1.wip vs
  obtain ⟨r3, v3⟩ := new_lst r2 (.nil) hD
  refine ⟨fun i m H' => m + i = ds.length ∧ ∃ Γ' F' fp' acc, Ext B F1 F' ∧ Rel B F' Γ' (wipe σ vs) H' fp' ∧ OwnV B F' H' fp' (.ref Dl) (.l acc) ∧
    lcGo vs qg qt qe (fun acc Γ2 => R (.ow (.l acc)) (backEv Γ1 vs Γ2)) (ds.drop i) acc Γ', ⟨ds.length, rfl, _, F1, fp1, [], .refl, r3, v3.own, h1⟩, ?_⟩
  rintro i m H' ⟨hm, Γ', F', fp', acc, x, r', v', hf⟩
  obtain ⟨o1, o2⟩ := ok B F' Γ' _ H' fp' x.same r' i
  by_cases hlt : i < ds.length
  · obtain ⟨B', rB, gd⟩ := r'.hold v'
    obtain ⟨go, yld⟩ := (ok B' F' Γ' _ H' fp' x.same rB i).1 ds[i] (List.getElem?_eq_getElem hlt)
    refine .inr ⟨go, fun H2 => ∃ m', m' < m ∧ (m' + (i + 1) = ds.length ∧ ∃ Γ' F' fp' acc, Ext B F1 F' ∧ Rel B F' Γ' (wipe σ vs) H2 fp' ∧ OwnV B F' H2 fp' (.ref Dl) (.l acc) ∧
      lcGo vs qg qt qe (fun acc Γ2 => R (.ow (.l acc)) (backEv Γ1 vs Γ2)) (ds.drop (i + 1)) acc Γ'), fun H2 h => h, fun y H2 hy => ?_⟩
    obtain ⟨F2, x2, r2, b2⟩ := yld y H2 hy
    rw [List.drop_eq_getElem_cons hlt] at hf
    refine hg _ _ r2 (.sh b2) hf fun Γ3 F3 σ3 fp3 x3 r3 c3 h3 => ?_
    have hw : wipe σ3 vs = wipe σ vs := wipe_chg c3 hj
    refine ⟨hw, ht _ noEX _ r3 h3 (fun b Γ4 F4 H4 fp4 x4 r4 h4 => ?_) afe_no⟩
    have x24 := (x2.trans x3).trans x4
    cases b with
    | true =>
      refine he _ noEX _ r4 (h4.t rfl) (fun w5 Γ5 z F5 H5 fp5 x5 r5 v5 h5 => ?_) afe_no
      obtain ⟨d6, Γ6, F6, fp6, x6, r6, b6, hsz, h6⟩ := shr_ok r5 v5 h5
      have r7 := r6.wip vs
      rw [hw] at r7
      obtain ⟨y8, r8, v8⟩ := gd F6 _ _ H5 fp6 ((x24.trans x5).trans x6) r7
      obtain ⟨xs, e9, l9, r9, v9⟩ := own_app r8 v8 b6
      exact ⟨xs, e9, by rw [l9]; exact hsz, m - 1, by omega, by omega, _, F6, fp6, _, x.trans y8, r9, v9, h6⟩
    | false =>
      have r7 := r4.wip vs
      rw [hw] at r7
      obtain ⟨y8, r8, v8⟩ := gd F4 _ _ H4 fp4 x24 r7
      exact ⟨m - 1, by omega, by omega, _, F4, fp4, acc, x.trans y8, r8, v8, h4.f rfl⟩
  · refine .inl ⟨o2 (by omega), ?_⟩
    rw [List.drop_of_length_le (by omega)] at hf
    exact k _ _ _ F' H' fp' (x1.trans x) (r1.back ho x.same r') v'.rw hf
end

section
variable {X : Cx} {W : WX} {pos : Pos} {e tg iter elt : Expr} {wi : TI} {qi : QI} {g : TG} {qg : QG} {js : List Nat} {tt : TT} {qt : QT} {te : TE} {qe : QE} {ifs : List Expr} {scope : Scope} {own : List (Str × Nat)}
abbrev W0 : WX := fun _ _ _ _ => False
structure DTs (X : Cx) (W : WX) (ifs : List Expr) (tt : TT) (p : QT) : Prop where
  pt : PTs X ifs tt
  st : ST W tt p
def qYes : QT := fun Γ R _ => R true Γ
theorem dts_nil : DTs X W [] tYes qYes := ⟨pts_nil, fun {B F Γ σ H fp} R EX Q r h k _ => k true Γ F H fp .refl r h⟩
theorem dts_one {c : Expr} (h : DT X W c tt qt) : DTs X W [c] tt qt := ⟨pts_one h.pt, h.st⟩
theorem d_lc (hc : X.calm = true) (hN : X.N.Nodup) (hi : DI X W tg iter wi qi) (ok : BlkOk X.N X.env.scope scope own)
    (hg : ∀ (s : Shared) (H : Hp) (C : Addr) (cl : List (Str × Addr)) (fp : List Addr), DG (X.blk s H scope (compEnvC scope cl C X.env) fp) tg g qg js)
    (ht : ∀ (s : Shared) (H : Hp) (C : Addr) (cl : List (Str × Addr)) (fp : List Addr), DTs (X.blk s H scope (compEnvC scope cl C X.env) fp) W0 ifs tt qt)
    (he : ∀ (s : Shared) (H : Hp) (C : Addr) (cl : List (Str × Addr)) (fp : List Addr), DE (X.blk s H scope (compEnvC scope cl C X.env) fp) W0 elt te qe) (hj : (∀ j ∈ js, j ∈ own.map (·.2)) := by decide) (hs : ∀ x, foldedSetIterable iter X.env x = pure x := by intro _; rfl) :
    DE X W (.ListComp elt [⟨tg, iter, ifs, 0⟩] scope pos) (tLc wi g tt te (own.map (·.2))) (qLc (own.map (·.2)) qi qg qt qe) :=
  ⟨pe_lc hc hN hi.pi ok (fun s H C cl fp => (hg s H C cl fp).pg) (fun s H C cl fp => (ht s H C cl fp).pt) (fun s H C cl fp => (he s H C cl fp).pe) hs,
   se_lc hi.si (hg ({} : Shared) (fun _ => none) 0 [] []).sg (ht ({} : Shared) (fun _ => none) 0 [] []).st (he ({} : Shared) (fun _ => none) 0 [] []).se hj⟩
/-- name = [..] on one line -/
theorem ds_setLc {i : Nat} {y : Str} {py spos : Pos} (hc : X.calm = true) (hN : X.N.Nodup) (hi : DI X W tg iter wi qi) (ok : BlkOk X.N X.env.scope scope own)
    (hg : ∀ (s : Shared) (H : Hp) (C : Addr) (cl : List (Str × Addr)) (fp : List Addr), DG (X.blk s H scope (compEnvC scope cl C X.env) fp) tg g qg js)
    (ht : ∀ (s : Shared) (H : Hp) (C : Addr) (cl : List (Str × Addr)) (fp : List Addr), DTs (X.blk s H scope (compEnvC scope cl C X.env) fp) W0 ifs tt qt)
    (he : ∀ (s : Shared) (H : Hp) (C : Addr) (cl : List (Str × Addr)) (fp : List Addr), DE (X.blk s H scope (compEnvC scope cl C X.env) fp) W0 elt te qe)
    (hsw : swapsWith (.ListComp elt [⟨tg, iter, ifs, 0⟩] scope pos) (some (.Name y py)) spos.line X.env = pure true)
    (hy : X.N[i]? = some y := by rfl) (hyl : X.env.scope.names.lookup y = some .local := by rfl) (hj : (∀ j ∈ js, j ∈ own.map (·.2)) := by decide) (hs : ∀ x, foldedSetIterable iter X.env x = pure x := by intro _; rfl) :
    DS X W (.Assign [.Name y py] (.ListComp elt [⟨tg, iter, ifs, 0⟩] scope pos) spos) (tAsg (tLc wi g tt te (own.map (·.2))) (gName i)) (qAsg (qLc (own.map (·.2)) qi qg qt qe) (qgN i)) :=
  ⟨ps_setLc hc hN hy hyl hsw hi.pi ok (fun s H C cl fp => (hg s H C cl fp).pg) (fun s H C cl fp => (ht s H C cl fp).pt) (fun s H C cl fp => (he s H C cl fp).pe) hs,
   ss_asg (se_lc hi.si (hg ({} : Shared) (fun _ => none) 0 [] []).sg (ht ({} : Shared) (fun _ => none) 0 [] []).st (he ({} : Shared) (fun _ => none) 0 [] []).se hj) sg_name⟩
end
end PL

namespace PL
open PySem PySem.Spec PyProof.Rows L2

/-! ### a def's promise, over data -/
abbrev PD := List D → (Wv → Prop) → Prop
inductive RR (B F H : Hp) (v : V) : Wv → Prop
  | sh {d : D} : Rp F v d → RR B F H v (.sh d)
  | ow {o : O} {f : List Addr} : RO F H v o f → (∀ a ∈ f, B a = none ∧ F a = none) → RR B F H v (.ow o)
/-- own cells of slots that hold own objects, and no others -/
def normF (Γ : Ev) (fp : Nat → List Addr) : Nat → List Addr := fun i => match Γ[i]? with
  | some (.ow _) => fp i
  | _ => []
theorem normF_ow {Γ : Ev} {fp : Nat → List Addr} {i : Nat} {o : O} (e : Γ[i]? = some (.ow o)) : normF Γ fp i = fp i := by
  unfold normF
  rw [e]
theorem normF_mem {Γ : Ev} {fp : Nat → List Addr} {i : Nat} {a : Addr} (h : a ∈ normF Γ fp i) : a ∈ fp i ∧ ∃ o, Γ[i]? = some (.ow o) := by
  unfold normF at h
  split at h
  · rename_i o e
    exact ⟨h, o, e⟩
  · exact (List.not_mem_nil h).elim
theorem Rel.norm {B F : Hp} {Γ : Ev} {σ : L2.St} {H : Hp} {fp : Nat → List Addr} (r : Rel B F Γ σ H fp) : Rel B F Γ σ H (normF Γ fp) :=
  ⟨r.bx, r.fx, r.len, r.sh, fun i o e => by rw [normF_ow e]; exact r.ow i o e, fun i a ha => r.nb i a (normF_mem ha).1, fun i j a h1 h2 => r.dj i j a (normF_mem h1).1 (normF_mem h2).1, r.ex⟩
theorem Rel.no_tup {B F : Hp} {Γ : Ev} {σ : L2.St} {H : Hp} {fp : Nat → List Addr} (r : Rel B F Γ σ H fp) {i : Nat} {a : Addr} (h : a ∈ normF Γ fp i) : ∀ xs, H a ≠ some (.tup xs) := by
  obtain ⟨h1, o, e⟩ := normF_mem h
  obtain ⟨v, _, g⟩ := r.ow i o e
  exact g.no_tup a h1
def spD (n : Nat) (p : PD) : Sp := fun vs H Q _ => ∃ (F : Hp) (ds : List D) (R : Wv → Prop), Same F H ∧ RpA F vs ds ∧ ds.length = n ∧ p ds R ∧ ∀ w v F' H', Ext H F F' → Same H H' → Same F' H' → RR H F' H' v w → R w → Q v H'
def qCall (n : Nat) (p : PD) (a : QA) : QE := fun Γ R E => a Γ (fun ds Γ1 => ds.length = n ∧ p ds fun w => R w Γ1) E
theorem se_call {W : WX} {ta : TA} {pa : QA} {n : Nat} {p : PD} {E : XK} (ha : SA W ta pa) : SE W (tCall (spD n p) [] E ta) (qCall n p pa) := fun {B F Γ σ H fp} R EX Q r q k e => by
  refine ha _ _ _ r q (fun ds Γ1 vs F1 H1 fp1 x1 r1 b1 h1 => ?_) e
  rw [List.append_nil]
  refine ⟨F1, ds, _, r1.fx, b1, h1.1, h1.2, fun w v F2 H2 x2 s2 f2 rr hw => ?_⟩
  have nf : ∀ i a, a ∈ normF Γ1 fp1 i → F2 a = none := fun i a hi => by
    obtain ⟨_, e, h⟩ := r1.nb i a (normF_mem hi).1
    cases z : F2 a with
    | none => rfl
    | some u =>
      rcases x2.new a (by rw [z]; exact fun z => nomatch z) e with q | ⟨xs, q⟩
      · exact absurd q h
      · cases q2 : H1 a with
        | none => exact absurd q2 h
        | some u2 =>
          have e1 := s2 a u2 q2
          rw [f2 a _ q] at e1
          cases e1
          exact absurd q2 (r1.no_tup hi xs)
  have r1 := r1.norm
  have r2 : Rel B F2 Γ1 σ H2 (normF Γ1 fp1) := ⟨r1.bx.trans s2, f2, r1.len, fun i d e => by
    obtain ⟨v, g1, g2⟩ := r1.sh i d e
    exact ⟨v, g1, g2.mono x2.same⟩, fun i o e => by
    obtain ⟨v, g1, g2⟩ := r1.ow i o e
    refine ⟨v, g1, g2.mono x2.same fun a ha => ?_⟩
    cases z : H1 a with
    | none => exact absurd z (r1.nb i a ha).2.2
    | some u => exact s2 a u z, fun i a ha => by
    obtain ⟨b, c, d⟩ := r1.nb i a ha
    refine ⟨b, nf i a ha, fun z => d (s2.free z)⟩, r1.dj, r1.ex⟩
  have xx : Ext B F1 F2 := ⟨x2.same, fun a h e => (x2.new a h e).imp (fun z => r1.bx.free z) id⟩
  refine k w Γ1 v F2 H2 _ (x1.trans xx) r2 ?_ hw
  cases rr with
  | sh h => exact .sh h
  | @ow o f h hf =>
    refine .ow h fun a ha => ⟨r1.bx.free (hf a ha).1, (hf a ha).2, fun i hi => ?_⟩
    exact (r1.nb i a hi).2.2 (hf a ha).1
/-- a def that may be called by its name -/
structure Cal (P : Program) (w : World) (K : PySem.W.Frag) (mg : Str → Option Value) (base : Heap) (k : Nat) (x : Str) (sp : Sp) : Prop where
  ex : ∃ (f : Addr) (fd : FuncData) (ps : List Str), FnOk P w K mg base CX0 k f fd ps sp ∧ mg x = some (.ref f) ∧ PySem.W.keepIn K (.ref f) = true ∧ Binds K fd ps []
section
variable {X : Cx} {W : WX} {pos p : Pos} {e : Expr} {es : List Expr} {ta : TA} {pa : QA} {n : Nat} {q : PD} {x : Str} {j k : Nat}
theorem d_call (c : Cal X.prog X.w X.K X.mg X.base k x (spD n q)) (hr : Room j X.A) (ha : DA X W (e :: es) ta pa) (hk : k ≤ j := by decide) (hg : Gl X x := by rfl) (hdb : (x == ("__debug__" : Str)) = false := by decide)
    (he : starEach (e :: es) X.env = (false, eval e X.env) :: starEach es X.env := by rfl) (hpl : (backTo pos (starEach es X.env)).any (·.1) = false := by rfl) :
    DE X W (.Call (.Name x p) (e :: es) [] pos) (tCall (spD n q) [] E0 ta) (qCall n q pa) := ⟨by
  obtain ⟨f, fd, ps, F, hm, kp, b⟩ := c.ex
  exact pe_call F (hr.mono hk) hg hm kp b .nil pass0 ha.pa hdb he hpl, se_call ha.sa⟩
theorem d_call0 (c : Cal X.prog X.w X.K X.mg X.base k x (spD n q)) (hr : Room j X.A) (hk : k ≤ j := by decide) (hg : Gl X x := by rfl) (hdb : (x == ("__debug__" : Str)) = false := by decide) :
    DE X W (.Call (.Name x p) [] [] pos) (tCall (spD n q) [] E0 tNil) (qCall n q qNil) := ⟨by
  obtain ⟨f, fd, ps, F, hm, kp, b⟩ := c.ex
  exact pe_call0 F (hr.mono hk) hg hm kp b .nil pass0 hdb, se_call (fun {B F Γ σ H fp} R EX Q r h k _ => k [] Γ [] F H fp .refl r .nil h)⟩
end
/-- the ends of a def -/
def retW (R : Wv → Prop) : Wv → Ev → Prop := fun w Γ => match w with
  | .sh d => R (.sh d)
  | .ow o => R (.ow o)
  | .at i => match Γ[i]? with
    | some (.sh d) => R (.sh d)
    | some (.ow o) => R (.ow o)
    | _ => False
def endsOf (R : Wv → Prop) : PEnds := ⟨fun _ => R (.sh .none), retW R, fun _ => False, fun _ => False, fun _ _ => False⟩
def startEv (n : Nat) (ds : List D) : Ev := ds.map .sh ++ List.replicate (n - ds.length) .un
theorem rel_start {F H : Hp} {N : List Str} {vs : List V} {ds : List D} (f : Same F H) (b : RpA F vs ds) (hl : ds.length ≤ N.length) : Rel H F (startEv N.length ds) (L2.start N vs) H (fun _ => []) := by
  have e := b.length
  refine ⟨Same.refl H, f, by simp [startEv, L2.start, e], fun i d q => ?_, fun i o q => ?_, fun i a h => by simp at h, fun i j a h => by simp at h, fun i a q => ?_⟩
  · unfold startEv at q
    rw [List.getElem?_append] at q
    split at q
    · rename_i hi
      rw [List.getElem?_map] at q
      cases z : ds[i]? with
      | none =>
        rw [z] at q
        cases q
      | some d' =>
        rw [z] at q
        cases q
        obtain ⟨v, g1, g2⟩ := b.get z
        refine ⟨v, ?_, g2⟩
        unfold L2.start
        rw [List.getElem?_append_left (by simpa [e] using hi), List.getElem?_map, g1]
        rfl
    · rw [List.getElem?_replicate] at q
      split at q <;> cases q
  · unfold startEv at q
    rw [List.getElem?_append] at q
    split at q
    · rw [List.getElem?_map] at q
      cases z : ds[i]? with
      | none =>
        rw [z] at q
        cases q
      | some d' =>
        rw [z] at q
        cases q
    · rw [List.getElem?_replicate] at q
      split at q <;> cases q
  · unfold startEv at q
    rw [List.getElem?_append] at q
    split at q
    · rw [List.getElem?_map] at q
      cases z : ds[i]? with
      | none =>
        rw [z] at q
        cases q
      | some d' =>
        rw [z] at q
        cases q
    · rw [List.getElem?_replicate] at q
      split at q <;> cases q
section
variable {P : Program} {w : World} {K : PySem.W.Frag} {mg : Str → Option Value} {base : Heap}
/-- the binding of n positional arguments -/
theorem cal_mk {x : Str} {st : Stmt} {f : Addr} {fd : FuncData} {N ps : List Str} {k : Nat} {q : PD} (F : L2.Fun K x x st f fd) (hm : mg x = some (.ref f)) (b : Binds K fd ps []) (S : L2.FnScope N ps (L2.defScope st))
    (hbody : ∀ (cdv : Value) (A : Around) (outer : List Env) (s : Shared) (H : Hp) (E : XK), Room k (A.deeper (envOfC x (L2.defScope st) s.heap.objs.size f cdv)) →
      ∃ t p', DSs (cxOf CX0 P w K mg base N x (L2.defScope st) f cdv A outer s H E).nox W0 (L2.defBody st) t p' ∧ ∀ ds R, ds.length = ps.length → q ds R → p' (endsOf R) (startEv N.length ds)) :
    Cal P w K mg base (k + 1) x (spD ps.length q) := by
  have hN : ps.length ≤ N.length := by
    have := congrArg List.length S.pre
    rw [List.length_take] at this
    omega
  refine ⟨f, fd, ps, L2.Fun.ok F S (fun vs H Q E h => ?_) fun cdv A outer s H vs Q E hr h => ?_, hm, F.kp, b⟩
  · obtain ⟨F, ds, R, _, b, hl, _⟩ := h
    rw [b.length, hl]
  · obtain ⟨t, p', hd, hq⟩ := hbody cdv A outer s H E hr
    obtain ⟨F0, ds, R, f0, b, hl, h1, h2⟩ := h
    refine ⟨t, hd.ps, hd.ss (endsOf R) _ (rel_start f0 b (by omega)) (hq ds R hl h1) ⟨fun Γ' F' σ' H' fp' x r z => ?_, fun w Γ' v F' σ' H' fp' x r rw z => ?_, fun _ _ _ _ _ _ _ z => z.elim, fun _ _ _ _ _ _ _ z => z.elim, fun _ _ _ _ _ _ _ _ z => z.elim⟩⟩
    · exact h2 _ _ F' H' x r.bx r.fx (.sh .non) z
    · cases rw with
      | sh h => exact h2 _ _ F' H' x r.bx r.fx (.sh h) z
      | ow h hf => exact h2 _ _ F' H' x r.bx r.fx (.ow h fun a ha => ⟨(hf a ha).1, (hf a ha).2.1⟩) z
      | @«at» i h =>
        unfold endsOf retW at z
        simp only at z
        split at z
        · rename_i d e
          obtain ⟨u, g1, g2⟩ := r.sh i d e
          rw [h] at g1
          cases g1
          exact h2 _ _ F' H' x r.bx r.fx (.sh g2) z
        · rename_i o e
          obtain ⟨u, g1, g2⟩ := r.ow i o e
          rw [h] at g1
          cases g1
          exact h2 _ _ F' H' x r.bx r.fx (.ow g2 fun a ha => ⟨(r.nb i a ha).1, (r.nb i a ha).2.1⟩) z
        · exact z.elim
end

/-! ### operators -/
section
variable {X : Cx}
theorem OpS.or {r r' : R2} {o : OP2} (h : OpS r o) : OpS (fun x y H Q => r x y H Q ∨ r' x y H Q) o := fun {B F Γ σ H fp x y d1 d2} k Q rr b1 b2 z c => .inl (h k Q rr b1 b2 z c)
/-- a scalar result -/
theorem op_sc {B F : Hp} {Γ : Ev} {σ : L2.St} {H : Hp} {fp : Nat → List Addr} {k : Wv → Prop} {Q : VK} {v : V} {d : D} (r : Rel B F Γ σ H fp) (h : Rp F v d) (c : ∀ w v F' H', Ext B F F' → Rel B F' Γ σ H' fp → RW B F' Γ σ H' fp v w → k w → Q v H') (z : k (.sh d)) : Q v H :=
  c _ v F H .refl r (.sh h) z

def rAdd : R2 := fun x y H Q => rI0 (fun i j => .int (i + j)) x y H Q ∨ (∃ i j, x = .str i ∧ y = .str j ∧ i.length + j.length ≤ sizeLine ∧ Q (.str (i ++ j)) H) ∨ rCat x y H Q
def rAddT (K : PySem.W.Frag) : R2 := fun x y H Q => rAdd x y H Q ∨ rCatA K x y H Q
theorem or_add : OpR X (binaryOp .Add) (rAddT X.K) := OpR.or (OpR.or op_add (OpR.or op_add_str op_cat)) op_catA
def opAdd : OP2 := fun d1 d2 k => match d1, d2 with
  | .int i, .int j => k (.sh (.int (i + j)))
  | .str a, .str b => a.length + b.length ≤ sizeLine ∧ k (.sh (.str (a ++ b)))
  | .list xs, .list ys => xs.length + ys.length ≤ sizeLine ∧ k (.ow (.l (xs ++ ys)))
  | .tuple xs, .tuple ys => xs.length + ys.length ≤ sizeLine ∧ k (.sh (.tuple (xs ++ ys)))
  | _, _ => False
theorem strOk_app {a b : Str} (h : PyData.strOk a = true) (h' : PyData.strOk b = true) : PyData.strOk (a ++ b) = true := by
  show (a.cps ++ b.cps).all (· < 0x110000) = true
  rw [Array.all_append]
  exact Bool.and_eq_true_iff.mpr ⟨h, h'⟩
theorem os_add {K : PySem.W.Frag} : OpS (rAddT K) opAdd := fun {B F Γ σ H fp x y d1 d2} k Q r b1 b2 z c => by
  cases b1 with
  | int i =>
    cases b2 with
    | int j => exact .inl (.inl ⟨i, j, rfl, rfl, op_sc r (.int _) c z⟩)
    | _ => exact z.elim
  | str a ha =>
    cases b2 with
    | str b hb => exact .inl (.inr (.inl ⟨a, b, rfl, rfl, z.1, op_sc r (.str _ (strOk_app ha hb)) c z.2⟩))
    | _ => exact z.elim
  | @lst a xs ds e t =>
    cases b2 with
    | @lst b ys es e' t' =>
      refine .inl (.inr (.inr ⟨a, b, xs, ys, rfl, rfl, e, e', by rw [t.length, t'.length]; exact z.1, fun p hp => ?_⟩))
      obtain ⟨r', v'⟩ := new_lst r (t.append t') hp
      exact c _ _ F _ .refl r' v' z.2
    | _ => exact z.elim
  | @tup a xs ds e e0 t =>
    cases b2 with
    | @tup b ys es e' e0' t' =>
      refine .inr ⟨a, b, xs, ys, rfl, rfl, .inl (.inl e0), .inl (.inl e0'), by rw [t.length, t'.length]; exact z.1, fun h => ?_, fun h h' => ?_, fun h h' p hp => ?_⟩
      · subst h
        cases t
        exact c _ _ F H .refl r (.sh (.tup e' t')) z.2
      · subst h'
        cases t'
        have z2 := z.2
        rw [List.append_nil] at z2
        exact c _ _ F H .refl r (.sh (.tup e t)) z2
      · obtain ⟨x', r', v'⟩ := new_tup r (t.append t') hp
        exact c _ _ _ _ x' r' v' z.2
    | _ => exact z.elim
  | _ => cases b2 <;> exact z.elim
theorem d_add {W : WX} {pos : Pos} {a b : Expr} {ta tb : TE} {pa pb : QE} (ha : DE X W a ta pa) (hb : DE X W b tb pb) : DE X W (.BinOp a .Add b pos) (tOp (rAddT X.K) ta tb) (qOp opAdd pa pb) := d_op or_add os_add ha hb

/-- two ints -/
def opI2 (C : Int → Int → Prop) (f : Int → Int → D) : OP2 := fun d1 d2 k => match d1, d2 with
  | .int i, .int j => C i j ∧ k (.sh (f i j))
  | _, _ => False
theorem os_I {C : Int → Int → Prop} {g : Int → Int → V} {f : Int → Int → D} (h : ∀ F i j, Rp F (g i j) (f i j)) : OpS (rI C g) (opI2 C f) := fun {B F Γ σ H fp x y d1 d2} k Q r b1 b2 z c => by
  cases b1 with
  | int i =>
    cases b2 with
    | int j => exact ⟨i, j, rfl, rfl, z.1, op_sc r (h F i j) c z.2⟩
    | _ => exact z.elim
  | _ => cases b2 <;> exact z.elim
def opI20 (f : Int → Int → D) : OP2 := fun d1 d2 k => match d1, d2 with
  | .int i, .int j => k (.sh (f i j))
  | _, _ => False
theorem os_I0 {g : Int → Int → V} {f : Int → Int → D} (h : ∀ F i j, Rp F (g i j) (f i j)) : OpS (rI0 g) (opI20 f) := fun {B F Γ σ H fp x y d1 d2} k Q r b1 b2 z c => by
  cases b1 with
  | int i =>
    cases b2 with
    | int j => exact ⟨i, j, rfl, rfl, op_sc r (h F i j) c z⟩
    | _ => exact z.elim
  | _ => cases b2 <;> exact z.elim
variable {W : WX} {pos : Pos} {a b : Expr} {ta tb : TE} {pa pb : QE}
abbrev opSub : OP2 := opI20 fun i j => .int (i - j)
theorem d_sub (ha : DE X W a ta pa) (hb : DE X W b tb pb) : DE X W (.BinOp a .Sub b pos) (tOp (rI0 fun i j => .int (i - j)) ta tb) (qOp opSub pa pb) := d_op op_sub (os_I0 fun _ _ _ => .int _) ha hb
abbrev opMod : OP2 := opI2 (fun _ j => 0 < j) fun i j => .int (i % j)
theorem d_mod (ha : DE X W a ta pa) (hb : DE X W b tb pb) : DE X W (.BinOp a .Mod b pos) (tOp (rI (fun _ j => 0 < j) fun i j => .int (i % j)) ta tb) (qOp opMod pa pb) := d_op op_mod (os_I fun _ _ _ => .int _) ha hb
abbrev opFdiv : OP2 := opI2 CDiv fun i j => .int (i / j)
theorem d_fdiv (ha : DE X W a ta pa) (hb : DE X W b tb pb) : DE X W (.BinOp a .FloorDiv b pos) (tOp (rI CDiv fun i j => .int (i / j)) ta tb) (qOp opFdiv pa pb) := d_op op_fdiv (os_I fun _ _ _ => .int _) ha hb
abbrev opPow : OP2 := opI2 CPow fun i j => .int (i ^ j.toNat)
theorem d_pow (ha : DE X W a ta pa) (hb : DE X W b tb pb) : DE X W (.BinOp a .Pow b pos) (tOp (rI CPow fun i j => .int (i ^ j.toNat)) ta tb) (qOp opPow pa pb) := d_op op_pow (os_I fun _ _ _ => .int _) ha hb
/-- -x -/
def opNeg : OP1 := fun d k => match d with
  | .int i => k (.sh (.int (-i)))
  | _ => False
theorem us_neg : UnS (rU fun i => .int (-i)) opNeg := fun {B F Γ σ H fp x d} k Q r b z c => by
  cases b with
  | int i => exact ⟨i, rfl, op_sc r (.int _) c z⟩
  | _ => exact z.elim
theorem d_neg (ha : DE X W a ta pa) : DE X W (.UnaryOp .USub a pos) (tUn (rU fun i => .int (-i)) ta) (qUn opNeg pa) := d_un un_neg us_neg ha

/-! ### int * int, text * int, list * int -/
def rMulStr : R2 := fun x y H Q => ∃ a n, x = .str a ∧ y = .int n ∧ MulOk a n ∧ Q (.str (Txt.mul a n)) H
theorem op_mulStr : OpR X (binaryOp .Mult) rMulStr := by
  intro pins s σ H x y v u Q I rx ry h
  obtain ⟨a, n, rfl, rfl, ok, q⟩ := h
  obtain ⟨t, rfl⟩ := rx
  obtain ⟨t', rfl⟩ := ry
  exact SB.mul ok fun t2 k => ⟨.str _, H, I.tok _, ⟨_, rfl⟩, q⟩
def rMul : R2 := fun x y H Q => (rI CMul (fun i j => .int (i * j)) x y H Q ∨ rMulStr x y H Q) ∨ rRep x y H Q
theorem or_mul : OpR X (binaryOp .Mult) rMul := OpR.or (OpR.or op_mul op_mulStr) op_rep
def opMul : OP2 := fun d1 d2 k => match d1, d2 with
  | .int i, .int j => CMul i j ∧ k (.sh (.int (i * j)))
  | .str a, .int n => n < 2 ^ 20 ∧ -(2 ^ 20) < n ∧ a.length * n.toNat ≤ 2 ^ 20 ∧ k (.sh (.str (Txt.mul a n)))
  | .list xs, .int n => n < 2 ^ 20 ∧ -(2 ^ 20) < n ∧ xs.length * n.toNat ≤ 2 ^ 20 ∧ k (.ow (.l (List.replicate n.toNat xs).flatten))
  | _, _ => False
theorem mulOk_of {a : Str} {n : Int} (h1 : n < 2 ^ 20) (h2 : -(2 ^ 20) < n) (h3 : a.length * n.toNat ≤ 2 ^ 20) : MulOk a n := by
  refine ⟨?_, fun h _ => ?_, fun h _ => ?_⟩
  · rw [decide_eq_false (by omega), decide_eq_false (by omega)]
    rfl
  · intro z
    have hn : 1 ≤ n := by omega
    have e : (a.length : Int) ≤ 2 ^ 20 := by
      have : a.length * 1 ≤ a.length * n.toNat := Nat.mul_le_mul_left _ (by omega)
      omega
    have e2 : (2 ^ 63 - 1) / n ≥ (2 ^ 63 - 1) / 2 ^ 20 := by
      apply Int.le_ediv_of_mul_le (by omega)
      have : ((2 ^ 63 - 1) / 2 ^ 20 : Int) * n ≤ ((2 ^ 63 - 1) / 2 ^ 20) * 2 ^ 20 := Int.mul_le_mul_of_nonneg_left (by omega) (by decide)
      omega
    omega
  · unfold Builtin.Str.tooLong
    exact decide_eq_false (by
      have : (sizeLine : Nat) = 16777216 := by decide
      omega)
theorem strOk_mul {a : Str} (h : PyData.strOk a = true) (n : Int) : PyData.strOk (Txt.mul a n) = true := by
  unfold Txt.mul
  split
  · decide +kernel
  · split
    · exact h
    · have f : ∀ (m : Nat) (x : Array Nat), x.all (· < 0x110000) = true → ((List.replicate m a.cps).foldl (· ++ ·) x).all (· < 0x110000) = true := by
        intro m
        induction m with
        | zero => intro x hx; exact hx
        | succ m ih =>
          intro x hx
          rw [List.replicate_succ, List.foldl_cons]
          exact ih _ (by rw [Array.all_append]; exact Bool.and_eq_true_iff.mpr ⟨hx, h⟩)
      exact f _ _ (by decide +kernel)
theorem os_mul : OpS rMul opMul := fun {B F Γ σ H fp x y d1 d2} k Q r b1 b2 z c => by
  cases b1 with
  | int i =>
    cases b2 with
    | int j => exact .inl (.inl ⟨i, j, rfl, rfl, z.1, op_sc r (.int _) c z.2⟩)
    | _ => exact z.elim
  | str a ha =>
    cases b2 with
    | int n => exact .inl (.inr ⟨a, n, rfl, rfl, mulOk_of z.1 z.2.1 z.2.2.1, op_sc r (.str _ (strOk_mul ha n)) c z.2.2.2⟩)
    | _ => exact z.elim
  | @lst a xs ds e t =>
    cases b2 with
    | int n =>
      obtain ⟨z1, z2, z3, z4⟩ := z
      refine .inr ⟨a, n, xs, rfl, rfl, e, by omega, by omega, by rw [t.length]; exact Nat.le_trans z3 (by decide), fun p hp => ?_⟩
      obtain ⟨r', v'⟩ := new_lst r (t.rep n.toNat) hp
      exact c _ _ F _ .refl r' v' z4
    | _ => exact z.elim
  | _ => cases b2 <;> exact z.elim
theorem d_mul (ha : DE X W a ta pa) (hb : DE X W b tb pb) : DE X W (.BinOp a .Mult b pos) (tOp rMul ta tb) (qOp opMul pa pb) := d_op or_mul os_mul ha hb

/-! ### comparisons -/
def opEq : OP2 := fun d1 d2 k => (flat 60 d1 && flat 60 d2) = true ∧ k (.sh (.bool (PyData.eqv d1 d2)))
def opNe : OP2 := fun d1 d2 k => (flat 60 d1 && flat 60 d2) = true ∧ k (.sh (.bool (!PyData.eqv d1 d2)))
theorem os_eq {K : PySem.W.Frag} : OpS (rEqD K) opEq := fun {B F Γ σ H fp x y d1 d2} k Q r b1 b2 z c => by
  obtain ⟨f1, f2⟩ := Bool.and_eq_true_iff.mp z.1
  have q1 := b1.rp r.fx
  have q2 := b2.rp r.fx
  exact ⟨d1, d2, q1.dpf f1, q2.dpf f2, q1.shaped f1, q2.shaped f2, op_sc r (.bl _) c z.2⟩
theorem os_ne {K : PySem.W.Frag} : OpS (rNeD K) opNe := fun {B F Γ σ H fp x y d1 d2} k Q r b1 b2 z c => by
  obtain ⟨f1, f2⟩ := Bool.and_eq_true_iff.mp z.1
  have q1 := b1.rp r.fx
  have q2 := b2.rp r.fx
  exact ⟨d1, d2, q1.dpf f1, q2.dpf f2, q1.shaped f1, q2.shaped f2, op_sc r (.bl _) c z.2⟩
theorem or_eq {j : Nat} (hr : Room j X.A) : OpR X (compareOp .Eq) (rEqD X.K) := op_eqD hr.units
theorem or_ne {j : Nat} (hr : Room j X.A) : OpR X (compareOp .NotEq) (rNeD X.K) := op_neD hr.units
/-- orders of ints and of texts -/
def opOrd (f : Int → Int → Bool) (g : Str → Str → Bool) : OP2 := fun d1 d2 k => match d1, d2 with
  | .int i, .int j => k (.sh (.bool (f i j)))
  | .str a, .str b => k (.sh (.bool (g a b)))
  | _, _ => False
def rOrd (f : Int → Int → Bool) (g : Str → Str → Bool) : R2 := fun x y H Q => rI0 (fun i j => .bl (f i j)) x y H Q ∨ ∃ i j, x = .str i ∧ y = .str j ∧ Q (.bl (g i j)) H
theorem os_ord {f : Int → Int → Bool} {g : Str → Str → Bool} : OpS (rOrd f g) (opOrd f g) := fun {B F Γ σ H fp x y d1 d2} k Q r b1 b2 z c => by
  cases b1 with
  | int i =>
    cases b2 with
    | int j => exact .inl ⟨i, j, rfl, rfl, op_sc r (.bl _) c z⟩
    | _ => exact z.elim
  | str a ha =>
    cases b2 with
    | str b hb => exact .inr ⟨a, b, rfl, rfl, op_sc r (.bl _) c z⟩
    | _ => exact z.elim
  | _ => cases b2 <;> exact z.elim
def sLt (a b : Str) : Bool := decide (a.cps.toList < b.cps.toList)
abbrev opLt : OP2 := opOrd (fun i j => decide (i < j)) sLt
abbrev opLe : OP2 := opOrd (fun i j => decide (i ≤ j)) fun a b => !sLt b a
abbrev opGt : OP2 := opOrd (fun i j => decide (j < i)) fun a b => sLt b a
abbrev opGe : OP2 := opOrd (fun i j => decide (j ≤ i)) fun a b => !sLt a b
theorem or_lt : OpR X (compareOp .Lt) (rOrd (fun i j => decide (i < j)) sLt) := OpR.or op_lt op_lt_str
theorem or_le : OpR X (compareOp .LtE) (rOrd (fun i j => decide (i ≤ j)) fun a b => !sLt b a) := OpR.or op_le op_le_str
theorem or_gt : OpR X (compareOp .Gt) (rOrd (fun i j => decide (j < i)) fun a b => sLt b a) := OpR.or op_gt op_gt_str
theorem or_ge : OpR X (compareOp .GtE) (rOrd (fun i j => decide (j ≤ i)) fun a b => !sLt a b) := OpR.or op_ge op_ge_str
/-- is None, is not None -/
def isNone : D → Bool
  | .none => true
  | _ => false
def opIs : OP2 := fun d1 d2 k => match d2 with
  | .none => k (.sh (.bool (isNone d1)))
  | _ => False
def opIsNot : OP2 := fun d1 d2 k => match d2 with
  | .none => k (.sh (.bool (!isNone d1)))
  | _ => False
theorem Rb.isNone {F H : Hp} {v : V} {d : D} (h : Rb F H v d) : decide (v = .non) = PL.isNone d := by cases h <;> first | rfl | simp [PL.isNone]
abbrev rIs : R2 := fun x y H Q => y = .non ∧ Q (.bl (decide (x = .non))) H
abbrev rIsNot : R2 := fun x y H Q => y = .non ∧ Q (.bl (!decide (x = .non))) H
theorem os_is : OpS rIs opIs := fun {B F Γ σ H fp x y d1 d2} k Q r b1 b2 z c => by
  cases b2 with
  | non => exact ⟨rfl, op_sc r (by rw [b1.isNone]; exact .bl _) c z⟩
  | _ => exact z.elim
theorem os_isNot : OpS rIsNot opIsNot := fun {B F Γ σ H fp x y d1 d2} k Q r b1 b2 z c => by
  cases b2 with
  | non => exact ⟨rfl, op_sc r (by rw [b1.isNone]; exact .bl _) c z⟩
  | _ => exact z.elim
end
end PL

namespace PL
open PySem PySem.Spec PyProof.Rows L2

section
variable {X : Cx} {W : WX} {pos p : Pos} {a b e : Expr} {ta tb te : TE} {pa pb pe : QE}

/-! ### in, not in: a list, a text -/
def inD (d : D) (ds : List D) : Bool := ds.any fun z => PyData.eqv z d
def opInW (f : Bool → Bool) : OP2 := fun d1 d2 k => match d2 with
  | .list ds => (flat 60 d1 && flat 60 (.list ds)) = true ∧ k (.sh (.bool (f (inD d1 ds))))
  | .str y => (match d1 with
    | .str x => (match x.cps.toList with
      | [c] => k (.sh (.bool (f (decide (c ∈ y.cps.toList)))))
      | _ => False)
    | _ => False)
  | _ => False
def rInSg (f : Bool → Bool) : R2 := fun x y H Q => ∃ (c : Nat) (z : Str), x = .str ⟨#[c]⟩ ∧ y = .str z ∧ Q (.bl (f (decide (c ∈ z.cps.toList)))) H
def rInDg (K : PySem.W.Frag) (f : Bool → Bool) : R2 := fun x y H Q => ∃ d ds, Dp K H x d ∧ Dp K H y (.list ds) ∧ SeqAt.shaped d = true ∧ SeqAt.shaped (.list ds) = true ∧ Q (.bl (f (ds.any fun z => PyData.eqv z d))) H
def rInW (K : PySem.W.Frag) (f : Bool → Bool) : R2 := fun x y H Q => rInDg K f x y H Q ∨ rInSg f x y H Q
theorem os_in {K : PySem.W.Frag} {f : Bool → Bool} : OpS (rInW K f) (opInW f) := fun {B F Γ σ H fp x y d1 d2} k Q r b1 b2 z c => by
  cases b2 with
  | @lst a xs ds e t =>
    obtain ⟨f1, f2⟩ := Bool.and_eq_true_iff.mp z.1
    have q1 := b1.rp r.fx
    have q2 := (Rb.lst e t).rp r.fx
    exact .inl ⟨d1, ds, q1.dpf f1, q2.dpf f2, q1.shaped f1, q2.shaped f2, op_sc r (.bl _) c z.2⟩
  | str y hy =>
    cases b1 with
    | str x hx =>
      unfold opInW at z
      simp only at z
      split at z
      · rename_i ch hc
        refine .inr ⟨ch, y, ?_, rfl, op_sc r (.bl _) c z⟩
        obtain ⟨⟨l⟩⟩ := x
        simp only at hc
        rw [hc]
      · exact z.elim
    | _ => exact z.elim
  | _ => exact z.elim
theorem or_in {j : Nat} (hr : Room j X.A) : OpR X (compareOp .In) (rInW X.K id) := OpR.or (fun pins s σ H x y v u Q I rx ry h => op_inD (by have := hr.un; omega) pins s σ H x y v u Q I rx ry h) (fun pins s σ H x y v u Q I rx ry h => op_in_sign pins s σ H x y v u Q I rx ry h)
theorem or_notIn {j : Nat} (hr : Room j X.A) : OpR X (compareOp .NotIn) (rInW X.K not) := OpR.or (fun pins s σ H x y v u Q I rx ry h => op_notInD (by have := hr.un; omega) pins s σ H x y v u Q I rx ry h) (fun pins s σ H x y v u Q I rx ry h => op_notIn_sign pins s σ H x y v u Q I rx ry h)

/-! ### subscripts -/
/-- the script's items -/
def scrOf : D → Option (List D)
  | .dict [(.none, .list ds)] => some ds
  | _ => none
theorem Rb.scr {F H : Hp} {v : V} {d : D} {ds : List D} (h : Rb F H v d) (e : scrOf d = some ds) : ∃ a o xs, v = .ref a ∧ H a = some (.frz o (.lst xs)) ∧ RpA F xs ds := by
  cases h with
  | @fz a o xs ds' e' t =>
    cases e
    exact ⟨a, o, xs, rfl, e', t⟩
  | dk e' t =>
    cases t with
    | nil => cases e
    | @cons k _ _ d _ _ r =>
      cases r with
      | nil => cases k <;> cases d <;> cases e
      | cons => cases k <;> cases d <;> cases e
  | dt e' t =>
    cases t with
    | nil => cases e
    | @cons k _ _ d _ _ r =>
      cases r with
      | nil => cases d <;> cases e
      | cons => cases d <;> cases e
  | _ => cases e
/-- an item by its place, from the end too -/
def ixD {α : Type} (ds : List α) : Int → Option α
  | .ofNat n => ds[n]?
  | .negSucc n => if n < ds.length then ds[ds.length - 1 - n]? else none
theorem ixD_eq {α : Type} (ds : List α) (i : Int) : L2.atI ds i = ixD ds i := by
  unfold L2.atI ixN
  cases i with
  | ofNat n =>
    show (if 0 ≤ (n : Int) then (if (n : Int) < ds.length then some ((n : Int)).toNat else none) else _).bind _ = ds[n]?
    rw [if_pos (by omega)]
    by_cases h : n < ds.length
    · rw [if_pos (by omega)]
      simp
    · rw [if_neg (by omega), List.getElem?_eq_none (by omega)]
      rfl
  | negSucc n =>
    rw [if_neg (by omega)]
    show _ = if n < ds.length then ds[ds.length - 1 - n]? else none
    by_cases h : n < ds.length
    · rw [if_pos (by omega), if_pos h]
      show ds[(Int.negSucc n + (ds.length : Int)).toNat]? = _
      congr 1
      omega
    · rw [if_neg (by omega), if_neg h]
      rfl
def opIx : OP2 := fun d1 d2 k => match d2 with
  | .int i => (match d1 with
    | .list ds => (match ixD ds i with
      | some d => k (.sh d)
      | none => False)
    | .tuple ds => (match ixD ds i with
      | some d => k (.sh d)
      | none => False)
    | .str x => x.length ≤ sizeLine ∧ (match ixD x.cps.toList i with
      | some c => k (.sh (signD c))
      | none => False)
    | d => (match scrOf d with
      | some ds => (match ixD ds i with
        | some d => k (.sh d)
        | none => False)
      | none => False))
  | _ => False
theorem RpA.atI {F : Hp} {vs : List V} {ds : List D} {i : Int} {d : D} (h : RpA F vs ds) (e : L2.atI ds i = some d) : ∃ v, L2.atI vs i = some v ∧ Rp F v d := by
  unfold L2.atI at e ⊢
  rw [h.length]
  cases z : ixN ds.length i with
  | none =>
    rw [z] at e
    cases e
  | some j =>
    rw [z] at e
    obtain ⟨v, h1, h2⟩ := h.get (show ds[j]? = some d from e)
    exact ⟨v, h1, h2⟩
theorem RpA.ixD {F : Hp} {vs : List V} {ds : List D} {i : Int} {d : D} (h : RpA F vs ds) (e : PL.ixD ds i = some d) : ∃ v, L2.atI vs i = some v ∧ Rp F v d := h.atI ((ixD_eq ds i).trans e)
theorem ix_scr {K : PySem.W.Frag} {B F : Hp} {Γ : Ev} {σ : L2.St} {H : Hp} {fp : Nat → List Addr} {x : V} {d1 : D} {i : Int} {k : Wv → Prop} {Q : VK} (r : Rel B F Γ σ H fp) (b1 : Rb F H x d1)
    (z : match scrOf d1 with | some ds => (match PL.ixD ds i with | some d => k (.sh d) | none => False) | none => False) (c : ∀ w v F' H', Ext B F F' → Rel B F' Γ σ H' fp → RW B F' Γ σ H' fp v w → k w → Q v H') : rIx K x (.int i) H Q := by
  split at z
  · rename_i ds hs
    obtain ⟨a, o, xs, rfl, e, t⟩ := b1.scr hs
    split at z
    · rename_i d hd
      obtain ⟨v, h1, h2⟩ := t.ixD hd
      exact .inl ⟨a, xs, i, v, rfl, rfl, .inl (.inr ⟨o, e⟩), h1, op_sc r h2 c z⟩
    · exact z.elim
  · exact z.elim
theorem os_ix {K : PySem.W.Frag} : OpS (rIx K) opIx := fun {B F Γ σ H fp x y d1 d2} k Q r b1 b2 z c => by
  cases b2 with
  | int i =>
    cases b1 with
    | @lst a xs ds e t =>
      unfold opIx at z
      simp only at z
      split at z
      · rename_i d hd
        obtain ⟨v, h1, h2⟩ := t.ixD hd
        exact .inl ⟨a, xs, i, v, rfl, rfl, .inl (.inl e), h1, op_sc r h2 c z⟩
      · exact z.elim
    | @tup a xs ds e0 e t =>
      unfold opIx at z
      simp only at z
      split at z
      · rename_i d hd
        obtain ⟨v, h1, h2⟩ := t.ixD hd
        exact .inr (.inl ⟨a, xs, i, v, rfl, rfl, .inl (.inl e), h1, op_sc r h2 c z⟩)
      · exact z.elim
    | str x hx =>
      unfold opIx at z
      simp only at z
      obtain ⟨z1, z⟩ := z
      split at z
      · rename_i ch hd
        refine .inr (.inr ⟨x, i, ch, rfl, rfl, z1, (ixD_eq _ _).trans hd, op_sc r (.str _ ?_) c z⟩)
        rw [← ixD_eq] at hd
        unfold L2.atI at hd
        cases y : ixN x.cps.toList.length i with
        | none =>
          rw [y] at hd
          cases hd
        | some j =>
          rw [y] at hd
          exact strOk_sign hx (i := j) (by rw [← Array.getElem?_toList]; exact hd)
      · exact z.elim
    | fz e t => exact ix_scr r (.fz e t) z c
    | dk e t => exact ix_scr r (.dk e t) z c
    | dt e t => exact ix_scr r (.dt e t) z c
    | _ => exact z.elim
  | _ => exact z.elim
theorem d_sub_ix (ha : DE X W a ta pa) (hb : DE X W b tb pb) (hx : PlainIx b := by exact fun _ _ => rfl) : DE X W (.Subscript a b pos) (tOp (rIx X.K) ta tb) (qOp opIx pa pb) := d_ix ix_seq os_ix ha hb hx

/-! ### slices -/
abbrev QO := Ev → (Option Int → Ev → Prop) → EXP → Prop
def SO (W : WX) (to : TO) (q : QO) : Prop := ∀ {B F : Hp} {Γ : Ev} {σ : L2.St} {H : Hp} {fp : Nat → List Addr} (R : Option Int → Ev → Prop) (EX : EXP) (Q : Option Int → Hp → Prop), Rel B F Γ σ H fp → q Γ R EX →
  (∀ o Γ' F' H' fp', Ext B F F' → Rel B F' Γ' σ H' fp' → R o Γ' → Q o H') → AfE W B F σ EX → to σ H Q
structure DO (X : Cx) (W : WX) (e : Option Expr) (to : TO) (q : QO) : Prop where
  po : PO X e to
  so : SO W to q
def qoN : QO := fun Γ R _ => R none Γ
def qoS (p : QE) : QO := fun Γ R E => p Γ (fun w Γ1 => match w with
  | .sh (.int i) => R (some i) Γ1
  | _ => False) E
theorem do_none : DO X W none tNoPart qoN := ⟨po_none, fun {B F Γ σ H fp} R EX Q r h k _ => k none Γ F H fp .refl r h⟩
theorem do_some (h : DE X W e te pe) : DO X W (some e) (tPart te) (qoS pe) := ⟨po_some h.pe, fun {B F Γ σ H fp} R EX Q r q k a => by
  refine h.se _ _ _ r q (fun w Γ1 v F1 H1 fp1 x1 r1 v1 h1 => ?_) a
  split at h1
  · rename_i i
    cases v1 with
    | sh z =>
      cases z
      exact ⟨i, rfl, k _ Γ1 F1 H1 fp1 x1 r1 h1⟩
  · exact h1.elim⟩
def cutD (xs : List D) (lo hi : Option Int) : List D := (xs.drop (HT.sIx xs.length 0 lo)).take (HT.sIx xs.length xs.length hi - HT.sIx xs.length 0 lo)
theorem RpA.cut {F : Hp} {vs : List V} {ds : List D} (h : RpA F vs ds) (lo hi : Option Int) : RpA F (cutV vs lo hi) (cutD ds lo hi) := by
  unfold cutV cutD
  rw [h.length]
  exact (h.drop _).take _
def opSl (d : D) (lo hi : Option Int) (k : Wv → Prop) : Prop := match d with
  | .list ds => k (.ow (.l (cutD ds lo hi)))
  | .tuple ds => k (.sh (.tuple (cutD ds lo hi)))
  | .str x => x.length ≤ sizeLine ∧ k (.sh (.str (cutS x lo hi)))
  | _ => False
def rSlW (K : PySem.W.Frag) : V → Option Int → Option Int → Hp → VK → Prop := fun x lo hi H Q => (rSlL K x lo hi H Q ∨ rSlA K x lo hi H Q) ∨ rSlS x lo hi H Q
theorem sl_w : SlR X (rSlW X.K) := SlR.or (SlR.or sl_list sl_tupA) sl_str
def qSl (p : QE) (l h : QO) : QE := fun Γ R E => p Γ (fun w Γ1 => l Γ1 (fun lo Γ2 => h Γ2 (fun hi Γ3 => bor w Γ3 fun d => opSl d lo hi fun w => R w Γ3) E) E) E
theorem strOk_of {x y : Str} (h : PyData.strOk x = true) (e : ∀ c ∈ y.cps.toList, c ∈ x.cps.toList) : PyData.strOk y = true := by
  have h' : x.cps.all (· < 0x110000) = true := h
  show y.cps.all (· < 0x110000) = true
  rw [Array.all_eq_true'] at h' ⊢
  intro c hc
  exact h' c (by simpa using e c (by simpa using hc))
theorem strOk_cut {x : Str} (h : PyData.strOk x = true) (lo hi : Option Int) : PyData.strOk (cutS x lo hi) = true := strOk_of h fun c hc => by
  unfold cutS at hc
  simp only at hc
  exact List.mem_of_mem_drop (List.mem_of_mem_take hc)
theorem cutV_full {vs : List V} {lo hi : Option Int} (h : HT.sIx vs.length 0 lo = 0 ∧ HT.sIx vs.length vs.length hi = vs.length) : cutV vs lo hi = vs := by
  unfold cutV
  rw [h.1, h.2]
  simp
theorem d_slice {lo hi : Option Expr} {tl th : TO} {ql qh : QO} {p2 : Pos} (he : DE X W e te pe) (hl : DO X W lo tl ql) (hh : DO X W hi th qh) : DE X W (.Subscript e (.Slice lo hi none p2) pos) (tSl (rSlW X.K) te tl th) (qSl pe ql qh) := ⟨pe_slice sl_w he.pe hl.po hh.po, fun {B F Γ σ H fp} R EX Q r q k a => by
  refine he.se _ EX _ r q (fun w Γ1 v F1 H1 fp1 x1 r1 v1 h1 => ?_) a
  obtain ⟨B', r1', g⟩ := r1.guard v1
  have cv : ∀ {F Γ H fp}, Ext B' F1 F → Rel B' F Γ σ H fp → AfE W B' F σ EX := fun {F2 Γ2 H2 fp2} x2 r2 c Γ' F' H' fp' x3 r3 q => by
    obtain ⟨x4, r4, _, _⟩ := g F' Γ' H' fp' (x2.trans x3) r3
    exact a c Γ' F' H' fp' (x1.trans x4) r4 q
  refine hl.so _ EX _ r1' h1 (fun l Γ2 F2 H2 fp2 x2 r2 h2 => ?_) (cv .refl r1')
  refine hh.so _ EX _ r2 h2 (fun u Γ3 F3 H3 fp3 x3 r3 h3 => ?_) (cv x2 r2)
  obtain ⟨x4, r4, v4, _⟩ := g F3 Γ3 H3 fp3 (x2.trans x3) r3
  obtain ⟨d, b, z⟩ := bor_rb r4 v4 h3
  cases b with
  | @lst a xs ds e t =>
    refine .inl (.inl ⟨a, xs, rfl, .inl (.inl e), fun p hp => ?_⟩)
    obtain ⟨r5, v5⟩ := new_lst r4 (t.cut l u) hp
    exact k _ Γ3 _ F3 _ fp3 (x1.trans x4) r5 v5 z
  | @tup a xs ds e0 e t =>
    refine .inl (.inr ⟨a, xs, rfl, .inl (.inl e), fun h => ?_, fun h p hp => ?_⟩)
    · have e1 : cutD ds l u = ds := by
        have := h
        rw [t.length] at this
        unfold cutD
        rw [this.1, this.2]
        simp
      have z' : R (.sh (.tuple (cutD ds l u))) Γ3 := z
      rw [e1] at z'
      exact k _ Γ3 _ F3 H3 fp3 (x1.trans x4) r4 (.sh (.tup e0 t)) z'
    · obtain ⟨x5, r5, v5⟩ := new_tup r4 (t.cut l u) hp
      exact k _ Γ3 _ _ _ fp3 ((x1.trans x4).trans x5) r5 v5 z
  | str x hx => exact .inr ⟨x, rfl, z.1, k _ Γ3 _ F3 H3 fp3 (x1.trans x4) r4 (.sh (.str _ (strOk_cut hx l u))) z.2⟩
  | _ => exact z.elim⟩
/-- xs[::-1] of a list -/
def opRevL : OP1 := fun d k => match d with
  | .list ds => k (.ow (.l ds.reverse))
  | _ => False
theorem d_revL {k : Nat} {p1 p2 p3 : Pos} (he : DE X W e te pe) : DE X W (.Subscript e (.Slice none none (some (.UnaryOp .USub (.Constant (.int 1) k p1) p2)) p3) pos) (tRevL X.K te) (qUn opRevL pe) := ⟨pe_revL he.pe, fun {B F Γ σ H fp} R EX Q r q c a => by
  refine he.se _ EX _ r q (fun w Γ1 v F1 H1 fp1 x1 r1 v1 h1 => ?_) a
  obtain ⟨d, b, z⟩ := bor_rb r1 v1 h1
  cases b with
  | @lst a xs ds e t =>
    refine ⟨a, xs, rfl, .inl (.inl e), fun p hp => ?_⟩
    obtain ⟨r5, v5⟩ := new_lst r1 t.reverse hp
    exact c _ Γ1 _ F1 _ fp1 x1 r5 v5 z
  | _ => exact z.elim⟩

/-! ### built-in functions of one argument that is looked at -/
theorem se_call1 {r : List V → Hp → VK → Prop} {o : OP1} (hs : UnS (fun x H Q => r [x] H Q) o) (ha : SE W ta pa) : SE W (tCB r (tCons ta tNil)) (qUn o pa) := fun {B F Γ σ H fp} R EX Q rr h k e => by
  refine ha _ _ _ rr h (fun w1 Γ1 x F1 H1 fp1 x1 r1 v1 h1 => ?_) e
  obtain ⟨d, b, z⟩ := bor_rb r1 v1 h1
  exact hs _ Q r1 b z fun w v F2 H2 x2 r2 q2 kk => k w Γ1 v F2 H2 fp1 (x1.trans x2) r2 q2 kk
theorem d_bi1 {id : String} {x : Str} {r : List V → Hp → VK → Prop} {o : OP1} (hc : CallR X (.builtin id) r) (hs : UnS (fun x H Q => r [x] H Q) o) (hm : X.mg x = none) (hv : bootBuiltins x = some (.builtin id)) (ha : DE X W a ta pa) (hg : Gl X x := by rfl)
    (hn : x ≠ "__name__" := by decide) (hdb : (x == ("__debug__" : Str)) = false := by decide) (he : starEach [a] X.env = (false, eval a X.env) :: starEach [] X.env := by rfl) (hpl : (backTo pos (starEach [] X.env)).any (·.1) = false := by rfl) :
    DE X W (.Call (.Name x p) [a] [] pos) (tCB r (tCons ta tNil)) (qUn o pa) := ⟨pe_callB hc hg hm hv (pa_cons ha.pe pa_nil he) hn hdb he hpl, se_call1 hs ha.se⟩
theorem d_ty1 {T : String} {x : Str} {r : List V → Hp → VK → Prop} {o : OP1} (hc : CallR X (.type T) r) (hs : UnS (fun x H Q => r [x] H Q) o) (hm : X.mg x = none) (hv : bootBuiltins x = some (.type T)) (ha : DE X W a ta pa) (hg : Gl X x := by rfl)
    (hn : x ≠ "__name__" := by decide) (hdb : (x == ("__debug__" : Str)) = false := by decide) (he : starEach [a] X.env = (false, eval a X.env) :: starEach [] X.env := by rfl) (hpl : (backTo pos (starEach [] X.env)).any (·.1) = false := by rfl) :
    DE X W (.Call (.Name x p) [a] [] pos) (tCB r (tCons ta tNil)) (qUn o pa) := ⟨pe_callTy hc hg hm hv (pa_cons ha.pe pa_nil he) hn hdb he hpl, se_call1 hs ha.se⟩
/-- len -/
abbrev rLenW (K : PySem.W.Frag) : List V → Hp → VK → Prop := fun xs H Q => ∃ x n, xs = [x] ∧ LenV K x H n ∧ Q (.int n) H
abbrev rIntW : List V → Hp → VK → Prop := fun xs H Q => (∃ i, xs = [.int i] ∧ Q (.int i) H) ∨ ∃ k, xs = [.bl k] ∧ Q (.int (if k then 1 else 0)) H
abbrev rListW (K : PySem.W.Frag) : List V → Hp → VK → Prop := fun xs H Q => ∃ p ys, xs = [.ref p] ∧ (SqL K H p ys ∨ SqT K H p ys) ∧ ∀ l, H l = none → Q (.ref l) (upd H l (.lst ys))
abbrev rTupleW (K : PySem.W.Frag) : List V → Hp → VK → Prop := fun xs H Q => ∃ p ys, xs = [.ref p] ∧ ((SqL K H p ys ∧ ∀ l, H l = none → Q (.ref l) (upd H l (.tup ys))) ∨ (SqT K H p ys ∧ Q (.ref p) H))
def opLen : OP1 := fun d k => match d with
  | .str x => x.length ≤ sizeLine ∧ k (.sh (.int x.length))
  | .list ds => k (.sh (.int ds.length))
  | .tuple ds => k (.sh (.int ds.length))
  | d => (match scrOf d with
    | some ds => k (.sh (.int ds.length))
    | none => False)
theorem len_scr {K : PySem.W.Frag} {B F : Hp} {Γ : Ev} {σ : L2.St} {H : Hp} {fp : Nat → List Addr} {x : V} {d : D} {k : Wv → Prop} {Q : VK} (r : Rel B F Γ σ H fp) (b : Rb F H x d)
    (z : match scrOf d with | some ds => k (.sh (.int ds.length)) | none => False) (c : ∀ w v F' H', Ext B F F' → Rel B F' Γ σ H' fp → RW B F' Γ σ H' fp v w → k w → Q v H') : ∃ y n, [x] = [y] ∧ LenV K y H n ∧ Q (.int n) H := by
  split at z
  · rename_i ds hs
    obtain ⟨a, o, xs, rfl, e, t⟩ := b.scr hs
    exact ⟨_, xs.length, rfl, .inl ⟨xs, .inl (.inr ⟨o, e⟩), rfl⟩, op_sc r (.int _) c (by rw [t.length]; exact z)⟩
  · exact z.elim
theorem us_len {K : PySem.W.Frag} : UnS (fun x H Q => rLenW K [x] H Q) opLen := fun {B F Γ σ H fp x d} k Q r b z c => by
  cases b with
  | str x hx => exact ⟨_, x.length, rfl, ⟨z.1, rfl⟩, op_sc r (.int _) c z.2⟩
  | @lst a xs ds e t => exact ⟨_, xs.length, rfl, .inl ⟨xs, .inl (.inl e), rfl⟩, op_sc r (.int _) c (by rw [t.length]; exact z)⟩
  | @tup a xs ds e0 e t => exact ⟨_, xs.length, rfl, .inr ⟨xs, .inl (.inl e), rfl⟩, op_sc r (.int _) c (by rw [t.length]; exact z)⟩
  | fz e t => exact len_scr r (.fz e t) z c
  | dk e t => exact len_scr r (.dk e t) z c
  | dt e t => exact len_scr r (.dt e t) z c
  | _ => exact z.elim
theorem d_len (hm : X.mg "len" = none) (ha : DE X W a ta pa) (hg : Gl X "len" := by rfl) (he : starEach [a] X.env = (false, eval a X.env) :: starEach [] X.env := by rfl) (hpl : (backTo pos (starEach [] X.env)).any (·.1) = false := by rfl) :
    DE X W (.Call (.Name "len" p) [a] [] pos) (tCB (rLenW X.K) (tCons ta tNil)) (qUn opLen pa) := d_bi1 call_len us_len hm PySem.boot_len ha hg (by decide) (by decide) he hpl
/-- int of an int, of a bool -/
def opInt : OP1 := fun d k => match d with
  | .int i => k (.sh (.int i))
  | .bool b => k (.sh (.int (if b then 1 else 0)))
  | _ => False
theorem us_int : UnS (fun x H Q => rIntW [x] H Q) opInt := fun {B F Γ σ H fp x d} k Q r b z c => by
  cases b with
  | int i => exact .inl ⟨i, rfl, op_sc r (.int _) c z⟩
  | bl i => exact .inr ⟨i, rfl, op_sc r (.int _) c z⟩
  | _ => exact z.elim
theorem d_int1 (hm : X.mg "int" = none) (ha : DE X W a ta pa) (hg : Gl X "int" := by rfl) (he : starEach [a] X.env = (false, eval a X.env) :: starEach [] X.env := by rfl) (hpl : (backTo pos (starEach [] X.env)).any (·.1) = false := by rfl) :
    DE X W (.Call (.Name "int" p) [a] [] pos) (tCB (rIntW) (tCons ta tNil)) (qUn opInt pa) := d_ty1 call_int1 us_int hm (by decide +kernel) ha hg (by decide) (by decide) he hpl
/-- list(xs), tuple(xs) -/
def opList : OP1 := fun d k => match d with
  | .list ds => k (.ow (.l ds))
  | .tuple ds => k (.ow (.l ds))
  | _ => False
theorem us_list {K : PySem.W.Frag} : UnS (fun x H Q => rListW K [x] H Q) opList := fun {B F Γ σ H fp x d} k Q r b z c => by
  cases b with
  | @lst a xs ds e t =>
    refine ⟨a, xs, rfl, .inl (.inl (.inl e)), fun p hp => ?_⟩
    obtain ⟨r5, v5⟩ := new_lst r t hp
    exact c _ _ F _ .refl r5 v5 z
  | @tup a xs ds e0 e t =>
    refine ⟨a, xs, rfl, .inr (.inl (.inl e)), fun p hp => ?_⟩
    obtain ⟨r5, v5⟩ := new_lst r t hp
    exact c _ _ F _ .refl r5 v5 z
  | _ => exact z.elim
theorem d_list1 (hm : X.mg "list" = none) (ha : DE X W a ta pa) (hg : Gl X "list" := by rfl) (he : starEach [a] X.env = (false, eval a X.env) :: starEach [] X.env := by rfl) (hpl : (backTo pos (starEach [] X.env)).any (·.1) = false := by rfl) :
    DE X W (.Call (.Name "list" p) [a] [] pos) (tCB (rListW X.K) (tCons ta tNil)) (qUn opList pa) := d_ty1 call_list_of us_list hm (by decide +kernel) ha hg (by decide) (by decide) he hpl
def opTuple : OP1 := fun d k => match d with
  | .list ds => k (.sh (.tuple ds))
  | .tuple ds => k (.sh (.tuple ds))
  | _ => False
theorem us_tuple {K : PySem.W.Frag} : UnS (fun x H Q => rTupleW K [x] H Q) opTuple := fun {B F Γ σ H fp x d} k Q r b z c => by
  cases b with
  | @lst a xs ds e t =>
    refine ⟨a, xs, rfl, .inl ⟨.inl (.inl e), fun p hp => ?_⟩⟩
    obtain ⟨x5, r5, v5⟩ := new_tup r t hp
    exact c _ _ _ _ x5 r5 v5 z
  | @tup a xs ds e0 e t => exact ⟨a, xs, rfl, .inr ⟨.inl (.inl e), op_sc r (.tup e0 t) c z⟩⟩
  | _ => exact z.elim
theorem d_tuple1 (hm : X.mg "tuple" = none) (ha : DE X W a ta pa) (hg : Gl X "tuple" := by rfl) (he : starEach [a] X.env = (false, eval a X.env) :: starEach [] X.env := by rfl) (hpl : (backTo pos (starEach [] X.env)).any (·.1) = false := by rfl) :
    DE X W (.Call (.Name "tuple" p) [a] [] pos) (tCB (rTupleW X.K) (tCons ta tNil)) (qUn opTuple pa) := d_ty1 call_tuple_of us_tuple hm (by decide +kernel) ha hg (by decide) (by decide) he hpl
/-- ints of a row of data -/
def intsOf : List D → Option (List Int)
  | [] => some []
  | .int i :: r => (intsOf r).map (i :: ·)
  | _ => none
def boolsOf : List D → Option (List Bool)
  | [] => some []
  | .bool i :: r => (boolsOf r).map (i :: ·)
  | _ => none
def strsOf : List D → Option (List Str)
  | [] => some []
  | .str i :: r => (strsOf r).map (i :: ·)
  | _ => none
theorem intsOf_map : ∀ ns : List Int, intsOf (ns.map .int) = some ns
  | [] => rfl
  | n :: r => by simp [intsOf, intsOf_map r]
theorem boolsOf_map : ∀ ns : List Bool, boolsOf (ns.map .bool) = some ns
  | [] => rfl
  | n :: r => by simp [boolsOf, boolsOf_map r]
theorem strsOf_map : ∀ ns : List Str, strsOf (ns.map .str) = some ns
  | [] => rfl
  | n :: r => by simp [strsOf, strsOf_map r]
theorem ints_rp {F : Hp} : ∀ {vs : List V} {ds : List D} {ns : List Int}, RpA F vs ds → intsOf ds = some ns → vs = ns.map V.int
  | _, _, _, .nil, e => by
    cases e
    rfl
  | _, _, ns, .cons (d := d) h r, e => by
    cases h with
    | int i =>
      simp only [intsOf, Option.map_eq_some_iff] at e
      obtain ⟨m, e1, rfl⟩ := e
      rw [ints_rp r e1]
      rfl
    | _ => simp [intsOf] at e
theorem bools_rp {F : Hp} : ∀ {vs : List V} {ds : List D} {ns : List Bool}, RpA F vs ds → boolsOf ds = some ns → vs = ns.map V.bl
  | _, _, _, .nil, e => by
    cases e
    rfl
  | _, _, ns, .cons (d := d) h r, e => by
    cases h with
    | bl i =>
      simp only [boolsOf, Option.map_eq_some_iff] at e
      obtain ⟨m, e1, rfl⟩ := e
      rw [bools_rp r e1]
      rfl
    | _ => simp [boolsOf] at e
theorem strs_rp {F : Hp} : ∀ {vs : List V} {ds : List D} {ns : List Str}, RpA F vs ds → strsOf ds = some ns → vs = ns.map V.str ∧ ∀ x ∈ ns, PyData.strOk x = true
  | _, _, _, .nil, e => by
    cases e
    exact ⟨rfl, fun _ h => by simp at h⟩
  | _, _, ns, .cons (d := d) h r, e => by
    cases h with
    | str i hi =>
      simp only [strsOf, Option.map_eq_some_iff] at e
      obtain ⟨m, e1, rfl⟩ := e
      obtain ⟨e2, e3⟩ := strs_rp r e1
      rw [e2]
      refine ⟨rfl, fun x hx => ?_⟩
      rcases List.mem_cons.mp hx with rfl | hx
      · exact hi
      · exact e3 x hx
    | _ => simp [strsOf] at e
/-- sum, any, all of a list -/
def opSum : OP1 := fun d k => match d with
  | .list ds => (match intsOf ds with
    | some ns => k (.sh (.int ns.sum))
    | none => False)
  | _ => False
theorem us_sum {K : PySem.W.Frag} : UnS (fun x H Q => rSum K [x] H Q) opSum := fun {B F Γ σ H fp x d} k Q r b z c => by
  cases b with
  | @lst a xs ds e t =>
    unfold opSum at z
    simp only at z
    split at z
    · rename_i ns hn
      have := ints_rp t hn
      subst this
      exact ⟨a, ns, rfl, .inl (.inl e), op_sc r (.int _) c z⟩
    · exact z.elim
  | _ => exact z.elim
theorem d_sum (hc : X.calm = true) (hm : X.mg "sum" = none) (ha : DE X W a ta pa) (hg : Gl X "sum" := by rfl) (he : starEach [a] X.env = (false, eval a X.env) :: starEach [] X.env := by rfl) (hpl : (backTo pos (starEach [] X.env)).any (·.1) = false := by rfl) :
    DE X W (.Call (.Name "sum" p) [a] [] pos) (tCB (rSum X.K) (tCons ta tNil)) (qUn opSum pa) := d_bi1 (cr_sum hc) us_sum hm (by decide +kernel) ha hg (by decide) (by decide) he hpl
def opAny : OP1 := fun d k => match d with
  | .list ds => (match boolsOf ds with
    | some bs => k (.sh (.bool (bs.any id)))
    | none => False)
  | _ => False
def opAll : OP1 := fun d k => match d with
  | .list ds => (match boolsOf ds with
    | some bs => k (.sh (.bool (bs.all id)))
    | none => False)
  | _ => False
theorem us_any {K : PySem.W.Frag} : UnS (fun x H Q => rAny K [x] H Q) opAny := fun {B F Γ σ H fp x d} k Q r b z c => by
  cases b with
  | @lst a xs ds e t =>
    unfold opAny at z
    simp only at z
    split at z
    · rename_i ns hn
      have := bools_rp t hn
      subst this
      exact ⟨a, ns, rfl, .inl (.inl e), op_sc r (.bl _) c z⟩
    · exact z.elim
  | _ => exact z.elim
theorem us_all {K : PySem.W.Frag} : UnS (fun x H Q => rAll K [x] H Q) opAll := fun {B F Γ σ H fp x d} k Q r b z c => by
  cases b with
  | @lst a xs ds e t =>
    unfold opAll at z
    simp only at z
    split at z
    · rename_i ns hn
      have := bools_rp t hn
      subst this
      exact ⟨a, ns, rfl, .inl (.inl e), op_sc r (.bl _) c z⟩
    · exact z.elim
  | _ => exact z.elim
theorem d_any (hc : X.calm = true) (hm : X.mg "any" = none) (ha : DE X W a ta pa) (hg : Gl X "any" := by rfl) (he : starEach [a] X.env = (false, eval a X.env) :: starEach [] X.env := by rfl) (hpl : (backTo pos (starEach [] X.env)).any (·.1) = false := by rfl) :
    DE X W (.Call (.Name "any" p) [a] [] pos) (tCB (rAny X.K) (tCons ta tNil)) (qUn opAny pa) := d_bi1 (cr_any hc) us_any hm (by decide +kernel) ha hg (by decide) (by decide) he hpl
theorem d_all (hc : X.calm = true) (hm : X.mg "all" = none) (ha : DE X W a ta pa) (hg : Gl X "all" := by rfl) (he : starEach [a] X.env = (false, eval a X.env) :: starEach [] X.env := by rfl) (hpl : (backTo pos (starEach [] X.env)).any (·.1) = false := by rfl) :
    DE X W (.Call (.Name "all" p) [a] [] pos) (tCB (rAll X.K) (tCons ta tNil)) (qUn opAll pa) := d_bi1 (cr_all hc) us_all hm (by decide +kernel) ha hg (by decide) (by decide) he hpl
/-- isinstance of a built-in class -/
def tyName : D → String
  | .none => "NoneType"
  | .bool _ => "bool"
  | .int _ => "int"
  | .str _ => "str"
  | .list _ => "list"
  | .tuple _ => "tuple"
  | .dict _ => "dict"
def isInst (T : String) (d : D) : Bool := tyName d == T || (tyName d == "bool" && T == "int")
def opIsi (T : String) : OP1 := fun d k => (scrOf d).isNone = true ∧ k (.sh (.bool (isInst T d)))
theorem kit_all : ∀ a ∈ ["NoneType", "bool", "int", "str", "list", "tuple", "dict"], ∀ T ∈ ["bool", "int", "str", "list", "tuple", "dict"], kitB a T = some (a == T || (a == "bool" && T == "int")) := by decide +kernel
theorem Rb.ty {K : PySem.W.Frag} {F H : Hp} {v : V} {d : D} (h : Rb F H v d) (hn : (scrOf d).isNone = true) : TyX K H v (.type (tyName d)) := by
  cases h with
  | non => exact .base .non
  | bl b => exact .base (.bl b)
  | int i => exact .base (.int i)
  | str x _ => exact .base (.str x)
  | lst e t => exact .base (.lst e)
  | tup e0 e t => exact .base (.tup e)
  | dk e t => exact .base (.dK e)
  | dt e t => exact .base (.dT e)
  | fz e t => cases hn
theorem d_isi {T : String} {x2 : Str} {p2 : Pos} (hT : T ∈ ["bool", "int", "str", "list", "tuple", "dict"]) (hm : X.mg "isinstance" = none) (hm2 : X.mg x2 = none) (hv2 : bootBuiltins x2 = some (.type T)) (ha : DE X W a ta pa) (hg : Gl X "isinstance" := by rfl) (hg2 : Gl X x2 := by rfl)
    (hn2 : x2 ≠ "__name__" := by decide) (hd2 : (x2 == ("__debug__" : Str)) = false := by decide) (he : starEach [a, .Name x2 p2] X.env = (false, eval a X.env) :: starEach [.Name x2 p2] X.env := by rfl) (hpl : (backTo pos (starEach [.Name x2 p2] X.env)).any (·.1) = false := by rfl)
    (he2 : starEach [.Name x2 p2] X.env = (false, eval (.Name x2 p2) X.env) :: starEach [] X.env := by rfl) :
    DE X W (.Call (.Name "isinstance" p) [a, .Name x2 p2] [] pos) (tCB (rIsi X.K) (tCons ta (tCons (tC (.ty T)) tNil))) (qUn (opIsi T) pa) :=
  ⟨pe_callB call_isi hg hm (by decide +kernel) (pa_cons ha.pe (pa_cons (pe_bltn hg2 hm2 hv2 rfl hn2 hd2) pa_nil he2) he) (by decide) (by decide) he hpl, fun {B F Γ σ H fp} R EX Q rr h k e => by
  refine ha.se _ _ _ rr h (fun w1 Γ1 x F1 H1 fp1 x1 r1 v1 h1 => ?_) e
  obtain ⟨d, b, z⟩ := bor_rb r1 v1 h1
  have hk : kitB (tyName d) T = some (isInst T d) := kit_all (tyName d) (by cases d <;> simp [tyName]) T hT
  exact ⟨x, .ty T, _, _, isInst T d, rfl, .ty T, b.ty z.1, kit_ty hk, k _ Γ1 _ F1 H1 fp1 x1 r1 (.sh (.bl _)) z.2⟩⟩

/-! ### xs.append(e) as a statement or value -/
theorem Rel.mutL {B F : Hp} {Γ : Ev} {σ : L2.St} {H : Hp} {fp : Nat → List Addr} {i : Nat} {ds ds' : List D} {v : V} {xs' : List V} (r : Rel B F Γ σ H fp) (e : Γ[i]? = some (.ow (.l ds))) (hv : σ[i]? = some (some v)) (t' : RpA F xs' ds') :
    ∃ a xs, v = .ref a ∧ H a = some (.lst xs) ∧ RpA F xs ds ∧ Rel B F (Γ.set i (.ow (.l ds'))) σ (upd H a (.lst xs')) fp := by
  obtain ⟨u, h1, h2⟩ := r.ow i _ e
  rw [hv] at h1
  cases h1
  generalize hf : fp i = f at h2
  cases h2 with
  | @l a xs ds e2 t =>
    have hm : a ∈ fp i := by rw [hf]; simp
    obtain ⟨b1, b2, b3⟩ := r.nb i a hm
    refine ⟨a, xs, rfl, e2, t, fun c o q => ?_, fun c o q => ?_, by rw [List.length_set]; exact r.len, fun j d q => ?_, fun j o q => ?_, fun j c hc => ?_, r.dj, fun j a q => r.ex j a (ex_ne (fun _ => Sl.noConfusion) q).2⟩
    · rw [upd_ne fun z => by subst z; rw [b1] at q; cases q]
      exact r.bx c o q
    · rw [upd_ne fun z => by subst z; rw [b2] at q; cases q]
      exact r.fx c o q
    · by_cases hj : i = j
      · subst hj
        rw [List.getElem?_set_self (List.getElem?_eq_some_iff.mp e).1] at q
        cases q
      · rw [List.getElem?_set_ne hj] at q
        exact r.sh j d q
    · by_cases hj : i = j
      · subst hj
        rw [List.getElem?_set_self (List.getElem?_eq_some_iff.mp e).1] at q
        cases q
        refine ⟨_, hv, ?_⟩
        rw [hf]
        exact .l upd_same t'
      · rw [List.getElem?_set_ne hj] at q
        obtain ⟨w, g1, g2⟩ := r.ow j o q
        exact ⟨w, g1, g2.mono (Same.refl F) fun c hc => upd_ne fun z => hj (r.dj i j c (z ▸ hm) hc)⟩
    · obtain ⟨c1, c2, c3⟩ := r.nb j c hc
      refine ⟨c1, c2, ?_⟩
      unfold upd
      split
      · exact fun z => nomatch z
      · exact c3
def isOwL : Option Sl → Bool
  | some (.ow (.l _)) => true
  | _ => false
def qApp (i : Nat) (p : QE) : QE := fun Γ R E => isOwL Γ[i]? = true ∧ p Γ (fun w Γ1 => shr w Γ1 fun d Γ2 => match Γ2[i]? with
  | some (.ow (.l ds)) => ds.length < sizeLine ∧ R (.sh .none) (Γ2.set i (.ow (.l (ds ++ [d]))))
  | _ => False) E
theorem own_ty {K : PySem.W.Frag} {B F : Hp} {Γ : Ev} {σ : L2.St} {H : Hp} {fp : Nat → List Addr} {i : Nat} (r : Rel B F Γ σ H fp) (h : isOwL Γ[i]? = true) : ∃ v, σ[i]? = some (some v) ∧ tyV K "list" v H := by
  unfold isOwL at h
  split at h
  · rename_i ds e
    obtain ⟨v, h1, h2⟩ := r.ow i _ e
    generalize fp i = f at h2
    cases h2 with
    | @l a xs ds e t => exact ⟨_, h1, .inl ⟨rfl, xs, .inl (.inl e)⟩⟩
  · cases h
theorem se_append {K : PySem.W.Frag} {i : Nat} (ha : SE W ta pa) : SE W (tBM K "list" rAppend (tVar i) (tCons ta tNil)) (qApp i pa) := fun {B F Γ σ H fp} R EX Q r q k e => by
  obtain ⟨v, h1, h2⟩ := own_ty (K := K) r q.1
  refine ⟨v, h1, h2, ha _ _ _ r q.2 (fun w Γ1 y F1 H1 fp1 x1 r1 v1 h3 => ?_) e⟩
  obtain ⟨d, Γ2, F2, fp2, x2, r2, b2, h4⟩ := shr_ok r1 v1 h3
  split at h4
  · rename_i ds hd
    obtain ⟨v', e1, _⟩ := r2.ow i _ hd
    rw [h1] at e1
    cases e1
    obtain ⟨u, z1, z2⟩ := r2.ow i _ hd
    rw [h1] at z1
    cases z1
    generalize hf : fp2 i = f at z2
    cases z2 with
    | @l a xs ds e5 t5 =>
      obtain ⟨a', xs', ea, e6, t6, r6⟩ := r2.mutL hd h1 (t5.append (.cons b2 .nil))
      cases ea
      exact ⟨a, xs, y, rfl, rfl, e5, by rw [t5.length]; exact h4.1, k _ _ _ F2 _ fp2 (x1.trans x2) r6 (.sh .non) h4.2⟩
  · exact h4.elim
theorem d_append (i : Nat) {x : Str} {px apos : Pos} (ha : DE X W a ta pa) (hN : X.N[i]? = some x := by rfl) (hv : Vis X.env.scope x := by first | exact Or.inl rfl | exact Or.inr (Or.inl rfl) | exact Or.inr (Or.inr rfl)) (hd : (x == ("__debug__" : Str)) = false := by decide)
    (hcd : (x == ("__classdict__" : Str)) = false := by decide) (hbase : attributeBase (.Name x px) "append" X.env (eval (.Name x px) X.env) = eval (.Name x px) X.env := by rfl)
    (hfew : ((backTo pos (starEach [a] X.env)).all (fun x => !x.1) && (backToKw pos (keywordEach [] X.env)).all (fun x => x.1.isSome) && decide ([a].length + ([] : List Keyword).length + (if ([] : List Keyword).isEmpty then 0 else 1) < 30)) = true := by rfl)
    (hline : (apos.endLine == pos.line) = true := by rfl) (hs : starEach [a] X.env = (false, eval a X.env) :: starEach [] X.env := by rfl) (hpl : (backTo pos (starEach [] X.env)).any (·.1) = false := by rfl) :
    DE X W (.Call (.Attribute (.Name x px) "append" apos) [a] [] pos) (tBM X.K "list" rAppend (tVar i) (tCons ta tNil)) (qApp i pa) :=
  ⟨pe_bm PySem.F.plainAttrs_list PySem.F.slot_list_append PySem.F.type_list_append mt_append (pe_var hN hv hd hcd) (pa_cons ha.pe pa_nil hs) hbase hfew hline hs hpl, se_append ha.se⟩
/-- xs[i] = e, xs an own list -/
def qgSetL (i : Nat) (pi : QE) : QG := fun w Γ k => shr w Γ fun d Γ1 => pi Γ1 (fun w2 Γ2 => bor w2 Γ2 fun d2 => match d2 with
  | .int j => (match Γ2[i]? with
    | some (.ow (.l ds)) => (match ixN ds.length j with
      | some n => k (Γ2.set i (.ow (.l (ds.set n d))))
      | none => False)
    | _ => False)
  | _ => False) noEX
end
end PL

namespace PL
open PySem PySem.Spec PyProof.Rows L2

/-! ### dicts -/
def lookD (ds : List (D × D)) (k : D) : Option D := (ds.find? fun p => PyData.eqv p.1 k).map (·.2)
def putD (ds : List (D × D)) (k v : D) : List (D × D) := if (ds.any fun p => PyData.eqv p.1 k) = true then ds.map (fun p => if PyData.eqv p.1 k = true then (p.1, v) else p) else ds ++ [(k, v)]
theorem eqv_keyD (k j : Key) : PyData.eqv (keyD k) (keyD j) = decide (k = j) := by
  cases k with
  | inl a =>
    cases j with
    | inl b =>
      show PyData.eqv (.int a) (.int b) = _
      rw [PyData.eqv, key_ll]
    | inr b =>
      show PyData.eqv (.int a) (.str b) = _
      rw [PyData.eqv, key_lr]
  | inr a =>
    cases j with
    | inl b =>
      show PyData.eqv (.str a) (.int b) = _
      rw [PyData.eqv, key_rl]
    | inr b =>
      show PyData.eqv (.str a) (.str b) = _
      rw [PyData.eqv, key_rr, Bool.beq_eq_decide_eq]
theorem eqv_keysD : ∀ k j : List Key, PyData.eqvAll (k.map keyD) (j.map keyD) = decide (k = j)
  | [], [] => by simp [PyData.eqvAll]
  | [], _ :: _ => by simp [PyData.eqvAll]
  | _ :: _, [] => by simp [PyData.eqvAll]
  | a :: k, b :: j => by
    simp only [List.map_cons, PyData.eqvAll, eqv_keyD, eqv_keysD k j]
    by_cases h : a = b
    · by_cases h2 : k = j
      · simp [h, h2]
      · simp [h, h2]
    · simp [h]
theorem eqv_keyT (k j : List Key) : PyData.eqv (.tuple (k.map keyD)) (.tuple (j.map keyD)) = decide (k = j) := by
  rw [PyData.eqv, eqv_keysD]
section
variable {F : Hp}
theorem RpK.look : ∀ {kvs : List (Key × V)} {ds : List (D × D)} (k : Key), RpK F kvs ds → (lookD ds (keyD k) = none ∧ valV kvs k = none) ∨ ∃ v d, lookD ds (keyD k) = some d ∧ valV kvs k = some v ∧ Rp F v d
  | _, _, k, .nil => .inl ⟨rfl, rfl⟩
  | _, _, k, .cons (k := j) (v := v) (d := d) h r => by
    unfold lookD
    rw [List.find?_cons]
    simp only [eqv_keyD]
    by_cases e : j = k
    · rw [decide_eq_true e]
      exact .inr ⟨v, d, rfl, valV_pos e, h⟩
    · rw [decide_eq_false e, valV_neg (p := (j, v)) e]
      exact RpK.look k r
theorem RpT.look : ∀ {kvs : List (List Key × V)} {ds : List (D × D)} (k : List Key), RpT F kvs ds → (lookD ds (.tuple (k.map keyD)) = none ∧ valV kvs k = none) ∨ ∃ v d, lookD ds (.tuple (k.map keyD)) = some d ∧ valV kvs k = some v ∧ Rp F v d
  | _, _, k, .nil => .inl ⟨rfl, rfl⟩
  | _, _, k, .cons (k := j) (v := v) (d := d) h r => by
    unfold lookD
    rw [List.find?_cons]
    simp only [eqv_keyT]
    by_cases e : j = k
    · rw [decide_eq_true e]
      exact .inr ⟨v, d, rfl, valV_pos e, h⟩
    · rw [decide_eq_false e, valV_neg (p := (j, v)) e]
      exact RpT.look k r
theorem RpK.any : ∀ {kvs : List (Key × V)} {ds : List (D × D)} (k : Key), RpK F kvs ds → (ds.any fun p => PyData.eqv p.1 (keyD k)) = kvs.any fun p => decide (p.1 = k)
  | _, _, k, .nil => rfl
  | _, _, k, .cons (k := j) h r => by
    simp only [List.any_cons, eqv_keyD, RpK.any k r]
theorem RpT.any : ∀ {kvs : List (List Key × V)} {ds : List (D × D)} (k : List Key), RpT F kvs ds → (ds.any fun p => PyData.eqv p.1 (.tuple (k.map keyD))) = kvs.any fun p => decide (p.1 = k)
  | _, _, k, .nil => rfl
  | _, _, k, .cons (k := j) h r => by
    simp only [List.any_cons, eqv_keyT, RpT.any k r]
theorem RpK.app : ∀ {kvs : List (Key × V)} {ds : List (D × D)} {k : Key} {v : V} {d : D}, RpK F kvs ds → Rp F v d → RpK F (kvs ++ [(k, v)]) (ds ++ [(keyD k, d)])
  | _, _, _, _, _, .nil, h => .cons h .nil
  | _, _, _, _, _, .cons h r, h' => .cons h (RpK.app r h')
theorem RpT.app : ∀ {kvs : List (List Key × V)} {ds : List (D × D)} {k : List Key} {v : V} {d : D}, RpT F kvs ds → Rp F v d → RpT F (kvs ++ [(k, v)]) (ds ++ [(.tuple (k.map keyD), d)])
  | _, _, _, _, _, .nil, h => .cons h .nil
  | _, _, _, _, _, .cons h r, h' => .cons h (RpT.app r h')
theorem RpK.upd {k : Key} {y : V} {z : D} (hy : Rp F y z) : ∀ {kvs : List (Key × V)} {ds : List (D × D)}, RpK F kvs ds → RpK F (kvs.map fun kv => if kv.1 = k then (kv.1, y) else kv) (ds.map fun p => if PyData.eqv p.1 (keyD k) = true then (p.1, z) else p)
  | _, _, .nil => .nil
  | _, _, .cons (k := j) (v := v) (d := d) h r => by
    simp only [List.map_cons, eqv_keyD]
    by_cases e : j = k
    · rw [if_pos e, if_pos (decide_eq_true e)]
      exact .cons hy (RpK.upd hy r)
    · rw [if_neg e, if_neg (by simp [e])]
      exact .cons h (RpK.upd hy r)
theorem RpT.upd {k : List Key} {y : V} {z : D} (hy : Rp F y z) : ∀ {kvs : List (List Key × V)} {ds : List (D × D)}, RpT F kvs ds → RpT F (kvs.map fun kv => if kv.1 = k then (kv.1, y) else kv) (ds.map fun p => if PyData.eqv p.1 (.tuple (k.map keyD)) = true then (p.1, z) else p)
  | _, _, .nil => .nil
  | _, _, .cons (k := j) (v := v) (d := d) h r => by
    simp only [List.map_cons, eqv_keyT]
    by_cases e : j = k
    · rw [if_pos e, if_pos (decide_eq_true e)]
      exact .cons hy (RpT.upd hy r)
    · rw [if_neg e, if_neg (by simp [e])]
      exact .cons h (RpT.upd hy r)
theorem RpK.put {kvs : List (Key × V)} {ds : List (D × D)} {k : Key} {v : V} {d : D} (r : RpK F kvs ds) (h : Rp F v d) : RpK F (putK kvs k v) (putD ds (keyD k) d) := by
  unfold putK putD
  rw [r.any k]
  split
  · exact r.upd h
  · exact r.app h
theorem RpT.put {kvs : List (List Key × V)} {ds : List (D × D)} {k : List Key} {v : V} {d : D} (r : RpT F kvs ds) (h : Rp F v d) : RpT F (putK kvs k v) (putD ds (.tuple (k.map keyD)) d) := by
  unfold putK putD
  rw [r.any k]
  split
  · exact r.upd h
  · exact r.app h
theorem RpK.length : ∀ {kvs : List (Key × V)} {ds : List (D × D)}, RpK F kvs ds → kvs.length = ds.length
  | _, _, .nil => rfl
  | _, _, .cons _ r => congrArg (· + 1) (RpK.length r)
theorem RpT.length : ∀ {kvs : List (List Key × V)} {ds : List (D × D)}, RpT F kvs ds → kvs.length = ds.length
  | _, _, .nil => rfl
  | _, _, .cons _ r => congrArg (· + 1) (RpT.length r)
end
/-- which kind of keys -/
def keyK : D → Bool
  | .int _ => true
  | .str _ => true
  | _ => false
def keyT : D → Bool
  | .tuple ds => ds.all keyK
  | _ => false
theorem Rp.keyK {F : Hp} {y : V} {d : D} (h : Rp F y d) (e : PL.keyK d = true) : ∃ k : Key, y = kV k ∧ d = keyD k := by
  cases h with
  | int i => exact ⟨.inl i, rfl, rfl⟩
  | str x _ => exact ⟨.inr x, rfl, rfl⟩
  | _ => cases e
theorem RpA.keyK {F : Hp} : ∀ {vs : List V} {ds : List D}, RpA F vs ds → ds.all PL.keyK = true → ∃ ks : List Key, vs = ks.map kV ∧ ds = ks.map keyD
  | _, _, .nil, _ => ⟨[], rfl, rfl⟩
  | _, _, .cons h r, e => by
    simp only [List.all_cons, Bool.and_eq_true] at e
    obtain ⟨k, rfl, rfl⟩ := h.keyK e.1
    obtain ⟨ks, rfl, rfl⟩ := RpA.keyK r e.2
    exact ⟨k :: ks, rfl, rfl⟩
theorem Rp.keyT {F : Hp} {y : V} {d : D} (h : Rp F y d) (e : PL.keyT d = true) : ∃ (q : Addr) (k : List Key), y = .ref q ∧ F q = some (.tup (k.map kV)) ∧ d = .tuple (k.map keyD) := by
  cases h with
  | @tup a xs ds e0 t =>
    obtain ⟨ks, rfl, rfl⟩ := t.keyK e
    exact ⟨a, ks, rfl, e0, rfl⟩
  | _ => cases e
def kindOf : List (D × D) → Option Bool
  | [] => none
  | p :: _ => if keyK p.1 = true then some false else if keyT p.1 = true then some true else none
theorem keyK_D (k : Key) : keyK (keyD k) = true := by cases k <;> rfl
theorem keyT_D (k : List Key) : keyT (.tuple (k.map keyD)) = true := by
  show (k.map keyD).all keyK = true
  rw [List.all_eq_true]
  intro x hx
  obtain ⟨j, _, rfl⟩ := List.mem_map.mp hx
  exact keyK_D j
/-- a dict: has it tuples as keys, its pairs -/
def dic (w : Wv) (Γ : Ev) : Option (Bool × List (D × D)) := match w with
  | .ow (.k ds) => some (false, ds)
  | .ow (.t ds) => some (true, ds)
  | .sh (.dict ds) => (kindOf ds).map (·, ds)
  | .at i => (match Γ[i]? with
    | some (.ow (.k ds)) => some (false, ds)
    | some (.ow (.t ds)) => some (true, ds)
    | some (.sh (.dict ds)) => (kindOf ds).map (·, ds)
    | _ => none)
  | _ => none
def IsDic (F H : Hp) (b : Bool) (a : Addr) (ds : List (D × D)) : Prop := if b = true then ∃ kvs, H a = some (.dT kvs) ∧ RpT F kvs ds else ∃ kvs, H a = some (.dK kvs) ∧ RpK F kvs ds
theorem dic_sh {F H : Hp} {v : V} {b : Bool} {ds ds' : List (D × D)} (h : Rp F v (.dict ds)) (s : Same F H) (e : (kindOf ds).map (·, ds) = some (b, ds')) : ∃ a, v = .ref a ∧ IsDic F H b a ds' := by
  cases h with
  | @dk a kvs ds e1 t =>
    cases t with
    | nil => cases e
    | @cons k v r d ds h r =>
      simp only [kindOf, keyK_D, if_true, Option.map_some, Option.some.injEq, Prod.mk.injEq] at e
      obtain ⟨rfl, rfl⟩ := e
      refine ⟨a, rfl, ?_⟩
      unfold IsDic
      rw [if_neg Bool.false_ne_true]
      exact ⟨_, s _ _ e1, .cons h r⟩
  | @dt a kvs ds e1 t =>
    cases t with
    | nil => cases e
    | @cons k v r d ds h r =>
      have n : keyK (.tuple (k.map keyD)) = false := rfl
      simp only [kindOf, n, keyT_D, Bool.false_eq_true, if_false, if_true, Option.map_some, Option.some.injEq, Prod.mk.injEq] at e
      obtain ⟨rfl, rfl⟩ := e
      refine ⟨a, rfl, ?_⟩
      unfold IsDic
      rw [if_pos rfl]
      exact ⟨_, s _ _ e1, .cons h r⟩
  | fz e1 t => cases e
section
variable {B F : Hp} {Γ : Ev} {σ : L2.St} {H : Hp} {fp : Nat → List Addr} {v : V} {w : Wv} {b : Bool} {ds : List (D × D)}
theorem dic_ro {o : O} {f : List Addr} (h : RO F H v o f) : (∀ ds, o = .k ds → ∃ a, v = .ref a ∧ IsDic F H false a ds) ∧ (∀ ds, o = .t ds → ∃ a, v = .ref a ∧ IsDic F H true a ds) := by
  cases h with
  | l _ _ => exact ⟨(fun _ e => nomatch e), (fun _ e => nomatch e)⟩
  | dp _ _ => exact ⟨(fun _ e => nomatch e), (fun _ e => nomatch e)⟩
  | @k a kvs ds e t => exact ⟨fun _ q => by
      cases q
      exact ⟨a, rfl, by
        unfold IsDic
        rw [if_neg Bool.false_ne_true]
        exact ⟨kvs, e, t⟩⟩, fun _ e => nomatch e⟩
  | @t a kvs ds e t => exact ⟨(fun _ e => nomatch e), fun _ q => by
      cases q
      exact ⟨a, rfl, by
        unfold IsDic
        rw [if_pos rfl]
        exact ⟨kvs, e, t⟩⟩⟩
theorem dic_ok (r : Rel B F Γ σ H fp) (h : RW B F Γ σ H fp v w) (e : dic w Γ = some (b, ds)) : ∃ a, v = .ref a ∧ IsDic F H b a ds := by
  cases h with
  | @sh d h =>
    cases d with
    | dict ds0 => exact dic_sh h r.fx e
    | _ => cases e
  | @ow o f h hf =>
    cases o with
    | l _ => cases e
    | dp _ => cases e
    | k ds0 =>
      cases e
      exact (dic_ro h).1 _ rfl
    | t ds0 =>
      cases e
      exact (dic_ro h).2 _ rfl
  | @«at» i h =>
    unfold dic at e
    simp only at e
    split at e
    · rename_i ds0 q
      cases e
      obtain ⟨u, h1, h2⟩ := r.ow i _ q
      rw [h] at h1
      cases h1
      exact (dic_ro h2).1 _ rfl
    · rename_i ds0 q
      cases e
      obtain ⟨u, h1, h2⟩ := r.ow i _ q
      rw [h] at h1
      cases h1
      exact (dic_ro h2).2 _ rfl
    · rename_i ds0 q
      obtain ⟨u, h1, h2⟩ := r.sh i _ q
      rw [h] at h1
      cases h1
      exact dic_sh h2 r.fx e
    · cases e
/-- the key y asked of a dict -/
theorem dic_get {a : Addr} {y : V} {k : D} (d : IsDic F H b a ds) (s : Same F H) (hy : Rp H y k) (hk : (if b = true then keyT k else keyK k) = true) :
    ∃ o, DGet H a y o ∧ ((lookD ds k = none ∧ o = none) ∨ ∃ v e, lookD ds k = some e ∧ o = some v ∧ Rp F v e) := by
  cases b with
  | true =>
    obtain ⟨kvs, e, t⟩ := d
    obtain ⟨q, ks, rfl, e2, rfl⟩ := hy.keyT hk
    refine ⟨_, .t e e2, ?_⟩
    rcases t.look ks with ⟨h1, h2⟩ | ⟨v, x, h1, h2, h3⟩
    · exact .inl ⟨h1, h2⟩
    · exact .inr ⟨v, x, h1, h2, h3⟩
  | false =>
    obtain ⟨kvs, e, t⟩ := d
    obtain ⟨ks, rfl, rfl⟩ := hy.keyK hk
    refine ⟨_, .k e, ?_⟩
    rcases t.look ks with ⟨h1, h2⟩ | ⟨v, x, h1, h2, h3⟩
    · exact .inl ⟨h1, h2⟩
    · exact .inr ⟨v, x, h1, h2, h3⟩
theorem dic_isD {a : Addr} (d : IsDic F H b a ds) : IsD H a := by
  cases b with
  | true =>
    obtain ⟨kvs, e, t⟩ := d
    exact .inr ⟨kvs, .inl e⟩
  | false =>
    obtain ⟨kvs, e, t⟩ := d
    exact .inl ⟨kvs, .inl e⟩
/-- slot i's own dict gets a pair -/
theorem Rel.putS {i : Nat} {y z : V} {k e : D} (r : Rel B F Γ σ H fp) (hv : σ[i]? = some (some v)) (hy : Rp F y k) (hz : Rp F z e) (hl : ds.length < sizeLine) :
    (Γ[i]? = some (.ow (.k ds)) → keyK k = true → ∃ a H', v = .ref a ∧ DPut H a y z H' ∧ Rel B F (Γ.set i (.ow (.k (putD ds k e)))) σ H' fp) ∧
    (Γ[i]? = some (.ow (.t ds)) → keyT k = true → ∃ a H', v = .ref a ∧ DPut H a y z H' ∧ Rel B F (Γ.set i (.ow (.t (putD ds k e)))) σ H' fp) := by
  have gen : ∀ {o o' : O} {a : Addr} {u : HO}, Γ[i]? = some (.ow o) → RO F H v o (fp i) → v = .ref a → fp i = [a] → RO F (upd H a u) v o' [a] → Rel B F (Γ.set i (.ow o')) σ (upd H a u) fp := by
    intro o o' a u e h2 ea hf h3
    have hm : a ∈ fp i := by rw [hf]; simp
    obtain ⟨b1, b2, b3⟩ := r.nb i a hm
    refine ⟨fun c o q => ?_, fun c o q => ?_, by rw [List.length_set]; exact r.len, fun j d q => ?_, fun j o q => ?_, fun j c hc => ?_, r.dj, fun j a q => r.ex j a (ex_ne (fun _ => Sl.noConfusion) q).2⟩
    · rw [upd_ne fun z => by subst z; rw [b1] at q; cases q]
      exact r.bx c o q
    · rw [upd_ne fun z => by subst z; rw [b2] at q; cases q]
      exact r.fx c o q
    · by_cases hj : i = j
      · subst hj
        rw [List.getElem?_set_self (List.getElem?_eq_some_iff.mp e).1] at q
        cases q
      · rw [List.getElem?_set_ne hj] at q
        exact r.sh j d q
    · by_cases hj : i = j
      · subst hj
        rw [List.getElem?_set_self (List.getElem?_eq_some_iff.mp e).1] at q
        cases q
        refine ⟨_, hv, ?_⟩
        rw [hf]
        exact h3
      · rw [List.getElem?_set_ne hj] at q
        obtain ⟨w, g1, g2⟩ := r.ow j o q
        exact ⟨w, g1, g2.mono (Same.refl F) fun c hc => upd_ne fun z => hj (r.dj i j c (z ▸ hm) hc)⟩
    · obtain ⟨c1, c2, c3⟩ := r.nb j c hc
      refine ⟨c1, c2, ?_⟩
      unfold upd
      split
      · exact fun z => nomatch z
      · exact c3
  refine ⟨fun q hk => ?_, fun q hk => ?_⟩
  · obtain ⟨u, h1, h2⟩ := r.ow i _ q
    rw [hv] at h1
    cases h1
    generalize hf : fp i = f at h2
    cases h2 with
    | @k a kvs ds e1 t =>
      obtain ⟨ks, rfl, rfl⟩ := hy.keyK hk
      refine ⟨a, _, rfl, .k e1 (by rw [t.length]; exact hl), gen q (hf ▸ .k e1 t) rfl hf (.k upd_same (t.put hz))⟩
  · obtain ⟨u, h1, h2⟩ := r.ow i _ q
    rw [hv] at h1
    cases h1
    generalize hf : fp i = f at h2
    cases h2 with
    | @t a kvs ds e1 t =>
      obtain ⟨q2, ks, rfl, e2, rfl⟩ := hy.keyT hk
      refine ⟨a, _, rfl, .t e1 (r.fx _ _ e2) (by rw [t.length]; exact hl), gen q (hf ▸ .t e1 t) rfl hf (.t upd_same (t.put hz))⟩
end
section
variable {X : Cx} {W : WX} {pos p : Pos} {a b e f : Expr} {ta tb te tf : TE} {pa pb pe pf : QE}
theorem new_k {B F : Hp} {Γ : Ev} {σ : L2.St} {H : Hp} {fp : Nat → List Addr} {p : Addr} (r : Rel B F Γ σ H fp) (hp : H p = none) :
    Rel B F Γ σ (upd H p (.dK [])) fp ∧ RW B F Γ σ (upd H p (.dK [])) fp (.ref p) (.ow (.k [])) := by
  refine ⟨r.new hp, .ow (.k upd_same .nil) fun a ha => ?_⟩
  simp only [List.mem_singleton] at ha
  subst ha
  exact free_of r hp
theorem new_t {B F : Hp} {Γ : Ev} {σ : L2.St} {H : Hp} {fp : Nat → List Addr} {p : Addr} (r : Rel B F Γ σ H fp) (hp : H p = none) :
    Rel B F Γ σ (upd H p (.dT [])) fp ∧ RW B F Γ σ (upd H p (.dT [])) fp (.ref p) (.ow (.t [])) := by
  refine ⟨r.new hp, .ow (.t upd_same .nil) fun a ha => ?_⟩
  simp only [List.mem_singleton] at ha
  subst ha
  exact free_of r hp
def qOwn (o : O) : QE := fun Γ R _ => R (.ow o) Γ
theorem d_dK : DE X W (.Dict [] [] pos) tDNewK (qOwn (.k [])) := ⟨pe_dnewK, fun {B F Γ σ H fp} R EX Q r q k _ p hp => by
  obtain ⟨r', v'⟩ := new_k r hp
  exact k _ Γ _ F _ fp .refl r' v' q⟩
theorem d_dT : DE X W (.Dict [] [] pos) tDNewT (qOwn (.t [])) := ⟨pe_dnewT, fun {B F Γ σ H fp} R EX Q r q k _ p hp => by
  obtain ⟨r', v'⟩ := new_t r hp
  exact k _ Γ _ F _ fp .refl r' v' q⟩
/-- y in d, y not in d -/
def dget (w : Wv) (Γ : Ev) (dk : D) (k : Option D → Prop) : Prop := match dic w Γ with
  | some (b, ds) => (if b = true then keyT dk else keyK dk) = true ∧ k (lookD ds dk)
  | none => False
theorem dget_ok {B F : Hp} {Γ : Ev} {σ : L2.St} {H : Hp} {fp : Nat → List Addr} {v y : V} {w : Wv} {dk : D} {k : Option D → Prop} (r : Rel B F Γ σ H fp) (h : RW B F Γ σ H fp v w) (hy : Rb F H y dk) (q : dget w Γ dk k) :
    ∃ a o, v = .ref a ∧ IsD H a ∧ DGet H a y o ∧ ((o = none ∧ k none) ∨ ∃ u x, o = some u ∧ Rp F u x ∧ k (some x)) := by
  unfold dget at q
  split at q
  · rename_i b ds e
    obtain ⟨a, rfl, d⟩ := dic_ok r h e
    obtain ⟨o, g, z⟩ := dic_get d r.fx (hy.rp r.fx) q.1
    refine ⟨a, o, rfl, dic_isD d, g, ?_⟩
    rcases z with ⟨z1, z2⟩ | ⟨u, x, z1, z2, z3⟩
    · exact .inl ⟨z2, by rw [← z1]; exact q.2⟩
    · exact .inr ⟨u, x, z2, z3, by rw [← z1]; exact q.2⟩
  · exact q.elim
def qDIn (g : Bool → Bool) (py pd : QE) : QE := fun Γ R E => py Γ (fun w1 Γ1 => pd Γ1 (fun w2 Γ2 => bor w1 Γ2 fun dk => dget w2 Γ2 dk fun o => R (.sh (.bool (g o.isSome))) Γ2) E) E
theorem se_din {g : Bool → Bool} (ha : SE W ta pa) (hb : SE W tb pb) : SE W (tOp (fun y x H Q => ∃ a o, x = .ref a ∧ DGet H a y o ∧ Q (.bl (g o.isSome)) H) ta tb) (qDIn g pa pb) := fun {B F Γ σ H fp} R EX Q rr h k e => by
  refine se_two ha hb rr h (Z := fun w1 w2 Γ2 => bor w1 Γ2 fun dk => dget w2 Γ2 dk fun o => R (.sh (.bool (g o.isSome))) Γ2) (fun w1 w2 Γ' x y F' H' fp' x1 r1 v1 v2 z => ?_) e
  obtain ⟨dk, b1, z⟩ := bor_rb r1 v1 z
  obtain ⟨a, o, rfl, _, gg, z⟩ := dget_ok r1 v2 b1 z
  refine ⟨a, o, rfl, gg, ?_⟩
  rcases z with ⟨rfl, z⟩ | ⟨u, x, rfl, _, z⟩
  · exact k _ Γ' _ F' H' fp' x1 r1 (.sh (.bl _)) z
  · exact k _ Γ' _ F' H' fp' x1 r1 (.sh (.bl _)) z
theorem d_din {j : Nat} (hr : Room j X.A) (ha : DE X W a ta pa) (hb : DE X W b tb pb) (hm : behindInMarks .In b = false := by with_unfolding_all rfl) : DE X W (.Compare a [.In] [b] pos) (tDIn ta tb) (qDIn id pa pb) := ⟨pe_cmp (pc_din (hu_of hr) ha.pe hb.pe) hm, se_din (g := id) ha.se hb.se⟩
theorem d_dnotin {j : Nat} (hr : Room j X.A) (ha : DE X W a ta pa) (hb : DE X W b tb pb) (hm : behindInMarks .NotIn b = false := by with_unfolding_all rfl) : DE X W (.Compare a [.NotIn] [b] pos) (tDNotIn ta tb) (qDIn not pa pb) := ⟨pe_cmp (pc_dnotin (hu_of hr) ha.pe hb.pe) hm, se_din (g := not) ha.se hb.se⟩
theorem d_tdin {j : Nat} (hr : Room j X.A) (ha : DE X W a ta pa) (hb : DE X W b tb pb) (hm : behindInMarks .In b = false := by with_unfolding_all rfl) : DT X W (.Compare a [.In] [b] pos) (tB (tDIn ta tb)) (qB (qDIn id pa pb)) := ⟨pt_cmp (pc_din (hu_of hr) ha.pe hb.pe) hm, st_tt (se_din (g := id) ha.se hb.se)⟩
theorem d_tdnotin {j : Nat} (hr : Room j X.A) (ha : DE X W a ta pa) (hb : DE X W b tb pb) (hm : behindInMarks .NotIn b = false := by with_unfolding_all rfl) : DT X W (.Compare a [.NotIn] [b] pos) (tB (tDNotIn ta tb)) (qB (qDIn not pa pb)) := ⟨pt_cmp (pc_dnotin (hu_of hr) ha.pe hb.pe) hm, st_tt (se_din (g := not) ha.se hb.se)⟩
/-- d[k] -/
def qDGet (pd py : QE) : QE := fun Γ R E => pd Γ (fun w1 Γ1 => py Γ1 (fun w2 Γ2 => bor w2 Γ2 fun dk => dget w1 Γ2 dk fun o => match o with
  | some d => R (.sh d) Γ2
  | none => False) E) E
theorem d_dget {j : Nat} (hr : Room j X.A) (ha : DE X W a ta pa) (hb : DE X W b tb pb) (hs : NoSl b := by exact fun _ _ => rfl) : DE X W (.Subscript a b pos) (tDGet ta tb) (qDGet pa pb) := ⟨pe_dget (hu_of hr) ha.pe hb.pe hs, fun {B F Γ σ H fp} R EX Q rr h k e => by
  refine se_two ha.se hb.se rr h (Z := fun w1 w2 Γ2 => bor w2 Γ2 fun dk => dget w1 Γ2 dk fun o => match o with
    | some d => R (.sh d) Γ2
    | none => False) (fun w1 w2 Γ' x y F' H' fp' x1 r1 v1 v2 z => ?_) e
  obtain ⟨dk, b1, z⟩ := bor_rb r1 v2 z
  obtain ⟨a, o, rfl, _, gg, z⟩ := dget_ok r1 v1 b1 z
  rcases z with ⟨rfl, z⟩ | ⟨u, x, rfl, hu, z⟩
  · exact z.elim
  · exact ⟨a, u, rfl, gg, k _ Γ' _ F' H' fp' x1 r1 (.sh hu) z⟩⟩
/-- d[k] = v, d an own dict -/
def isOwD : Option Sl → Bool
  | some (.ow (.k _)) => true
  | some (.ow (.t _)) => true
  | _ => false
def qDPut (i : Nat) (py pv : QE) : QS := fun P Γ => pv Γ (fun w Γ1 => shr w Γ1 fun d Γ2 => isOwD Γ2[i]? = true ∧ py Γ2 (fun w2 Γ3 => shr w2 Γ3 fun dk Γ4 => match Γ4[i]? with
  | some (.ow (.k ds)) => keyK dk = true ∧ ds.length < sizeLine ∧ P.nx (Γ4.set i (.ow (.k (putD ds dk d))))
  | some (.ow (.t ds)) => keyT dk = true ∧ ds.length < sizeLine ∧ P.nx (Γ4.set i (.ow (.t (putD ds dk d))))
  | _ => False) P.ex) P.ex
theorem ds_dput (i : Nat) {j : Nat} {x : Str} {px pos' : Pos} (hr : Room j X.A) (hi : DE X W b tb pb) (hv : DE X W e te pe) (hs : swapsWith e (some (.Subscript (.Name x px) b pos')) pos.line X.env = pure false := by rfl) (hN : X.N[i]? = some x := by rfl)
    (hvis : Vis X.env.scope x := by first | exact Or.inl rfl | exact Or.inr (Or.inl rfl) | exact Or.inr (Or.inr rfl)) (hd : (x == ("__debug__" : Str)) = false := by decide) (hcd : (x == ("__classdict__" : Str)) = false := by decide) :
    DS X W (.Assign [.Subscript (.Name x px) b pos'] e pos) (sDPut (tVar i) tb te) (qDPut i pb pe) := ⟨ps_dput (hu_of hr) (pe_var hN hvis hd hcd) hi.pe hv.pe hs, fun {B F Γ σ H fp} P D r q a => by
  refine hv.se _ _ _ r q (fun w Γ1 v F1 H1 fp1 x1 r1 v1 h1 => ?_) a.afe
  obtain ⟨d, Γ2, F2, fp2, x2, r2, b2, ho, h2⟩ := shr_ok r1 v1 h1
  have hσ : ∃ u, σ[i]? = some (some u) := by
    unfold isOwD at ho
    split at ho
    · rename_i q
      obtain ⟨u, z, _⟩ := r2.ow i _ q
      exact ⟨u, z⟩
    · rename_i q
      obtain ⟨u, z, _⟩ := r2.ow i _ q
      exact ⟨u, z⟩
    · cases ho
  obtain ⟨u, hu⟩ := hσ
  refine ⟨u, hu, hi.se _ _ _ r2 h2 (fun w2 Γ3 y F3 H3 fp3 x3 r3 v3 h3 => ?_) (a.mono (x1.trans x2)).afe⟩
  obtain ⟨dk, Γ4, F4, fp4, x4, r4, b4, h4⟩ := shr_ok r3 v3 h3
  have b2' := (b2.mono x3.same).mono x4.same
  have xx := ((x1.trans x2).trans x3).trans x4
  split at h4
  · rename_i ds q
    obtain ⟨h5, h6, h7⟩ := h4
    obtain ⟨ad, H', ea, g, r5⟩ := (r4.putS (v := u) hu b4 b2' h6).1 q h5
    exact ⟨ad, H', ea, g, a.nx _ F4 σ H' fp4 xx r5 h7⟩
  · rename_i ds q
    obtain ⟨h5, h6, h7⟩ := h4
    obtain ⟨ad, H', ea, g, r5⟩ := (r4.putS (v := u) hu b4 b2' h6).2 q h5
    exact ⟨ad, H', ea, g, a.nx _ F4 σ H' fp4 xx r5 h7⟩
  · exact h4.elim⟩
/-- d.get(k), d.get(k, x) -/
def qGet1 (pd py : QE) : QE := fun Γ R E => pd Γ (fun w1 Γ1 => (dic w1 Γ1).isSome = true ∧ py Γ1 (fun w2 Γ2 => bor w2 Γ2 fun dk => dget w1 Γ2 dk fun o => R (.sh (o.getD .none)) Γ2) E) E
theorem d_get1 {j : Nat} {apos : Pos} (hr : Room j X.A) (ha : DE X W a ta pa) (hb : DE X W b tb pb) (m : M1 X a "get" apos b pos := by exact ⟨rfl, rfl, rfl, rfl⟩) : DE X W (.Call (.Attribute a "get" apos) [b] [] pos) (tDGet1 ta tb) (qGet1 pa pb) := ⟨pe_dget1 (hu_of hr) ha.pe hb.pe m, fun {B F Γ σ H fp} R EX Q rr h k e => by
  refine ha.se _ EX _ rr h (fun w1 Γ1 x F1 H1 fp1 x1 r1 v1 h1 => ?_) e
  obtain ⟨hd, h1⟩ := h1
  obtain ⟨⟨bb, ds⟩, hd⟩ := Option.isSome_iff_exists.mp hd
  obtain ⟨a, rfl, d⟩ := dic_ok r1 v1 hd
  refine ⟨a, rfl, dic_isD d, ?_⟩
  obtain ⟨B', r1', g⟩ := r1.guard v1
  refine hb.se _ EX _ r1' h1 (fun w2 Γ2 y F2 H2 fp2 x2 r2 v2 h2 => ?_) fun c Γ' F' H' fp' x2 r2 q => ?_
  · obtain ⟨x3, r3, v3, g2⟩ := g F2 Γ2 H2 fp2 x2 r2
    obtain ⟨dk, b1, z⟩ := bor_rb r3 (g2 _ _ v2) h2
    obtain ⟨a', o, e', _, gg, z⟩ := dget_ok r3 v3 b1 z
    cases e'
    refine ⟨o, gg, ?_⟩
    rcases z with ⟨rfl, z⟩ | ⟨u, x, rfl, hu, z⟩
    · exact k _ Γ2 _ F2 H2 fp2 (x1.trans x3) r3 (.sh .non) z
    · exact k _ Γ2 _ F2 H2 fp2 (x1.trans x3) r3 (.sh hu) z
  · obtain ⟨x3, r3, _, _⟩ := g F' Γ' H' fp' x2 r2
    exact e c Γ' F' H' fp' (x1.trans x3) r3 q⟩
/-- len of a dict -/
def opLenD (w : Wv) (Γ : Ev) (k : Wv → Prop) : Prop := match dic w Γ with
  | some (_, ds) => k (.sh (.int ds.length))
  | none => False
def qLenD (p : QE) : QE := fun Γ R E => p Γ (fun w Γ1 => opLenD w Γ1 fun w' => R w' Γ1) E
def rLenD2 : List V → Hp → VK → Prop := fun xs H Q => (∃ a kvs, xs = [V.ref a] ∧ H a = some (.dK kvs) ∧ Q (.int kvs.length) H) ∨ ∃ (p : Addr) (kvs : List (List Key × V)), xs = [.ref p] ∧ H p = some (.dT kvs) ∧ Q (.int ((kvs.length : Nat) : Int)) H
theorem d_lenD (hm : X.mg "len" = none) (ha : DE X W a ta pa) (hg : Gl X "len" := by rfl) (he : starEach [a] X.env = (false, eval a X.env) :: starEach [] X.env := by rfl) (hpl : (backTo pos (starEach [] X.env)).any (·.1) = false := by rfl) :
    DE X W (.Call (.Name "len" p) [a] [] pos) (tCB rLenD2 (tCons ta tNil)) (qLenD pa) := ⟨pe_callB (CallR.or call_lenD call_len_dT) hg hm PySem.boot_len (pa_cons ha.pe pa_nil he) (by decide) (by decide) he hpl, fun {B F Γ σ H fp} R EX Q rr h k e => by
  refine ha.se _ EX _ rr h (fun w1 Γ1 x F1 H1 fp1 x1 r1 v1 h1 => ?_) e
  unfold opLenD at h1
  split at h1
  · rename_i b ds hd
    obtain ⟨a, rfl, d⟩ := dic_ok r1 v1 hd
    cases b with
    | true =>
      obtain ⟨kvs, e1, t⟩ := d
      exact .inr ⟨a, kvs, rfl, e1, k _ Γ1 _ F1 H1 fp1 x1 r1 (.sh (.int _)) (by rw [t.length]; exact h1)⟩
    | false =>
      obtain ⟨kvs, e1, t⟩ := d
      exact .inl ⟨a, kvs, rfl, e1, k _ Γ1 _ F1 H1 fp1 x1 r1 (.sh (.int _)) (by rw [t.length]; exact h1)⟩
  · exact h1.elim⟩
end
end PL

namespace PL
open PySem PySem.Spec PyProof.Rows L2

/-! ### comprehensions of two clauses -/
def lc2Go (vs vs1 : List Nat) (g : QG) (t : QT) (i1 : QI) (g1 : QG) (t1 : QT) (p : QE) (k : List D → Ev → Prop) : List D → List D → Ev → Prop
  | [], acc, Γ => k acc Γ
  | d :: r, acc, Γ => g (.sh d) Γ fun Γ1 => t Γ1 (fun b Γ2 => Cif b (i1 Γ2 (fun ds1 Γ3 => lcGo vs1 g1 t1 p (fun acc' Γ4 => lc2Go vs vs1 g t i1 g1 t1 p k r acc' (wipEv vs Γ4)) ds1 acc (wipEv vs1 Γ3)) noEX)
      (lc2Go vs vs1 g t i1 g1 t1 p k r acc (wipEv vs Γ2))) noEX
def qLc2 (vs vs1 : List Nat) (i : QI) (g : QG) (t : QT) (i1 : QI) (g1 : QG) (t1 : QT) (p : QE) : QE := fun Γ R E => i Γ (fun ds Γ1 => noOw Γ1 vs = true ∧ lc2Go vs vs1 g t i1 g1 t1 p (fun acc Γ2 => R (.ow (.l acc)) (backEv Γ1 vs Γ2)) ds [] (wipEv vs Γ1)) E
theorem wipe_wipe {σ : L2.St} {vs vs1 : List Nat} (h : ∀ j ∈ vs1, j ∈ vs) : wipe (wipe σ vs1) vs = wipe σ vs := by
  apply List.ext_getElem?
  intro i
  rcases wipe_get (wipe σ vs1) vs i with ⟨h1, q⟩ | ⟨h1, q⟩
  · rcases wipe_get σ vs i with ⟨h2, q'⟩ | ⟨h2, _⟩
    · by_cases hi : i < σ.length
      · have e1 : (wipe (wipe σ vs1) vs)[i]? ≠ none := by
          rw [List.getElem?_eq_getElem (by rw [wipe_length, wipe_length]; omega)]
          exact fun z => nomatch z
        have e2 : (wipe σ vs)[i]? ≠ none := by
          rw [List.getElem?_eq_getElem (by rw [wipe_length]; omega)]
          exact fun z => nomatch z
        rcases q with q | q
        · rcases q' with q' | q'
          · rw [q, q']
          · exact absurd q' e2
        · exact absurd q e1
      · rw [List.getElem?_eq_none (by rw [wipe_length, wipe_length]; omega), List.getElem?_eq_none (by rw [wipe_length]; omega)]
    · exact absurd h1 h2
  · rcases wipe_get σ vs i with ⟨h2, _⟩ | ⟨_, q'⟩
    · exact absurd h2 h1
    · rw [q, q']
      rcases wipe_get σ vs1 i with ⟨h3, _⟩ | ⟨_, q3⟩
      · exact absurd (h i h3) h1
      · exact q3
section
variable {W : WX} {wi wi1 : TI} {qi qi1 : QI} {g g1 : TG} {qg qg1 : QG} {js js1 : List Nat} {tt tt1 : TT} {qt qt1 : QT} {te : TE} {qe : QE} {vs vs1 : List Nat}
theorem se_lc2 (hi : SI W wi qi) (hg : SG g qg js) (ht : ST W0 tt qt) (hi1 : SI W0 wi1 qi1) (hg1 : SG g1 qg1 js1) (ht1 : ST W0 tt1 qt1) (he : SE W0 te qe) (hj : ∀ j ∈ js, j ∈ vs) (hj1 : ∀ j ∈ js1, j ∈ vs1) (hv : ∀ j ∈ vs1, j ∈ vs) :
    SE W (tLc2 wi g tt wi1 g1 tt1 te vs vs1) (qLc2 vs vs1 qi qg qt qi1 qg1 qt1 qe) := fun {B F Γ σ H fp} R EX Q r q k e => by
  refine hi _ _ _ r q (fun ds Γ1 J F1 H1 fp1 x1 r1 ok h1 => ?_) e
  obtain ⟨ho, h1⟩ := h1
  intro Dl hD
  have r2 : Rel B F1 (wipEv vs Γ1) (wipe σ vs) H1 fp1 := r1.wip vs
  obtain ⟨r3, v3⟩ := new_lst r2 (.nil) hD
  generalize hKK : (fun (acc : List D) (Γ2 : Ev) => R (.ow (.l acc)) (backEv Γ1 vs Γ2)) = KK at h1
  refine ⟨fun i m H' => m + i = ds.length ∧ ∃ Γ' F' fp' acc, Ext B F1 F' ∧ Rel B F' Γ' (wipe σ vs) H' fp' ∧ OwnV B F' H' fp' (.ref Dl) (.l acc) ∧
    lc2Go vs vs1 qg qt qi1 qg1 qt1 qe KK (ds.drop i) acc Γ', ⟨ds.length, rfl, _, F1, fp1, [], .refl, r3, v3.own, h1⟩, ?_⟩
  rintro i m H' ⟨hm, Γ', F', fp', acc, x, r', v', hf⟩
  obtain ⟨o1, o2⟩ := ok B F' Γ' _ H' fp' x.same r' i
  by_cases hlt : i < ds.length
  · obtain ⟨B', rB, gd⟩ := r'.hold v'
    obtain ⟨go, yld⟩ := (ok B' F' Γ' _ H' fp' x.same rB i).1 ds[i] (List.getElem?_eq_getElem hlt)
    refine .inr ⟨go, fun H2 => ∃ m', m' < m ∧ (m' + (i + 1) = ds.length ∧ ∃ Γ' F' fp' acc, Ext B F1 F' ∧ Rel B F' Γ' (wipe σ vs) H2 fp' ∧ OwnV B F' H2 fp' (.ref Dl) (.l acc) ∧
      lc2Go vs vs1 qg qt qi1 qg1 qt1 qe KK (ds.drop (i + 1)) acc Γ'), fun H2 h => h, fun y H2 hy => ?_⟩
    obtain ⟨F2, x2, r2, b2⟩ := yld y H2 hy
    rw [List.drop_eq_getElem_cons hlt] at hf
    refine hg _ _ r2 (.sh b2) hf fun Γ3 F3 σ3 fp3 x3 r3 c3 h3 => ?_
    have hw : wipe σ3 vs = wipe σ vs := wipe_chg c3 hj
    refine ⟨hw, ht _ noEX _ r3 h3 (fun b Γ4 F4 H4 fp4 x4 r4 h4 => ?_) afe_no⟩
    have x24 := (x2.trans x3).trans x4
    cases b with
    | true =>
      refine hi1 _ noEX _ r4 (h4.t rfl) (fun ds1 Γ5 J1 F5 H5 fp5 x5 r5 ok1 h5 => ?_) afe_no
      have r5w := r5.wip vs1
      obtain ⟨y5, r5b, v5⟩ := gd F5 _ _ H5 fp5 (x24.trans x5) r5w
      refine ⟨fun i' m' H' => m' + i' = ds1.length ∧ ∃ Γ' F' fp' acc, Ext B F5 F' ∧ Rel B F' Γ' (wipe σ3 vs1) H' fp' ∧ OwnV B F' H' fp' (.ref Dl) (.l acc) ∧
        lcGo vs1 qg1 qt1 qe (fun acc' Γ4 => lc2Go vs vs1 qg qt qi1 qg1 qt1 qe KK (ds.drop (i + 1)) acc' (wipEv vs Γ4)) (ds1.drop i') acc Γ', ⟨ds1.length, rfl, _, F5, fp5, acc, .refl, r5b, v5, h5⟩, ?_⟩
      rintro i' m' Hi ⟨hm', Γi, Fi, fpi, acci, xi, ri, vi, hfi⟩
      obtain ⟨p1, p2⟩ := ok1 B Fi Γi _ Hi fpi xi.same ri i'
      by_cases hlt' : i' < ds1.length
      · obtain ⟨Bi, rBi, gdi⟩ := ri.hold vi
        obtain ⟨goi, yldi⟩ := (ok1 Bi Fi Γi _ Hi fpi xi.same rBi i').1 ds1[i'] (List.getElem?_eq_getElem hlt')
        refine .inr ⟨goi, fun H2 => ∃ m'', m'' < m' ∧ (m'' + (i' + 1) = ds1.length ∧ ∃ Γ' F' fp' acc, Ext B F5 F' ∧ Rel B F' Γ' (wipe σ3 vs1) H2 fp' ∧ OwnV B F' H2 fp' (.ref Dl) (.l acc) ∧
          lcGo vs1 qg1 qt1 qe (fun acc' Γ4 => lc2Go vs vs1 qg qt qi1 qg1 qt1 qe KK (ds.drop (i + 1)) acc' (wipEv vs Γ4)) (ds1.drop (i' + 1)) acc Γ'), fun H2 h => h, fun y H6 hy => ?_⟩
        obtain ⟨F6, x6, r6, b6⟩ := yldi y H6 hy
        rw [List.drop_eq_getElem_cons hlt'] at hfi
        refine hg1 _ _ r6 (.sh b6) hfi fun Γ7 F7 σ7 fp7 x7 r7 c7 h7 => ?_
        have hw1 : wipe σ7 vs1 = wipe σ3 vs1 := wipe_chg c7 hj1
        refine ⟨hw1, ht1 _ noEX _ r7 h7 (fun b Γ8 F8 H8 fp8 x8 r8 h8 => ?_) afe_no⟩
        have x68 := (x6.trans x7).trans x8
        cases b with
        | true =>
          refine he _ noEX _ r8 (h8.t rfl) (fun w9 Γ9 z F9 H9 fp9 x9 r9 v9 h9 => ?_) afe_no
          obtain ⟨d0, Γ0, F0, fp0, x0, r0, b0, hsz, h0⟩ := shr_ok r9 v9 h9
          have r1w := r0.wip vs1
          rw [hw1] at r1w
          obtain ⟨ya, ra, va⟩ := gdi F0 _ _ H9 fp0 ((x68.trans x9).trans x0) r1w
          obtain ⟨xs, e9, l9, rb, vb⟩ := own_app ra va b0
          exact ⟨xs, e9, by rw [l9]; exact hsz, m' - 1, by omega, by omega, _, F0, fp0, _, xi.trans ya, rb, vb, h0⟩
        | false =>
          have r1w := r8.wip vs1
          rw [hw1] at r1w
          obtain ⟨ya, ra, va⟩ := gdi F8 _ _ H8 fp8 x68 r1w
          exact ⟨m' - 1, by omega, by omega, _, F8, fp8, acci, xi.trans ya, ra, va, h8.f rfl⟩
      · refine .inl ⟨p2 (by omega), ?_⟩
        have e0 : ds1.drop i' = [] := List.drop_of_length_le (by omega)
        rw [e0] at hfi
        have rw2 := ri.wip vs
        rw [wipe_wipe hv, hw] at rw2
        exact ⟨m - 1, by omega, by omega, _, Fi, fpi, acci, (x.trans y5).trans xi, rw2, vi, hfi⟩
    | false =>
      have r7 := r4.wip vs
      rw [hw] at r7
      obtain ⟨y8, r8, v8⟩ := gd F4 _ _ H4 fp4 x24 r7
      exact ⟨m - 1, by omega, by omega, _, F4, fp4, acc, x.trans y8, r8, v8, h4.f rfl⟩
  · refine .inl ⟨o2 (by omega), ?_⟩
    rw [List.drop_of_length_le (by omega)] at hf
    subst hKK
    exact k _ _ _ F' H' fp' (x1.trans x) (r1.back ho x.same r') v'.rw hf
end
section
variable {X : Cx} {W : WX} {pos : Pos} {e tg iter tg1 iter1 elt : Expr} {wi wi1 : TI} {qi qi1 : QI} {g g1 : TG} {qg qg1 : QG} {js js1 : List Nat} {tt tt1 : TT} {qt qt1 : QT} {te : TE} {qe : QE} {ifs ifs1 : List Expr} {scope : Scope} {own : List (Str × Nat)}
theorem d_lc2 (vs1 : List Nat) (hc : X.calm = true) (hN : X.N.Nodup) (hi : DI X W tg iter wi qi) (ok : BlkOk X.N X.env.scope scope own)
    (hg : ∀ (s : Shared) (H : Hp) (C : Addr) (cl : List (Str × Addr)) (fp : List Addr), DG (X.blk s H scope (compEnvC scope cl C X.env) fp) tg g qg js)
    (ht : ∀ (s : Shared) (H : Hp) (C : Addr) (cl : List (Str × Addr)) (fp : List Addr), DTs (X.blk s H scope (compEnvC scope cl C X.env) fp) W0 ifs tt qt)
    (hi1 : ∀ (s : Shared) (H : Hp) (C : Addr) (cl : List (Str × Addr)) (fp : List Addr), DI (X.blk s H scope (compEnvC scope cl C X.env) fp) W0 tg1 iter1 wi1 qi1)
    (hg1 : ∀ (s : Shared) (H : Hp) (C : Addr) (cl : List (Str × Addr)) (fp : List Addr), DG (X.blk s H scope (compEnvC scope cl C X.env) fp) tg1 g1 qg1 js1)
    (ht1 : ∀ (s : Shared) (H : Hp) (C : Addr) (cl : List (Str × Addr)) (fp : List Addr), DTs (X.blk s H scope (compEnvC scope cl C X.env) fp) W0 ifs1 tt1 qt1)
    (he : ∀ (s : Shared) (H : Hp) (C : Addr) (cl : List (Str × Addr)) (fp : List Addr), DE (X.blk s H scope (compEnvC scope cl C X.env) fp) W0 elt te qe)
    (hj : (∀ j ∈ js, j ∈ own.map (·.2)) := by decide) (hj1 : (∀ j ∈ js1, j ∈ vs1) := by decide) (hv : (∀ j ∈ vs1, j ∈ own.map (·.2)) := by decide) (hs : ∀ x, foldedSetIterable iter X.env x = pure x := by intro _; rfl) (hs1 : ∀ env x, foldedSetIterable iter1 env x = pure x := by intro _ _; rfl) :
    DE X W (.ListComp elt [⟨tg, iter, ifs, 0⟩, ⟨tg1, iter1, ifs1, 0⟩] scope pos) (tLc2 wi g tt wi1 g1 tt1 te (own.map (·.2)) vs1) (qLc2 (own.map (·.2)) vs1 qi qg qt qi1 qg1 qt1 qe) :=
  ⟨pe_lc2 hc hN hi.pi ok hv (fun s H C cl fp => (hg s H C cl fp).pg) (fun s H C cl fp => (ht s H C cl fp).pt) (fun s H C cl fp => (hi1 s H C cl fp).pi) (fun s H C cl fp => (hg1 s H C cl fp).pg) (fun s H C cl fp => (ht1 s H C cl fp).pt) (fun s H C cl fp => (he s H C cl fp).pe) hs hs1,
   se_lc2 hi.si (hg ({} : Shared) (fun _ => none) 0 [] []).sg (ht ({} : Shared) (fun _ => none) 0 [] []).st (hi1 ({} : Shared) (fun _ => none) 0 [] []).si (hg1 ({} : Shared) (fun _ => none) 0 [] []).sg (ht1 ({} : Shared) (fun _ => none) 0 [] []).st (he ({} : Shared) (fun _ => none) 0 [] []).se hj hj1 hv⟩
end
end PL

namespace PL
open PySem PySem.Spec PyProof.Rows L2

/-! ### dict comprehensions, the keys of either kind -/
/-- the new dict -/
abbrev dic0 (b : Bool) : HO := if b = true then .dT [] else .dK []
theorem dic0_ok {P : Program} {w : World} {H : Hp} {h : Heap} (b : Bool) (hb : sysModules < h.objs.size) : ObjOk P w H (h.push { cls := .type "dict", data := .dict #[] }) h.objs.size (dic0 b) := by
  cases b with
  | true => exact dt_empty h hb
  | false => exact dk_empty h hb
section
variable {X : Cx} {pins : List (Addr × Obj)} {σ : L2.St} {H : Hp} {s : Shared}
theorem put_ok {E : Value → Shared → Prop} {a : Addr} {y v : V} {H' : Hp} {u r : Value} {Q : Unit → Shared → Prop} (hu : X.A.units + 1 < cLine) (I : Inv X pins σ H s) (g : DPut H a y v H') (ry : RelV y u) (rv : RelV v r)
    (h : ∀ s', Inv X pins σ H' s' → Q () s') : wpAny (model X.prog X.w) X.A (dictSet a u r) Q E s := by
  rcases g with ⟨kvs, k, e, rfl, l, rfl⟩ | ⟨kvs, k, b, e, rfl, eb, l, rfl⟩
  · exact d_dictSet I e l ry rv h
  · cases (show u = Value.ref b from ry)
    obtain ⟨zz, hd, xs, rel, dd⟩ := dt_of I.hok e
    have hlen := length_putK kvs k v
    have hx : xs.length = kvs.length := (Paired.length rel).symm
    refine wpAny_dictSet_heap (hsz := by omega) (show X.A.units < cLine by omega) (key_of I.hok eb) dd fun h' dd' hs => h _ ?_
    obtain ⟨q, es, ep, hq, h2, h3, h4, _, h5⟩ := dd'
    have keep : ∀ c ys, H c = some (.tup ys) → upd H a (.dT (putK kvs k v)) c = some (.tup ys) := fun c ys ec => by
      rw [upd_ne (ne_of ec e (fun z => nomatch z))]
      exact ec
    exact d_write I (by rw [e]; exact True.intro) hs ⟨q, hq⟩ ⟨by omega, hd, _, (rel.put k eb rv).keeps keep, q, es, ep, hq, h2, h3, h4, h5⟩
end
def tDcG (b : Bool) (wi : TI) (g : TG) (tt : TT) (tk tv : TE) (vs : List Nat) : TE := fun σ H Q => wi σ H fun J H1 => ∀ D, H1 D = none → ∃ W : Nat → Nat → Hp → Prop, (∃ m, W 0 m (upd H1 D (dic0 b))) ∧ ∀ i m H, W i m H →
  (J.stop i H ∧ Q (.ref D) H) ∨ (J.go i H ∧ ∃ Nx : Hp → Prop, (∀ H', Nx H' → ∃ m', m' < m ∧ W (i + 1) m' H') ∧ ∀ x H', J.yld i H x H' → g x (wipe σ vs) H' fun σ2 H2 => wipe σ2 vs = wipe σ vs ∧ tt σ2 H2 fun c H3 =>
    if c = true then tk σ2 H3 fun y H4 => tv σ2 H4 fun z H5 => ∃ H6, DPut H5 D y z H6 ∧ Nx H6 else Nx H3)
section
variable {X : Cx}
theorem dcG_core {b : Bool} {pins : List (Addr × Obj)} {s : Shared} {σ : L2.St} {H : Hp} {Q : VK} {kx vx tg iter : Expr} {ifs : List Expr} {scope : Scope} {own : List (Str × Nat)} {pos pos' : Pos} {wi : TI} {g : TG} {tt : TT} {tk tv : TE} {use : Option (Value → Sem Unit)} {Qf : Value → Shared → Prop}
    (hu : X.A.units + 1 < cLine) (hc : X.calm = true) (hN : X.N.Nodup) (I : Inv X pins σ H s) (hi : PI X tg iter wi) (ok : BlkOk X.N X.env.scope scope own)
    (hg : ∀ (s : Shared) (H : Hp) (C : Addr) (cl : List (Str × Addr)) (fp : List Addr), PG (X.blk s H scope (compEnvC scope cl C X.env) fp) tg g)
    (ht : ∀ (s : Shared) (H : Hp) (C : Addr) (cl : List (Str × Addr)) (fp : List Addr), PTs (X.blk s H scope (compEnvC scope cl C X.env) fp) ifs tt)
    (hk : ∀ (s : Shared) (H : Hp) (C : Addr) (cl : List (Str × Addr)) (fp : List Addr), PE (X.blk s H scope (compEnvC scope cl C X.env) fp) kx tk)
    (he : ∀ (s : Shared) (H : Hp) (C : Addr) (cl : List (Str × Addr)) (fp : List Addr), PE (X.blk s H scope (compEnvC scope cl C X.env) fp) vx tv) (hs : ∀ x, foldedSetIterable iter X.env x = pure x)
    (h : tDcG b wi g tt tk tv (own.map (·.2)) σ H Q)
    (hR : ∀ D C s' m H', Inv X pins σ H' s' → Q (.ref D) H' → s'.heap.Ns C m → FpOk X pins H' C → compPost (model X.prog X.w) X.A X.xe use Qf (.ref D) C (.ok .next) s') :
    wpAny (model X.prog X.w) X.A (comprehension (.DictComp kx vx [⟨tg, iter, ifs, 0⟩] scope pos) scope X.env pos' newDict false (eval iter X.env) use) Qf X.xe s := by
  have free : ∀ y ∈ scope.names, y.2 = .free → ∃ c, X.env.cells.lookup y.1 = some c := fun y hy e => (ok.free y hy e).elim (fun k => I.ok.has _ (.inl k)) fun k => I.ok.has _ (.inr k)
  refine wpAny_comprehension_free (use := use) rfl hs (closure_ok free) ok.kind (fun y hy e => by rw [ok.uniq y hy, e])
    (thn (hi.run pins s σ H _ I h) fun _ _ hx => thn hx fun _ s2 ⟨it, fp, tn, J, H2, e, I2, T, st2, f2, q⟩ => ?_)
  subst e
  refine wpAny_newObj_type (newEnv_comp ?_)
  let Da := s2.heap.objs.size
  have nD : H2 Da = none := I2.hok.fresh (Nat.le_refl _)
  obtain ⟨W, ⟨m0, w0⟩, turn⟩ := q Da nD
  let s3 : Shared := { s2 with heap := s2.heap.push { cls := .type "dict", data := .dict #[] } }
  let H3 : Hp := upd H2 Da (dic0 b)
  have I3 : Inv X pins σ H3 s3 := I2.laid (t' := s2.toks) (fun _ _ e => Heap.get?_push_of_some _ e) (Nat.le_refl _) (dic0_ok b I2.big)
  have lt2 : ∀ c ∈ fp, c < s2.heap.objs.size := fun c hc => let ⟨_, e, _⟩ := T.obj _ _ st2 c hc; Heap.lt_size e
  have f3 : ∀ c ∈ fp, FpOk X pins H3 c ∧ c < s3.heap.objs.size := fun c hc => ⟨⟨(upd_ne (Nat.ne_of_lt (lt2 c hc))).trans (f2 c hc).1, (f2 c hc).2⟩, by
    show c < (s2.heap.push _).objs.size
    rw [Heap.size_push]
    exact Nat.lt_succ_of_lt (lt2 c hc)⟩
  have st3 : tn 0 s3.heap := T.keep _ _ _ st2 fun _ _ _ e => Heap.get?_push_of_some _ e
  have I4 := block_start I3 ok hN f3
  let cl := cellsFrom (s3.heap.objs.size + 1) scope.names (cloFrom X.env.cells scope.names [])
  have pg := hg s3 H3 s3.heap.objs.size cl fp
  have pt := ht s3 H3 s3.heap.objs.size cl fp
  have pk := hk s3 H3 s3.heap.objs.size cl fp
  have pe := he s3 H3 s3.heap.objs.size cl fp
  let ce := compEnvC scope cl s3.heap.objs.size X.env
  let s4 : Shared := { s3 with heap := pushCells (s3.heap.push { cls := .type "dict", data := .dict #[] }) scope.names }
  show codeAny _ _ (.compStart (.DictComp kx vx [⟨tg, iter, ifs, 0⟩] scope pos) 0 (.ref it) (.ref Da) ce) (compPost (model X.prog X.w) X.A X.xe use Qf (.ref Da) s3.heap.objs.size) s4
  have st4 : tn 0 s4.heap := T.keep _ _ _ st3 fun _ _ _ e => pushCells_keeps _ _ _ _ (Heap.get?_push_of_some _ e)
  have stat : ∀ {σ' : L2.St} {H' : Hp} {s' : Shared}, Inv (X.blk s3 H3 scope ce fp) [] σ' H' s' → (∀ c ∈ fp, H' c = none) → ∀ c ∈ fp, FpOk (X.blk s3 H3 scope ce fp) [] H' c := fun {σ' H' s'} I' hn c hc =>
    ⟨hn c hc, (I'.ok.exf c hc).1, I'.ok.exfs c hc, .inl hc, fun x d e => (I'.ok.exf c hc).2 x d e, fun p hp => absurd (show p ∈ ([] : List (Addr × Obj)) ++ [] from hp) (by simp)⟩
  have loop : codeAny (model X.prog X.w) X.A (.compLoop (.DictComp kx vx [⟨tg, iter, ifs, 0⟩] scope pos) 0 (.ref it) (.ref Da) ce) (compPost (model X.prog X.w) X.A X.xe use Qf (.ref Da) s3.heap.objs.size) s4 := by
    refine compLoop_anyD (fun n s' => ∃ i H', Inv (X.blk s3 H3 scope ce fp) [] (wipe σ (own.map (·.2))) H' s' ∧ tn i s'.heap ∧ (∀ c ∈ fp, H' c = none) ∧ W i n H') ?_ m0 ⟨0, H3, I4, st4, fun c hc => (f3 c hc).1.1, w0⟩
    rintro n s5 ⟨i, H5, I5, st5, n5, w5⟩
    rcases turn i n H5 w5 with ⟨stop, qq⟩ | ⟨go, Nx, hNx, step⟩
    · refine thnF (T.done (X.blk s3 H3 scope ce fp) rfl rfl rfl hc i [] s5 _ H5 (fun _ _ => False) I5 (stat I5 n5) st5 stop) fun r s6 ⟨hr, I6⟩ => ?_
      subst hr
      obtain ⟨m, hn, _⟩ := I6.loc
      exact hR Da s3.heap.objs.size s6 m H5 (I3.call' (ch := fp) I6.os I6.base I6.hok I6.bare fun c hc => ⟨(f3 c hc).1.2.2.2.1, (f3 c hc).1.2.1, (f3 c hc).1.2.2.2.2.1, (f3 c hc).1.2.2.2.2.2⟩) qq hn (I3.fpOk (Nat.le_refl _) I6.free)
    · refine thnF (T.item (X.blk s3 H3 scope ce fp) rfl rfl rfl hc i [] s5 _ H5 (fun _ _ => False) I5 (stat I5 n5) st5 go) fun r s6 ⟨u, hr, h6⟩ => ?_
      subst hr
      refine thnF h6 fun _ s7 ⟨x, H7, I7, r7, y7, st7, n7⟩ => ?_
      refine thnF (pg.run _ s7 _ H7 x u _ (I7.pinned (stat I7 n7) (T.obj _ _ st7)) r7 (step x H7 y7)) fun _ s8 ⟨σ8, H8, I8, hw8, q8⟩ => ?_
      have fin : ∀ {s' : Shared} {H' : Hp}, Inv (X.blk s3 H3 scope ce fp) ([] ++ pinsAt fp s7.heap) σ8 H' s' → Nx H' → ∃ m, m < n ∧ ∃ i H', Inv (X.blk s3 H3 scope ce fp) [] (wipe σ (own.map (·.2))) H' s' ∧ tn i s'.heap ∧ (∀ c ∈ fp, H' c = none) ∧ W i m H' := fun {s' H'} I' nx => by
        obtain ⟨m', hm, w'⟩ := hNx H' nx
        have pinned : ∀ c ∈ fp, ∀ o, s7.heap.get? c = some o → s'.heap.get? c = some o ∧ H' c = none := fun c hc o e =>
          let z := I'.pin (c, o) (List.mem_append_right _ (List.mem_append_right _ (mem_pinsAt hc e)))
          ⟨z.1, z.2.1⟩
        refine ⟨m', hm, i + 1, H', (I'.unpinned (pins := [])).weak (by rw [← hw8, wipe_length]) (fun j v e => ?_), T.keep _ _ _ st7 fun c hc o e => (pinned c hc o e).1, fun c hc => ?_, w'⟩
        · rw [← hw8] at e
          exact (wipe_some e).1
        · obtain ⟨o, e, _⟩ := T.obj _ _ st7 c hc
          exact (pinned c hc o e).2
      refine thnF (pt.run _ s8 σ8 H8 _ I8 q8) fun c s9 ⟨H9, I9, q9⟩ => ?_
      cases c with
      | false => exact fin I9 q9
      | true =>
        refine thnF (pk.run _ s9 σ8 H9 _ I9 q9) fun _ s10 ⟨yk, H10, I10, r10, q10⟩ => ?_
        refine thnF (pe.run _ s10 σ8 H10 _ I10 q10) fun _ s11 ⟨yv, H11, I11, r11, H12, put, nx⟩ => ?_
        exact put_ok (X := X.blk s3 H3 scope ce fp) hu I11 put r10 r11 fun s12 I12 => fin I12 nx
  exact codeAny_compStart_dict loop (T.self X.A 0 _ _ _ st4 loop)
theorem pe_dcG {b : Bool} {kx vx tg iter : Expr} {ifs : List Expr} {scope : Scope} {own : List (Str × Nat)} {pos : Pos} {wi : TI} {g : TG} {tt : TT} {tk tv : TE} (hu : X.A.units + 1 < cLine) (hc : X.calm = true) (hN : X.N.Nodup) (hi : PI X tg iter wi) (ok : BlkOk X.N X.env.scope scope own)
    (hg : ∀ (s : Shared) (H : Hp) (C : Addr) (cl : List (Str × Addr)) (fp : List Addr), PG (X.blk s H scope (compEnvC scope cl C X.env) fp) tg g)
    (ht : ∀ (s : Shared) (H : Hp) (C : Addr) (cl : List (Str × Addr)) (fp : List Addr), PTs (X.blk s H scope (compEnvC scope cl C X.env) fp) ifs tt)
    (hk : ∀ (s : Shared) (H : Hp) (C : Addr) (cl : List (Str × Addr)) (fp : List Addr), PE (X.blk s H scope (compEnvC scope cl C X.env) fp) kx tk)
    (he : ∀ (s : Shared) (H : Hp) (C : Addr) (cl : List (Str × Addr)) (fp : List Addr), PE (X.blk s H scope (compEnvC scope cl C X.env) fp) vx tv) (hs : ∀ x, foldedSetIterable iter X.env x = pure x := by intro _; rfl) :
    PE X (.DictComp kx vx [⟨tg, iter, ifs, 0⟩] scope pos) (tDcG b wi g tt tk tv (own.map (·.2))) := ⟨fun pins s σ H Q I h => by
  rw [arm_eval_DictComp]
  refine dcG_core hu hc hN I hi ok hg ht hk he hs h fun D C s' m H' I' q hn ⟨f0, f1, f2, f3, f4, f5⟩ => ⟨m, hn, fun h'' sb => ?_⟩
  exact ⟨.ref D, H', I'.turned (t' := s'.toks) (fun b o hb e => (sb.2 b hb).trans e) f0 f1 f3 f4 f5, rfl, q⟩⟩
end

abbrev dicO (b : Bool) (ds : List (D × D)) : O := if b = true then .t ds else .k ds
section
variable {B F : Hp} {Γ : Ev} {σ : L2.St} {H : Hp} {fp : Nat → List Addr}
theorem own_put {b : Bool} {Da : Addr} {acc : List (D × D)} {y z : V} {k v : D} (r : Rel B F Γ σ H fp) (h : OwnV B F H fp (.ref Da) (dicO b acc)) (hy : Rp F y k) (hz : Rp F z v) (hk : (if b = true then keyT k else keyK k) = true) (hl : acc.length < sizeLine) :
    ∃ H', DPut H Da y z H' ∧ Rel B F Γ σ H' fp ∧ OwnV B F H' fp (.ref Da) (dicO b (putD acc k v)) := by
  obtain ⟨f, h, hf⟩ := h
  have gen : ∀ u, Da ∈ f → Rel B F Γ σ (upd H Da u) fp := fun u hm => by
    obtain ⟨b1, b2, b3⟩ := hf Da hm
    refine ⟨fun a o q => ?_, fun a o q => ?_, r.len, r.sh, fun i o q => ?_, fun i a ha => ?_, r.dj, r.ex⟩
    · rw [upd_ne fun z => by subst z; rw [b1] at q; cases q]
      exact r.bx a o q
    · rw [upd_ne fun z => by subst z; rw [b2] at q; cases q]
      exact r.fx a o q
    · obtain ⟨v, h1, h2⟩ := r.ow i o q
      exact ⟨v, h1, h2.mono (Same.refl F) fun a ha => upd_ne fun z => b3 i (by rw [← z]; exact ha)⟩
    · obtain ⟨c1, c2, c3⟩ := r.nb i a ha
      refine ⟨c1, c2, ?_⟩
      rw [upd_ne fun z => b3 i (by rw [← z]; exact ha)]
      exact c3
  cases b with
  | true =>
    cases h with
    | @t a kvs ds e t =>
      obtain ⟨q, ks, rfl, e2, rfl⟩ := hy.keyT hk
      exact ⟨_, .t e (r.fx _ _ e2) (by rw [t.length]; exact hl), gen _ (by simp), [Da], .t upd_same (t.put hz), hf⟩
  | false =>
    cases h with
    | @k a kvs ds e t =>
      obtain ⟨ks, rfl, rfl⟩ := hy.keyK hk
      exact ⟨_, .k e (by rw [t.length]; exact hl), gen _ (by simp), [Da], .k upd_same (t.put hz), hf⟩
theorem new_d (b : Bool) {p : Addr} (r : Rel B F Γ σ H fp) (hp : H p = none) : Rel B F Γ σ (upd H p (dic0 b)) fp ∧ OwnV B F (upd H p (dic0 b)) fp (.ref p) (dicO b []) := by
  cases b with
  | true =>
    obtain ⟨r', v'⟩ := new_t r hp
    exact ⟨r', v'.own⟩
  | false =>
    obtain ⟨r', v'⟩ := new_k r hp
    exact ⟨r', v'.own⟩
end
def dcGo (b : Bool) (vs : List Nat) (g : QG) (t : QT) (pk pv : QE) (k : List (D × D) → Ev → Prop) : List D → List (D × D) → Ev → Prop
  | [], acc, Γ => k acc Γ
  | d :: r, acc, Γ => g (.sh d) Γ fun Γ1 => t Γ1 (fun c Γ2 => Cif c (pk Γ2 (fun w Γ3 => shr w Γ3 fun dk Γ4 => pv Γ4 (fun w Γ5 => shr w Γ5 fun dv Γ6 => (if b = true then keyT dk else keyK dk) = true ∧ acc.length < sizeLine ∧
      dcGo b vs g t pk pv k r (putD acc dk dv) (wipEv vs Γ6)) noEX) noEX) (dcGo b vs g t pk pv k r acc (wipEv vs Γ2))) noEX
def qDc (b : Bool) (vs : List Nat) (i : QI) (g : QG) (t : QT) (pk pv : QE) : QE := fun Γ R E => i Γ (fun ds Γ1 => noOw Γ1 vs = true ∧ dcGo b vs g t pk pv (fun acc Γ2 => R (.ow (dicO b acc)) (backEv Γ1 vs Γ2)) ds [] (wipEv vs Γ1)) E
section
variable {W : WX} {b : Bool} {wi : TI} {qi : QI} {g : TG} {qg : QG} {js : List Nat} {tt : TT} {qt : QT} {tk tv : TE} {qk qv : QE} {vs : List Nat}
theorem se_dc (hi : SI W wi qi) (hg : SG g qg js) (ht : ST W0 tt qt) (hk : SE W0 tk qk) (hv : SE W0 tv qv) (hj : ∀ j ∈ js, j ∈ vs) : SE W (tDcG b wi g tt tk tv vs) (qDc b vs qi qg qt qk qv) := fun {B F Γ σ H fp} R EX Q r q k e => by
  refine hi _ _ _ r q (fun ds Γ1 J F1 H1 fp1 x1 r1 ok h1 => ?_) e
  obtain ⟨ho, h1⟩ := h1
  intro Dl hD
  have r2 : Rel B F1 (wipEv vs Γ1) (wipe σ vs) H1 fp1 := r1.wip vs
  obtain ⟨r3, v3⟩ := new_d b r2 hD
  generalize hKK : (fun (acc : List (D × D)) (Γ2 : Ev) => R (.ow (dicO b acc)) (backEv Γ1 vs Γ2)) = KK at h1
  refine ⟨fun i m H' => m + i = ds.length ∧ ∃ Γ' F' fp' acc, Ext B F1 F' ∧ Rel B F' Γ' (wipe σ vs) H' fp' ∧ OwnV B F' H' fp' (.ref Dl) (dicO b acc) ∧
    dcGo b vs qg qt qk qv KK (ds.drop i) acc Γ', ⟨ds.length, rfl, _, F1, fp1, [], .refl, r3, v3, h1⟩, ?_⟩
  rintro i m H' ⟨hm, Γ', F', fp', acc, x, r', v', hf⟩
  obtain ⟨o1, o2⟩ := ok B F' Γ' _ H' fp' x.same r' i
  by_cases hlt : i < ds.length
  · obtain ⟨B', rB, gd⟩ := r'.hold v'
    obtain ⟨go, yld⟩ := (ok B' F' Γ' _ H' fp' x.same rB i).1 ds[i] (List.getElem?_eq_getElem hlt)
    refine .inr ⟨go, fun H2 => ∃ m', m' < m ∧ (m' + (i + 1) = ds.length ∧ ∃ Γ' F' fp' acc, Ext B F1 F' ∧ Rel B F' Γ' (wipe σ vs) H2 fp' ∧ OwnV B F' H2 fp' (.ref Dl) (dicO b acc) ∧
      dcGo b vs qg qt qk qv KK (ds.drop (i + 1)) acc Γ'), fun H2 h => h, fun y H2 hy => ?_⟩
    obtain ⟨F2, x2, r2, b2⟩ := yld y H2 hy
    rw [List.drop_eq_getElem_cons hlt] at hf
    refine hg _ _ r2 (.sh b2) hf fun Γ3 F3 σ3 fp3 x3 r3 c3 h3 => ?_
    have hw : wipe σ3 vs = wipe σ vs := wipe_chg c3 hj
    refine ⟨hw, ht _ noEX _ r3 h3 (fun c Γ4 F4 H4 fp4 x4 r4 h4 => ?_) afe_no⟩
    have x24 := (x2.trans x3).trans x4
    cases c with
    | true =>
      refine hk _ noEX _ r4 (h4.t rfl) (fun w5 Γ5 zk F5 H5 fp5 x5 r5 v5 h5 => ?_) afe_no
      obtain ⟨d6, Γ6, F6, fp6, x6, r6, b6, h6⟩ := shr_ok r5 v5 h5
      refine hv _ noEX _ r6 h6 (fun w7 Γ7 zv F7 H7 fp7 x7 r7 v7 h7 => ?_) afe_no
      obtain ⟨d8, Γ8, F8, fp8, x8, r8, b8, hkk, hsz, h8⟩ := shr_ok r7 v7 h7
      have rw8 := r8.wip vs
      rw [hw] at rw8
      obtain ⟨y9, r9, v9⟩ := gd F8 _ _ H7 fp8 ((((x24.trans x5).trans x6).trans x7).trans x8) rw8
      obtain ⟨H10, put, r10, v10⟩ := own_put r9 v9 ((b6.mono x7.same).mono x8.same) b8 hkk hsz
      exact ⟨H10, put, m - 1, by omega, by omega, _, F8, fp8, _, x.trans y9, r10, v10, h8⟩
    | false =>
      have r7 := r4.wip vs
      rw [hw] at r7
      obtain ⟨y8, r8, v8⟩ := gd F4 _ _ H4 fp4 x24 r7
      exact ⟨m - 1, by omega, by omega, _, F4, fp4, acc, x.trans y8, r8, v8, h4.f rfl⟩
  · refine .inl ⟨o2 (by omega), ?_⟩
    rw [List.drop_of_length_le (by omega)] at hf
    subst hKK
    exact k _ _ _ F' H' fp' (x1.trans x) (r1.back ho x.same r') v'.rw hf
end
section
variable {X : Cx} {W : WX} {pos : Pos} {kx vx tg iter : Expr} {wi : TI} {qi : QI} {g : TG} {qg : QG} {js : List Nat} {tt : TT} {qt : QT} {tk tv : TE} {qk qv : QE} {ifs : List Expr} {scope : Scope} {own : List (Str × Nat)}
theorem d_dc (b : Bool) {j : Nat} (hr : Room j X.A) (hc : X.calm = true) (hN : X.N.Nodup) (hi : DI X W tg iter wi qi) (ok : BlkOk X.N X.env.scope scope own)
    (hg : ∀ (s : Shared) (H : Hp) (C : Addr) (cl : List (Str × Addr)) (fp : List Addr), DG (X.blk s H scope (compEnvC scope cl C X.env) fp) tg g qg js)
    (ht : ∀ (s : Shared) (H : Hp) (C : Addr) (cl : List (Str × Addr)) (fp : List Addr), DTs (X.blk s H scope (compEnvC scope cl C X.env) fp) W0 ifs tt qt)
    (hk : ∀ (s : Shared) (H : Hp) (C : Addr) (cl : List (Str × Addr)) (fp : List Addr), DE (X.blk s H scope (compEnvC scope cl C X.env) fp) W0 kx tk qk)
    (he : ∀ (s : Shared) (H : Hp) (C : Addr) (cl : List (Str × Addr)) (fp : List Addr), DE (X.blk s H scope (compEnvC scope cl C X.env) fp) W0 vx tv qv) (hj : (∀ j ∈ js, j ∈ own.map (·.2)) := by decide) (hs : ∀ x, foldedSetIterable iter X.env x = pure x := by intro _; rfl) :
    DE X W (.DictComp kx vx [⟨tg, iter, ifs, 0⟩] scope pos) (tDcG b wi g tt tk tv (own.map (·.2))) (qDc b (own.map (·.2)) qi qg qt qk qv) :=
  ⟨pe_dcG (hu_of hr) hc hN hi.pi ok (fun s H C cl fp => (hg s H C cl fp).pg) (fun s H C cl fp => (ht s H C cl fp).pt) (fun s H C cl fp => (hk s H C cl fp).pe) (fun s H C cl fp => (he s H C cl fp).pe) hs,
   se_dc hi.si (hg ({} : Shared) (fun _ => none) 0 [] []).sg (ht ({} : Shared) (fun _ => none) 0 [] []).st (hk ({} : Shared) (fun _ => none) 0 [] []).se (he ({} : Shared) (fun _ => none) 0 [] []).se hj⟩
end
end PL

namespace PL
open PySem PySem.Spec PyProof.Rows L2

/-! ### methods of texts -/
def isStr : D → Prop
  | .str _ => True
  | _ => False
theorem Rb.isStr {F H : Hp} {v : V} {d : D} (h : Rb F H v d) (q : PL.isStr d) : ∃ a, v = .str a := by
  cases h with
  | str x _ => exact ⟨x, rfl⟩
  | _ => exact q.elim
def qM0 (o : OP1) (pa : QE) : QE := fun Γ R E => pa Γ (fun w1 Γ1 => bor w1 Γ1 isStr ∧ bor w1 Γ1 fun d1 => o d1 fun w => R w Γ1) E
def qM1 (o : OP2) (pa pb : QE) : QE := fun Γ R E => pa Γ (fun w1 Γ1 => bor w1 Γ1 isStr ∧ pb Γ1 (fun w2 Γ2 => bor w1 Γ2 fun d1 => bor w2 Γ2 fun d2 => o d1 d2 fun w => R w Γ2) E) E
section
variable {X : Cx} {W : WX} {pos p : Pos} {a b e f : Expr} {ta tb te tf : TE} {pa pb pe pf : QE}
theorem se_m0 {r : V → List V → Hp → VK → Prop} {o : OP1} (hs : UnS (fun x H Q => r x [] H Q) o) (ha : SE W ta pa) : SE W (tM0 r ta) (qM0 o pa) := fun {B F Γ σ H fp} R EX Q rr h k e => by
  refine ha _ EX _ rr h (fun w1 Γ1 x F1 H1 fp1 x1 r1 v1 h1 => ?_) e
  obtain ⟨d, b, z⟩ := bor_rb r1 v1 h1.1
  obtain ⟨d1, b1, z1⟩ := bor_rb r1 v1 h1.2
  exact ⟨b.isStr z, hs _ Q r1 b1 z1 fun w v F2 H2 x2 r2 q2 kk => k w Γ1 v F2 H2 fp1 (x1.trans x2) r2 q2 kk⟩
theorem se_m1 {r : V → List V → Hp → VK → Prop} {o : OP2} (hs : OpS (fun x y H Q => r x [y] H Q) o) (ha : SE W ta pa) (hb : SE W tb pb) : SE W (tM1 r ta tb) (qM1 o pa pb) := fun {B F Γ σ H fp} R EX Q rr h k e => by
  refine ha _ EX _ rr h (fun w1 Γ1 x F1 H1 fp1 x1 r1 v1 h1 => ?_) e
  obtain ⟨d, b, z⟩ := bor_rb r1 v1 h1.1
  obtain ⟨B', r1', g⟩ := r1.guard v1
  refine ⟨b.isStr z, hb _ EX _ r1' h1.2 (fun w2 Γ2 y F2 H2 fp2 x2 r2 v2 h2 => ?_) fun c Γ' F' H' fp' x2 r2 q => ?_⟩
  · obtain ⟨x3, r3, v3, g3⟩ := g F2 Γ2 H2 fp2 x2 r2
    obtain ⟨d1, b1, z1⟩ := bor_rb r3 v3 h2
    obtain ⟨d2, b2, z2⟩ := bor_rb r3 (g3 _ _ v2) z1
    exact hs _ Q r3 b1 b2 z2 fun w v F' H' x' r' q' kk => k w Γ2 v F' H' fp2 ((x1.trans x3).trans x') r' q' kk
  · obtain ⟨x5, r5, _, _⟩ := g F' Γ' H' fp' x2 r2
    exact e c Γ' F' H' fp' (x1.trans x5) r5 q
/-- text.index(sign) -/
def opIndex : OP2 := fun d1 d2 k => match d1, d2 with
  | .str x, .str y => (match y.cps.toList with
    | [c] => (match x.cps.toList.idxOf? c with
      | some i => k (.sh (.int (i : Nat)))
      | none => False)
    | _ => False)
  | _, _ => False
theorem occ_one {x : Str} {c i : Nat} (h : x.cps.toList.idxOf? c = some i) : ∃ r, Builtin.Str.occurrences x ⟨#[c]⟩ 0 x.length 1 = i :: r := by
  rw [List.idxOf?, List.findIdx?_eq_some_iff_getElem] at h
  obtain ⟨hl, hc, hn⟩ := h
  have hi : x.cps.toList[i]? = some c := by
    rw [List.getElem?_eq_getElem hl]
    exact congrArg some (eq_of_beq hc)
  rcases StrLaws.occ_head x ⟨#[c]⟩ 1 (Nat.le_refl 1) with ⟨_, h0⟩ | ⟨j, r, h0, h1, h2⟩
  · exact absurd ((StrLaws.subAt_one x c i).mpr hi) (h0 i)
  · refine ⟨r, ?_⟩
    rw [h0]
    have hj := (StrLaws.subAt_one x c j).mp h1
    have e : j = i := by
      rcases Nat.lt_trichotomy j i with q | q | q
      · have := hn j q
        obtain ⟨hjl, hjc⟩ := List.getElem?_eq_some_iff.mp hj
        rw [hjc] at this
        simp at this
      · exact q
      · exact absurd ((StrLaws.subAt_one x c i).mpr hi) (h2 i q)
    rw [e]
theorem os_index : OpS (fun x y H Q => (fun x xs H Q => ∃ a b i rest, x = V.str a ∧ xs = [V.str b] ∧ Builtin.Str.occurrences a b 0 a.length 1 = i :: rest ∧ Q (.int (i : Nat)) H) x [y] H Q) opIndex := fun {B F Γ σ H fp x y d1 d2} k Q r b1 b2 z c => by
  cases b1 with
  | str a ha =>
    cases b2 with
    | str b hb =>
      unfold opIndex at z
      simp only at z
      split at z
      · rename_i cc hcc
        split at z
        · rename_i i hi
          obtain ⟨rr, ho⟩ := occ_one hi
          have eb : b = ⟨#[cc]⟩ := by
            cases b with
            | mk cps =>
              cases cps with
              | mk l =>
                simp only at hcc
                subst hcc
                rfl
          subst eb
          exact ⟨a, _, i, rr, rfl, rfl, ho, op_sc r (.int _) c z⟩
        · exact z.elim
      · exact z.elim
    | _ => exact z.elim
  | _ => cases b2 <;> exact z.elim
theorem d_index {apos : Pos} (ha : DE X W a ta pa) (hb : DE X W b tb pb) (hs : starEach [b] X.env = [(false, eval b X.env)] := by rfl) (hbase : attributeBase a "index" X.env (eval a X.env) = eval a X.env := by rfl) (hline : (apos.endLine == pos.line) = true := by rfl) :
    DE X W (.Call (.Attribute a "index" apos) [b] [] pos) (tM1 (fun x xs H Q => ∃ a b i rest, x = V.str a ∧ xs = [V.str b] ∧ Builtin.Str.occurrences a b 0 a.length 1 = i :: rest ∧ Q (.int (i : Nat)) H) ta tb) (qM1 opIndex pa pb) :=
  ⟨pe_m1 F.slot_str_index F.type_str_index mt_sindex ha.pe hb.pe hs hbase hline, se_m1 os_index ha.se hb.se⟩
/-- sep.join(texts) -/
def joinOf (x : Str) (ds : List D) (k : Wv → Prop) : Prop := match strsOf ds with
  | some ys => (ys.map (·.length)).sum + ys.length * x.length ≤ 16777216 ∧ k (.sh (.str (Str.join x ys)))
  | none => False
def opJoin : OP2 := fun d1 d2 k => match d1, d2 with
  | .str x, .list ds => joinOf x ds k
  | .str x, .tuple ds => joinOf x ds k
  | _, _ => False
theorem strOk_iff {x : Str} : PyData.strOk x = true ↔ ∀ c ∈ x.cps.toList, c < 0x110000 := by
  unfold PyData.strOk
  rw [Array.all_eq_true']
  simp
theorem strOk_join {x : Str} (hx : PyData.strOk x = true) : ∀ {ys : List Str}, (∀ y ∈ ys, PyData.strOk y = true) → PyData.strOk (Str.join x ys) = true
  | [], _ => by
    show (#[] : Array Nat).all _ = true
    simp
  | [y], h => h y (by simp)
  | y :: z :: r, h => by
    show PyData.strOk (y ++ x ++ Str.join x (z :: r)) = true
    exact strOk_app (strOk_app (h y (by simp)) hx) (strOk_join hx fun w hw => h w (List.mem_cons_of_mem _ hw))
abbrev rJoin (K : PySem.W.Frag) : V → List V → Hp → VK → Prop := fun x xs H Q => ∃ a p, ∃ ys : List Str, x = .str a ∧ xs = [.ref p] ∧ (SqL K H p (ys.map V.str) ∨ SqT K H p (ys.map V.str)) ∧
    (ys.map (·.length)).sum + ys.length * a.length ≤ 16777216 ∧ Q (.str (Txt.join a ys)) H
theorem os_join {K : PySem.W.Frag} : OpS (fun x y H Q => rJoin K x [y] H Q) opJoin := fun {B F Γ σ H fp x y d1 d2} k Q r b1 b2 z c => by
  cases b1 with
  | str a ha =>
    have fin : ∀ {vs : List V} {ds : List D} {q : Addr}, RpA F vs ds → joinOf a ds k → (∀ ys : List Str, vs = ys.map V.str → (SqL K H q (ys.map V.str) ∨ SqT K H q (ys.map V.str))) → rJoin K (.str a) [.ref q] H Q := by
      intro vs ds q t z hq
      unfold joinOf at z
      split at z
      · rename_i ys hy
        obtain ⟨e1, e2⟩ := strs_rp t hy
        refine ⟨a, q, ys, rfl, rfl, hq ys e1, z.1, ?_⟩
        rw [TL.join_eq]
        exact op_sc r (.str _ (strOk_join ha e2)) c z.2
      · exact z.elim
    cases b2 with
    | @lst q xs ds e t => exact fin t z fun ys e1 => .inl (.inl (.inl (by rw [← e1]; exact e)))
    | @tup q xs ds e0 e t => exact fin t z fun ys e1 => .inr (.inl (.inl (by rw [← e1]; exact e)))
    | _ => exact z.elim
  | _ => cases b2 <;> exact z.elim
theorem d_join {apos : Pos} (ha : DE X W a ta pa) (hb : DE X W b tb pb) (hs : starEach [b] X.env = [(false, eval b X.env)] := by rfl) (hbase : attributeBase a "join" X.env (eval a X.env) = eval a X.env := by rfl) (hline : (apos.endLine == pos.line) = true := by rfl) :
    DE X W (.Call (.Attribute a "join" apos) [b] [] pos) (tM1 (rJoin X.K) ta tb) (qM1 opJoin pa pb) :=
  ⟨pe_join ha.pe hb.pe hs hbase hline, se_m1 os_join ha.se hb.se⟩
end

/-! ### xs[i] = e, xs an own list -/
def qSetIx (i : Nat) (pi pe : QE) : QS := fun P Γ => pe Γ (fun w Γ1 => shr w Γ1 fun d Γ2 => isOwL Γ2[i]? = true ∧ pi Γ2 (fun w2 Γ3 => bor w2 Γ3 fun d2 => match d2 with
  | .int j => (match Γ3[i]? with
    | some (.ow (.l ds)) => (match ixN ds.length j with
      | some n => P.nx (Γ3.set i (.ow (.l (ds.set n d))))
      | none => False)
    | _ => False)
  | _ => False) P.ex) P.ex
section
variable {X : Cx} {W : WX} {pos p : Pos} {a b e f : Expr} {ta tb te tf : TE} {pa pb pe pf : QE}
theorem ss_setIx {i : Nat} (ha : SE W ta pa) (he : SE W te pe) : SS W (tAsg te (gSub (tVar i) ta rSetL)) (qSetIx i pa pe) := fun {B F Γ σ H fp} P D r q h => by
  refine he _ _ _ r q (fun w Γ1 y F1 H1 fp1 x1 r1 v1 h1 => ?_) h.afe
  obtain ⟨d, Γ2, F2, fp2, x2, r2, b2, h2, h3⟩ := shr_ok r1 v1 h1
  obtain ⟨v, g1, g2⟩ := own_ty (K := (default : PySem.W.Frag)) r2 h2
  refine ⟨v, g1, ha _ _ _ r2 h3 (fun w2 Γ3 z F3 H3 fp3 x3 r3 v3 h4 => ?_) (h.afe.mono (x1.trans x2))⟩
  obtain ⟨d2, bd, h5⟩ := bor_rb r3 v3 h4
  split at h5
  · rename_i j
    split at h5
    · rename_i ds hd
      split at h5
      · rename_i n hn
        cases bd
        obtain ⟨u, z1, z2⟩ := r3.ow i _ hd
        rw [g1] at z1
        cases z1
        generalize hf : fp3 i = f at z2
        cases z2 with
        | @l a xs ds e5 t5 =>
          obtain ⟨a', xs', ea, e6, t6, r6⟩ := r3.mutL hd g1 (t5.set (b2.mono x3.same) n)
          cases ea
          exact ⟨a, xs, j, n, rfl, rfl, e5, by rw [t5.length]; exact hn, h.nx _ F3 _ _ fp3 ((x1.trans x2).trans x3) r6 h5⟩
      · exact h5.elim
    · exact h5.elim
  · exact h5.elim
theorem ds_setIx (i : Nat) {x : Str} {px pos' : Pos} (ha : DE X W a ta pa) (he : DE X W e te pe) (hN : X.N[i]? = some x := by rfl) (hv : Vis X.env.scope x := by first | exact Or.inl rfl | exact Or.inr (Or.inl rfl) | exact Or.inr (Or.inr rfl)) (hd : (x == ("__debug__" : Str)) = false := by decide)
    (hcd : (x == ("__classdict__" : Str)) = false := by decide)
    (hs : swapsWithSole [.Subscript (.Name x px) a pos'] e pos.line X.env = pure false := by rfl) (hw : swappedStores [.Subscript (.Name x px) a pos'] e X.env = pure none := by rfl)
    (h1 : (assignEach [.Subscript (.Name x px) a pos'] X.env).map (·.2) = [assign (.Subscript (.Name x px) a pos') X.env] := by rfl)
    (hg : ∀ v, assign (.Subscript (.Name x px) a pos') X.env v = (do
      let ov ← holding [v] (eval (.Name x px) X.env)
      let iv ← holding [v, ov] (eval a X.env)
      standAt pos'
      holding [v, ov, iv] (setItem ov iv v)
      release [v, ov, iv] []) := by intro _; rfl) :
    DS X W (.Assign [.Subscript (.Name x px) a pos'] e pos) (tAsg te (gSub (tVar i) ta rSetL)) (qSetIx i pa pe) :=
  ⟨ps_asg he.pe (pg_sub (pe_var hN hv hd hcd) ha.pe set_list hg) hs hw h1, ss_setIx ha.se he.se⟩
end

/-! ### tuple * int -/
theorem tuple_mul1 (l : Addr) (items : Array Value) (n : Nat) (dd : Option Addr) (sl : Array (Option Value)) (u : Tok) :
    Meets (Builtin.«tuple.__mul__» ⟨[.ref l, .int 1 u], []⟩) (fun _ R s => s.heap.get? l = some { cls := .type "tuple", dict := dd, data := .seq items n, slots := sl } ∧ R (.ok (.ret (Value.ref l))) s) :=
  .of_wp fun prog w A R s h => by
    obtain ⟨hp, g, d, tk, os⟩ := s
    obtain ⟨hl, h⟩ := h
    have f1 := AutoSeq1.idx_int
    wp_walk using wpAny_loadPart' hl
    repeat (first
      | (refine wpAny_ite_false (by decide) ?_; wp_walk using wpAny_loadPart' hl)
      | (refine wpAny_ite_true (by simp) ?_; wp_walk using wpAny_loadPart' hl))
    exact ⟨_, rfl, h⟩

def rRepT1 (K : PySem.W.Frag) : R2 := fun x y H Q => ∃ l xs, x = .ref l ∧ y = .int 1 ∧ SqT K H l xs ∧ Q (.ref l) H
section
variable {X : Cx}
theorem op_repT1 : OpR X (binaryOp .Mult) (rRepT1 X.K) := by
  intro pins s σ H x y v u Q I rx ry h
  obtain ⟨l, xs, rfl, rfl, hT, q⟩ := h
  cases rx
  obtain ⟨t, rfl⟩ := ry
  obtain ⟨its, r, ⟨⟨cls, dd, data, sl⟩, ho, hc, n, hd⟩, hs⟩ := I.tuple hT
  simp only at hc hd
  subst hc hd
  refine wpAny_binaryOp_repeat_ref (T := "tuple") (U := "int") (by decide) ⟨_, ho, rfl⟩ (fun s' => typeIs_int s' 1 t) noFill_tuple_mul F.fills_int_mul F.slot_int_rmul repeat_tuple F.slot_int_index.lookup
    (call_meets F.slot_int_rmul (typeIs_int s 1 t) F.entry_int_rmul (F.args_int_rmul_2 _ _) (int_rmul_tuple 1 t l its.toArray n dd sl)
      ⟨ho, rfl, ⟨_, ho, rfl⟩, call_meets F.slot_tuple_mul ⟨_, ho, rfl⟩ F.entry_tuple_mul (F.args_tuple_mul_2 _ _) (tuple_mul1 l its.toArray n dd sl t) ⟨ho, ?_⟩⟩)
  exact ⟨.ref l, H, I, rfl, q⟩
def rMulT (K : PySem.W.Frag) : R2 := fun x y H Q => rRepT1 K x y H Q ∨ rRepT K x y H Q
theorem or_mulT : OpR X (binaryOp .Mult) (rMulT X.K) := OpR.or op_repT1 op_repT
end
/-- a tuple, not empty, some times (not more than 1000) -/
def opMulT : OP2 := fun d1 d2 k => match d1, d2 with
  | .tuple xs, .int n => xs ≠ [] ∧ 1 ≤ n ∧ n ≤ 1000 ∧ xs.length ≤ 1000 ∧ k (.sh (.tuple (List.replicate n.toNat xs).flatten))
  | _, _ => False
theorem os_mulT {K : PySem.W.Frag} : OpS (rMulT K) opMulT := fun {B F Γ σ H fp x y d1 d2} k Q r b1 b2 z c => by
  cases b1 with
  | @tup a xs ds e e0 t =>
    cases b2 with
    | int n =>
      obtain ⟨z1, z2, z3, z4, z5⟩ := z
      by_cases h1 : n = 1
      · subst h1
        have e1 : (List.replicate (1 : Int).toNat ds).flatten = ds := by simp
        rw [e1] at z5
        exact .inl ⟨a, xs, rfl, rfl, .inl (.inl e0), op_sc r (.tup e t) c z5⟩
      · refine .inr ⟨a, n, xs, rfl, rfl, .inl (.inl e0), fun q => z1 ?_, by omega, z3, by rw [t.length]; exact z4, fun p hp => ?_⟩
        · subst q
          cases t
          rfl
        · obtain ⟨x', r', v'⟩ := new_tup r (t.rep n.toNat) hp
          exact c _ _ _ _ x' r' v' z5
    | _ => exact z.elim
  | _ => cases b2 <;> exact z.elim
section
variable {X : Cx} {W : WX} {pos p : Pos} {a b e f : Expr} {ta tb te tf : TE} {pa pb pe pf : QE}
theorem d_mulT (ha : DE X W a ta pa) (hb : DE X W b tb pb) : DE X W (.BinOp a .Mult b pos) (tOp (rMulT X.K) ta tb) (qOp opMulT pa pb) := d_op or_mulT os_mulT ha hb
end

/-! ### max of a list or tuple of ints -/
def maxOf (ds : List D) (k : Wv → Prop) : Prop := match intsOf ds with
  | some (n :: ns) => (n :: ns).length ≤ 1000 ∧ k (.sh (.int (ns.foldl max n)))
  | _ => False
def opMax : OP1 := fun d k => match d with
  | .list ds => maxOf ds k
  | .tuple ds => maxOf ds k
  | _ => False
def rMaxT (K : PySem.W.Frag) : List V → Hp → VK → Prop := fun vs H Q => ∃ a n ns, vs = [V.ref a] ∧ SqT K H a ((n :: ns).map V.int) ∧ (n :: ns).length ≤ 1000 ∧ Q (.int (ns.foldl max n)) H
theorem depthAll_ints : ∀ ns : List Int, PyData.depthAll (ns.map .int) ≤ 1
  | [] => by simp [PyData.depthAll]
  | n :: r => by
    have := depthAll_ints r
    simp only [List.map_cons, PyData.depthAll, PyData.depth]
    omega
section
variable {X : Cx}
theorem cr_maxT {j : Nat} (hr : Room j X.A) (hc : X.calm = true) : CallR X (.builtin "max") (rMaxT X.K) := by
  intro pins s σ H vs us Q I r h
  obtain ⟨a, n, ns, rfl, hs, hl, q⟩ := h
  obtain ⟨its, rv, ht, _⟩ := I.tuple hs
  rw [Vals.ref1 r]
  have hi := rv.ints
  refine PySem.W.max_tuple_data (I.ok.hd hc) ht (by rw [List.toList_toArray]; exact IntsAre.reads s.heap hi) ⟨?_, ?_⟩ ?_ fun i v h' tk bs hv hrd hk => ?_
  · intro x hx y hy
    obtain ⟨i, _, rfl⟩ := List.mem_map.mp (show x ∈ (n :: ns).map PyData.int from hx)
    obtain ⟨j, _, rfl⟩ := List.mem_map.mp (show y ∈ (n :: ns).map PyData.int from hy)
    rfl
  · intro x hx
    obtain ⟨i, _, rfl⟩ := List.mem_map.mp (show x ∈ (n :: ns).map PyData.int from hx)
    exact fun z => nomatch z
  · have := depthAll_ints (n :: ns)
    have := hr.un
    show X.A.units + 1 + PyData.depthAll ((n :: ns).map .int) < cLine
    omega
  · have e := PySem.W.maxD_ints n ns
    rw [e] at hrd
    have : ∃ t, v = .int (ns.foldl max n) t := by
      cases hrd
      exact ⟨_, rfl⟩
    exact ⟨.int _, H, I.kept (t' := tk) hk, this, q⟩
end
theorem foldl_max_ge : ∀ (ns : List Int) (n y : Int), y ≤ n ∨ y ∈ ns → y ≤ ns.foldl max n
  | [], n, y, h => by simpa using h
  | m :: r, n, y, h => by
    refine foldl_max_ge r (max n m) y ?_
    rcases h with h | h
    · exact .inl (by omega)
    · rcases List.mem_cons.mp h with rfl | h
      · exact .inl (by omega)
      · exact .inr h
theorem foldl_max_mem : ∀ (ns : List Int) (n : Int), ns.foldl max n = n ∨ ns.foldl max n ∈ ns
  | [], n => .inl rfl
  | m :: r, n => by
    rcases foldl_max_mem r (max n m) with h | h
    · show r.foldl max (max n m) = n ∨ r.foldl max (max n m) ∈ m :: r
      rw [h]
      by_cases e : m ≤ n
      · exact .inl (by omega)
      · exact .inr (by rw [show max n m = m by omega]; exact List.mem_cons_self)
    · exact .inr (List.mem_cons_of_mem _ h)
theorem max_uniq {n : Int} {ns : List Int} {m : Int} (h1 : m ∈ n :: ns) (h2 : ∀ y, y ∈ n :: ns → y ≤ m) : m = ns.foldl max n := by
  have a : m ≤ ns.foldl max n := foldl_max_ge ns n m (by
    rcases List.mem_cons.mp h1 with rfl | h
    · exact .inl (Int.le_refl _)
    · exact .inr h)
  have b : ns.foldl max n ≤ m := by
    rcases foldl_max_mem ns n with h | h
    · rw [h]
      exact h2 n List.mem_cons_self
    · exact h2 _ (List.mem_cons_of_mem _ h)
  omega
theorem us_max {K : PySem.W.Frag} : UnS (fun x H Q => rMax K [x] H Q ∨ rMaxT K [x] H Q) opMax := fun {B F Γ σ H fp x d} k Q r b z c => by
  cases b with
  | @lst a xs ds e t =>
    unfold opMax maxOf at z
    simp only at z
    split at z
    · rename_i n ns hn
      have := ints_rp t hn
      subst this
      refine .inl ⟨a, n :: ns, rfl, .inl (.inl e), by simp, fun m h1 h2 => ?_⟩
      rw [max_uniq h1 h2]
      exact op_sc r (.int _) c z.2
    · exact z.elim
  | @tup a xs ds e0 e t =>
    unfold opMax maxOf at z
    simp only at z
    split at z
    · rename_i n ns hn
      have := ints_rp t hn
      subst this
      exact .inr ⟨a, n, ns, rfl, .inl (.inl e), z.1, op_sc r (.int _) c z.2⟩
    · exact z.elim
  | _ => exact z.elim
section
variable {X : Cx} {W : WX} {pos p : Pos} {a b e f : Expr} {ta tb te tf : TE} {pa pb pe pf : QE}
theorem d_max {j : Nat} (hr : Room j X.A) (hc : X.calm = true) (hm : X.mg "max" = none) (ha : DE X W a ta pa) (hg : Gl X "max" := by rfl) (he : starEach [a] X.env = (false, eval a X.env) :: starEach [] X.env := by rfl) (hpl : (backTo pos (starEach [] X.env)).any (·.1) = false := by rfl) :
    DE X W (.Call (.Name "max" p) [a] [] pos) (tCB (fun xs H Q => rMax X.K xs H Q ∨ rMaxT X.K xs H Q) (tCons ta tNil)) (qUn opMax pa) := d_bi1 (CallR.or (cr_max hc) (cr_maxT hr hc)) us_max hm (by decide +kernel) ha hg (by decide) (by decide) he hpl
end

/-! ### text[::-1] -/
def revS (x : Str) : Str := ⟨x.cps.toList.reverse.toArray⟩
theorem revS_eq (x : Str) (u : Tok) : Txt.sliceBy x none none (-1, u) = revS x := by
  have h := step_rev_list x u
  generalize Txt.sliceBy x none none (-1, u) = y at h
  unfold revS
  cases y with
  | mk cps =>
    congr 1
    apply Array.toList_inj.mp
    rw [List.toList_toArray, h]
    apply List.ext_getElem
    · simp [Str.length]
    · intro i h1 h2
      simp only [List.getElem_map, List.getElem_range, List.getElem_reverse, Array.length_toList, Array.getElem_toList]
      have : x.cps.size - 1 - i < x.cps.size := by
        simp at h2
        omega
      show x.cps.getD (x.cps.size - 1 - i) 0 = _
      simp [Array.getD, this]
def opRevS : OP1 := fun d k => match d with
  | .str x => x.length ≤ sizeLine ∧ k (.sh (.str (revS x)))
  | _ => False
def tRevS (te : TE) : TE := fun σ H Q => te σ H fun x H1 => ∃ z, x = .str z ∧ z.length ≤ sizeLine ∧ Q (.str (revS z)) H1
theorem strOk_rev {x : Str} (h : PyData.strOk x = true) : PyData.strOk (revS x) = true := by
  rw [strOk_iff] at h ⊢
  intro c hc
  unfold revS at hc
  simp at hc
  exact h c (by simpa using hc)
section
variable {X : Cx} {W : WX} {pos p : Pos} {a b e f : Expr} {ta tb te tf : TE} {pa pb pe pf : QE}
theorem pe_revS {k : Nat} {p1 p2 p3 : Pos} (he : PE X e te) : PE X (.Subscript e (.Slice none none (some (.UnaryOp .USub (.Constant (.int 1) k p1) p2)) p3) pos) (tRevS te) := by
  refine ⟨fun pins s σ H Q I h => ?_⟩
  refine Subscript_ (thn (he.run pins s σ H _ I h) fun v s1 ⟨x, H1, I1, r1, q1⟩ => ?_)
  obtain ⟨z, ex, hz, q⟩ := q1
  subst ex
  obtain ⟨t, rfl⟩ := r1
  have hst : PO X (some (.UnaryOp .USub (.Constant (.int 1) k p1) p2)) (tPart (tUn (rU fun i => .int (-i)) (tC (.int 1)))) := po_some (pe_un un_neg pe_int)
  refine wpAny_Slice (thn (po_none.run pins s1 σ H1 (fun o H2 => o = none ∧ H2 = H1) I1 ⟨rfl, rfl⟩) fun vl s2 ⟨l, H2, I2, pl, el, e2⟩ => ?_)
  subst el e2
  refine thn (po_none.run pins s2 σ H2 (fun o H3 => o = none ∧ H3 = H2) I2 ⟨rfl, rfl⟩) fun vu s3 ⟨u, H3, I3, pu, eu, e3⟩ => ?_
  subst eu e3
  refine thn (hst.run pins s3 σ H3 (fun o H4 => o = some (-1) ∧ H4 = H3) I3 ⟨1, rfl, -1, rfl, rfl, rfl⟩) fun vs s4 ⟨o, H4, I4, ps, eo, e4⟩ => ?_
  subst eo e4
  have I5 : Inv X pins σ H4 { s4 with heap := s4.heap.push { cls := .type "slice", data := .fields #[vl, vu, vs] } } := I4.kept (t' := s4.toks) fun b ob q => Heap.get?_push_of_some _ q
  obtain ⟨l, rfl, hl1⟩ := IsPart.raw pl
  obtain ⟨u, rfl, hu1⟩ := IsPart.raw pu
  obtain ⟨st, rfl, hst1⟩ := IsPart.raw ps
  have el : l = none := by cases l <;> first | rfl | cases hl1
  have eu : u = none := by cases u <;> first | rfl | cases hu1
  obtain ⟨w, es⟩ : ∃ w, st = some ((-1 : Int), w) := by
    cases st with
    | none => cases hst1
    | some q =>
      obtain ⟨i, w⟩ := q
      cases hst1
      exact ⟨w, rfl⟩
  subst el eu es
  show wpAny (model X.prog X.w) X.A (subscriptTail e (.Slice none none (some (.UnaryOp .USub (.Constant (.int 1) k p1) p2)) p3) (.str z t) (.ref s4.heap.objs.size)) (EP X pins σ Q) X.xe { s4 with heap := s4.heap.push { cls := .type "slice", data := .fields #[partValue none, partValue none, partValue (some ((-1 : Int), w))] } }
  refine tail_any (ops := [.str z t, .ref s4.heap.objs.size]) (typeIs_str _ _ _) (F.slot_str_getitem.lookup) ?_ (by with_unfolding_all rfl)
  refine wpAny_getItem_str_slice (l := none) (u := none) (st := some ((-1 : Int), w)) ⟨_, Heap.get?_push_size _ rfl, rfl, rfl⟩ rfl ?_
  have e0 := revS_eq z w
  have nc : ¬ (((((some ((-1 : Int), w)).map (·.1)).getD 1 == 1 && (slicePicked z none none (some ((-1 : Int), w))).length == z.length)) = true) := by
    have : (((some ((-1 : Int), w)).map (·.1)).getD 1 == 1) = false := rfl
    rw [this]
    simp
  unfold Txt.sliceBy at e0
  rw [if_neg nc] at e0
  unfold sliceMade
  rw [if_neg nc, e0]
  have hl : (revS z).length ≤ sizeLine := by
    show z.cps.toList.reverse.toArray.size ≤ sizeLine
    rw [List.size_toArray, List.length_reverse, Array.length_toList]
    exact hz
  exact ⟨hl, .str _, H4, I5.tok _, ⟨_, rfl⟩, q⟩
theorem d_revS {k : Nat} {p1 p2 p3 : Pos} (he : DE X W e te pe) : DE X W (.Subscript e (.Slice none none (some (.UnaryOp .USub (.Constant (.int 1) k p1) p2)) p3) pos) (tRevS te) (qUn opRevS pe) := ⟨pe_revS he.pe, fun {B F Γ σ H fp} R EX Q rr h k e => by
  refine he.se _ EX _ rr h (fun w1 Γ1 x F1 H1 fp1 x1 r1 v1 h1 => ?_) e
  obtain ⟨d, b, z⟩ := bor_rb r1 v1 h1
  cases b with
  | str x hx => exact ⟨x, rfl, z.1, k _ Γ1 _ F1 H1 fp1 x1 r1 (.sh (.str _ (strOk_rev hx))) z.2⟩
  | _ => exact z.elim⟩
end

/-! ### name = {k: v for ..} on one line -/
section
variable {X : Cx} {W : WX} {pos : Pos} {kx vx tg iter : Expr} {wi : TI} {qi : QI} {g : TG} {qg : QG} {js : List Nat} {tt : TT} {qt : QT} {tk tv : TE} {qk qv : QE} {ifs : List Expr} {scope : Scope} {own : List (Str × Nat)}
theorem ps_setDc {b : Bool} {i : Nat} {y : Str} {py spos : Pos} (hu : X.A.units + 1 < cLine) (hc : X.calm = true) (hN : X.N.Nodup) (hy : X.N[i]? = some y) (hyl : X.env.scope.names.lookup y = some .local)
    (hsw : swapsWith (.DictComp kx vx [⟨tg, iter, ifs, 0⟩] scope pos) (some (.Name y py)) spos.line X.env = pure true) (hi : PI X tg iter wi) (ok : BlkOk X.N X.env.scope scope own)
    (hg : ∀ (s : Shared) (H : Hp) (C : Addr) (cl : List (Str × Addr)) (fp : List Addr), PG (X.blk s H scope (compEnvC scope cl C X.env) fp) tg g)
    (ht : ∀ (s : Shared) (H : Hp) (C : Addr) (cl : List (Str × Addr)) (fp : List Addr), PTs (X.blk s H scope (compEnvC scope cl C X.env) fp) ifs tt)
    (hk : ∀ (s : Shared) (H : Hp) (C : Addr) (cl : List (Str × Addr)) (fp : List Addr), PE (X.blk s H scope (compEnvC scope cl C X.env) fp) kx tk)
    (he : ∀ (s : Shared) (H : Hp) (C : Addr) (cl : List (Str × Addr)) (fp : List Addr), PE (X.blk s H scope (compEnvC scope cl C X.env) fp) vx tv) (hs : ∀ x, foldedSetIterable iter X.env x = pure x := by intro _; rfl) :
    PS X (.Assign [.Name y py] (.DictComp kx vx [⟨tg, iter, ifs, 0⟩] scope pos) spos) (tAsg (tDcG b wi g tt tk tv (own.map (·.2))) (gName i)) := by
  refine ⟨fun pins s σ H D I h => ?_⟩
  rw [exec_Assign_Name_used _ _ _ _ hsw]
  refine wpAny_bind (wpAny_standAt (wpAny_bind ?_))
  show wpAny _ X.A (do let _ ← comprehension (.DictComp kx vx [⟨tg, iter, ifs, 0⟩] scope pos) scope X.env (firstIterPos [⟨tg, iter, ifs, 0⟩] pos) newDict false (eval iter X.env) (some (assign (.Name y py) X.env))) _ _ s
  have h : tDcG b wi g tt tk tv (own.map (·.2)) σ H (fun x H1 => gName i x σ H1 D.nx) := h
  refine wpAny_bind (thn (dcG_core (Qf := fun _ s' => SP X pins D .next s') hu hc hN I hi ok hg ht hk he hs h fun L C s' m H' I' q hn f => ?_) fun _ s' hq => wpAny_pure (wpAny_pure hq))
  show wpAny _ _ (assign (.Name y py) X.env (.ref L)) _ _ _
  refine wpAny_assign_Name (store_ok2 (v := V.ref L) I' hN hy (.inl hyl) rfl (fun s2 I2 ⟨a, sb, ha⟩ => ?_) (.inr hyl))
  obtain ⟨f0, f1, f2, f3, f4, f5⟩ := f
  have haC : C ≠ a := by
    rcases ha with z | z
    · rw [z]; exact f1
    · exact fun e => f4 y a z e.symm
  refine ⟨m, hn.sameBut sb haC, fun h3 sb3 => ?_⟩
  exact ⟨_, H', I2.turned (t' := s2.toks) (fun b o hb e => (sb3.2 b hb).trans e) f0 f1 f3 f4 f5, q⟩
theorem swd_true {gs : List Comprehension} {py : Pos} {y : Str} {l : Nat} {env : Env} (hk : env.scope.kind = .function) (hy : env.scope.names.lookup y = some .local) (hl : (py.line == pos.line) = true)
    (ha : (scope.names.any fun (n, k) => n == y && (k == .local || k == .cell)) = false) : swapsWith (.DictComp kx vx gs scope pos) (some (.Name y py)) l env = pure true := by
  have ky : env.kindOf y = some .local := hy
  have hb : env.blockKind = .function := by unfold Env.blockKind; rw [hk]; rfl
  unfold swapsWith
  simp only [hb, ky, ha, Expr.pos, hl]
  rfl
theorem ds_setDc (b : Bool) {i j : Nat} {y : Str} {py spos : Pos} (hr : Room j X.A) (hc : X.calm = true) (hN : X.N.Nodup) (hi : DI X W tg iter wi qi) (ok : BlkOk X.N X.env.scope scope own)
    (hg : ∀ (s : Shared) (H : Hp) (C : Addr) (cl : List (Str × Addr)) (fp : List Addr), DG (X.blk s H scope (compEnvC scope cl C X.env) fp) tg g qg js)
    (ht : ∀ (s : Shared) (H : Hp) (C : Addr) (cl : List (Str × Addr)) (fp : List Addr), DTs (X.blk s H scope (compEnvC scope cl C X.env) fp) W0 ifs tt qt)
    (hk : ∀ (s : Shared) (H : Hp) (C : Addr) (cl : List (Str × Addr)) (fp : List Addr), DE (X.blk s H scope (compEnvC scope cl C X.env) fp) W0 kx tk qk)
    (he : ∀ (s : Shared) (H : Hp) (C : Addr) (cl : List (Str × Addr)) (fp : List Addr), DE (X.blk s H scope (compEnvC scope cl C X.env) fp) W0 vx tv qv)
    (hsw : swapsWith (.DictComp kx vx [⟨tg, iter, ifs, 0⟩] scope pos) (some (.Name y py)) spos.line X.env = pure true)
    (hy : X.N[i]? = some y := by rfl) (hyl : X.env.scope.names.lookup y = some .local := by rfl) (hj : (∀ j ∈ js, j ∈ own.map (·.2)) := by decide) (hs : ∀ x, foldedSetIterable iter X.env x = pure x := by intro _; rfl) :
    DS X W (.Assign [.Name y py] (.DictComp kx vx [⟨tg, iter, ifs, 0⟩] scope pos) spos) (tAsg (tDcG b wi g tt tk tv (own.map (·.2))) (gName i)) (qAsg (qDc b (own.map (·.2)) qi qg qt qk qv) (qgN i)) :=
  ⟨ps_setDc (hu_of hr) hc hN hy hyl hsw hi.pi ok (fun s H C cl fp => (hg s H C cl fp).pg) (fun s H C cl fp => (ht s H C cl fp).pt) (fun s H C cl fp => (hk s H C cl fp).pe) (fun s H C cl fp => (he s H C cl fp).pe) hs,
   ss_asg (se_dc hi.si (hg ({} : Shared) (fun _ => none) 0 [] []).sg (ht ({} : Shared) (fun _ => none) 0 [] []).st (hk ({} : Shared) (fun _ => none) 0 [] []).se (he ({} : Shared) (fun _ => none) 0 [] []).se hj) sg_name⟩
end

end PL

namespace PL
open PySem PySem.Spec PyProof.Rows L2
/-! ### comprehensions whose parts may name the block -/
abbrev BK (α : Type) := Shared → Hp → Addr → List (Str × Addr) → List Addr → α
abbrev bz {α : Type} (f : BK α) : α := f {} (fun _ => none) 0 [] []
section
variable {X : Cx} {W : WX} {pos : Pos} {e tg iter elt tg1 iter1 kx vx : Expr} {wi : TI} {qi qi1 : QI} {wi1 : BK TI} {g g1 : BK TG} {qg qg1 : QG} {js js1 : List Nat} {tt tt1 : BK TT} {qt qt1 : QT} {te tk tv : BK TE} {qe qk qv : QE} {ifs ifs1 : List Expr} {scope : Scope} {own : List (Str × Nat)}
theorem b_lc (hc : X.calm = true) (hN : X.N.Nodup) (hi : DI X W tg iter wi qi) (ok : BlkOk X.N X.env.scope scope own)
    (hg : ∀ (s : Shared) (H : Hp) (C : Addr) (cl : List (Str × Addr)) (fp : List Addr), DG (X.blk s H scope (compEnvC scope cl C X.env) fp) tg (g s H C cl fp) qg js)
    (ht : ∀ (s : Shared) (H : Hp) (C : Addr) (cl : List (Str × Addr)) (fp : List Addr), DTs (X.blk s H scope (compEnvC scope cl C X.env) fp) W0 ifs (tt s H C cl fp) qt)
    (he : ∀ (s : Shared) (H : Hp) (C : Addr) (cl : List (Str × Addr)) (fp : List Addr), DE (X.blk s H scope (compEnvC scope cl C X.env) fp) W0 elt (te s H C cl fp) qe)
    (h1 : ∀ s H C cl fp, g s H C cl fp = bz g := by intros; rfl) (h2 : ∀ s H C cl fp, tt s H C cl fp = bz tt := by intros; rfl) (h3 : ∀ s H C cl fp, te s H C cl fp = bz te := by intros; rfl)
    (hj : (∀ j ∈ js, j ∈ own.map (·.2)) := by decide) (hs : ∀ x, foldedSetIterable iter X.env x = pure x := by intro _; rfl) :
    DE X W (.ListComp elt [⟨tg, iter, ifs, 0⟩] scope pos) (tLc wi (bz g) (bz tt) (bz te) (own.map (·.2))) (qLc (own.map (·.2)) qi qg qt qe) :=
  d_lc hc hN hi ok (fun s H C cl fp => h1 s H C cl fp ▸ hg s H C cl fp) (fun s H C cl fp => h2 s H C cl fp ▸ ht s H C cl fp) (fun s H C cl fp => h3 s H C cl fp ▸ he s H C cl fp) hj hs
theorem bs_setLc {i : Nat} {y : Str} {py spos : Pos} (hc : X.calm = true) (hN : X.N.Nodup) (hi : DI X W tg iter wi qi) (ok : BlkOk X.N X.env.scope scope own)
    (hg : ∀ (s : Shared) (H : Hp) (C : Addr) (cl : List (Str × Addr)) (fp : List Addr), DG (X.blk s H scope (compEnvC scope cl C X.env) fp) tg (g s H C cl fp) qg js)
    (ht : ∀ (s : Shared) (H : Hp) (C : Addr) (cl : List (Str × Addr)) (fp : List Addr), DTs (X.blk s H scope (compEnvC scope cl C X.env) fp) W0 ifs (tt s H C cl fp) qt)
    (he : ∀ (s : Shared) (H : Hp) (C : Addr) (cl : List (Str × Addr)) (fp : List Addr), DE (X.blk s H scope (compEnvC scope cl C X.env) fp) W0 elt (te s H C cl fp) qe)
    (hsw : swapsWith (.ListComp elt [⟨tg, iter, ifs, 0⟩] scope pos) (some (.Name y py)) spos.line X.env = pure true)
    (h1 : ∀ s H C cl fp, g s H C cl fp = bz g := by intros; rfl) (h2 : ∀ s H C cl fp, tt s H C cl fp = bz tt := by intros; rfl) (h3 : ∀ s H C cl fp, te s H C cl fp = bz te := by intros; rfl)
    (hy : X.N[i]? = some y := by rfl) (hyl : X.env.scope.names.lookup y = some .local := by rfl) (hj : (∀ j ∈ js, j ∈ own.map (·.2)) := by decide) (hs : ∀ x, foldedSetIterable iter X.env x = pure x := by intro _; rfl) :
    DS X W (.Assign [.Name y py] (.ListComp elt [⟨tg, iter, ifs, 0⟩] scope pos) spos) (tAsg (tLc wi (bz g) (bz tt) (bz te) (own.map (·.2))) (gName i)) (qAsg (qLc (own.map (·.2)) qi qg qt qe) (qgN i)) :=
  ds_setLc hc hN hi ok (fun s H C cl fp => h1 s H C cl fp ▸ hg s H C cl fp) (fun s H C cl fp => h2 s H C cl fp ▸ ht s H C cl fp) (fun s H C cl fp => h3 s H C cl fp ▸ he s H C cl fp) hsw hy hyl hj hs
theorem b_lc2 (vs1 : List Nat) (hc : X.calm = true) (hN : X.N.Nodup) (hi : DI X W tg iter wi qi) (ok : BlkOk X.N X.env.scope scope own)
    (hg : ∀ (s : Shared) (H : Hp) (C : Addr) (cl : List (Str × Addr)) (fp : List Addr), DG (X.blk s H scope (compEnvC scope cl C X.env) fp) tg (g s H C cl fp) qg js)
    (ht : ∀ (s : Shared) (H : Hp) (C : Addr) (cl : List (Str × Addr)) (fp : List Addr), DTs (X.blk s H scope (compEnvC scope cl C X.env) fp) W0 ifs (tt s H C cl fp) qt)
    (hi1 : ∀ (s : Shared) (H : Hp) (C : Addr) (cl : List (Str × Addr)) (fp : List Addr), DI (X.blk s H scope (compEnvC scope cl C X.env) fp) W0 tg1 iter1 (wi1 s H C cl fp) qi1)
    (hg1 : ∀ (s : Shared) (H : Hp) (C : Addr) (cl : List (Str × Addr)) (fp : List Addr), DG (X.blk s H scope (compEnvC scope cl C X.env) fp) tg1 (g1 s H C cl fp) qg1 js1)
    (ht1 : ∀ (s : Shared) (H : Hp) (C : Addr) (cl : List (Str × Addr)) (fp : List Addr), DTs (X.blk s H scope (compEnvC scope cl C X.env) fp) W0 ifs1 (tt1 s H C cl fp) qt1)
    (he : ∀ (s : Shared) (H : Hp) (C : Addr) (cl : List (Str × Addr)) (fp : List Addr), DE (X.blk s H scope (compEnvC scope cl C X.env) fp) W0 elt (te s H C cl fp) qe)
    (h1 : ∀ s H C cl fp, g s H C cl fp = bz g := by intros; rfl) (h2 : ∀ s H C cl fp, tt s H C cl fp = bz tt := by intros; rfl) (h3 : ∀ s H C cl fp, te s H C cl fp = bz te := by intros; rfl)
    (h4 : ∀ s H C cl fp, wi1 s H C cl fp = bz wi1 := by intros; rfl) (h5 : ∀ s H C cl fp, g1 s H C cl fp = bz g1 := by intros; rfl) (h6 : ∀ s H C cl fp, tt1 s H C cl fp = bz tt1 := by intros; rfl)
    (hj : (∀ j ∈ js, j ∈ own.map (·.2)) := by decide) (hj1 : (∀ j ∈ js1, j ∈ vs1) := by decide) (hv : (∀ j ∈ vs1, j ∈ own.map (·.2)) := by decide) (hs : ∀ x, foldedSetIterable iter X.env x = pure x := by intro _; rfl) (hs1 : ∀ env x, foldedSetIterable iter1 env x = pure x := by intro _ _; rfl) :
    DE X W (.ListComp elt [⟨tg, iter, ifs, 0⟩, ⟨tg1, iter1, ifs1, 0⟩] scope pos) (tLc2 wi (bz g) (bz tt) (bz wi1) (bz g1) (bz tt1) (bz te) (own.map (·.2)) vs1) (qLc2 (own.map (·.2)) vs1 qi qg qt qi1 qg1 qt1 qe) :=
  d_lc2 vs1 hc hN hi ok (fun s H C cl fp => h1 s H C cl fp ▸ hg s H C cl fp) (fun s H C cl fp => h2 s H C cl fp ▸ ht s H C cl fp) (fun s H C cl fp => h4 s H C cl fp ▸ hi1 s H C cl fp) (fun s H C cl fp => h5 s H C cl fp ▸ hg1 s H C cl fp) (fun s H C cl fp => h6 s H C cl fp ▸ ht1 s H C cl fp) (fun s H C cl fp => h3 s H C cl fp ▸ he s H C cl fp) hj hj1 hv hs hs1
theorem b_dc (b : Bool) {j : Nat} (hr : Room j X.A) (hc : X.calm = true) (hN : X.N.Nodup) (hi : DI X W tg iter wi qi) (ok : BlkOk X.N X.env.scope scope own)
    (hg : ∀ (s : Shared) (H : Hp) (C : Addr) (cl : List (Str × Addr)) (fp : List Addr), DG (X.blk s H scope (compEnvC scope cl C X.env) fp) tg (g s H C cl fp) qg js)
    (ht : ∀ (s : Shared) (H : Hp) (C : Addr) (cl : List (Str × Addr)) (fp : List Addr), DTs (X.blk s H scope (compEnvC scope cl C X.env) fp) W0 ifs (tt s H C cl fp) qt)
    (hk : ∀ (s : Shared) (H : Hp) (C : Addr) (cl : List (Str × Addr)) (fp : List Addr), DE (X.blk s H scope (compEnvC scope cl C X.env) fp) W0 kx (tk s H C cl fp) qk)
    (he : ∀ (s : Shared) (H : Hp) (C : Addr) (cl : List (Str × Addr)) (fp : List Addr), DE (X.blk s H scope (compEnvC scope cl C X.env) fp) W0 vx (tv s H C cl fp) qv)
    (h1 : ∀ s H C cl fp, g s H C cl fp = bz g := by intros; rfl) (h2 : ∀ s H C cl fp, tt s H C cl fp = bz tt := by intros; rfl) (h3 : ∀ s H C cl fp, tk s H C cl fp = bz tk := by intros; rfl) (h4 : ∀ s H C cl fp, tv s H C cl fp = bz tv := by intros; rfl)
    (hj : (∀ j ∈ js, j ∈ own.map (·.2)) := by decide) (hs : ∀ x, foldedSetIterable iter X.env x = pure x := by intro _; rfl) :
    DE X W (.DictComp kx vx [⟨tg, iter, ifs, 0⟩] scope pos) (tDcG b wi (bz g) (bz tt) (bz tk) (bz tv) (own.map (·.2))) (qDc b (own.map (·.2)) qi qg qt qk qv) :=
  d_dc b hr hc hN hi ok (fun s H C cl fp => h1 s H C cl fp ▸ hg s H C cl fp) (fun s H C cl fp => h2 s H C cl fp ▸ ht s H C cl fp) (fun s H C cl fp => h3 s H C cl fp ▸ hk s H C cl fp) (fun s H C cl fp => h4 s H C cl fp ▸ he s H C cl fp) hj hs
theorem bs_setDc (b : Bool) {i j : Nat} {y : Str} {py spos : Pos} (hr : Room j X.A) (hc : X.calm = true) (hN : X.N.Nodup) (hi : DI X W tg iter wi qi) (ok : BlkOk X.N X.env.scope scope own)
    (hg : ∀ (s : Shared) (H : Hp) (C : Addr) (cl : List (Str × Addr)) (fp : List Addr), DG (X.blk s H scope (compEnvC scope cl C X.env) fp) tg (g s H C cl fp) qg js)
    (ht : ∀ (s : Shared) (H : Hp) (C : Addr) (cl : List (Str × Addr)) (fp : List Addr), DTs (X.blk s H scope (compEnvC scope cl C X.env) fp) W0 ifs (tt s H C cl fp) qt)
    (hk : ∀ (s : Shared) (H : Hp) (C : Addr) (cl : List (Str × Addr)) (fp : List Addr), DE (X.blk s H scope (compEnvC scope cl C X.env) fp) W0 kx (tk s H C cl fp) qk)
    (he : ∀ (s : Shared) (H : Hp) (C : Addr) (cl : List (Str × Addr)) (fp : List Addr), DE (X.blk s H scope (compEnvC scope cl C X.env) fp) W0 vx (tv s H C cl fp) qv)
    (hsw : swapsWith (.DictComp kx vx [⟨tg, iter, ifs, 0⟩] scope pos) (some (.Name y py)) spos.line X.env = pure true)
    (h1 : ∀ s H C cl fp, g s H C cl fp = bz g := by intros; rfl) (h2 : ∀ s H C cl fp, tt s H C cl fp = bz tt := by intros; rfl) (h3 : ∀ s H C cl fp, tk s H C cl fp = bz tk := by intros; rfl) (h4 : ∀ s H C cl fp, tv s H C cl fp = bz tv := by intros; rfl)
    (hy : X.N[i]? = some y := by rfl) (hyl : X.env.scope.names.lookup y = some .local := by rfl) (hj : (∀ j ∈ js, j ∈ own.map (·.2)) := by decide) (hs : ∀ x, foldedSetIterable iter X.env x = pure x := by intro _; rfl) :
    DS X W (.Assign [.Name y py] (.DictComp kx vx [⟨tg, iter, ifs, 0⟩] scope pos) spos) (tAsg (tDcG b wi (bz g) (bz tt) (bz tk) (bz tv) (own.map (·.2))) (gName i)) (qAsg (qDc b (own.map (·.2)) qi qg qt qk qv) (qgN i)) :=
  ds_setDc b hr hc hN hi ok (fun s H C cl fp => h1 s H C cl fp ▸ hg s H C cl fp) (fun s H C cl fp => h2 s H C cl fp ▸ ht s H C cl fp) (fun s H C cl fp => h3 s H C cl fp ▸ hk s H C cl fp) (fun s H C cl fp => h4 s H C cl fp ▸ he s H C cl fp) hsw hy hyl hj hs
end
end PL

namespace PL
open PySem PySem.Spec PyProof.Rows L2
/-! ### loops in plain Lean -/
theorem Cif.yes {A B : Prop} (h : A) : Cif true A B := ⟨fun _ => h, (fun z => nomatch z)⟩
theorem Cif.no {A B : Prop} (h : B) : Cif false A B := ⟨(fun z => nomatch z), fun _ => h⟩
section
variable {α : Type} {vs : List Nat} {g : QG} {t : QT} {p : QE} {k : List D → Ev → Prop} {Γ : Ev}
theorem lcGo_map (enc : α → D) (f : α → D) : ∀ (xs : List α) (acc : List D),
    (∀ x ∈ xs, ∀ (acc : List D) (K : List D → Ev → Prop), acc.length < sizeLine → K (acc ++ [f x]) Γ → g (.sh (enc x)) Γ fun Γ1 => p Γ1 (fun w Γ3 => shr w Γ3 fun y Γ4 => acc.length < sizeLine ∧ K (acc ++ [y]) (wipEv vs Γ4)) noEX) →
    acc.length + xs.length ≤ sizeLine → k (acc ++ xs.map f) Γ → lcGo vs g qYes p k (xs.map enc) acc Γ
  | [], acc, _, _, hk => by simpa [lcGo] using hk
  | x :: r, acc, hs, hl, hk => by
    have h := hs x List.mem_cons_self acc (fun acc' Γ' => lcGo vs g qYes p k (r.map enc) acc' Γ') (by simp at hl; omega)
      (lcGo_map enc f r (acc ++ [f x]) (fun y hy => hs y (List.mem_cons_of_mem _ hy)) (by simp at hl ⊢; omega) (by simpa using hk))
    have e : (fun Γ1 => p Γ1 (fun w Γ3 => shr w Γ3 fun y Γ4 => acc.length < sizeLine ∧ lcGo vs g qYes p k (r.map enc) (acc ++ [y]) (wipEv vs Γ4)) noEX) =
        fun Γ1 => Cif true (p Γ1 (fun w Γ3 => shr w Γ3 fun y Γ4 => acc.length < sizeLine ∧ lcGo vs g qYes p k (r.map enc) (acc ++ [y]) (wipEv vs Γ4)) noEX) (lcGo vs g qYes p k (r.map enc) acc (wipEv vs Γ1)) := by
      funext Γ1
      exact propext ⟨Cif.yes, fun h => h.t rfl⟩
    rw [e] at h
    exact h
theorem lcGo_fm (enc : α → D) (f : α → Option D) : ∀ (xs : List α) (acc : List D),
    (∀ x ∈ xs, ∀ (acc : List D) (K : List D → Ev → Prop), acc.length < sizeLine → K (acc ++ (f x).toList) Γ → g (.sh (enc x)) Γ fun Γ1 => t Γ1 (fun b Γ2 => Cif b (p Γ2 (fun w Γ3 => shr w Γ3 fun y Γ4 => acc.length < sizeLine ∧ K (acc ++ [y]) (wipEv vs Γ4)) noEX) (K acc (wipEv vs Γ2))) noEX) →
    acc.length + xs.length ≤ sizeLine → k (acc ++ xs.filterMap f) Γ → lcGo vs g t p k (xs.map enc) acc Γ
  | [], acc, _, _, hk => by simpa [lcGo] using hk
  | x :: r, acc, hs, hl, hk => by
    refine hs x List.mem_cons_self acc (fun acc' Γ' => lcGo vs g t p k (r.map enc) acc' Γ') (by simp at hl; omega)
      (lcGo_fm enc f r (acc ++ (f x).toList) (fun y hy => hs y (List.mem_cons_of_mem _ hy)) ?_ ?_)
    · cases f x <;> simp at hl ⊢ <;> omega
    · cases e : f x <;> simpa [e] using hk
/-- [x for x in xs if c x] and such: p gives e x, t gives c x -/
theorem lcGo_fil (enc : α → D) (c : α → Bool) (f : α → D) (xs : List α) (acc : List D)
    (hs : ∀ x ∈ xs, ∀ (acc : List D) (K : List D → Ev → Prop), acc.length < sizeLine → (c x = true → K (acc ++ [f x]) Γ) → (c x = false → K acc Γ) → g (.sh (enc x)) Γ fun Γ1 => t Γ1 (fun b Γ2 => Cif b (p Γ2 (fun w Γ3 => shr w Γ3 fun y Γ4 => acc.length < sizeLine ∧ K (acc ++ [y]) (wipEv vs Γ4)) noEX) (K acc (wipEv vs Γ2))) noEX)
    (hl : acc.length + xs.length ≤ sizeLine) (hk : k (acc ++ (xs.filter c).map f) Γ) : lcGo vs g t p k (xs.map enc) acc Γ := by
  refine lcGo_fm enc (fun x => if c x then some (f x) else none) xs acc (fun x hx acc K ha hK => hs x hx acc K ha (fun h => ?_) fun h => ?_) hl ?_
  · simpa [h] using hK
  · simpa [h] using hK
  · have e : xs.filterMap (fun x => if c x then some (f x) else none) = (xs.filter c).map f := by
      clear hs hl hk
      induction xs with
      | nil => rfl
      | cons x r ih =>
        by_cases h : c x
        · simp [h, ih]
        · simp [h, ih]
    rw [e]
    exact hk
variable {vs1 : List Nat} {i1 : QI} {g1 : QG} {t1 : QT}
theorem lc2Go_app (enc : α → D) (f : α → List D) : ∀ (xs : List α) (acc : List D),
    (∀ x ∈ xs, ∀ (acc : List D) (K : List D → Ev → Prop), acc.length + (f x).length ≤ sizeLine → K (acc ++ f x) Γ → g (.sh (enc x)) Γ fun Γ1 => i1 Γ1 (fun ds1 Γ3 => lcGo vs1 g1 t1 p (fun acc' Γ4 => K acc' (wipEv vs Γ4)) ds1 acc (wipEv vs1 Γ3)) noEX) →
    acc.length + (xs.map fun x => (f x).length).sum ≤ sizeLine → k (acc ++ (xs.map f).flatten) Γ → lc2Go vs vs1 g qYes i1 g1 t1 p k (xs.map enc) acc Γ
  | [], acc, _, _, hk => by simpa [lc2Go] using hk
  | x :: r, acc, hs, hl, hk => by
    simp only [List.map_cons, List.sum_cons] at hl
    have h := hs x List.mem_cons_self acc (fun acc' Γ' => lc2Go vs vs1 g qYes i1 g1 t1 p k (r.map enc) acc' Γ') (by omega)
      (lc2Go_app enc f r (acc ++ f x) (fun y hy => hs y (List.mem_cons_of_mem _ hy)) (by simp; omega) (by simpa using hk))
    have e : (fun Γ1 => i1 Γ1 (fun ds1 Γ3 => lcGo vs1 g1 t1 p (fun acc' Γ4 => lc2Go vs vs1 g qYes i1 g1 t1 p k (r.map enc) acc' (wipEv vs Γ4)) ds1 acc (wipEv vs1 Γ3)) noEX) =
        fun Γ1 => Cif true (i1 Γ1 (fun ds1 Γ3 => lcGo vs1 g1 t1 p (fun acc' Γ4 => lc2Go vs vs1 g qYes i1 g1 t1 p k (r.map enc) acc' (wipEv vs Γ4)) ds1 acc (wipEv vs1 Γ3)) noEX) (lc2Go vs vs1 g qYes i1 g1 t1 p k (r.map enc) acc (wipEv vs Γ1)) := by
      funext Γ1
      exact propext ⟨Cif.yes, fun h => h.t rfl⟩
    rw [e] at h
    exact h
end
section
variable {α : Type} {vs : List Nat} {g : QG} {t : QS} {P : PEnds}
theorem forGo_ok (enc : α → D) (I : List α → Ev → Prop) (h0 : ∀ Γ, I [] Γ → P.nx Γ)
    (hs : ∀ x r Γ (K : Ev → Prop), I (x :: r) Γ → (∀ Γ', I r Γ' → K Γ') → g (.sh (enc x)) Γ fun Γ1 => t { P with nx := K, ct := K, bk := P.nx } Γ1) : ∀ (xs : List α) (Γ : Ev), I xs Γ → forGo g t P (xs.map enc) Γ
  | [], Γ, h => h0 Γ h
  | x :: r, Γ, h => hs x r Γ (forGo g t P (r.map enc)) h fun Γ' h' => forGo_ok enc I h0 hs r Γ' h'
end
section
variable {α : Type} {b : Bool} {vs : List Nat} {g : QG} {pk pv : QE} {k : List (D × D) → Ev → Prop} {Γ : Ev}
theorem dcGo_ok (enc : α → D) (fk fv : α → D) : ∀ (xs : List α) (acc : List (D × D)),
    (∀ x ∈ xs, ∀ (acc : List (D × D)) (K : List (D × D) → Ev → Prop), acc.length < sizeLine → K (putD acc (fk x) (fv x)) Γ → g (.sh (enc x)) Γ fun Γ1 => pk Γ1 (fun w Γ3 => shr w Γ3 fun dk Γ4 => pv Γ4 (fun w Γ5 => shr w Γ5 fun dv Γ6 => (if b = true then keyT dk else keyK dk) = true ∧ acc.length < sizeLine ∧ K (putD acc dk dv) (wipEv vs Γ6)) noEX) noEX) →
    acc.length + xs.length ≤ sizeLine → k (xs.foldl (fun acc x => putD acc (fk x) (fv x)) acc) Γ → dcGo b vs g qYes pk pv k (xs.map enc) acc Γ
  | [], acc, _, _, hk => hk
  | x :: r, acc, hs, hl, hk => by
    have hp : (putD acc (fk x) (fv x)).length ≤ acc.length + 1 := by
      unfold putD
      split
      · simp
      · simp
    have h := hs x List.mem_cons_self acc (fun acc' Γ' => dcGo b vs g qYes pk pv k (r.map enc) acc' Γ') (by simp at hl; omega)
      (dcGo_ok enc fk fv r _ (fun y hy => hs y (List.mem_cons_of_mem _ hy)) (by simp at hl; omega) hk)
    have e : (fun Γ1 => pk Γ1 (fun w Γ3 => shr w Γ3 fun dk Γ4 => pv Γ4 (fun w Γ5 => shr w Γ5 fun dv Γ6 => (if b = true then keyT dk else keyK dk) = true ∧ acc.length < sizeLine ∧ dcGo b vs g qYes pk pv k (r.map enc) (putD acc dk dv) (wipEv vs Γ6)) noEX) noEX) =
        fun Γ1 => Cif true (pk Γ1 (fun w Γ3 => shr w Γ3 fun dk Γ4 => pv Γ4 (fun w Γ5 => shr w Γ5 fun dv Γ6 => (if b = true then keyT dk else keyK dk) = true ∧ acc.length < sizeLine ∧ dcGo b vs g qYes pk pv k (r.map enc) (putD acc dk dv) (wipEv vs Γ6)) noEX) noEX)
          (dcGo b vs g qYes pk pv k (r.map enc) acc (wipEv vs Γ1)) := by
      funext Γ1
      exact propext ⟨Cif.yes, fun h => h.t rfl⟩
    rw [e] at h
    exact h
end

section
variable {α : Type} {vs : List Nat} {g : QG} {t : QT} {p : QE} {k : List D → Ev → Prop} {Γ : Ev}
theorem lc0_map (enc : α → D) (f : α → D) (xs : List α)
    (hs : ∀ x ∈ xs, ∀ (acc : List D) (K : List D → Ev → Prop), acc.length < sizeLine → K (acc ++ [f x]) Γ → g (.sh (enc x)) Γ fun Γ1 => p Γ1 (fun w Γ3 => shr w Γ3 fun y Γ4 => acc.length < sizeLine ∧ K (acc ++ [y]) (wipEv vs Γ4)) noEX)
    (hl : xs.length ≤ sizeLine) (hk : k (xs.map f) Γ) : lcGo vs g qYes p k (xs.map enc) [] Γ := lcGo_map enc f xs [] hs (by simpa using hl) hk
theorem lc0_fil (enc : α → D) (c : α → Bool) (f : α → D) (xs : List α)
    (hs : ∀ x ∈ xs, ∀ (acc : List D) (K : List D → Ev → Prop), acc.length < sizeLine → (c x = true → K (acc ++ [f x]) Γ) → (c x = false → K acc Γ) → g (.sh (enc x)) Γ fun Γ1 => t Γ1 (fun b Γ2 => Cif b (p Γ2 (fun w Γ3 => shr w Γ3 fun y Γ4 => acc.length < sizeLine ∧ K (acc ++ [y]) (wipEv vs Γ4)) noEX) (K acc (wipEv vs Γ2))) noEX)
    (hl : xs.length ≤ sizeLine) (hk : k ((xs.filter c).map f) Γ) : lcGo vs g t p k (xs.map enc) [] Γ := lcGo_fil enc c f xs [] hs (by simpa using hl) hk
variable {vs1 : List Nat} {i1 : QI} {g1 : QG} {t1 : QT}
theorem lc20_app (enc : α → D) (f : α → List D) (xs : List α)
    (hs : ∀ x ∈ xs, ∀ (acc : List D) (K : List D → Ev → Prop), acc.length + (f x).length ≤ sizeLine → K (acc ++ f x) Γ → g (.sh (enc x)) Γ fun Γ1 => i1 Γ1 (fun ds1 Γ3 => lcGo vs1 g1 t1 p (fun acc' Γ4 => K acc' (wipEv vs Γ4)) ds1 acc (wipEv vs1 Γ3)) noEX)
    (hl : (xs.map fun x => (f x).length).sum ≤ sizeLine) (hk : k (xs.map f).flatten Γ) : lc2Go vs vs1 g qYes i1 g1 t1 p k (xs.map enc) [] Γ := lc2Go_app enc f xs [] hs (by simpa using hl) hk
end
theorem cdiv {i j : Int} (h : 0 < j) (h' : j < 1073741824) : CDiv i j := ⟨h, h'⟩
theorem cmulR {i j : Int} (h : -18446744073709551616 < j) (h' : j < 18446744073709551616) : CMul i j := .inr ⟨by omega, by omega⟩
theorem cmulL {i j : Int} (h : -18446744073709551616 < i) (h' : i < 18446744073709551616) : CMul i j := .inl ⟨by omega, by omega⟩
theorem ltsmall {n : Nat} (h : n < 1000000) : n < sizeLine := by rw [sizeLine_eq]; omega
theorem small {n : Nat} (h : n ≤ 1000000) : n ≤ sizeLine := by rw [sizeLine_eq]; omega
/-- a def that promises nothing -/
theorem cal_no {P : Program} {w : World} {K : PySem.W.Frag} {mg : Str → Option Value} {base : Heap} {x : Str} {st : Stmt} {f : Addr} {fd : FuncData} {N ps : List Str} {k n : Nat} (F : L2.Fun K x x st f fd) (hm : mg x = some (.ref f)) (b : Binds K fd ps []) (S : L2.FnScope N ps (L2.defScope st)) :
    Cal P w K mg base (k + 1) x (spD n fun _ _ => False) :=
  ⟨f, fd, ps, L2.Fun.ok F S (fun vs H Q E h => by obtain ⟨_, _, _, _, _, _, h, _⟩ := h; exact h.elim) fun cdv A outer s H vs Q E hr h => by obtain ⟨_, _, _, _, _, _, h, _⟩ := h; exact h.elim, hm, F.kp, b⟩

section
variable {P : Program} {w : World} {K : PySem.W.Frag} {mg : Str → Option Value} {base : Heap}
theorem fnok_mk {x : Str} {st : Stmt} {f : Addr} {fd : FuncData} {N ps : List Str} {k : Nat} {q : PD} (F : L2.Fun K x x st f fd) (S : L2.FnScope N ps (L2.defScope st))
    (hbody : ∀ (cdv : Value) (A : Around) (outer : List Env) (s : Shared) (H : Hp) (E : XK), Room k (A.deeper (envOfC x (L2.defScope st) s.heap.objs.size f cdv)) →
      ∃ t p', DSs (cxOf CX0 P w K mg base N x (L2.defScope st) f cdv A outer s H E).nox W0 (L2.defBody st) t p' ∧ ∀ ds R, ds.length = ps.length → q ds R → p' (endsOf R) (startEv N.length ds)) :
    FnOk P w K mg base CX0 (k + 1) f fd ps (spD ps.length q) := by
  have hN : ps.length ≤ N.length := by
    have := congrArg List.length S.pre
    rw [List.length_take] at this
    omega
  refine L2.Fun.ok F S (fun vs H Q E h => ?_) fun cdv A outer s H vs Q E hr h => ?_
  · obtain ⟨F, ds, R, _, b, hl, _⟩ := h
    rw [b.length, hl]
  · obtain ⟨t, p', hd, hq⟩ := hbody cdv A outer s H E hr
    obtain ⟨F0, ds, R, f0, b, hl, h1, h2⟩ := h
    refine ⟨t, hd.ps, hd.ss (endsOf R) _ (rel_start f0 b (by omega)) (hq ds R hl h1) ⟨fun Γ' F' σ' H' fp' x r z => ?_, fun w Γ' v F' σ' H' fp' x r rw z => ?_, fun _ _ _ _ _ _ _ z => z.elim, fun _ _ _ _ _ _ _ z => z.elim, fun _ _ _ _ _ _ _ _ z => z.elim⟩⟩
    · exact h2 _ _ F' H' x r.bx r.fx (.sh .non) z
    · cases rw with
      | sh h => exact h2 _ _ F' H' x r.bx r.fx (.sh h) z
      | ow h hf => exact h2 _ _ F' H' x r.bx r.fx (.ow h fun a ha => ⟨(hf a ha).1, (hf a ha).2.1⟩) z
      | @«at» i h =>
        unfold endsOf retW at z
        simp only at z
        split at z
        · rename_i d e
          obtain ⟨u, g1, g2⟩ := r.sh i d e
          rw [h] at g1
          cases g1
          exact h2 _ _ F' H' x r.bx r.fx (.sh g2) z
        · rename_i o e
          obtain ⟨u, g1, g2⟩ := r.ow i o e
          rw [h] at g1
          cases g1
          exact h2 _ _ F' H' x r.bx r.fx (.ow g2 fun a ha => ⟨(r.nb i a ha).1, (r.nb i a ha).2.1⟩) z
        · exact z.elim
/-- no list among the written objects -/
def noLists (K : PySem.W.Frag) : Bool := K.all fun p => match p.2.cls with
  | .type n => !(n == "list")
  | _ => true
theorem noLists_at {K : PySem.W.Frag} (h : noLists K = true) {a : Addr} {o : Obj} (e : K.lookup a = some o) : o.cls ≠ .type "list" := by
  intro z
  unfold noLists at h
  rw [List.all_eq_true] at h
  have hm : ∀ (K : List (Addr × Obj)), K.lookup a = some o → ∃ b, (b, o) ∈ K := by
    intro K
    induction K with
    | nil => intro e; cases e
    | cons p r ih =>
      obtain ⟨b, x⟩ := p
      intro e
      simp only [List.lookup] at e
      split at e
      · cases e
        exact ⟨b, by simp⟩
      · obtain ⟨c, hc⟩ := ih e
        exact ⟨c, List.mem_cons_of_mem _ hc⟩
  obtain ⟨b, hb⟩ := hm K e
  have := h _ hb
  simp only [z] at this
  cases this
def scrDat (ns : List Int) : D := .dict [(.none, .list (ns.map .int))]
theorem rpa_ints {F : Hp} : ∀ ns : List Int, RpA F (ns.map V.int) (ns.map .int)
  | [] => .nil
  | n :: r => .cons (.int n) (rpa_ints r)
theorem law_sp {K : PySem.W.Frag} {H : Hp} {a : Addr} {ns : List Int} {p : PD} {E : XK} (hK : noLists K = true) (hO : Only H) (hS : SqL K H a (ns.map V.int)) (hp : p [scrDat ns] fun w => w = .sh (.bool true)) : spD 1 p [.ref a] H (fun v _ => v = .bl true) E := by
  have hf : ∃ o, H a = some (.frz o (.lst (ns.map V.int))) := by
    rcases hS with (h | h) | ⟨o, its, n, h, h1, _⟩
    · rcases hO a with z | ⟨o, xs, z⟩
      · rw [h] at z
        cases z
      · rw [h] at z
        cases z
    · exact h
    · exact absurd h1 (noLists_at hK h)
  obtain ⟨o, e⟩ := hf
  refine ⟨H, [scrDat ns], _, Same.refl H, .cons (.fz e (rpa_ints ns)) .nil, rfl, hp, fun w v F' H' _ _ _ rr hw => ?_⟩
  subst hw
  cases rr with
  | sh h =>
    cases h
    rfl
end
end PL

namespace PL
open PySem PySem.Spec PyProof.Rows L2
/-! ### defs that may raise -/
abbrev PDX := List D → (Wv → Prop) → (Value → Prop) → Prop
def spX (n : Nat) (p : PDX) : Sp := fun vs H Q E => ∃ (F : Hp) (ds : List D) (R : Wv → Prop) (EX : Value → Prop), Same F H ∧ RpA F vs ds ∧ ds.length = n ∧ p ds R EX ∧ (∀ w v F' H', Ext H F F' → Same H H' → Same F' H' → RR H F' H' v w → R w → Q v H') ∧ ∀ c H', Same H H' → EX c → E c none H'
def qCallX (n : Nat) (p : PDX) (a : QA) : QE := fun Γ R E => a Γ (fun ds Γ1 => ds.length = n ∧ p ds (fun w => R w Γ1) (fun c => E c Γ1)) E
theorem Rel.more {B F : Hp} {Γ : Ev} {σ : L2.St} {H H' : Hp} {fp : Nat → List Addr} (r : Rel B F Γ σ H fp) (s : Same H H') : Rel B F Γ σ H' fp :=
  ⟨r.bx.trans s, r.fx.trans s, r.len, r.sh, fun i o e => by
    obtain ⟨v, g1, g2⟩ := r.ow i o e
    refine ⟨v, g1, g2.mono (Same.refl F) fun a ha => ?_⟩
    cases z : H a with
    | none => exact absurd z (r.nb i a ha).2.2
    | some u => exact s a u z, fun i a ha => by
    obtain ⟨b, c, d⟩ := r.nb i a ha
    exact ⟨b, c, fun z => d (s.free z)⟩, r.dj, r.ex⟩
theorem se_callX {W : WX} {ta : TA} {pa : QA} {n : Nat} {p : PDX} (ha : SA W ta pa) : SE W (tCallS (spX n p) (WE W) ta) (qCallX n p pa) := fun {B F Γ σ H fp} R EX Q r q k e => by
  refine ha _ _ _ r q (fun ds Γ1 vs F1 H1 fp1 x1 r1 b1 h1 => ?_) e
  refine ⟨F1, ds, _, _, r1.fx, b1, h1.1, h1.2, fun w v F2 H2 x2 s2 f2 rr hw => ?_, fun c H2 s2 hx => (e.mono x1) c Γ1 F1 H2 fp1 .refl (r1.more s2) hx⟩
  have nf : ∀ i a, a ∈ normF Γ1 fp1 i → F2 a = none := fun i a hi => by
    obtain ⟨_, e, h⟩ := r1.nb i a (normF_mem hi).1
    cases z : F2 a with
    | none => rfl
    | some u =>
      rcases x2.new a (by rw [z]; exact fun z => nomatch z) e with q | ⟨xs, q⟩
      · exact absurd q h
      · cases q2 : H1 a with
        | none => exact absurd q2 h
        | some u2 =>
          have e1 := s2 a u2 q2
          rw [f2 a _ q] at e1
          cases e1
          exact absurd q2 (r1.no_tup hi xs)
  have r1 := r1.norm
  have r2 : Rel B F2 Γ1 σ H2 (normF Γ1 fp1) := ⟨r1.bx.trans s2, f2, r1.len, fun i d e => by
    obtain ⟨v, g1, g2⟩ := r1.sh i d e
    exact ⟨v, g1, g2.mono x2.same⟩, fun i o e => by
    obtain ⟨v, g1, g2⟩ := r1.ow i o e
    refine ⟨v, g1, g2.mono x2.same fun a ha => ?_⟩
    cases z : H1 a with
    | none => exact absurd z (r1.nb i a ha).2.2
    | some u => exact s2 a u z, fun i a ha => by
    obtain ⟨b, c, d⟩ := r1.nb i a ha
    refine ⟨b, nf i a ha, fun z => d (s2.free z)⟩, r1.dj, r1.ex⟩
  have xx : Ext B F1 F2 := ⟨x2.same, fun a h e => (x2.new a h e).imp (fun z => r1.bx.free z) id⟩
  refine k w Γ1 v F2 H2 _ (x1.trans xx) r2 ?_ hw
  cases rr with
  | sh h => exact .sh h
  | @ow o f h hf =>
    refine .ow h fun a ha => ⟨r1.bx.free (hf a ha).1, (hf a ha).2, fun i hi => ?_⟩
    exact (r1.nb i a hi).2.2 (hf a ha).1
structure CalX (P : Program) (w : World) (K : PySem.W.Frag) (mg : Str → Option Value) (base : Heap) (k : Nat) (x : Str) (sp : Sp) : Prop where
  ex : ∃ (f : Addr) (fd : FuncData) (ps : List Str), FnOk P w K mg base (L2.CX P w) k f fd ps sp ∧ mg x = some (.ref f) ∧ PySem.W.keepIn K (.ref f) = true ∧ Binds K fd ps []
section
variable {X : Cx} {W : WX} {pos p : Pos} {e : Expr} {es : List Expr} {ta : TA} {pa : QA} {n : Nat} {q : PDX} {x : Str} {j k : Nat}
theorem d_callX (c : CalX X.prog X.w X.K X.mg X.base k x (spX n q)) (hr : Room j X.A) (tk : Takes X W) (ha : DA X W (e :: es) ta pa) (hk : k ≤ j := by decide) (hg : Gl X x := by rfl) (hdb : (x == ("__debug__" : Str)) = false := by decide)
    (he : starEach (e :: es) X.env = (false, eval e X.env) :: starEach es X.env := by rfl) (hpl : (backTo pos (starEach es X.env)).any (·.1) = false := by rfl) :
    DE X W (.Call (.Name x p) (e :: es) [] pos) (tCallS (spX n q) (WE W) ta) (qCallX n q pa) := ⟨by
  obtain ⟨f, fd, ps, F, hm, kp, b⟩ := c.ex
  exact pe_callS F (hr.mono hk) hg hm kp b (fun σ => passAt tk σ) ha.pa hdb he hpl, se_callX ha.sa⟩
end
def endsX (R : Wv → Prop) (EX : Value → Prop) : PEnds := { endsOf R with ex := fun c _ => EX c }
section
variable {P : Program} {w : World} {K : PySem.W.Frag} {mg : Str → Option Value} {base : Heap}
theorem calx_mk {x : Str} {st : Stmt} {f : Addr} {fd : FuncData} {N ps : List Str} {k : Nat} {q : PDX} (F : L2.Fun K x x st f fd) (hm : mg x = some (.ref f)) (b : Binds K fd ps []) (S : L2.FnScope N ps (L2.defScope st))
    (hbody : ∀ (cdv : Value) (A : Around) (outer : List Env) (s : Shared) (H : Hp) (E : XK), Room k (A.deeper (envOfC x (L2.defScope st) s.heap.objs.size f cdv)) →
      ∃ t p', DSs (cxOf (L2.CX P w) P w K mg base N x (L2.defScope st) f cdv A outer s H E) (fun c d _ H => E c d H) (L2.defBody st) t p' ∧ ∀ ds R EX, ds.length = ps.length → q ds R EX → p' (endsX R EX) (startEv N.length ds)) :
    CalX P w K mg base (k + 1) x (spX ps.length q) := by
  have hN : ps.length ≤ N.length := by
    have := congrArg List.length S.pre
    rw [List.length_take] at this
    omega
  refine ⟨f, fd, ps, L2.Fun.okX F S (fun vs H Q E h => ?_) fun cdv A outer s H vs Q E hr h => ?_, hm, F.kp, b⟩
  · obtain ⟨F, ds, R, EX, _, b, hl, _⟩ := h
    rw [b.length, hl]
  · obtain ⟨t, p', hd, hq⟩ := hbody cdv A outer s H E hr
    obtain ⟨F0, ds, R, EX, f0, b, hl, h1, h2, h3⟩ := h
    refine ⟨t, hd.ps, hd.ss (endsX R EX) _ (rel_start f0 b (by omega)) (hq ds R EX hl h1) ⟨fun Γ' F' σ' H' fp' x r z => ?_, fun w Γ' v F' σ' H' fp' x r rw z => ?_, fun _ _ _ _ _ _ _ z => z.elim, fun _ _ _ _ _ _ _ z => z.elim, fun c Γ' F' σ' H' fp' x r z => h3 c H' r.bx z⟩⟩
    · exact h2 _ _ F' H' x r.bx r.fx (.sh .non) z
    · cases rw with
      | sh h => exact h2 _ _ F' H' x r.bx r.fx (.sh h) z
      | ow h hf => exact h2 _ _ F' H' x r.bx r.fx (.ow h fun a ha => ⟨(hf a ha).1, (hf a ha).2.1⟩) z
      | @«at» i h =>
        unfold endsX endsOf retW at z
        simp only at z
        split at z
        · rename_i d e
          obtain ⟨u, g1, g2⟩ := r.sh i d e
          rw [h] at g1
          cases g1
          exact h2 _ _ F' H' x r.bx r.fx (.sh g2) z
        · rename_i o e
          obtain ⟨u, g1, g2⟩ := r.ow i o e
          rw [h] at g1
          cases g1
          exact h2 _ _ F' H' x r.bx r.fx (.ow g2 fun a ha => ⟨(r.nb i a ha).1, (r.nb i a ha).2.1⟩) z
        · exact z.elim
end
/-! ### raise -/
def qRaise (c : Value) : QS := fun P Γ => P.ex c Γ
section
variable {X : Cx} {W : WX} {pos : Pos} {e : Expr}
theorem ds_raise {C : Addr} (hc : X.calm = true) (tk : Takes X W) (he : PMk X e (fun _ H Q => Q (.ref C) none H)) : DS X W (.Raise (some e) none pos) (fun _ σ H => W (.ref C) none σ H) (qRaise (.ref C)) :=
  ⟨ps_raise hc tk he, fun {B F Γ σ H fp} P D r q a => a.ex _ Γ F σ H fp .refl r q⟩
end
/-- what is known of an own error's class -/
structure ExcOk (K : PySem.W.Frag) (mg : Str → Option Value) (x : Str) (C : Addr) : Prop where
  mgC : mg x = some (.ref C)
  exI : PySem.W.excIn K C [.type "ValueError", .type "Exception", .type "BaseException", .type "object"] "ValueError.__new__" = true
  kp : PySem.W.keepIn K (.ref C) = true
  sub : PySem.W.subIn K (.ref C) (.type "BaseException") = some true
  ty : PySem.W.typeIn K (.ref C) = some (.type "type")
theorem pmk_of {X : Cx} {x m : Str} {C : Addr} {j : Nat} {p p2 pos : Pos} (c : ExcOk X.K X.mg x C) (hg : Gl X x := by rfl) (hdb : (x == ("__debug__" : Str)) = false := by decide) :
    PMk X (.Call (.Name x p) [.Constant (.str m) j p2] [] pos) (fun _ H Q => Q (.ref C) none H) :=
  pmk_own PySem.F.excBase_ValueError c.exI c.mgC c.kp (raises_own c.sub c.ty) hg hdb
end PL

namespace PL
open PySem PySem.Spec PyProof.Rows L2
section
variable {B F : Hp} {Γ : Ev} {σ : L2.St} {H : Hp} {fp : Nat → List Addr}
theorem set_get {α : Type} {l : List α} {i j : Nat} {x y : α} (h : (l.set i x)[j]? = some y) : (i = j ∧ y = x) ∨ (i ≠ j ∧ l[j]? = some y) := by
  by_cases hj : i = j
  · subst hj
    rw [List.getElem?_set] at h
    split at h
    · split at h
      · cases h
        exact .inl ⟨rfl, rfl⟩
      · cases h
    · rename_i hn
      exact absurd rfl hn
  · rw [List.getElem?_set_ne hj] at h
    exact .inr ⟨hj, h⟩
theorem Rel.setAny (r : Rel B F Γ σ H fp) (i : Nat) {s : Sl} {o : Option V} (hs : s = .un ∨ ∃ a, s = .ex a ∧ o = some (.ref a)) : Rel B F (Γ.set i s) (σ.set i o) H (dropF fp i) := by
  refine ⟨r.bx, r.fx, by rw [List.length_set, List.length_set]; exact r.len, fun j d q => ?_, fun j u q => ?_, fun j a ha => r.nb j a (mem_dropF ha).2, fun j k a ha hb => r.dj j k a (mem_dropF ha).2 (mem_dropF hb).2, fun j a q => ?_⟩
  · rcases set_get q with ⟨_, e⟩ | ⟨hj, q⟩
    · rcases hs with z | ⟨a, z, _⟩ <;> rw [z] at e <;> cases e
    · obtain ⟨v, g1, g2⟩ := r.sh j d q
      exact ⟨v, by rw [List.getElem?_set_ne hj]; exact g1, g2⟩
  · rcases set_get q with ⟨_, e⟩ | ⟨hj, q⟩
    · rcases hs with z | ⟨a, z, _⟩ <;> rw [z] at e <;> cases e
    · obtain ⟨v, g1, g2⟩ := r.ow j _ q
      refine ⟨v, by rw [List.getElem?_set_ne hj]; exact g1, ?_⟩
      rw [dropF_ne (Ne.symm hj)]
      exact g2
  · have hl : j < (Γ.set i s).length := (List.getElem?_eq_some_iff.mp q).1
    rcases set_get q with ⟨rfl, e⟩ | ⟨hj, q⟩
    · rcases hs with z | ⟨a', z, ho⟩
      · rw [z] at e
        cases e
      · rw [z] at e
        cases e
        rw [ho]
        exact List.getElem?_set_self (by rw [← r.len]; simpa using hl)
    · rw [List.getElem?_set_ne hj]
      exact r.ex j a q
end
/-! ### try .. except C as n, of one class that the body may raise -/
def oe0 (D : Addr) : Obj := { cls := .ref D, dict := none, data := .fields #[] }
def qTryAs (i : Nat) (D : Addr) (qb : QS) (qs : Addr → QS) : QS := fun P Γ => qb { P with ex := fun c Γ' => c = .ref D ∧ ∀ a, qs a { nx := fun Γ'' => P.nx (Γ''.set i .un), rt := P.rt, bk := fun Γ'' => P.bk (Γ''.set i .un), ct := fun Γ'' => P.ct (Γ''.set i .un), ex := noEX } (Γ'.set i (.ex a)) } Γ
def qTryOnly (D : Addr) (qb : QS) (qs : Addr → QS) : QS := fun P Γ => qb { P with ex := fun c Γ' => c = .ref D ∧ ∀ a, qs a { nx := P.nx, rt := P.rt, bk := P.bk, ct := P.ct, ex := noEX } Γ' } Γ
/-- a wish under which every exception of the body is taken -/
def xeAll (X : Cx) : Value → Shared → Prop := fun e s₁ => wpAny (model X.prog X.w) X.A (noteFrame e X.env) (fun _ s₂ => wpAny (model X.prog X.w) X.A (setFlight e none) (fun _ _ => True) (fun _ _ => True) s₂) (fun _ _ => True) s₁
theorem takesAll {X : Cx} {W' : WX} {pn : List (Addr × Obj)} (hs : X.stack = X.env :: X.outer) (hf : X.env.frame = some X.env.locals) : Takes (X.tr pn (xeAll X)) W' := fun u s' xx => by
  obtain ⟨a, B, sI, pins', σ', H', cls, d, rfl, J', nb, up, sky, na, os, ag, _⟩ := xx
  have hfr : X.A.frames = some (X.env :: X.outer) := by
    have := J'.ok.frames
    rw [← hs]
    exact this
  have sky' : Sky B (X.env :: X.outer) a (Zc cls d) X.env.locals s'.heap := by rw [← hs]; exact sky
  show wpAny (model X.prog X.w) X.A (noteFrame (.ref a) X.env) _ _ _
  exact Sky.land Zc.steady hfr hf sky' fun _ _ _ => trivial
theorem passAll {X : Cx} : PassesOwn (model X.prog X.w) X.A X.env (xeAll X) := PassesOwn.looking
def tsAt (D : Addr) (ts : Addr → TS) : Addr → Value → Option Addr → TS := fun a cls d D' σ H => cls = .ref D ∧ d = none ∧ ts a D' σ H
section
variable {X : Cx} {W : WX} {x n : Str} {cv : Value} {i : Nat} {D : Addr} {body suite : List Stmt} {b₀ : Stmt} {np pos pos' : Pos} {tb : WX → List (Addr × Obj) → (Value → Shared → Prop) → TS} {ts : Addr → Obj → List (Addr × Obj) → TS} {qb : QS} {qs : Addr → QS}
theorem ds_try_as (D : Addr) (hN : X.N.Nodup) (hc : Names X x cv) (hm : PySem.W.exmOne X.K (.ref D) cv = some true) (tk : Takes X W)
    (hb : ∀ (W' : WX) (pn : List (Addr × Obj)) (xe : Value → Shared → Prop), Takes (X.tr pn xe) W' → PassesOwn (model X.prog X.w) X.A X.env xe → DSs (X.tr pn xe) W' body (tb W' pn xe) qb)
    (hsu : ∀ (a : Addr) (oe : Obj) (pn : List (Addr × Obj)), Zc (.ref D) none oe → (∃ vs, oe.data = .fields vs) → DSs (X.suite a ((a, oe) :: pn)) W0 (b₀ :: suite) (ts a oe pn) (qs a))
    (h1 : ∀ W' pn xe, tb W' pn xe = tb W' [] (fun _ _ => False) := by intros; rfl) (h2 : ∀ a oe pn, ts a oe pn = ts a (oe0 D) [] := by intros; rfl)
    (hs : X.stack = X.env :: X.outer := by rfl) (hf : X.env.frame = some X.env.locals := by rfl) (hi : X.N[i]? = some n := by rfl) (hln : X.env.kindOf n = some .local := by rfl) :
    DS X W (.Try body [.ExceptHandler (some (.Name x np)) (some n) (b₀ :: suite) pos'] [] [] pos) (fun D' σ H => tb (wAs X.K cv i (tsAt D fun a => ts a (oe0 D) []) W D') [] (fun _ _ => False) D' σ H) (qTryAs i D qb qs) := by
  refine ⟨ps_try_as (tb := fun W' => tb W' [] (fun _ _ => False)) (ts := tsAt D fun a => ts a (oe0 D) []) (Wout := W) hs hf hN hi hln hc tk (fun W' pn xe tk' pp => h1 W' pn xe ▸ (hb W' pn xe tk' pp).ps) fun a oe cls d pn hz hfl => ?_, fun {B F Γ σ H fp} P D' r q a => ?_⟩
  · by_cases h : cls = .ref D ∧ d = none
    · obtain ⟨rfl, rfl⟩ := h
      have p := (hsu a oe pn hz hfl).ps
      rw [h2 a oe pn] at p
      exact ⟨fun pins s σ H D' I h => p.run pins s σ H D' I h.2.2⟩
    · exact ⟨fun pins s σ H D' I hh => absurd ⟨hh.1, hh.2.1⟩ h⟩
  · rw [← h1 _ [] (xeAll X)]
    refine (hb (wAs X.K cv i (tsAt D fun a => ts a (oe0 D) []) W D') [] (xeAll X) (takesAll hs hf) passAll).ss _ _ r q ⟨a.nx, a.rt, a.bk, a.ct, fun c Γ' F' σ' H' fp' x1 r1 h => ?_⟩
    obtain ⟨rfl, h⟩ := h
    refine ⟨true, hm, fun _ b nb => ⟨rfl, rfl, ?_⟩, fun z => nomatch z⟩
    have r2 := r1.setAny i (s := .ex b) (o := some (.ref b)) (.inr ⟨b, rfl, rfl⟩)
    have am := a.mono x1
    exact (hsu b (oe0 D) [] ⟨rfl, rfl⟩ ⟨_, rfl⟩).ss _ _ r2 (h b) ⟨fun Γ2 F2 σ2 H2 fp2 x2 r2 q2 => am.nx _ F2 _ H2 _ x2 (r2.setAny i (.inl rfl)) q2, am.rt, fun Γ2 F2 σ2 H2 fp2 x2 r2 q2 => am.bk _ F2 _ H2 _ x2 (r2.setAny i (.inl rfl)) q2,
      fun Γ2 F2 σ2 H2 fp2 x2 r2 q2 => am.ct _ F2 _ H2 _ x2 (r2.setAny i (.inl rfl)) q2, fun _ _ _ _ _ _ _ _ z => z.elim⟩
theorem ds_try_only (D : Addr) (hc : Names X x cv) (hm : PySem.W.exmOne X.K (.ref D) cv = some true) (tk : Takes X W)
    (hb : ∀ (W' : WX) (pn : List (Addr × Obj)) (xe : Value → Shared → Prop), Takes (X.tr pn xe) W' → PassesOwn (model X.prog X.w) X.A X.env xe → DSs (X.tr pn xe) W' body (tb W' pn xe) qb)
    (hsu : ∀ (a : Addr) (oe : Obj) (pn : List (Addr × Obj)), Zc (.ref D) none oe → (∃ vs, oe.data = .fields vs) → DSs (X.suite a ((a, oe) :: pn)) W0 (b₀ :: suite) (ts a oe pn) (qs a))
    (h1 : ∀ W' pn xe, tb W' pn xe = tb W' [] (fun _ _ => False) := by intros; rfl) (h2 : ∀ a oe pn, ts a oe pn = ts a (oe0 D) [] := by intros; rfl)
    (hs : X.stack = X.env :: X.outer := by rfl) (hf : X.env.frame = some X.env.locals := by rfl) :
    DS X W (.Try body [.ExceptHandler (some (.Name x np)) none (b₀ :: suite) pos'] [] [] pos) (fun D' σ H => tb (wOnly X.K cv (tsAt D fun a => ts a (oe0 D) []) W D') [] (fun _ _ => False) D' σ H) (qTryOnly D qb qs) := by
  refine ⟨ps_try_only (tb := fun W' => tb W' [] (fun _ _ => False)) (ts := tsAt D fun a => ts a (oe0 D) []) (Wout := W) hs hf hc tk (fun W' pn xe tk' pp => h1 W' pn xe ▸ (hb W' pn xe tk' pp).ps) fun a oe cls d pn hz hfl => ?_, fun {B F Γ σ H fp} P D' r q a => ?_⟩
  · by_cases h : cls = .ref D ∧ d = none
    · obtain ⟨rfl, rfl⟩ := h
      have p := (hsu a oe pn hz hfl).ps
      rw [h2 a oe pn] at p
      exact ⟨fun pins s σ H D' I h => p.run pins s σ H D' I h.2.2⟩
    · exact ⟨fun pins s σ H D' I hh => absurd ⟨hh.1, hh.2.1⟩ h⟩
  · rw [← h1 _ [] (xeAll X)]
    refine (hb (wOnly X.K cv (tsAt D fun a => ts a (oe0 D) []) W D') [] (xeAll X) (takesAll hs hf) passAll).ss _ _ r q ⟨a.nx, a.rt, a.bk, a.ct, fun c Γ' F' σ' H' fp' x1 r1 h => ?_⟩
    obtain ⟨rfl, h⟩ := h
    refine ⟨true, hm, fun _ b nb => ⟨rfl, rfl, ?_⟩, fun z => nomatch z⟩
    have am := a.mono x1
    exact (hsu b (oe0 D) [] ⟨rfl, rfl⟩ ⟨_, rfl⟩).ss _ _ r1 (h b) ⟨am.nx, am.rt, am.bk, am.ct, fun _ _ _ _ _ _ _ _ z => z.elim⟩
end
/-! ### isinstance(e, C) of the exception that the suite holds -/
def qIsE (i : Nat) (a : Addr) (b : Bool) : QE := fun Γ R _ => Γ[i]? = some (.ex a) ∧ R (.sh (.bool b)) Γ
section
variable {X : Cx} {a D C : Addr} {oe : Obj} {pn : List (Addr × Obj)} {pos p p1 p2 : Pos} {n x2 : Str} {b : Bool}
theorem d_isE (i : Nat) (c : ExcC X.K D) (hz : Zc (.ref D) none oe) (hf : ∃ vs, oe.data = .fields vs) (hm : X.mg "isinstance" = none) (hC : X.mg x2 = some (.ref C)) (hk : PySem.W.kitOne X.K (.ref D) (.ref C) = some b)
    (hg : Gl (X.suite a ((a, oe) :: pn)) "isinstance" := by rfl) (hg2 : Gl (X.suite a ((a, oe) :: pn)) x2 := by rfl) (hd2 : (x2 == ("__debug__" : Str)) = false := by decide)
    (hN : X.N[i]? = some n := by rfl) (hv : Vis X.env.scope n := by first | exact Or.inl rfl | exact Or.inr (Or.inl rfl) | exact Or.inr (Or.inr rfl)) (hd : (n == ("__debug__" : Str)) = false := by decide) (hcd : (n == ("__classdict__" : Str)) = false := by decide)
    (he : starEach [.Name n p1, .Name x2 p2] (X.suite a ((a, oe) :: pn)).env = (false, eval (.Name n p1) (X.suite a ((a, oe) :: pn)).env) :: starEach [.Name x2 p2] (X.suite a ((a, oe) :: pn)).env := by rfl)
    (hpl : (backTo pos (starEach [.Name x2 p2] (X.suite a ((a, oe) :: pn)).env)).any (·.1) = false := by rfl)
    (he2 : starEach [.Name x2 p2] (X.suite a ((a, oe) :: pn)).env = (false, eval (.Name x2 p2) (X.suite a ((a, oe) :: pn)).env) :: starEach [] (X.suite a ((a, oe) :: pn)).env := by rfl) :
    DE (X.suite a ((a, oe) :: pn)) W0 (.Call (.Name "isinstance" p) [.Name n p1, .Name x2 p2] [] pos) (tCB (rIsE X.K D a) (tCons (tVar i) (tCons (tC (.ref C)) tNil))) (qIsE i a b) :=
  ⟨pe_callB (call_isE c hz hf) hg hm (by decide +kernel) (pa_cons (pe_var hN hv hd hcd) (pa_cons (pe_glob hg2 hC rfl hd2) pa_nil he2) he) (by decide) (by decide) he hpl, fun {B F Γ σ H fp} R EX Q r q k e => by
  obtain ⟨q1, q2⟩ := q
  exact ⟨.ref a, r.ex i a q1, .ref C, .ref C, b, rfl, fun u hu => hu, hk, k _ Γ _ F H fp .refl r (.sh (.bl b)) q2⟩⟩
end
end PL

namespace PL
open PySem PySem.Spec PyProof.Rows L2
/-! ### defs that are called with no repr under way (they show values) -/
structure FnG (P : Program) (w : World) (K : PySem.W.Frag) (mg : Str → Option Value) (base : Heap) (CX : CXT) (k : Nat) (f : Addr) (fd : FuncData) (ps : List Str) (sp : Sp) : Prop where
  len : ∀ vs H Q E, sp vs H Q E → vs.length = ps.length
  run : ∀ (A : Around) (outer : List Env) (s : Shared) (H : Hp) (args : Args) (us : List Value) (vs : List V) (Q : VK) (E : XK), Room k A → A.guards = some [] → Env0 P w K mg base A outer s H → BindsTo s fd args (ps.zip us) → Vals vs us → sp vs H Q E →
    codeAny (model P w) A (.call (.ref f) args) (CR CX outer P w H s Q E) s
section
variable {P : Program} {w : World} {K : PySem.W.Frag} {mg : Str → Option Value} {base : Heap}
theorem fng_of {CX : CXT} {k : Nat} {f : Addr} {name qual : Str} {params : Arguments} {body : List Stmt} {scope : Scope} {dV kV doc pm cdv ct oc : Value} {an od : Option Addr}
    {osl : Array (Option Value)} {N ps : List Str} {sp : Sp} (lk : K.lookup f = some ⟨oc, od, .func (PySem.W.fnOf name qual params body scope dV kV doc pm an cdv ct), osl⟩) (hcd : PySem.W.codeIn K cdv qual = true) (S : FnScope N ps scope)
    (len : ∀ vs H Q E, sp vs H Q E → vs.length = ps.length)
    (hbody : ∀ (A : Around) (outer : List Env) (s : Shared) (H : Hp) (vs : List V) (Q : VK) (E : XK), Room k (A.deeper (envOfC qual scope s.heap.objs.size f cdv)) → (A.deeper (envOfC qual scope s.heap.objs.size f cdv)).guards = some [] → sp vs H Q E →
      ∃ t, PSs (cxOf CX P w K mg base N qual scope f cdv A outer s H E) body t ∧ t { nx := fun _ H' => Q .non H', rt := Q } (start N vs) H) :
    FnG P w K mg base CX (k + 1) f (PySem.W.fnOf name qual params body scope dV kV doc pm an cdv ct) ps sp := by
  refine ⟨len, fun A outer s H args us vs Q E hr hgu e0 hb r hsp => ?_⟩
  have hl := len _ _ _ _ hsp
  have KX : K.In s.heap := e0.mod.kin.keeps fun b o e => (e0.bs b o e).1
  have lim : s.heap.NoLimit := e0.mod.nolimit.keeps fun b o e => (e0.bs b o e).1
  have hkind : ∀ y ∈ ps.zip us, scope.names.lookup y.1 = some .local ∨ (scope.names.lookup y.1 = some .cell ∧ ((cellsFrom (s.heap.objs.size + 1) scope.names []).lookup y.1).isSome = true) := fun ⟨n, v⟩ hy => by
    rcases S.par n (List.of_mem_zip hy).1 with q | q
    · exact .inl q
    · exact .inr ⟨q, PySem.W.cellsFrom_some _ _ _ (.inl q)⟩
  refine codeAny_call_function hr.depth (KX _ _ lk) rfl S.co S.gen rfl (PySem.W.codeRec_of KX hcd) (hb _ _ _ _ ?_)
  refine wpAny_newFunctionEnv_cells S.kind hkind fun env he s1 x => ?_
  subst he
  refine ⟨lim.keeps x.toInCall.keep, codeAny_func ?_⟩
  obtain ⟨t, ht, hq⟩ := hbody A outer s H vs Q E (hr.deeper _) hgu hsp
  have I : Inv (cxOf CX P w K mg base N qual scope f cdv A outer s H E) [] (start N vs) H s1 := inv_start S hr.hd e0 hl r x
  refine wpAny_mono (ht.run [] s1 (start N vs) H _ I hq) (fun fl s' hs => ?_) fun e s' hs => hs
  have fin : ∀ {σ' : L2.St} {H' : Hp} {v : V} {u : Value}, Inv (cxOf CX P w K mg base N qual scope f cdv A outer s H E) [] σ' H' s' → RelV v u → Q v H' → CE outer P w H s Q u s' :=
    fun {σ' H' v u} J rv q => ⟨v, H', J.os, J.bare, J.base, J.hok, rv, q⟩
  cases fl with
  | ret u =>
    obtain ⟨v, σ', H', J, rv, q⟩ := hs
    exact fin J rv q
  | next =>
    obtain ⟨σ', H', J, q⟩ := hs
    exact fin (v := V.non) (u := Value.none) J rfl q
  | brk =>
    obtain ⟨_, _, _, q⟩ := hs
    exact False.elim q
  | cont =>
    obtain ⟨_, _, _, q⟩ := hs
    exact False.elim q
/-- a def that may be called by its name where no repr is under way -/
structure CalG (P : Program) (w : World) (K : PySem.W.Frag) (mg : Str → Option Value) (base : Heap) (k : Nat) (x : Str) (sp : Sp) : Prop where
  ex : ∃ (f : Addr) (fd : FuncData) (ps : List Str), FnG P w K mg base CX0 k f fd ps sp ∧ mg x = some (.ref f) ∧ PySem.W.keepIn K (.ref f) = true ∧ Binds K fd ps []
theorem FnG.mono {CX : CXT} {j k : Nat} {f : Addr} {fd : FuncData} {ps : List Str} {sp : Sp} (F : FnG P w K mg base CX j f fd ps sp) (h : j ≤ k) : FnG P w K mg base CX k f fd ps sp :=
  ⟨F.len, fun A outer s H args us vs Q E hr => F.run A outer s H args us vs Q E (hr.mono h)⟩
end
section
variable {X : Cx} {W : WX} {pos p : Pos} {e : Expr} {es : List Expr} {ta : TA} {pa : QA} {n : Nat} {q : PD} {x : Str} {j k : Nat}
theorem run_g {pins : List (Addr × Obj)} {σ : L2.St} {H : Hp} {s : Shared} {Q : VK} {us : List Value} {vs : List V} {f : Addr} {fd : FuncData} {ps : List Str} {sp : Sp} (F : FnG X.prog X.w X.K X.mg X.base CX0 k f fd ps sp) (hr : Room k X.A) (hgu : X.A.guards = some []) (hb : Binds X.K fd ps [])
    (I : L2.Inv X pins σ H s) (r : Vals vs us) (h : sp vs H Q E0) : wpAny (model X.prog X.w) X.A (call (.ref f) us) (EP X pins σ Q) X.xe s := by
  have hl : (us ++ []).length = ps.length := by rw [List.append_nil, ← r.length]; exact F.len _ _ _ _ h
  have b := hb s us I.kIn hl
  rw [List.append_nil] at b
  refine wpAny_call (codeAny_mono (F.run X.A X.stack s H ⟨us, []⟩ us vs Q E0 hr hgu I.env0 b r h) fun r s' hq => ?_)
  cases r with
  | error e => exact (pass0 pins σ H s e s' I hq)
  | ok fl =>
    cases fl with
    | ret u => exact I.after hq
    | next => exact False.elim hq
    | brk => exact False.elim hq
    | cont => exact False.elim hq
theorem d_callG (c : CalG X.prog X.w X.K X.mg X.base k x (spD n q)) (hr : Room j X.A) (hgu : X.A.guards = some []) (ha : DA X W (e :: es) ta pa) (hk : k ≤ j := by decide) (hg : Gl X x := by rfl) (hdb : (x == ("__debug__" : Str)) = false := by decide)
    (he : starEach (e :: es) X.env = (false, eval e X.env) :: starEach es X.env := by rfl) (hpl : (backTo pos (starEach es X.env)).any (·.1) = false := by rfl) :
    DE X W (.Call (.Name x p) (e :: es) [] pos) (tCall (spD n q) [] E0 ta) (qCall n q pa) := ⟨by
  obtain ⟨f, fd, ps, F, hm, kp, b⟩ := c.ex
  refine ⟨fun pins s σ H Q I h => ?_⟩
  refine wpAny_Call_Name_kw (ld_glob I hg hm ?_ hdb)
  refine PySem.W.callWith_K (h₀ := X.base) I.ok.mod.kin kp (thn (ha.pa.run pos pins s σ H _ I h) fun us s1 ⟨vs, H1, I1, r, q⟩ => ⟨I1.kIn, ?_⟩) he hpl
  have q' : spD n _ (vs ++ []) H1 Q E0 := q
  rw [List.append_nil] at q'
  exact run_g (F.mono hk) hr hgu b I1 r q', se_call ha.sa⟩
end

section
variable {P : Program} {w : World} {K : PySem.W.Frag} {mg : Str → Option Value} {base : Heap}
theorem fng_mk {x : Str} {st : Stmt} {f : Addr} {fd : FuncData} {N ps : List Str} {k : Nat} {q : PD} (F : L2.Fun K x x st f fd) (S : L2.FnScope N ps (L2.defScope st))
    (hbody : ∀ (cdv : Value) (A : Around) (outer : List Env) (s : Shared) (H : Hp) (E : XK), Room k (A.deeper (envOfC x (L2.defScope st) s.heap.objs.size f cdv)) → (A.deeper (envOfC x (L2.defScope st) s.heap.objs.size f cdv)).guards = some [] →
      ∃ t p', DSs (cxOf CX0 P w K mg base N x (L2.defScope st) f cdv A outer s H E).nox W0 (L2.defBody st) t p' ∧ ∀ ds R, ds.length = ps.length → q ds R → p' (endsOf R) (startEv N.length ds)) :
    FnG P w K mg base CX0 (k + 1) f fd ps (spD ps.length q) := by
  have hN : ps.length ≤ N.length := by
    have := congrArg List.length S.pre
    rw [List.length_take] at this
    omega
  obtain ⟨oc, od, kV, doc, pm, an, cdv, ct, osl, rfl, lk, hcd⟩ := F.ex
  refine fng_of lk hcd S (fun vs H Q E h => ?_) fun A outer s H vs Q E hr hgu h => ?_
  · obtain ⟨F, ds, R, _, b, hl, _⟩ := h
    rw [b.length, hl]
  · obtain ⟨t, p', hd, hq⟩ := hbody cdv A outer s H E hr hgu
    obtain ⟨F0, ds, R, f0, b, hl, h1, h2⟩ := h
    refine ⟨t, hd.ps.nox, hd.ss (endsOf R) _ (rel_start f0 b (by omega)) (hq ds R hl h1) ⟨fun Γ' F' σ' H' fp' x r z => ?_, fun w Γ' v F' σ' H' fp' x r rw z => ?_, fun _ _ _ _ _ _ _ z => z.elim, fun _ _ _ _ _ _ _ z => z.elim, fun _ _ _ _ _ _ _ _ z => z.elim⟩⟩
    · exact h2 _ _ F' H' x r.bx r.fx (.sh .non) z
    · cases rw with
      | sh h => exact h2 _ _ F' H' x r.bx r.fx (.sh h) z
      | ow h hf => exact h2 _ _ F' H' x r.bx r.fx (.ow h fun a ha => ⟨(hf a ha).1, (hf a ha).2.1⟩) z
      | @«at» i h =>
        unfold endsOf retW at z
        simp only at z
        split at z
        · rename_i d e
          obtain ⟨u, g1, g2⟩ := r.sh i d e
          rw [h] at g1
          cases g1
          exact h2 _ _ F' H' x r.bx r.fx (.sh g2) z
        · rename_i o e
          obtain ⟨u, g1, g2⟩ := r.ow i o e
          rw [h] at g1
          cases g1
          exact h2 _ _ F' H' x r.bx r.fx (.ow g2 fun a ha => ⟨(r.nb i a ha).1, (r.nb i a ha).2.1⟩) z
        · exact z.elim
theorem calg_mk {x : Str} {st : Stmt} {f : Addr} {fd : FuncData} {N ps : List Str} {k : Nat} {q : PD} (F : L2.Fun K x x st f fd) (hm : mg x = some (.ref f)) (b : Binds K fd ps []) (S : L2.FnScope N ps (L2.defScope st))
    (hbody : ∀ (cdv : Value) (A : Around) (outer : List Env) (s : Shared) (H : Hp) (E : XK), Room k (A.deeper (envOfC x (L2.defScope st) s.heap.objs.size f cdv)) → (A.deeper (envOfC x (L2.defScope st) s.heap.objs.size f cdv)).guards = some [] →
      ∃ t p', DSs (cxOf CX0 P w K mg base N x (L2.defScope st) f cdv A outer s H E).nox W0 (L2.defBody st) t p' ∧ ∀ ds R, ds.length = ps.length → q ds R → p' (endsOf R) (startEv N.length ds)) :
    CalG P w K mg base (k + 1) x (spD ps.length q) := ⟨f, fd, ps, fng_mk F S hbody, hm, F.kp, b⟩
end
/-! ### repr of nested data -/
/-- what the pure side is asked: the shown text fits -/
def shOk (d : D) : Prop := d.showable = true ∧ flat 60 d = true ∧ d.shown.length + 64 ≤ sizeLine ∧ PyData.strOk d.shown = true
def opRepr : OP1 := fun d k => shOk d ∧ k (.sh (.str d.shown))
def rReprD (K : PySem.W.Frag) : List V → Hp → VK → Prop := fun xs H Q => ∃ (a : Addr) (d : D), xs = [.ref a] ∧ Dp K H (.ref a) d ∧ d.showable = true ∧ d.hasDict = false ∧ d.depth ≤ 60 ∧ d.shown.length + 64 ≤ sizeLine ∧ Q (.str d.shown) H
section
variable {X : Cx} {W : WX} {pos p : Pos} {a : Expr} {ta : TE} {pa : QE} {j : Nat}
theorem cr_repr (hr : Room j X.A) (hgu : X.A.guards = some []) : CallR X (.builtin "repr") (rReprD X.K) := by
  intro pins s σ H xs us Q I r h
  obtain ⟨a, d, rfl, dp, h1, h2, h3, h4, q⟩ := h
  obtain ⟨u, rfl, ru⟩ := vals1 r
  obtain ⟨as, rd⟩ := Dp.reads I d _ u dp ru
  cases ru
  have hu := hr.un
  exact repr_of_reads' rd h1 (fun z => by rw [h2] at z; cases z) hgu (by omega) (fun _ _ e => e) (fun h' u tk hk => ⟨.str _, H, I.kept (t' := tk) hk, ⟨_, rfl⟩, q⟩) (by omega)
end
end PL

namespace PL
open PySem PySem.Spec PyProof.Rows L2
/-! ### the law's end for a def that shows values -/
/-- the tracked heap of the head: the script alone, if it is no object of the module -/
noncomputable def headH (K : PySem.W.Frag) (a : Addr) (vs : List Value) (ns : List Int) : Hp := fun b =>
  if b = a ∧ K.lookup a = none then some (.frz { cls := .type "list", data := .seq vs.toArray } (.lst (ns.map V.int))) else none
section
variable {P : Program} {w : World} {K : PySem.W.Frag} {mg mb : Str → Option Value} {k : Nat} {fa a : Addr} {fd : FuncData} {x : Str} {sp : Sp} {s₁ : Shared} {vs : List Value} {ns : List Int}
theorem headH_some {b : Addr} {u : HO} (h : headH K a vs ns b = some u) : b = a ∧ K.lookup a = none ∧ u = .frz { cls := .type "list", data := .seq vs.toArray } (.lst (ns.map V.int)) := by
  unfold headH at h
  split at h
  · rename_i q
    cases h
    exact ⟨q.1, q.2, rfl⟩
  · cases h
theorem headH_only : Only (headH K a vs ns) := fun b => by
  cases q : headH K a vs ns b with
  | none => exact .inl rfl
  | some u => exact .inr ⟨_, _, congrArg some (headH_some q).2.2⟩
theorem law_runG (KX : K.In s₁.heap) (hns : s₁.heap.Ns mainGlobals mg) (hb : s₁.heap.Ns builtinsNs mb) (hbb : ∀ x : Str, x ≠ "__name__" → mb x = bootBuiltins x) (hlim : s₁.heap.NoLimit) (hg : s₁.gens = #[])
    (ha : s₁.heap.get? a = some { cls := .type "list", data := .seq vs.toArray }) (hi : IntsAre vs ns) (hl : ns.length ≤ sizeLine) (hr : Room k callerA)
    (F : ∀ base : Heap, K.In base → base.Ns mainGlobals mg → FnG P w K mg base CX0 k fa fd [x] sp) (hbind : ∀ (s : Shared) (u : Value), BindsTo s fd ⟨[u], []⟩ [(x, u)])
    (hsp : ∀ H : Hp, Only H → SqL K H a (ns.map V.int) → sp [.ref a] H (fun v _ => v = .bl true) E0) :
    codeAny (model P w) callerA (.call (.ref fa) ⟨[.ref a], []⟩) (fun r s' => r = .ok (.ret (.bool true)) ∧ OldK s₁.heap s'.heap ∧ s'.os = s₁.os ∧ AllBare s'.gens) s₁ := by
  have rv := vals_ints hi
  have eL := hi.length
  have stay : ∀ {b : Addr} {o : Obj}, s₁.heap.get? b = some o → (b = a → K.lookup a ≠ none) → (hidT s₁.heap (headH K a vs ns)).get? b = some o := fun {b o} e n => hidT_get e (by
    cases q : headH K a vs ns b with
    | none => rfl
    | some u => exact absurd (headH_some q).2.1 (n (headH_some q).1))
  have nsS : ∀ {b : Addr} {m : Str → Option Value}, s₁.heap.Ns b m → (hidT s₁.heap (headH K a vs ns)).Ns b m := fun {b m} ⟨o, es, ep, e, d, r⟩ => ⟨o, es, ep, stay e (fun z => by
    rw [z, ha] at e
    cases e
    cases (show Data.seq vs.toArray _ = Data.dict es ep from d)), d, r⟩
  have kb : K.In (hidT s₁.heap (headH K a vs ns)) := fun b o e => stay (KX b o e) fun z n => by
    rw [z, n] at e
    cases e
  have hok : HOk P w (headH K a vs ns) s₁.heap := fun b u z => by
    obtain ⟨rfl, _, rfl⟩ := headH_some z
    exact ⟨ha, by rw [List.length_map]; exact hl, vs, _, rv, ha⟩
  have sq : SqL K (headH K a vs ns) a (ns.map V.int) := by
    cases q : K.lookup a with
    | none => exact .inl (.inr ⟨_, if_pos ⟨rfl, q⟩⟩)
    | some o =>
      have e := KX a o q
      rw [ha] at e
      cases e
      exact .inr ⟨_, vs.toArray, _, q, rfl, rfl, rfl, by rw [List.size_toArray, eL]; exact hl, by simpa using rv⟩
  have e0 : Env0 P w K mg (hidT s₁.heap (headH K a vs ns)) callerA [] s₁ (headH K a vs ns) :=
    ⟨rfl, ⟨kb, nsS hns, ⟨mb, nsS hb, hbb⟩, hlim.elim fun mc h => ⟨mc, nsS h.1, h.2⟩⟩, fun _ _ e => of_hidT e, Nat.le_of_eq (hidT_size _ _), trivial, fun b hb => (List.not_mem_nil hb).elim, hok, .of_eq hg⟩
  refine codeAny_mono ((F _ kb (nsS hns)).run callerA [] s₁ _ ⟨[.ref a], []⟩ [.ref a] [.ref a] _ _ hr rfl e0 (hbind s₁ (.ref a)) (.cons rfl .nil) (hsp _ headH_only sq)) fun r s' h => ?_
  match r, h with
  | .error e, h => exact False.elim h
  | .ok .next, h => exact False.elim h
  | .ok .brk, h => exact False.elim h
  | .ok .cont, h => exact False.elim h
  | .ok (.ret u), h =>
    obtain ⟨v, H', os, bare, un, hok', r', q⟩ := h
    obtain rfl : v = .bl true := q
    obtain rfl : u = Value.bool true := r'
    refine ⟨rfl, OldK.of_keep fun b o e => ?_, os, bare⟩
    cases q : headH K a vs ns b with
    | none => exact un.keep b o e q (fun z => (List.not_mem_nil z).elim) (by simp)
    | some u =>
      obtain ⟨rfl, _, rfl⟩ := headH_some q
      obtain ⟨e2, _⟩ := hok' _ _ (un.frzs _ _ _ q)
      rw [ha] at e
      cases e
      exact e2
end
theorem walk_ofG {l : PySem.W.OpenLaw} {n k : Nat} {q : Program} {loose : List Str} {XP : (Str → Option Value) → Heap → Prop} {YP : World → Heap → Prop} {d : DefRec} {K : Params → PySem.W.Frag} {sp : World → Sp} {x : Str}
    (hn : l.most = some n) (hn2 : n ≤ sizeLine) (hdf : d.params.defaults = []) (hr : Room k callerA)
    (hY : ∀ (w : World) (h : Heap), YP w h → (K w.params).In h)
    (F : ∀ (w : World) (mg : Str → Option Value) (fa : Addr) (h : Heap), (K w.params).In h → h.Ns mainGlobals mg → mg d.name = some (.ref fa) →
      ∃ fd : FuncData, (∀ (s : Shared) (u : Value), BindsTo s fd ⟨[u], []⟩ [(x, u)]) ∧
        ∀ base : Heap, (K w.params).In base → base.Ns mainGlobals mg → FnG l.prog w (K w.params) mg base CX0 k fa fd [x] (sp w))
    (hsp : ∀ (w : World) (H : Hp) (a : Addr) (ns : List Int), ns.length ≤ n → Only H → SqL (K w.params) H a (ns.map V.int) → sp w [.ref a] H (fun v _ => v = .bl true) E0) :
    PySem.W.WalkO q loose XP YP l.row.toRowW d [] (fun f vs => PySem.call f vs) :=
  Att.attach_call hn hdf fun w s₀ s₁ mg mb fa o pm cd doc a vs ns G Y ho hd hcd hmg hobj hints hlen hg =>
    have KX := hY w _ Y
    (F w mg fa _ KX G.T.g hmg).elim fun fd h => law_runG KX G.T.g G.T.b G.T.builtins G.T.nolimit hg hobj hints (Nat.le_trans hlen hn2) hr h.2 h.1 fun H hO hS => hsp w H a ns hlen hO hS
end PL

namespace PL
open PySem PySem.Spec PyProof.Rows L2
theorem strOk_lit (s : String) : PyData.strOk (s : Str) = true := strOk_iff.mpr fun c hc => by
  have hc' : c ∈ (Str.ofString s).cps.toList := hc
  rw [Str.ofString_eq_toList] at hc'
  simp only [List.mem_map] at hc'
  obtain ⟨x, _, rfl⟩ := hc'
  have := x.valid
  rcases this with h | ⟨_, h⟩
  · exact Nat.lt_trans h (by decide)
  · exact h
theorem reprChar_ok {q c : Nat} (hc : c < 0x110000) : ∀ x ∈ PySem.Builtin.Str.reprChar q c, x < 0x110000 := by
  intro x hx
  have dig : ∀ (w : Nat), ∀ y ∈ (let d := (Nat.toDigits 16 c).map Char.toNat; List.replicate (w - d.length) 48 ++ d), y < 0x110000 := fun w y hy => by
    rcases List.mem_append.mp hy with h | h
    · rw [(List.mem_replicate.mp h).2]; decide
    · obtain ⟨z, _, rfl⟩ := List.mem_map.mp h
      rcases z.valid with h | ⟨_, h⟩
      · exact Nat.lt_trans h (by decide)
      · exact h
  unfold PySem.Builtin.Str.reprChar at hx
  simp only at hx
  split at hx
  · simp at hx; omega
  split at hx
  · simp at hx; omega
  split at hx
  · simp at hx; omega
  split at hx
  · simp at hx; omega
  split at hx
  · simp at hx; omega
  split at hx
  · rcases List.mem_append.mp hx with h | h
    · simp at h; omega
    · exact dig _ _ h
  split at hx
  · rcases List.mem_append.mp hx with h | h
    · simp at h; omega
    · exact dig _ _ h
  · rcases List.mem_append.mp hx with h | h
    · simp at h; omega
    · exact dig _ _ h
theorem foldl_ok {q : Nat} : ∀ (l : List Nat) (acc : Array Nat), (∀ c ∈ l, c < 0x110000) → (∀ c ∈ acc.toList, c < 0x110000) → ∀ c ∈ (l.foldl (fun out c => out ++ (PySem.Builtin.Str.reprChar q c).toArray) acc).toList, c < 0x110000
  | [], acc, _, h => h
  | x :: r, acc, h1, h2 => foldl_ok r _ (fun c hc => h1 c (List.mem_cons_of_mem _ hc)) fun c hc => by
    rw [Array.toList_append] at hc
    rcases List.mem_append.mp hc with h | h
    · exact h2 c h
    · exact reprChar_ok (h1 x (List.mem_cons_self ..)) c h
theorem reprQuote_ok (x : Str) : reprQuote x < 0x110000 := by
  unfold reprQuote
  split <;> decide
theorem strOk_reprText {x : Str} (h : PyData.strOk x = true) : PyData.strOk (reprText x) = true := strOk_iff.mpr fun c hc => by
  unfold reprText at hc
  rw [Array.toList_push, ← Array.foldl_toList] at hc
  rcases List.mem_append.mp hc with h1 | h1
  · exact foldl_ok _ _ (strOk_iff.mp h) (fun c hc => by
      have : c = reprQuote x := by simpa using hc
      rw [this]; exact reprQuote_ok x) c h1
  · have : c = reprQuote x := by simpa using h1
    rw [this]; exact reprQuote_ok x
theorem strOk_textFrom : ∀ (ts : List Str) (k : Nat) (acc : Str), PyData.strOk acc = true → (∀ t ∈ ts, PyData.strOk t = true) → PyData.strOk (textFrom k acc ts) = true
  | [], k, acc, h, _ => h
  | t :: ts, k, acc, h, h2 => by
    unfold textFrom
    exact strOk_textFrom ts _ _ (strOk_app (strOk_app h (strOk_lit _)) (h2 t (List.mem_cons_self ..))) fun u hu => h2 u (List.mem_cons_of_mem _ hu)
mutual
theorem shown_ok : ∀ d : D, d.canLay0 = true → PyData.strOk d.shown = true
  | .none, _ => by simp only [PyData.shown]; exact strOk_lit _
  | .bool b, _ => by simp only [PyData.shown]; cases b <;> exact strOk_lit _
  | .int i, _ => by simp only [PyData.shown]; exact strOk_lit _
  | .str x, h => by simp only [PyData.shown]; exact strOk_reprText (by simpa [PyData.canLay0] using h)
  | .list xs, h => by
    have := shownAll_ok xs (by simpa [PyData.canLay0] using h)
    simp only [PyData.shown]
    exact strOk_app (strOk_textFrom _ _ _ (strOk_lit _) this) (strOk_lit _)
  | .tuple xs, h => by
    have := shownAll_ok xs (by simpa [PyData.canLay0] using h)
    simp only [PyData.shown]
    exact strOk_app (strOk_app (strOk_lit _) (strOk_join (strOk_lit _) this)) (strOk_lit _)
  | .dict _, h => by simp [PyData.canLay0] at h
theorem shownAll_ok : ∀ ds : List D, PyData.canLayAll0 ds = true → ∀ t ∈ PyData.shownAll ds, PyData.strOk t = true
  | [], _, t, ht => by simp [PyData.shownAll] at ht
  | d :: ds, h, t, ht => by
    have h' : d.canLay0 = true ∧ PyData.canLayAll0 ds = true := by simpa [PyData.canLayAll0] using h
    simp only [PyData.shownAll, List.mem_cons] at ht
    rcases ht with rfl | ht
    · exact shown_ok d h'.1
    · exact shownAll_ok ds h'.2 t ht
end
/-- repr of a list or a tuple of nested data -/
def opShow : OP1 := fun d k => (match d with | .list _ => True | .tuple _ => True | _ => False) ∧ d.showable = true ∧ flat 60 d = true ∧ (d.canLay0 = true → d.shown.length + 64 ≤ sizeLine) ∧ k (.sh (.str d.shown))
theorem us_show {K : PySem.W.Frag} : UnS (fun x H Q => rReprD K [x] H Q) opShow := fun {B F Γ σ H fp x d} k Q r b z c => by
  obtain ⟨z0, z1, z2, z3, z4⟩ := z
  have q := b.rp r.fx
  have fl := z2
  simp only [flat, Bool.and_eq_true, Bool.not_eq_true', decide_eq_true_eq] at fl
  have ok : PyData.strOk d.shown = true := shown_ok d (q.lay fl.1)
  cases b with
  | @lst a xs ds e t => exact ⟨a, _, rfl, q.dpf z2, z1, fl.1, fl.2, z3 (q.lay fl.1), op_sc r (.str _ ok) c z4⟩
  | @tup a xs ds e0 e t => exact ⟨a, _, rfl, q.dpf z2, z1, fl.1, fl.2, z3 (q.lay fl.1), op_sc r (.str _ ok) c z4⟩
  | _ => exact z0.elim
section
variable {X : Cx} {W : WX} {pos p : Pos} {a : Expr} {ta : TE} {pa : QE} {j : Nat}
theorem d_repr (hr : Room j X.A) (hgu : X.A.guards = some []) (hm : X.mg "repr" = none) (ha : DE X W a ta pa) (hg : Gl X "repr" := by rfl) (he : starEach [a] X.env = (false, eval a X.env) :: starEach [] X.env := by rfl) (hpl : (backTo pos (starEach [] X.env)).any (·.1) = false := by rfl) :
    DE X W (.Call (.Name "repr" p) [a] [] pos) (tCB (rReprD X.K) (tCons ta tNil)) (qUn opShow pa) := d_bi1 (cr_repr hr hgu) us_show hm (by decide +kernel) ha hg (by decide) (by decide) he hpl
end
end PL

namespace PL
open PySem PySem.Spec PyProof.Rows L2
section
variable {X : Cx} {W : WX} {pos p : Pos} {a b e : Expr} {ta tb te : TE} {pa pb pe : QE}
/-! ### built-in functions of two arguments -/
theorem d_bi2 {id : String} {x : Str} {r : List V → Hp → VK → Prop} {o : OP2} (hc : CallR X (.builtin id) r) (hs : OpS (fun x y H Q => r [x, y] H Q) o) (hm : X.mg x = none) (hv : bootBuiltins x = some (.builtin id)) (ha : DE X W a ta pa) (hb : DE X W b tb pb) (hg : Gl X x := by rfl)
    (hn : x ≠ "__name__" := by decide) (hdb : (x == ("__debug__" : Str)) = false := by decide) (he : starEach [a, b] X.env = (false, eval a X.env) :: starEach [b] X.env := by rfl) (he2 : starEach [b] X.env = (false, eval b X.env) :: starEach [] X.env := by rfl) (hpl : (backTo pos (starEach [b] X.env)).any (·.1) = false := by rfl) :
    DE X W (.Call (.Name x p) [a, b] [] pos) (tCB r (tCons ta (tCons tb tNil))) (qOp o pa pb) := ⟨pe_callB hc hg hm hv (pa_cons ha.pe (pa_cons hb.pe pa_nil he2) he) hn hdb he hpl, fun {B F Γ σ H fp} R EX Q rr h k e =>
  (se_op hs ha.se hb.se : SE W (tOp (fun x y H Q => r [x, y] H Q) ta tb) (qOp o pa pb)) R EX Q rr h k e⟩
def opMin2 : OP2 := fun d1 d2 k => match d1, d2 with
  | .int i, .int j => k (.sh (.int (if j < i then j else i)))
  | _, _ => False
def opMax2 : OP2 := fun d1 d2 k => match d1, d2 with
  | .int i, .int j => k (.sh (.int (if j > i then j else i)))
  | _, _ => False
theorem os_min2 : OpS (fun x y H Q => (fun xs H (Q : VK) => ∃ i j, xs = [V.int i, V.int j] ∧ Q (.int (if j < i then j else i)) H) [x, y] H Q) opMin2 := fun {B F Γ σ H fp x y d1 d2} k Q r b1 b2 z c => by
  cases b1 with
  | int i =>
    cases b2 with
    | int j => exact ⟨i, j, rfl, op_sc r (.int _) c z⟩
    | _ => exact z.elim
  | _ => cases b2 <;> exact z.elim
theorem os_max2 : OpS (fun x y H Q => (fun xs H (Q : VK) => ∃ i j, xs = [V.int i, V.int j] ∧ Q (.int (if j > i then j else i)) H) [x, y] H Q) opMax2 := fun {B F Γ σ H fp x y d1 d2} k Q r b1 b2 z c => by
  cases b1 with
  | int i =>
    cases b2 with
    | int j => exact ⟨i, j, rfl, op_sc r (.int _) c z⟩
    | _ => exact z.elim
  | _ => cases b2 <;> exact z.elim
theorem d_min2 (hc : X.calm = true) (hm : X.mg "min" = none) (ha : DE X W a ta pa) (hb : DE X W b tb pb) (hg : Gl X "min" := by rfl)
    (he : starEach [a, b] X.env = (false, eval a X.env) :: starEach [b] X.env := by rfl) (he2 : starEach [b] X.env = (false, eval b X.env) :: starEach [] X.env := by rfl) (hpl : (backTo pos (starEach [b] X.env)).any (·.1) = false := by rfl) :
    DE X W (.Call (.Name "min" p) [a, b] [] pos) (tCB (fun xs H Q => ∃ i j, xs = [V.int i, V.int j] ∧ Q (.int (if j < i then j else i)) H) (tCons ta (tCons tb tNil))) (qOp opMin2 pa pb) :=
  d_bi2 (X := X) (W := W) (p := p) (pos := pos) (call_min2 hc) os_min2 hm (by decide +kernel) ha hb hg (by decide) (by decide) he he2 hpl
theorem d_max2 (hc : X.calm = true) (hm : X.mg "max" = none) (ha : DE X W a ta pa) (hb : DE X W b tb pb) (hg : Gl X "max" := by rfl)
    (he : starEach [a, b] X.env = (false, eval a X.env) :: starEach [b] X.env := by rfl) (he2 : starEach [b] X.env = (false, eval b X.env) :: starEach [] X.env := by rfl) (hpl : (backTo pos (starEach [b] X.env)).any (·.1) = false := by rfl) :
    DE X W (.Call (.Name "max" p) [a, b] [] pos) (tCB (fun xs H Q => ∃ i j, xs = [V.int i, V.int j] ∧ Q (.int (if j > i then j else i)) H) (tCons ta (tCons tb tNil))) (qOp opMax2 pa pb) :=
  d_bi2 (X := X) (W := W) (p := p) (pos := pos) (call_max2 hc) os_max2 hm (by decide +kernel) ha hb hg (by decide) (by decide) he he2 hpl
end
/-! ### what the walk knows of a module's classes of errors -/
def ec (mg : Str → Option Value) (x : Str) : Addr := match mg x with
  | some (.ref a) => a
  | _ => 0
structure ExcRaw (K : PySem.W.Frag) (C : Addr) : Prop where
  exI : PySem.W.excIn K C [.type "ValueError", .type "Exception", .type "BaseException", .type "object"] "ValueError.__new__" = true
  kp : PySem.W.keepIn K (.ref C) = true
  sub : PySem.W.subIn K (.ref C) (.type "BaseException") = some true
  ty : PySem.W.typeIn K (.ref C) = some (.type "type")
  exm : PySem.W.exmOne K (.ref C) (.ref C) = some true
  ec : ExcC K C
theorem ExcRaw.ok {K : PySem.W.Frag} {mg : Str → Option Value} {x : Str} {C : Addr} (r : ExcRaw K C) (h : mg x = some (.ref C)) : ExcOk K mg x C := ⟨h, r.exI, r.kp, r.sub, r.ty⟩
theorem ec_of {mg : Str → Option Value} {x : Str} {C : Addr} (h : mg x = some (.ref C)) : ec mg x = C := by
  unfold ec
  rw [h]
end PL

namespace PL
open PySem PySem.Spec PyProof.Rows L2
/-! ### more methods of texts -/
def upS (x : Str) : Str := ⟨x.cps.map up1⟩
def loS (x : Str) : Str := ⟨x.cps.map lo1⟩
def asStr (cs : List Nat) : Str := ⟨cs.toArray⟩
def wordsL (cs : List Nat) : List (List Nat) := TL.wfin (cs.foldl TL.wstep ([], []))
def strsD (ws : List (List Nat)) : List D := ws.map fun cs => .str (asStr cs)
theorem strOk_map {x : Str} {f : Nat → Nat} (h : ∀ c ∈ x.cps.toList, f c < 0x110000) : PyData.strOk ⟨x.cps.map f⟩ = true := strOk_iff.mpr fun c hc => by
  rw [Array.toList_map] at hc
  obtain ⟨d, hd, rfl⟩ := List.mem_map.mp hc
  exact h d hd
theorem up1_lt {c : Nat} (h : c < 128) : up1 c < 128 := by
  unfold up1
  split <;> omega
theorem lo1_lt {c : Nat} (h : c < 128) : lo1 c < 128 := by
  unfold lo1
  split <;> omega
def opUpper : OP1 := fun d k => match d with
  | .str x => (∀ c ∈ x.cps.toList, c < 128) ∧ x.length ≤ 5000000 ∧ k (.sh (.str (upS x)))
  | _ => False
def opLower : OP1 := fun d k => match d with
  | .str x => (∀ c ∈ x.cps.toList, c < 128) ∧ x.length ≤ 5000000 ∧ k (.sh (.str (loS x)))
  | _ => False
abbrev rUpper : V → List V → Hp → VK → Prop := fun x xs H Q => ∃ a, x = .str a ∧ xs = [] ∧ a.length ≤ 5592405 ∧ Q (.str (Txt.upper a)) H
abbrev rLower : V → List V → Hp → VK → Prop := fun x xs H Q => ∃ a, x = .str a ∧ xs = [] ∧ a.length ≤ 5592405 ∧ Q (.str (Txt.lower a)) H
theorem us_upper : UnS (fun x H Q => rUpper x [] H Q) opUpper := fun {B F Γ σ H fp x d} k Q r b z c => by
  cases b with
  | str a ha =>
    refine ⟨a, rfl, rfl, by have := z.2.1; omega, ?_⟩
    rw [upper_ascii z.1]
    exact op_sc r (.str _ (strOk_map fun c hc => Nat.lt_trans (up1_lt (z.1 c hc)) (by decide))) c z.2.2
  | _ => exact z.elim
theorem us_lower : UnS (fun x H Q => rLower x [] H Q) opLower := fun {B F Γ σ H fp x d} k Q r b z c => by
  cases b with
  | str a ha =>
    refine ⟨a, rfl, rfl, by have := z.2.1; omega, ?_⟩
    rw [lower_ascii z.1]
    exact op_sc r (.str _ (strOk_map fun c hc => Nat.lt_trans (lo1_lt (z.1 c hc)) (by decide))) c z.2.2
  | _ => exact z.elim
theorem rpa_strs {F : Hp} : ∀ ys : List Str, (∀ y ∈ ys, PyData.strOk y = true) → RpA F (ys.map V.str) (ys.map .str)
  | [], _ => .nil
  | y :: r, h => .cons (.str y (h y (by simp))) (rpa_strs r fun z hz => h z (List.mem_cons_of_mem _ hz))
theorem strs_of_tl {ys : List Str} {ws : List (List Nat)} (h : ys.map (fun x : Str => x.cps.toList) = ws) : ys.map PyData.str = strsD ws := by
  subst h
  unfold strsD
  rw [List.map_map]
  apply List.map_congr_left
  intro y _
  show PyData.str y = PyData.str (asStr y.cps.toList)
  unfold asStr
  simp
/-- a new list of texts -/
theorem new_strs {B F : Hp} {Γ : Ev} {σ : L2.St} {H : Hp} {fp : Nat → List Addr} {k : Wv → Prop} {Q : VK} {ys : List Str} (r : Rel B F Γ σ H fp) (hy : ∀ y ∈ ys, PyData.strOk y = true)
    (c : ∀ w v F' H', Ext B F F' → Rel B F' Γ σ H' fp → RW B F' Γ σ H' fp v w → k w → Q v H') (z : k (.ow (.l (ys.map .str)))) : rNewStrs ys H Q := fun p hp => by
  obtain ⟨r2, v2⟩ := new_lst r (rpa_strs (F := F) ys hy) hp
  exact c _ _ F _ .refl r2 v2 z
theorem wstep_mem : ∀ (cs : List Nat) (st : List (List Nat) × List Nat) (P : Nat → Prop), (∀ w ∈ st.1, ∀ c ∈ w, P c) → (∀ c ∈ st.2, P c) → (∀ c ∈ cs, P c) →
    (∀ w ∈ (cs.foldl TL.wstep st).1, ∀ c ∈ w, P c) ∧ ∀ c ∈ (cs.foldl TL.wstep st).2, P c
  | [], st, P, h1, h2, _ => ⟨h1, h2⟩
  | c :: r, st, P, h1, h2, h3 => by
    refine wstep_mem r (TL.wstep st c) P ?_ ?_ fun d hd => h3 d (List.mem_cons_of_mem _ hd)
    · unfold TL.wstep
      split
      · split
        · exact h1
        · intro w hw
          rcases List.mem_append.mp hw with hw | hw
          · exact h1 w hw
          · have : w = st.2 := by simpa using hw
            subst this
            exact h2
      · exact h1
    · unfold TL.wstep
      split
      · split
        · exact h2
        · intro d hd
          cases hd
      · intro d hd
        rcases List.mem_append.mp hd with hd | hd
        · exact h2 d hd
        · have : d = c := by simpa using hd
          subst this
          exact h3 _ (by simp)
theorem wordsL_mem {cs : List Nat} {P : Nat → Prop} (h : ∀ c ∈ cs, P c) : ∀ w ∈ wordsL cs, ∀ c ∈ w, P c := by
  obtain ⟨h1, h2⟩ := wstep_mem cs ([], []) P (fun w hw => (List.not_mem_nil hw).elim) (fun c hc => (List.not_mem_nil hc).elim) h
  unfold wordsL TL.wfin
  split
  · exact h1
  · intro w hw
    rcases List.mem_append.mp hw with hw | hw
    · exact h1 w hw
    · have : w = (cs.foldl TL.wstep ([], [])).2 := by simpa using hw
      subst this
      exact h2
def opWords : OP1 := fun d k => match d with
  | .str x => x.length + 2 ≤ sizeLine ∧ k (.ow (.l (strsD (wordsL x.cps.toList))))
  | _ => False
abbrev rWords : V → List V → Hp → VK → Prop := fun x xs H Q => ∃ a, x = .str a ∧ xs = [] ∧ a.length + 2 ≤ sizeLine ∧ rNewStrs (Txt.words a) H Q
theorem us_words : UnS (fun x H Q => rWords x [] H Q) opWords := fun {B F Γ σ H fp x d} k Q r b z c => by
  cases b with
  | str a ha =>
    refine ⟨a, rfl, rfl, z.1, new_strs r (fun y hy => ?_) c ?_⟩
    · refine strOk_iff.mpr fun ch hc => ?_
      have e := TL.words_tl a
      have hm : y.cps.toList ∈ wordsL a.cps.toList := by
        show y.cps.toList ∈ TL.wfin (a.cps.toList.foldl TL.wstep ([], []))
        rw [← show (Txt.words a).map (fun x : Str => x.cps.toList) = TL.wfin (a.cps.toList.foldl TL.wstep ([], [])) from e]
        exact List.mem_map.mpr ⟨y, hy, rfl⟩
      exact wordsL_mem (P := fun c => c < 0x110000) (strOk_iff.mp ha) _ hm ch hc
    · rw [strs_of_tl (ws := wordsL a.cps.toList) (TL.words_tl a)]
      exact z.2
  | _ => exact z.elim
/-- the parts between a sign -/
def splL (c : Nat) (cs : List Nat) : List (List Nat) := TL.spl [c] 0 [] cs
theorem spl_mem (S : List Nat) (P : Nat → Prop) : ∀ (cs acc : List Nat) (k : Nat), (∀ c ∈ acc, P c) → (∀ c ∈ cs, P c) → ∀ w ∈ TL.spl S k acc cs, ∀ c ∈ w, P c
  | [], acc, k, h, _, w, hw => by
    have : w = acc := by simpa [TL.spl] using hw
    subst this
    exact h
  | c :: r, acc, 0, h, h2, w, hw => by
    unfold TL.spl at hw
    split at hw
    · rcases List.mem_cons.mp hw with rfl | hw
      · exact h
      · exact spl_mem S P r [] _ (fun d hd => (List.not_mem_nil hd).elim) (fun d hd => h2 d (List.mem_cons_of_mem _ hd)) w hw
    · exact spl_mem S P r (acc ++ [c]) 0 (fun d hd => by
        rcases List.mem_append.mp hd with hd | hd
        · exact h d hd
        · have : d = c := by simpa using hd
          subst this
          exact h2 _ (by simp)) (fun d hd => h2 d (List.mem_cons_of_mem _ hd)) w hw
  | c :: r, acc, k + 1, h, h2, w, hw => by
    unfold TL.spl at hw
    exact spl_mem S P r acc k h (fun d hd => h2 d (List.mem_cons_of_mem _ hd)) w hw
def opSplit : OP2 := fun d1 d2 k => match d1, d2 with
  | .str x, .str y => (match y.cps.toList with
    | [c] => c < 256 ∧ x.length + 2 ≤ sizeLine ∧ k (.ow (.l (strsD (splL c x.cps.toList))))
    | _ => False)
  | _, _ => False
abbrev rSplit : V → List V → Hp → VK → Prop := fun x xs H Q => ∃ a b, x = .str a ∧ xs = [.str b] ∧ (b.length == 0) = false ∧ a.length + 2 ≤ sizeLine ∧ rNewStrs (Txt.split a b) H Q
theorem one_of {y : Str} {c : Nat} (h : y.cps.toList = [c]) : y = ⟨#[c]⟩ := by
  cases y
  congr 1
  exact Array.toList_inj.mp h
theorem kind_one {c : Nat} (h : c < 256) : Builtin.Str.strKind (⟨#[c]⟩ : Str) = 1 := by
  unfold Builtin.Str.strKind
  simp
  omega
theorem os_split : OpS (fun x y H Q => rSplit x [y] H Q) opSplit := fun {B F Γ σ H fp x y d1 d2} k Q r b1 b2 z c => by
  cases b1 with
  | str a ha =>
    cases b2 with
    | str b hb =>
      unfold opSplit at z
      simp only at z
      split at z
      · rename_i ch hc
        have e := one_of hc
        subst e
        obtain ⟨z1, z2, z3⟩ := z
        have hs : (Txt.split a ⟨#[ch]⟩).map (fun x : Str => x.cps.toList) = splL ch a.cps.toList := TL.split_spl a ⟨#[ch]⟩ (fun e => nomatch e) (by
          rw [kind_one z1]
          unfold Builtin.Str.strKind
          repeat (first | split | omega))
        refine ⟨a, _, rfl, rfl, rfl, z2, new_strs r (fun y hy => ?_) c ?_⟩
        · refine strOk_iff.mpr fun d hd => ?_
          have hm : y.cps.toList ∈ splL ch a.cps.toList := by
            rw [← hs]
            exact List.mem_map.mpr ⟨y, hy, rfl⟩
          exact spl_mem [ch] (fun c => c < 0x110000) a.cps.toList [] 0 (fun d hd => (List.not_mem_nil hd).elim) (strOk_iff.mp ha) _ hm d hd
        · rw [strs_of_tl hs]
          exact z3
      · exact z.elim
    | _ => exact z.elim
  | _ => cases b2 <;> exact z.elim
/-- text.rstrip(signs) -/
def opRstrip : OP2 := fun d1 d2 k => match d1, d2 with
  | .str x, .str y => x.length ≤ sizeLine ∧ k (.sh (.str (Txt.rstripChars x y)))
  | _, _ => False
abbrev rRstrip : V → List V → Hp → VK → Prop := fun x xs H Q => ∃ a b, x = .str a ∧ xs = [.str b] ∧ a.length ≤ sizeLine ∧ Q (.str (Txt.rstripChars a b)) H
theorem rstrip_pre (x y : Str) : ∃ j : Nat, j ≤ x.length ∧ (Txt.rstripChars x y).cps.toList = x.cps.toList.take j := by
  obtain ⟨j, hj, e⟩ := rstripChars_is_prefix x y
  refine ⟨j, hj, ?_⟩
  rw [e]
  show (x.cps.extract 0 j).toList = _
  simp
theorem os_rstrip : OpS (fun x y H Q => rRstrip x [y] H Q) opRstrip := fun {B F Γ σ H fp x y d1 d2} k Q r b1 b2 z c => by
  cases b1 with
  | str a ha =>
    cases b2 with
    | str b hb =>
      refine ⟨a, b, rfl, rfl, z.1, op_sc r (.str _ (strOk_of ha fun c hc => ?_)) c z.2⟩
      obtain ⟨j, _, e⟩ := rstrip_pre a b
      rw [e] at hc
      exact List.mem_of_mem_take hc
    | _ => exact z.elim
  | _ => cases b2 <;> exact z.elim
section
variable {X : Cx} {W : WX} {pos p : Pos} {a b e f : Expr} {es : List Expr} {ta tb te tf : TE} {pa pb pe pf : QE} {tr : TA} {pr : QA}
theorem d_upper {apos : Pos} (ha : DE X W a ta pa) (hbase : attributeBase a "upper" X.env (eval a X.env) = eval a X.env := by rfl) (hline : (apos.endLine == pos.line) = true := by rfl) :
    DE X W (.Call (.Attribute a "upper" apos) [] [] pos) (tM0 rUpper ta) (qM0 opUpper pa) := ⟨pe_upper ha.pe hbase hline, se_m0 us_upper ha.se⟩
theorem d_lower {apos : Pos} (ha : DE X W a ta pa) (hbase : attributeBase a "lower" X.env (eval a X.env) = eval a X.env := by rfl) (hline : (apos.endLine == pos.line) = true := by rfl) :
    DE X W (.Call (.Attribute a "lower" apos) [] [] pos) (tM0 rLower ta) (qM0 opLower pa) := ⟨pe_lower ha.pe hbase hline, se_m0 us_lower ha.se⟩
theorem d_words {apos : Pos} (ha : DE X W a ta pa) (hbase : attributeBase a "split" X.env (eval a X.env) = eval a X.env := by rfl) (hline : (apos.endLine == pos.line) = true := by rfl) :
    DE X W (.Call (.Attribute a "split" apos) [] [] pos) (tM0 rWords ta) (qM0 opWords pa) := ⟨pe_words ha.pe hbase hline, se_m0 us_words ha.se⟩
theorem d_split {apos : Pos} (ha : DE X W a ta pa) (hb : DE X W b tb pb) (hs : starEach [b] X.env = [(false, eval b X.env)] := by rfl) (hbase : attributeBase a "split" X.env (eval a X.env) = eval a X.env := by rfl) (hline : (apos.endLine == pos.line) = true := by rfl) :
    DE X W (.Call (.Attribute a "split" apos) [b] [] pos) (tM1 rSplit ta tb) (qM1 opSplit pa pb) := ⟨pe_split ha.pe hb.pe hs hbase hline, se_m1 os_split ha.se hb.se⟩
theorem d_rstrip {apos : Pos} (ha : DE X W a ta pa) (hb : DE X W b tb pb) (hs : starEach [b] X.env = [(false, eval b X.env)] := by rfl) (hbase : attributeBase a "rstrip" X.env (eval a X.env) = eval a X.env := by rfl) (hline : (apos.endLine == pos.line) = true := by rfl) :
    DE X W (.Call (.Attribute a "rstrip" apos) [b] [] pos) (tM1 rRstrip ta tb) (qM1 opRstrip pa pb) := ⟨pe_m1 F.slot_str_rstrip F.type_str_rstrip mt_rstripChars ha.pe hb.pe hs hbase hline, se_m1 os_rstrip ha.se hb.se⟩
/-! ### methods of more arguments -/
abbrev OPN := D → List D → (Wv → Prop) → Prop
def qBM (o : OPN) (pa : QE) (pr : QA) : QE := fun Γ R E => pa Γ (fun w1 Γ1 => bor w1 Γ1 isStr ∧ pr Γ1 (fun ds Γ2 => bor w1 Γ2 fun d1 => o d1 ds fun w => R w Γ2) E) E
def OpN (r : V → List V → Hp → VK → Prop) (o : OPN) : Prop := ∀ {B F : Hp} {Γ : Ev} {σ : L2.St} {H : Hp} {fp : Nat → List Addr} {x : V} {ys : List V} {d1 : D} {ds : List D} (k : Wv → Prop) (Q : VK), Rel B F Γ σ H fp → Rb F H x d1 → RpA F ys ds → o d1 ds k →
  (∀ w v F' H', Ext B F F' → Rel B F' Γ σ H' fp → RW B F' Γ σ H' fp v w → k w → Q v H') → r x ys H Q
theorem se_bm {K : PySem.W.Frag} {r : V → List V → Hp → VK → Prop} {o : OPN} (hs : OpN r o) (ha : SE W ta pa) (hb : SA W tr pr) : SE W (tBM K "str" r ta tr) (qBM o pa pr) := fun {B F Γ σ H fp} R EX Q rr h k e => by
  refine ha _ EX _ rr h (fun w1 Γ1 x F1 H1 fp1 x1 r1 v1 h1 => ?_) e
  obtain ⟨d, b, z⟩ := bor_rb r1 v1 h1.1
  obtain ⟨B', r1', g⟩ := r1.guard v1
  refine ⟨by
    obtain ⟨a, rfl⟩ := b.isStr z
    rfl, hb _ EX _ r1' h1.2 (fun ds Γ2 vs F2 H2 fp2 x2 r2 v2 h2 => ?_) fun c Γ' F' H' fp' x2 r2 q => ?_⟩
  · obtain ⟨x3, r3, v3, g3⟩ := g F2 Γ2 H2 fp2 x2 r2
    obtain ⟨d1, b1, z1⟩ := bor_rb r3 v3 h2
    exact hs _ Q r3 b1 v2 z1 fun w v F' H' x' r' q' kk => k w Γ2 v F' H' fp2 ((x1.trans x3).trans x') r' q' kk
  · obtain ⟨x5, r5, _, _⟩ := g F' Γ' H' fp' x2 r2
    exact e c Γ' F' H' fp' (x1.trans x5) r5 q
/-- text.rjust(n, sign) -/
def opRjust : OPN := fun d1 ds k => match d1, ds with
  | .str x, [.int i, .str f] => PadOk i = true ∧ (match f.cps.toList with
    | [c] => k (.sh (.str (Txt.rjustF x i c)))
    | _ => False)
  | _, _ => False
abbrev rRjust : V → List V → Hp → VK → Prop := fun x xs H Q => ∃ (a : Str) (i : Int) (f : Str), x = .str a ∧ xs = [.int i, .str f] ∧ PadOk i = true ∧ f.length = 1 ∧ Q (.str (Txt.rjustF a i (f.cps.getD 0 0))) H
theorem mt_rjust2 {X : Cx} : MtR X "str.rjust" rRjust := by
  intro pins s σ H x xs v us Q I rx rs h
  obtain ⟨a, i, f, rfl, rfl, hp, hf, h⟩ := h
  obtain ⟨t, rfl⟩ := rx
  cases rs with
  | cons r1 rs =>
    cases rs with
    | cons r2 rs =>
      cases rs
      obtain ⟨u, rfl⟩ := r1
      obtain ⟨z, rfl⟩ := r2
      exact rjust_fill hp hf fun t' k => ⟨V.str (Txt.rjustF a i (f.cps.getD 0 0)), H, I.tok k, ⟨t', rfl⟩, h⟩
theorem os_rjust : OpN rRjust opRjust := fun {B F Γ σ H fp x ys d1 ds} k Q r b1 b2 z c => by
  cases b1 with
  | str a ha =>
    cases b2 with
    | cons h1 b2 =>
      cases b2 with
      | cons h2 b2 =>
        cases b2 with
        | nil =>
          cases h1 with
          | int i =>
            cases h2 with
            | str f hf =>
              obtain ⟨z1, z2⟩ := z
              split at z2
              · rename_i ch hc
                have e := one_of hc
                subst e
                have hch := strOk_iff.mp hf ch (by simp)
                refine ⟨a, i, _, rfl, rfl, z1, rfl, ?_⟩
                refine op_sc r (.str _ (strOk_iff.mpr fun d hd => ?_)) c z2
                rw [rjustF_list] at hd
                rcases List.mem_append.mp hd with hd | hd
                · rw [List.eq_of_mem_replicate hd]
                  exact hch
                · exact strOk_iff.mp ha d hd
              · exact z2.elim
            | _ => exact z.elim
          | _ => cases h2 <;> exact z.elim
        | cons h3 b2 => cases h1 <;> cases h2 <;> exact z.elim
      | nil => cases h1 <;> exact z.elim
    | nil => exact z.elim
  | _ => exact z.elim
theorem d_rjust {apos : Pos} (ha : DE X W a ta pa) (hb : DA X W (e :: es) tr pr)
    (hbase : attributeBase a "rjust" X.env (eval a X.env) = eval a X.env := by rfl)
    (hfew : ((backTo pos (starEach (e :: es) X.env)).all (fun x => !x.1) && (backToKw pos (keywordEach [] X.env)).all (fun x => x.1.isSome)
      && decide ((e :: es).length + ([] : List Keyword).length + (if ([] : List Keyword).isEmpty then 0 else 1) < 30)) = true := by rfl)
    (hline : (apos.endLine == pos.line) = true := by rfl) (hs : starEach (e :: es) X.env = (false, eval e X.env) :: starEach es X.env := by rfl) (hplain : (backTo pos (starEach es X.env)).any (·.1) = false := by rfl) :
    DE X W (.Call (.Attribute a "rjust" apos) (e :: es) [] pos) (tBM X.K "str" rRjust ta tr) (qBM opRjust pa pr) :=
  ⟨pe_bm PySem.F.plainAttrs_str F.slot_str_rjust F.type_str_rjust mt_rjust2 ha.pe hb.pa hbase hfew hline hs hplain, se_bm os_rjust ha.se hb.sa⟩
/-! ### str(n), int(text), list(range(..)), constants -/
def opStr : OP1 := fun d k => match d with
  | .int i => i.natAbs.log2 < 1920 ∧ k (.sh (.str (toString i : String)))
  | _ => False
theorem us_str : UnS (fun x H Q => (fun xs H (Q : VK) => ∃ i, xs = [V.int i] ∧ i.natAbs.log2 < 1920 ∧ Q (.str (toString i : String)) H) [x] H Q) opStr := fun {B F Γ σ H fp x d} k Q r b z c => by
  cases b with
  | int i => exact ⟨i, rfl, z.1, op_sc r (.str _ (strOk_lit _)) c z.2⟩
  | _ => exact z.elim
theorem d_str1 (hm : X.mg "str" = none) (ha : DE X W a ta pa) (hg : Gl X "str" := by rfl) (he : starEach [a] X.env = (false, eval a X.env) :: starEach [] X.env := by rfl) (hpl : (backTo pos (starEach [] X.env)).any (·.1) = false := by rfl) :
    DE X W (.Call (.Name "str" p) [a] [] pos) (tCB (fun xs H Q => ∃ i, xs = [V.int i] ∧ i.natAbs.log2 < 1920 ∧ Q (.str (toString i : String)) H) (tCons ta tNil)) (qUn opStr pa) := d_ty1 call_str_int us_str hm (by decide +kernel) ha hg (by decide) (by decide) he hpl
def opIntS : OP1 := fun d k => match d with
  | .str x => x.length ≤ 640 ∧ (match PySem.intText? x with
    | some n => k (.sh (.int n))
    | none => False)
  | _ => False
theorem us_intS : UnS (fun x H Q => (fun xs H (Q : VK) => ∃ a n, xs = [V.str a] ∧ PySem.intText? a = some n ∧ a.length ≤ 640 ∧ Q (.int n) H) [x] H Q) opIntS := fun {B F Γ σ H fp x d} k Q r b z c => by
  cases b with
  | str a ha =>
    obtain ⟨z1, z2⟩ := z
    split at z2
    · rename_i n hn
      exact ⟨a, n, rfl, hn, z1, op_sc r (.int _) c z2⟩
    · exact z2.elim
  | _ => exact z.elim
theorem d_intS (hm : X.mg "int" = none) (ha : DE X W a ta pa) (hg : Gl X "int" := by rfl) (he : starEach [a] X.env = (false, eval a X.env) :: starEach [] X.env := by rfl) (hpl : (backTo pos (starEach [] X.env)).any (·.1) = false := by rfl) :
    DE X W (.Call (.Name "int" p) [a] [] pos) (tCB (fun xs H Q => ∃ a n, xs = [V.str a] ∧ PySem.intText? a = some n ∧ a.length ≤ 640 ∧ Q (.int n) H) (tCons ta tNil)) (qUn opIntS pa) := d_ty1 call_int_str us_intS hm (by decide +kernel) ha hg (by decide) (by decide) he hpl
def rgD (a b : Int) : List D := (List.range (b - a).toNat).map fun i : Nat => .int (a + (i : Int))
def opRgL (d1 d2 : D) (k : Wv → Prop) : Prop := match d1, d2 with
  | .int i, .int j => (-(2 ^ 62) ≤ i ∧ i < 2 ^ 62 ∧ -(2 ^ 62) ≤ j ∧ j < 2 ^ 62 ∧ (j - i).toNat ≤ 2 ^ 24) ∧ k (.ow (.l (rgD i j)))
  | _, _ => False
theorem rpa_rg {F : Hp} (a b : Int) : RpA F (rgV a b) (rgD a b) := RpA.map _ _ _ fun i _ => .int _
def qRgL2 (pa pb : QE) : QE := qOp opRgL pa pb
def qRgL1 (pa : QE) : QE := qUn (fun d k => opRgL (.int 0) d k) pa
theorem d_listR2 {p2 pos2 : Pos} (hc : X.calm = true) (hm : X.mg "list" = none) (hm2 : X.mg "range" = none) (ha : DE X W a ta pa) (hb : DE X W b tb pb) (hg : Gl X "list" := by rfl) (hg2 : Gl X "range" := by rfl)
    (na : starEach [a, b] X.env = (false, eval a X.env) :: starEach [b] X.env := by rfl) (nb : starEach [b] X.env = (false, eval b X.env) :: starEach [] X.env := by rfl)
    (nc : starEach [.Call (.Name "range" p2) [a, b] [] pos2] X.env = (false, eval (.Call (.Name "range" p2) [a, b] [] pos2) X.env) :: starEach [] X.env := by rfl)
    (np : (backTo pos2 (starEach [b] X.env)).any (·.1) = false := by rfl) :
    DE X W (.Call (.Name "list" p) [.Call (.Name "range" p2) [a, b] [] pos2] [] pos) (tLstRg (tRg2 ta tb)) (qRgL2 pa pb) := ⟨pe_listRg hc hg hm (prg_2 hg2 hm2 ha.pe hb.pe na nb np) nc, fun {B F Γ σ H fp} R EX Q rr h k e => by
  refine se_two ha.se hb.se rr h (Z := fun w1 w2 Γ2 => bor w1 Γ2 fun d1 => bor w2 Γ2 fun d2 => opRgL d1 d2 fun w => R w Γ2) (fun w1 w2 Γ' x y F' H' fp' x1 r1 v1 v2 z => ?_) e
  obtain ⟨d1, b1, z⟩ := bor_rb r1 v1 z
  obtain ⟨d2, b2, z⟩ := bor_rb r1 v2 z
  cases b1 with
  | int i =>
    cases b2 with
    | int j =>
      refine ⟨i, j, rfl, rfl, z.1, fun q hq => ?_⟩
      obtain ⟨r2, v2⟩ := new_lst r1 (rpa_rg (F := F') i j) hq
      exact k _ _ _ _ _ _ x1 r2 v2 z.2
    | _ => exact z.elim
  | _ => cases b2 <;> exact z.elim⟩
theorem d_listR1 {p2 pos2 : Pos} (hc : X.calm = true) (hm : X.mg "list" = none) (hm2 : X.mg "range" = none) (ha : DE X W a ta pa) (hg : Gl X "list" := by rfl) (hg2 : Gl X "range" := by rfl)
    (na : starEach [a] X.env = (false, eval a X.env) :: starEach [] X.env := by rfl)
    (nc : starEach [.Call (.Name "range" p2) [a] [] pos2] X.env = (false, eval (.Call (.Name "range" p2) [a] [] pos2) X.env) :: starEach [] X.env := by rfl) :
    DE X W (.Call (.Name "list" p) [.Call (.Name "range" p2) [a] [] pos2] [] pos) (tLstRg (tRg1 ta)) (qRgL1 pa) := ⟨pe_listRg hc hg hm (prg_1 hg2 hm2 ha.pe na) nc, fun {B F Γ σ H fp} R EX Q rr h k e => by
  refine ha.se _ EX _ rr h (fun w1 Γ1 x F1 H1 fp1 x1 r1 v1 h1 => ?_) e
  obtain ⟨d, b, z⟩ := bor_rb r1 v1 h1
  cases b with
  | int j =>
    refine ⟨j, rfl, z.1, fun q hq => ?_⟩
    obtain ⟨r2, v2⟩ := new_lst r1 (rpa_rg (F := F1) 0 j) hq
    exact k _ _ _ _ _ _ x1 r2 v2 z.2
  | _ => exact z.elim⟩
theorem d_gsx {x y : Str} (hm : ∃ t, X.mg x = some (.str y t)) (h : PyData.strOk y = true := by decide +kernel) (hg : Gl X x := by rfl) (hd : (x == ("__debug__" : Str)) = false := by decide) : DE X W (.Name x pos) (tC (.str y)) (qC (.str y)) := hm.elim fun t e => d_gs e h hg hd
theorem d_gix {x : Str} {i : Int} (hm : ∃ t, X.mg x = some (.int i t)) (hg : Gl X x := by rfl) (hd : (x == ("__debug__" : Str)) = false := by decide) : DE X W (.Name x pos) (tC (.int i)) (qC (.int i)) := hm.elim fun t e => d_gi e hg hd
end
end PL

namespace L2
open PySem PySem.Spec PyProof.Rows
/-! ### for k, v in d.items(), the keys tuples (the dict is locked) -/
def Itit (d : Addr) (o : Obj) (kvs : List (List Key × V)) : It :=
  ⟨fun i H => H d = some (.frz o (.dT kvs)) ∧ i < kvs.length, fun i H x H' => ∃ (T : Addr) (k : List Key) (v : V) (q : Addr), kvs[i]? = some (k, v) ∧ x = .ref T ∧ H T = none ∧ H q = some (.tup (k.map kV)) ∧ H' = upd H T (.tup [.ref q, v]), fun i H => H d = some (.frz o (.dT kvs)) ∧ kvs.length ≤ i⟩
section
variable {X : Cx} {pins : List (Addr × Obj)} {σ : St} {H : Hp} {s : Shared} {d : Addr} {o : Obj}
theorem Inv.frzT2 {kvs : List (List Key × V)} (I : Inv X pins σ H s) (h : H d = some (.frz o (.dT kvs))) :
    (d == sysModules) = false ∧ s.heap.get? d = some o ∧ o.ExactDict ∧ ∃ (es : Array DictEntry) (ep : Nat), o.data = .dict es ep ∧ es.size = kvs.length ∧
      ∀ (i : Nat) (k : List Key) (v : V), kvs[i]? = some (k, v) → ∃ (en : DictEntry) (q : Addr), es[i]? = some en ∧ en.key = .ref q ∧ H q = some (.tup (k.map kV)) ∧ RelV v en.val := by
  obtain ⟨hd, z, hs, xs, pr, o', es, ep, ho, hx, hdt, he, _⟩ := I.hok d _ h
  rw [hd] at ho
  cases ho
  refine ⟨hs, hd, hx, es, ep, hdt, ?_, fun i k v e => ?_⟩
  · have l1 : es.size = xs.length := size_of_entries he
    have l2 : kvs.length = xs.length := Paired.length pr
    omega
  · obtain ⟨b, hb, e1, e2, e3⟩ := paired_get pr e
    have q := entry_at he i
    rw [hb] at q
    exact ⟨_, b.2.1, q, rfl, e2, e3⟩
end
section
variable {P : Program} {w : World} {K : PySem.W.Frag} {d : Addr} {o : Obj} {es : Array DictEntry} {ep : Nat}
theorem turn_itemsT {kvs : List (List Key × V)} {elts : List Expr} {kk : Nat} {tpos : Pos} (it : Addr) (hod : o.data = .dict es ep) :
    Turn P w K (.Tuple elts kk tpos) (Itit d o kvs) [it] it (fun i h => ∃ ok ov, IsItemIter h it d i kvs.length ep ok ov) where
  mem := by simp
  obj := fun i h st b hb => by
    have e : b = it := by simpa using hb
    subst e
    obtain ⟨ok, ov, e⟩ := st
    exact ⟨_, e, fun v z => nomatch z⟩
  keep := fun i h h' st k => let ⟨ok, ov, e⟩ := st; ⟨ok, ov, k it (by simp) _ e⟩
  item := by
    intro X hP hw hK hc i pins s σ H E I hf st hg
    subst hP hw hK
    obtain ⟨hd, hi⟩ := hg
    obtain ⟨hs, hgd, hx, es', ep', hdt, hsz, ent⟩ := I.frzT2 hd
    obtain ⟨rfl, rfl⟩ := dict_ep hod hdt
    obtain ⟨⟨k, v⟩, hkv⟩ : ∃ p, kvs[i]? = some p := ⟨kvs[i], List.getElem?_eq_getElem hi⟩
    obtain ⟨en, q, hen, hkey, hq, hv⟩ := ent i k v hkv
    obtain ⟨ok, ov, he⟩ := st
    rw [← hsz] at he
    have hlt : it < s.heap.objs.size := Heap.lt_size he
    obtain ⟨hie, hee⟩ := Array.getElem?_eq_some_iff.mp hen
    refine DT.nextI he ⟨o, hgd, hx, hdt⟩ hie fun h' ho hT hz hk => ?_
    rw [hee] at ho hT
    refine ⟨_, rfl, wpAny_letOwnedTupleGo_items (s := { s with heap := h' }) ho fun h'' he' sb => ?_⟩
    have hT2 : h''.get? s.heap.objs.size = some { cls := .type "tuple", data := .seq #[en.key, en.val] } := (sb.2 _ (Nat.ne_of_gt hlt)).trans hT
    have new : ObjOk X.prog X.w (upd H s.heap.objs.size (.tup [.ref q, v])) h'' s.heap.objs.size (.tup [.ref q, v]) :=
      ⟨by show 2 ≤ sizeLine; decide, [en.key, en.val], .cons hkey (.cons hv .nil), ⟨_, hT2, rfl, _, rfl⟩⟩
    have I1 : Inv X pins σ (upd H s.heap.objs.size (.tup [.ref q, v])) { s with heap := h'' } :=
      I.turnedNew (t' := s.toks) (ch := [it]) (fun b ob hb e => (sb.2 b (by simpa using hb)).trans (hk b ob (by simpa using hb) e)) hf (Nat.le_refl _) new
    refine ⟨.ref s.heap.objs.size, _, I1, rfl, ⟨_, k, v, q, hkv, rfl, I.hok.fresh (Nat.le_refl _), hq, rfl⟩, ⟨en.key, en.val, ?_⟩, fun b hb => ?_⟩
    · rw [← hsz]; exact he'
    · have e : b = it := by simpa using hb
      rw [e, upd_ne (Nat.ne_of_lt hlt)]
      exact (hf it (by simp)).1
  done := by
    intro X hP hw hK hc i pins s σ H E I hf st hg
    subst hP hw hK
    obtain ⟨hd, hi⟩ := hg
    obtain ⟨f0, f1, f2, f3, f4, f5⟩ := hf it (by simp)
    obtain ⟨hs, hgd, hx, es', ep', hdt, hsz, ent⟩ := I.frzT2 hd
    obtain ⟨rfl, rfl⟩ := dict_ep hod hdt
    obtain ⟨ok, ov, he⟩ := st
    rw [← hsz] at he
    exact DT.endI (I.ok.hd hc) he ⟨o, hgd, hx, hdt⟩ (by omega) fun h' eb => ⟨rfl, I.turned (t' := s.toks) (fun b ob hb e => eb b ob hb e) f0 f1 f3 f4 f5⟩
  self := fun A i s Q E st h => let ⟨_, _, e⟩ := st; PySem.W.kcp_self e h
end
def iItemsT (td : TE) : TI := fun σ H R => td σ H fun x H1 => ∃ d o kvs, x = .ref d ∧ H1 d = some (.frz o (.dT kvs)) ∧ R (Itit d o kvs) H1
section
variable {X : Cx} {tg e : Expr} {td : TE} {apos cpos : Pos}
theorem pi_itemsT {elts : List Expr} {kk : Nat} {tpos : Pos} (he : PE X e td) (hbase : attributeBase e "items" X.env (eval e X.env) = eval e X.env := by rfl) (hline : (apos.endLine == cpos.line) = true := by rfl) :
    PI X (.Tuple elts kk tpos) (.Call (.Attribute e "items" apos) [] [] cpos) (iItemsT td) := by
  refine ⟨fun pins s σ H R I h => ?_⟩
  refine wpAny_Call_method (T := "dict") (id := "dict.items") hbase rfl hline F.plainAttrs_dict F.slot_dict_items F.type_dict_items (thn (he.run pins s σ H _ I h) fun u s1 ⟨x, H1, I1, rx, d, o, kvs, ex, hd, q⟩ => ?_)
  subst ex
  obtain rfl : u = Value.ref d := rx
  obtain ⟨hs, hgd, hx, es, ep, hdt, hsz, ent⟩ := I1.frzT2 hd
  have raw : DT.Raw s1.heap d es ep := ⟨o, hgd, hx, hdt⟩
  refine ⟨raw.typeIs, ?_, ?_⟩
  · exact fun a e => by
      cases e
      exact ⟨o, hgd, hx.2.1⟩
  have I2 : Inv X pins σ H1 { s1 with heap := s1.heap.push { cls := .type "dict_items", data := .fields #[.ref d] } } := I1.kept (t' := s1.toks) fun b ob q => Heap.get?_push_of_some _ q
  have fin : wpAny (model X.prog X.w) X.A (pyIter (.ref s1.heap.objs.size)) (PIE X pins σ (.Tuple elts kk tpos) R) X.xe { s1 with heap := s1.heap.push { cls := .type "dict_items", data := .fields #[.ref d] } } := by
    refine DT.iterI (d := d) ⟨_, Heap.get?_push_size _ rfl, rfl, rfl⟩ (raw.push _) (pi_one (tk := s1.toks) I2 _ (turn_itemsT _ hdt) ⟨.none, .none, ?_⟩ q)
    rw [← hsz]
    exact Heap.get?_push_size _ rfl
  show wpAny _ _ (callWith cpos (.builtin "dict.items") [.ref d] [] []) _ X.xe s1
  exact method_meetsIn F.slot_dict_items F.entry_dict_items rfl (PySem.evalArgs_none ⟨rfl, raw.typeIs, F.args_dict_items_1 _, _, DT.meetsItems (es := es) (ep := ep) hs, raw, fin⟩)
end
end L2
namespace PL
open PySem PySem.Spec PyProof.Rows L2
/-! ### a frozen dict is set aside -/
def rmF (F : Hp) (a : Addr) : Hp := fun b => if b = a then none else F b
theorem rmF_ne {F : Hp} {a b : Addr} (h : b ≠ a) : rmF F a b = F b := if_neg h
theorem rmF_some {F : Hp} {a b : Addr} {o : HO} (h : rmF F a b = some o) : b ≠ a ∧ F b = some o := by
  unfold rmF at h
  split at h
  · cases h
  · rename_i q
    exact ⟨q, h⟩
section
variable {F : Hp} {a0 : Addr} {kv0 : List (List Key × V)} (e0 : F a0 = some (.dT kv0))
mutual
theorem Rp.rm (e0 : F a0 = some (.dT kv0)) : ∀ {v : V} {d : D}, Rp F v d → d.hasDict = false → Rp (rmF F a0) v d
  | _, _, .non, _ => .non
  | _, _, .bl b, _ => .bl b
  | _, _, .int i, _ => .int i
  | _, _, .str x h, _ => .str x h
  | _, _, .lst h r, e => .lst (by rw [rmF_ne fun z => by rw [z, e0] at h; cases h]; exact h) (RpA.rm e0 r (by simpa [PyData.hasDict] using e))
  | _, _, .tup h r, e => .tup (by rw [rmF_ne fun z => by rw [z, e0] at h; cases h]; exact h) (RpA.rm e0 r (by simpa [PyData.hasDict] using e))
  | _, _, .dk _ _, e => by simp [PyData.hasDict] at e
  | _, _, .fz _ _, e => by simp [PyData.hasDict] at e
  | _, _, .dt _ _, e => by simp [PyData.hasDict] at e
theorem RpA.rm (e0 : F a0 = some (.dT kv0)) : ∀ {vs : List V} {ds : List D}, RpA F vs ds → PyData.hasDictAll ds = false → RpA (rmF F a0) vs ds
  | _, _, .nil, _ => .nil
  | _, _, .cons h r, e => by
    simp only [PyData.hasDictAll, Bool.or_eq_false_iff] at e
    exact .cons (Rp.rm e0 h e.1) (RpA.rm e0 r e.2)
end
def noDictV (ds : List (D × D)) : Prop := ∀ p ∈ ds, p.2.hasDict = false
theorem RpK.rm (e0 : F a0 = some (.dT kv0)) : ∀ {kvs : List (Key × V)} {ds : List (D × D)}, RpK F kvs ds → noDictV ds → RpK (rmF F a0) kvs ds
  | _, _, .nil, _ => .nil
  | _, _, .cons h r, e => .cons (h.rm e0 (e _ List.mem_cons_self)) (RpK.rm e0 r fun p hp => e p (List.mem_cons_of_mem _ hp))
theorem RpT.rm (e0 : F a0 = some (.dT kv0)) : ∀ {kvs : List (List Key × V)} {ds : List (D × D)}, RpT F kvs ds → noDictV ds → RpT (rmF F a0) kvs ds
  | _, _, .nil, _ => .nil
  | _, _, .cons h r, e => .cons (h.rm e0 (e _ List.mem_cons_self)) (RpT.rm e0 r fun p hp => e p (List.mem_cons_of_mem _ hp))
end
def oNoD : O → Prop
  | .l ds => PyData.hasDictAll ds = false
  | .k ds => noDictV ds
  | .t ds => noDictV ds
  | .dp _ => False
def slNoD : Sl → Prop
  | .sh d => d.hasDict = false
  | .ow o => oNoD o
  | _ => True
def allNoD : Ev → Prop
  | [] => True
  | s :: r => slNoD s ∧ allNoD r
/-- no slot but i holds a dict -/
def maskOk : Nat → Ev → Prop
  | _, [] => True
  | 0, _ :: r => allNoD r
  | i + 1, s :: r => slNoD s ∧ maskOk i r
theorem allNoD_get : ∀ {Γ : Ev} {j : Nat} {s : Sl}, allNoD Γ → Γ[j]? = some s → slNoD s
  | [], _, _, _, e => by simp at e
  | s :: r, 0, _, h, e => by
    simp at e
    subst e
    exact h.1
  | s :: r, j + 1, _, h, e => allNoD_get h.2 (by simpa using e)
theorem maskOk_get : ∀ {Γ : Ev} {i j : Nat} {s : Sl}, maskOk i Γ → j ≠ i → Γ[j]? = some s → slNoD s
  | [], _, _, _, _, _, e => by simp at e
  | s :: r, 0, 0, _, _, n, _ => absurd rfl n
  | s :: r, 0, j + 1, _, h, _, e => allNoD_get (show allNoD r from h) (by simpa using e)
  | s :: r, i + 1, 0, _, h, _, e => by
    simp at e
    subst e
    exact h.1
  | s :: r, i + 1, j + 1, _, h, n, e => maskOk_get (show maskOk i r from h.2) (fun z => n (congrArg (· + 1) z)) (by simpa using e)
/-- the body's environment: the dict at slot i is locked -/
def pairsD (ds : List (D × D)) : List D := ds.map fun p => .tuple [p.1, p.2]
def keyOkD : D → Prop
  | .tuple ks => ∀ k ∈ ks, (match k with
    | .str x => PyData.strOk x = true
    | _ => True)
  | _ => True
def qForIt (i : Nat) (g : QG) (t : QS) : QS := fun P Γ => match Γ[i]? with
  | some (.sh (.dict ds)) => kindOf ds = some true ∧ maskOk i Γ ∧ noDictV ds ∧ (∀ p ∈ ds, keyOkD p.1) ∧ ∀ a : Addr,
      forGo g t { nx := fun Γ' => Γ'[i]? = some (.ex a) ∧ P.nx (Γ'.set i (.sh (.dict ds))), rt := fun _ _ => False, bk := fun _ => False, ct := fun _ => False, ex := noEX } (pairsD ds) (Γ.set i (.ex a))
  | _ => False
section
variable {B F F2 : Hp} {Γ Γ' : Ev} {σ σ' : L2.St} {H H2 : Hp} {fp fp' : Nat → List Addr} {i : Nat} {ad : Addr} {od : Obj} {kvs : List (List Key × V)} {ds : List (D × D)}
theorem upd_some {F : Hp} {a b : Addr} {o u : HO} (h : upd F a o b = some u) : (b = a ∧ u = o) ∨ (b ≠ a ∧ F b = some u) := by
  by_cases e : b = a
  · subst e
    rw [upd_same] at h
    cases h
    exact .inl ⟨rfl, rfl⟩
  · rw [upd_ne e] at h
    exact .inr ⟨e, h⟩
theorem RO.rm {v : V} {o : O} {f : List Addr} {H' : Hp} (e0 : F ad = some (.dT kvs)) (r : RO F H v o f) (n : oNoD o) (hc : ∀ a ∈ f, H' a = H a) : RO (rmF F ad) H' v o f := by
  cases r with
  | l h r => exact .l (by rw [hc _ (by simp)]; exact h) (RpA.rm e0 r n)
  | k h r => exact .k (by rw [hc _ (by simp)]; exact h) (RpK.rm e0 r n)
  | t h r => exact .t (by rw [hc _ (by simp)]; exact h) (RpT.rm e0 r n)
  | dp _ _ => exact n.elim
theorem Rel.lockD (r : Rel B F Γ σ H fp) (hv : σ[i]? = some (some (.ref ad))) (e0 : F ad = some (.dT kvs)) (hm : maskOk i Γ) :
    Rel (upd B ad (.frz od (.dT kvs))) (rmF F ad) (Γ.set i (.ex ad)) σ (upd H ad (.frz od (.dT kvs))) fp := by
  have ne : ∀ j a, a ∈ fp j → a ≠ ad := fun j a ha z => by
    have := (r.nb j a ha).2.1
    rw [z, e0] at this
    cases this
  refine ⟨fun c o q => ?_, fun c o q => ?_, by rw [List.length_set]; exact r.len, fun j d q => ?_, fun j o q => ?_, fun j a ha => ?_, r.dj, fun j c q => ?_⟩
  · rcases upd_some q with ⟨rfl, rfl⟩ | ⟨h, q⟩
    · exact upd_same
    · rw [upd_ne h]
      exact r.bx c o q
  · obtain ⟨h, q⟩ := rmF_some q
    rw [upd_ne h]
    exact r.fx c o q
  · rcases set_get q with ⟨_, h⟩ | ⟨h, q⟩
    · cases h
    · obtain ⟨v, g1, g2⟩ := r.sh j d q
      exact ⟨v, g1, g2.rm e0 (maskOk_get hm (fun z => h z.symm) q)⟩
  · rcases set_get q with ⟨_, h⟩ | ⟨h, q⟩
    · cases h
    · obtain ⟨v, g1, g2⟩ := r.ow j o q
      exact ⟨v, g1, g2.rm e0 (maskOk_get hm (fun z => h z.symm) q) fun a ha => upd_ne (ne j a ha)⟩
  · obtain ⟨b, c, d⟩ := r.nb j a ha
    have h := ne j a ha
    exact ⟨by rw [upd_ne h]; exact b, by rw [rmF_ne h]; exact c, by rw [upd_ne h]; exact d⟩
  · rcases set_get q with ⟨rfl, h⟩ | ⟨h, q⟩
    · cases h
      exact hv
    · exact r.ex j c q
theorem Rel.unlockD (r : Rel B F Γ σ H fp) (e0 : F ad = some (.dT kvs)) (t : RpT F kvs ds) (x : Ext (upd B ad (.frz od (.dT kvs))) (rmF F ad) F2)
    (r2 : Rel (upd B ad (.frz od (.dT kvs))) F2 Γ' σ' H2 fp') (e : Γ'[i]? = some (.ex ad)) :
    Ext B F (upd F2 ad (.dT kvs)) ∧ Rel B (upd F2 ad (.dT kvs)) (Γ'.set i (.sh (.dict ds))) σ' (upd H2 ad (.dT kvs)) fp' := by
  have hH : H2 ad = some (.frz od (.dT kvs)) := r2.bx _ _ upd_same
  have hn : F2 ad = none := by
    cases q : F2 ad with
    | none => rfl
    | some u =>
      rcases x.new ad (by rw [q]; exact fun z => nomatch z) (if_pos rfl) with z | ⟨xs, z⟩
      · rw [upd_same] at z
        cases z
      · have := r2.fx _ _ z
        rw [hH] at this
        cases this
  have s2 : Same F2 (upd F2 ad (.dT kvs)) := fun c o q => by
    rw [upd_ne fun z => by rw [z, hn] at q; cases q]
    exact q
  have s0 : Same F (upd F2 ad (.dT kvs)) := fun c o q => by
    by_cases h : c = ad
    · subst h
      rw [e0] at q
      cases q
      exact upd_same
    · exact s2 c o (x.same c o (by rw [rmF_ne h]; exact q))
  have ne : ∀ j a, a ∈ fp' j → a ≠ ad := fun j a ha z => by
    have := (r2.nb j a ha).1
    rw [z, upd_same] at this
    cases this
  refine ⟨⟨s0, fun c q z => ?_⟩, ⟨fun c o q => ?_, fun c o q => ?_, by rw [List.length_set]; exact r2.len, fun j d q => ?_, fun j o q => ?_, fun j a ha => ?_, r2.dj, fun j c q => ?_⟩⟩
  · have h : c ≠ ad := fun h => by rw [h, e0] at z; cases z
    rw [upd_ne h] at q ⊢
    rcases x.new c q (by rw [rmF_ne h]; exact z) with z | z
    · rw [upd_ne h] at z
      exact .inl z
    · exact .inr z
  · by_cases h : c = ad
    · subst h
      have := r.bx _ _ q
      rw [r.fx _ _ e0] at this
      cases this
      exact upd_same
    · rw [upd_ne h]
      exact r2.bx c o (by rw [upd_ne h]; exact q)
  · rcases upd_some q with ⟨rfl, rfl⟩ | ⟨h, q⟩
    · exact upd_same
    · rw [upd_ne h]
      exact r2.fx c o q
  · rcases set_get q with ⟨rfl, h⟩ | ⟨h, q⟩
    · cases h
      exact ⟨_, r2.ex i ad e, .dt upd_same (t.mono s0)⟩
    · obtain ⟨v, g1, g2⟩ := r2.sh j d q
      exact ⟨v, g1, g2.mono s2⟩
  · rcases set_get q with ⟨_, h⟩ | ⟨h, q⟩
    · cases h
    · obtain ⟨v, g1, g2⟩ := r2.ow j o q
      exact ⟨v, g1, g2.mono s2 fun a ha => upd_ne (ne j a ha)⟩
  · obtain ⟨b, c, d⟩ := r2.nb j a ha
    have h := ne j a ha
    rw [upd_ne h] at b
    exact ⟨b, by rw [upd_ne h]; exact c, by rw [upd_ne h]; exact d⟩
  · rcases set_get q with ⟨_, h⟩ | ⟨_, q⟩
    · cases h
    · exact r2.ex j c q
theorem RpT.get {kvs : List (List Key × V)} {ds : List (D × D)} (t : RpT F kvs ds) : ∀ {j : Nat} {k : List Key} {v : V}, kvs[j]? = some (k, v) → ∃ d, ds[j]? = some (.tuple (k.map keyD), d) ∧ Rp F v d := by
  induction kvs generalizing ds with
  | nil => intro j k v e; simp at e
  | cons p r ih =>
    intro j k v e
    cases j with
    | zero =>
      obtain rfl : p = (k, v) := by simpa using e
      cases t with
      | cons h t => exact ⟨_, rfl, h⟩
    | succ j =>
      cases t with
      | cons h t => exact ih t (by simpa using e)
theorem rp_keys {F : Hp} : ∀ (ks : List Key), keyOkD (.tuple (ks.map keyD)) → RpA F (ks.map kV) (ks.map keyD)
  | [], _ => .nil
  | .inl n :: r, h => .cons (.int n) (rp_keys r fun k hk => h k (List.mem_cons_of_mem _ hk))
  | .inr x :: r, h => .cons (.str x (h (.str x) (by simp [keyD]))) (rp_keys r fun k hk => h k (List.mem_cons_of_mem _ hk))
/-- a tuple of the heap becomes frozen -/
theorem Rel.frzTup (r : Rel B F Γ σ H fp) {q : Addr} {xs : List V} (h : H q = some (.tup xs)) : ∃ F' fp', Ext B F F' ∧ Rel B F' Γ σ H fp' ∧ F' q = some (.tup xs) := by
  cases e : F q with
  | some o =>
    have := r.fx _ _ e
    rw [h] at this
    cases this
    exact ⟨F, fp, .refl, r, e⟩
  | none =>
    have hf : ∀ a ∈ [q], F a = none ∧ ∀ i, a ∉ normF Γ fp i := fun a ha => by
      have : a = q := by simpa using ha
      subst this
      exact ⟨e, fun i hi => r.no_tup hi xs h⟩
    refine ⟨frz F H [q], normF Γ fp, ⟨frz_same fun a ha => (hf a ha).1, fun a z z2 => ?_⟩, r.norm.freeze hf, by unfold frz; rw [if_pos (by simp)]; exact h⟩
    unfold frz at z ⊢
    split at z
    · rename_i hm
      have : a = q := by simpa using hm
      subst this
      rw [if_pos hm]
      exact .inr ⟨xs, h⟩
    · exact absurd z2 z
end
section
variable {X : Cx} {W : WX} {pos : Pos} {ts : TS} {ps : QS}
theorem ds_forIt (i : Nat) {x : Str} {px apos cpos tpos : Pos} {elts : List Expr} {kk : Nat} {body : List Stmt} {g : TG} {qg : QG} {js : List Nat} (hp : PassesOwn (model X.prog X.w) X.A X.env X.xe) (hc : X.calm = true)
    (hg : DG X (.Tuple elts kk tpos) g qg js) (hb : DSs X W body ts ps) (hN : X.N[i]? = some x := by rfl) (hvis : Vis X.env.scope x := by first | exact Or.inl rfl | exact Or.inr (Or.inl rfl) | exact Or.inr (Or.inr rfl)) (hd : (x == ("__debug__" : Str)) = false := by decide)
    (hcd : (x == ("__classdict__" : Str)) = false := by decide) (hbase : attributeBase (.Name x px) "items" X.env (eval (.Name x px) X.env) = eval (.Name x px) X.env := by rfl) (hline : (apos.endLine == cpos.line) = true := by rfl)
    (hs : ∀ y, foldedSetIterable (.Call (.Attribute (.Name x px) "items" apos) [] [] cpos) X.env y = pure y := by intro _; rfl) :
    DS X W (.For (.Tuple elts kk tpos) (.Call (.Attribute (.Name x px) "items" apos) [] [] cpos) body [] pos) (tLock (tFor (iItemsT (tVar i)) g ts)) (qForIt i qg ps) :=
  ⟨ps_lock (ps_for hp hc (pi_itemsT (pe_var hN hvis hd hcd) hbase hline) hg.pg hb.ps hs), fun {B F Γ σ H fp} P D r q a => by
  unfold qForIt at q
  split at q
  · rename_i ds e
    obtain ⟨hk, hm, hnd, hok, hq⟩ := q
    obtain ⟨v, hv, hr⟩ := r.sh i _ e
    obtain ⟨ad, kvs, rfl, e0, t⟩ : ∃ ad kvs, v = .ref ad ∧ F ad = some (.dT kvs) ∧ RpT F kvs ds := by
      cases hr with
      | @dk a kvs ds e1 t =>
        cases t with
        | nil => cases hk
        | cons h r =>
          simp only [kindOf, keyK_D, if_true] at hk
          cases hk
      | @dt a kvs ds e1 t => exact ⟨a, kvs, rfl, e1, t⟩
      | fz e1 t => cases hk
    refine ⟨ad, .dT kvs, r.fx _ _ e0, trivial, fun od => ?_⟩
    refine ⟨.ref ad, hv, ad, od, kvs, rfl, upd_same, ?_⟩
    have hq := hq ad
    generalize hPP : ({ nx := fun Γ' => Γ'[i]? = some (.ex ad) ∧ P.nx (Γ'.set i (.sh (.dict ds))), rt := fun _ _ => False, bk := fun _ => False, ct := fun _ => False, ex := noEX } : PEnds) = PP at hq
    have r1 : Rel (upd B ad (.frz od (.dT kvs))) (rmF F ad) (Γ.set i (.ex ad)) σ (upd H ad (.frz od (.dT kvs))) fp := r.lockD hv e0 hm
    have hlen : kvs.length = ds.length := t.length
    refine ⟨fun k m σ' H' => m + k = ds.length ∧ ∃ Γ' F' fp', Ext (upd B ad (.frz od (.dT kvs))) (rmF F ad) F' ∧ Rel (upd B ad (.frz od (.dT kvs))) F' Γ' σ' H' fp' ∧ forGo qg ps PP ((pairsD ds).drop k) Γ', ⟨ds.length, rfl, _, rmF F ad, fp, .refl, r1, hq⟩, ?_⟩
    rintro k m σ' H' ⟨hmk, Γ', F', fp', x, r', hf⟩
    have hd' : H' ad = some (.frz od (.dT kvs)) := r'.bx _ _ upd_same
    by_cases hlt : k < ds.length
    · refine .inr ⟨⟨hd', by omega⟩, fun σ2 H2 => ∃ m', m' < m ∧ (m' + (k + 1) = ds.length ∧ ∃ Γ' F' fp', Ext (upd B ad (.frz od (.dT kvs))) (rmF F ad) F' ∧ Rel (upd B ad (.frz od (.dT kvs))) F' Γ' σ2 H2 fp' ∧ forGo qg ps PP ((pairsD ds).drop (k + 1)) Γ'), fun σ2 H2 h => h, fun y H2 hy => ?_⟩
      obtain ⟨T, ky, v, q, hkv, rfl, hT, hq2, rfl⟩ := hy
      obtain ⟨d, hd2, hv2⟩ := t.get hkv
      obtain ⟨F1, fp1, x1, r1', hF1⟩ := r'.frzTup hq2
      obtain ⟨x2, r2⟩ := r1'.newF (o := .tup [.ref q, v]) hT
      have hmem := List.mem_of_getElem? hd2
      have hv3 : Rp (rmF F ad) v d := hv2.rm e0 (hnd _ hmem)
      have b2 : Rp (upd F1 T (.tup [.ref q, v])) (.ref T) (.tuple [.tuple (ky.map keyD), d]) :=
        .tup upd_same (.cons (.tup (x2.same _ _ hF1) (rp_keys ky (hok _ hmem))) (.cons (((hv3.mono x.same).mono x1.same).mono x2.same) .nil))
      have hlt2 : k < (pairsD ds).length := by simpa [pairsD] using hlt
      have hpk : (pairsD ds)[k] = .tuple [.tuple (ky.map keyD), d] := by
        obtain ⟨l1, l2⟩ := List.getElem?_eq_some_iff.mp hd2
        simp [pairsD, l2]
      rw [List.drop_eq_getElem_cons hlt2, hpk] at hf
      refine hg.sg _ _ r2 (.sh b2) hf fun Γ3 F3 σ3 fp3 x3 r3 _ h3 => ?_
      have xx := ((x.trans x1).trans x2).trans x3
      subst hPP
      refine hb.ss _ _ r3 h3 ⟨fun Γ4 F4 σ4 H4 fp4 x4 r4 h4 => ⟨m - 1, by omega, by omega, Γ4, F4, fp4, xx.trans x4, r4, h4⟩, fun _ _ _ _ _ _ _ _ _ _ z => z.elim, fun Γ4 F4 σ4 H4 fp4 x4 r4 h4 => ?_, fun Γ4 F4 σ4 H4 fp4 x4 r4 h4 => ⟨m - 1, by omega, by omega, Γ4, F4, fp4, xx.trans x4, r4, h4⟩, fun _ _ _ _ _ _ _ _ z => z.elim⟩
      obtain ⟨y3, r5⟩ := r.unlockD e0 t (xx.trans x4) r4 h4.1
      exact ⟨r4.bx _ _ upd_same, a.nx _ _ σ4 _ fp4 y3 r5 h4.2⟩
    · refine .inl ⟨⟨hd', by omega⟩, ?_⟩
      rw [List.drop_of_length_le (by simp [pairsD]; omega)] at hf
      subst hPP
      obtain ⟨y3, r5⟩ := r.unlockD e0 t x r' hf.1
      exact ⟨hd', a.nx _ _ σ' _ fp' y3 r5 hf.2⟩
  · exact q.elim⟩
end
end PL

namespace L2
open PySem PySem.Spec PyProof.Rows
/-! ### {k: v}, the key a tuple -/
def tDispT (tk tv : TE) : TE := fun σ H Q => ∀ p, H p = none → tk σ (upd H p (.dT [])) fun x H1 => tv σ H1 fun y H2 => H2 p = some (.dT []) ∧ ∃ (b : Addr) (ks : List Key), x = .ref b ∧ H2 b = some (.tup (ks.map kV)) ∧ Q (.ref p) (upd H2 p (.dT [(ks, y)]))
theorem wp_disp {prog : Program} {w : World} {K : Type} [DecidableEq K] {knd : HeapKind prog w K} {A : Around} {E : Value → Shared → Prop} {s : Shared} {env : Env} {keys : List (Option Expr)} {values : List Expr} {pos : Pos} {Q : Value → Shared → Prop} (hu : knd.room A)
    (hall : keys.all (·.isSome) = true) (hl : keys.length = values.length) (h0 : keys ≠ []) (hlen : keys.length ≤ 15)
    (h : wpAny (model prog w) A (evalPairs (pairTrees keys values env pos)) (fun vs s₁ => ∃ ps, CarriesH knd s₁.heap vs ps ∧ s₁.heap.DictOfH knd s.heap.objs.size [] ∧
      ∀ h' tk, h'.DictOfH knd s.heap.objs.size (storedAllH [] ps) → Heap.SameBut s.heap.objs.size s₁.heap h' → Q (.ref s.heap.objs.size) { s₁ with heap := h', toks := tk }) E
      { s with heap := s.heap.push { cls := .type "dict", data := .dict #[] } }) :
    wpAny (model prog w) A (eval (.Dict keys values pos) env) Q E s := by
  have hn := pairTrees_length keys values env pos hall hl
  have h1 : pairTrees keys values env pos ≠ [] := fun he => by
    rw [he] at hn
    exact h0 (List.length_eq_zero_iff.mp hn.symm)
  rw [arm_eval_Dict, zip_pairTrees keys values env pos hall hl, dictDisplay_pairs _ h1 (by omega)]
  exact wpAny_bind (wpAny_standAt (wpAny_bind (wpAny_subDictH (knd := knd) (Q := fun d s' => wpAny (model prog w) A (pure (Value.ref d)) Q E s') hu (by omega)
    (wpAny_mono h (fun vs s₁ h₁ => by obtain ⟨ps, hc, hm, hq⟩ := h₁; exact ⟨ps, hc, hm, fun h' tk a b => wpAny_pure (hq h' tk a b)⟩) fun _ _ e => e))))
theorem pe_dispT {X : Cx} {pos : Pos} {k v : Expr} {tk tv : TE} (hu : X.A.units + 1 < cLine) (hk : PE X k tk) (hv : PE X v tv) : PE X (.Dict [some k] [v] pos) (tDispT tk tv) := by
  refine ⟨fun pins s σ H Q I q => ?_⟩
  have hn := I.hok.fresh (Nat.le_refl s.heap.objs.size)
  have I1 := I.laid (a := s.heap.objs.size) (o := .dT []) (h' := s.heap.push { cls := .type "dict", data := .dict #[] }) (t' := s.toks) (fun _ _ q => Heap.get?_push_of_some _ q) (Nat.le_refl _) (dt_empty s.heap I.big)
  have room : (tupleKind (mixKind X.prog X.w)).room X.A := (show X.A.units < cLine from by omega)
  refine wp_disp (knd := tupleKind (mixKind X.prog X.w)) room rfl rfl (fun z => nomatch z) (by decide : 1 ≤ 15) ?_
  refine pairTrees_cons_walk (thn (hk.run pins _ σ _ _ I1 (q _ hn)) fun u s1 ⟨x, H1, I2, rx, q1⟩ => thn (hv.run pins s1 σ H1 _ I2 q1) fun w s2 ⟨y, H2, I3, ry, q2⟩ => pairTrees_nil_walk ?_)
  obtain ⟨e, b, ks, rfl, eb, q3⟩ := q2
  obtain rfl : u = Value.ref b := rx
  obtain ⟨z, hd, xs, r0, dd⟩ := dt_of I3.hok e
  cases r0
  refine ⟨[(ks, b, w)], ⟨rfl, rfl, key_of I3.hok eb, trivial⟩, dd, fun h' tk dd' hs => ⟨.ref s.heap.objs.size, _, ?_, rfl, q3⟩⟩
  obtain ⟨q, es, ep, hq, h2, h3, h4, _, h5⟩ := dd'
  refine d_write I3 (by rw [e]; exact True.intro) hs ⟨q, hq⟩ ⟨by show 1 ≤ sizeLine; decide, hd, [(ks, b, w)], .cons ⟨rfl, ?_, ry⟩ .nil, q, es, ep, hq, h2, h3, h4, h5⟩
  rw [upd_ne (ne_of eb e (fun z => nomatch z))]
  exact eb
end L2
namespace PL
open PySem PySem.Spec PyProof.Rows L2
section
variable {B F : Hp} {Γ : Ev} {σ : L2.St} {H : Hp} {fp : Nat → List Addr}
/-- a cell that nothing else holds is written -/
theorem Rel.free {p : Addr} {o : HO} (r : Rel B F Γ σ H fp) (hb : B p = none) (hF : F p = none) (hf : ∀ i, p ∉ fp i) : Rel B F Γ σ (upd H p o) fp :=
  ⟨fun a u e => by
    rw [upd_ne fun z => by rw [z, hb] at e; cases e]
    exact r.bx a u e, fun a u e => by
    rw [upd_ne fun z => by rw [z, hF] at e; cases e]
    exact r.fx a u e, r.len, r.sh, fun i o' e => by
    obtain ⟨v, h1, h2⟩ := r.ow i o' e
    refine ⟨v, h1, h2.mono (Same.refl F) fun a ha => upd_ne fun z => hf i (z ▸ ha)⟩, fun i a ha => by
    obtain ⟨b, c, d⟩ := r.nb i a ha
    refine ⟨b, c, ?_⟩
    have n : a ≠ p := fun z => hf i (z ▸ ha)
    rw [upd_ne n]
    exact d, r.dj, r.ex⟩
end
section
variable {X : Cx} {W : WX} {pos p : Pos} {a b c e f : Expr} {ta tb tc te tf : TE} {pa pb pc pe pf : QE}
def qDispT (pk pv : QE) : QE := fun Γ R E => pk Γ (fun w1 Γ1 => shr w1 Γ1 fun k Γ2 => keyT k = true ∧ pv Γ2 (fun w2 Γ3 => shr w2 Γ3 fun d Γ4 => R (.ow (.t [(k, d)])) Γ4) E) E
theorem d_dispT {j : Nat} (hr : Room j X.A) (ha : DE X W a ta pa) (hb : DE X W b tb pb) : DE X W (.Dict [some a] [b] pos) (tDispT ta tb) (qDispT pa pb) := ⟨pe_dispT (hu_of hr) ha.pe hb.pe, fun {B F Γ σ H fp} R EX Q r q k0 ex p hp => by
  obtain ⟨r0, v0⟩ := new_t r hp
  obtain ⟨B', r1, g⟩ := r0.guard v0
  refine ha.se _ EX _ r1 q (fun w1 Γ1 x F1 H1 fp1 x1 r1 v1 h1 => ?_) (fun c Γ' F' H' fp' x2 r2 q => ?_)
  · obtain ⟨d, Γ2, F2, fp2, x2, r2, b2, hk, h2⟩ := shr_ok r1 v1 h1
    refine hb.se _ EX _ r2 h2 (fun w2 Γ3 y F3 H3 fp3 x3 r3 v3 h3 => ?_) (fun c Γ' F' H' fp' x3 r3 q => ?_)
    · obtain ⟨d2, Γ4, F4, fp4, x4, r4, b4, h4⟩ := shr_ok r3 v3 h3
      obtain ⟨xx, r5, v5, _⟩ := g F4 Γ4 H3 fp4 (((x1.trans x2).trans x3).trans x4) r4
      cases v5 with
      | @ow o f0 hro hfree =>
        cases hro with
        | @t a kvs ds e1 t =>
          cases t
          obtain ⟨f1, f2, f3⟩ := hfree p (by simp)
          have bk : Rp F4 x d := (b2.mono x3.same).mono x4.same
          have b4' : Rp F4 y d2 := b4
          obtain ⟨bq, ks, rfl, e4, rfl⟩ := bk.keyT hk
          refine ⟨e1, bq, ks, rfl, r5.fx _ _ e4, ?_⟩
          refine k0 _ Γ4 _ F4 _ fp4 xx (r5.free f1 f2 f3) (.ow (f := [p]) (.t upd_same (.cons b4' .nil)) fun a ha => ?_) h4
          simp only [List.mem_singleton] at ha
          subst ha
          exact ⟨f1, f2, f3⟩
    · obtain ⟨xx, r5, _, _⟩ := g F' Γ' H' fp' ((x1.trans x2).trans x3) r3
      exact ex c Γ' F' H' fp' xx r5 q
  · obtain ⟨xx, r5, _, _⟩ := g F' Γ' H' fp' x2 r2
    exact ex c Γ' F' H' fp' xx r5 q⟩
/-- d.get(k, x) -/
def qGet2 (pd py px : QE) : QE := fun Γ R E => pd Γ (fun w1 Γ1 => (dic w1 Γ1).isSome = true ∧ py Γ1 (fun w2 Γ2 => shr w2 Γ2 fun dk Γ3 => px Γ3 (fun w3 Γ4 => shr w3 Γ4 fun dx Γ5 => dget w1 Γ5 dk fun o => R (.sh (o.getD dx)) Γ5) E) E) E
theorem d_get2 {j : Nat} {apos : Pos} (hr : Room j X.A) (ha : DE X W a ta pa) (hb : DE X W b tb pb) (hc : DE X W c tc pc) (m : M2 X a "get" apos b c pos := by exact ⟨rfl, rfl, rfl, rfl⟩) : DE X W (.Call (.Attribute a "get" apos) [b, c] [] pos) (tDGet2 ta tb tc) (qGet2 pa pb pc) := ⟨pe_dget2 (hu_of hr) ha.pe hb.pe hc.pe m, fun {B F Γ σ H fp} R EX Q rr h k e => by
  refine ha.se _ EX _ rr h (fun w1 Γ1 x F1 H1 fp1 x1 r1 v1 h1 => ?_) e
  obtain ⟨hd, h1⟩ := h1
  obtain ⟨⟨bb, ds⟩, hd⟩ := Option.isSome_iff_exists.mp hd
  obtain ⟨a, rfl, d⟩ := dic_ok r1 v1 hd
  refine ⟨a, rfl, dic_isD d, ?_⟩
  obtain ⟨B', r1', g⟩ := r1.guard v1
  refine hb.se _ EX _ r1' h1 (fun w2 Γ2 y F2 H2 fp2 x2 r2 v2 h2 => ?_) fun c Γ' F' H' fp' x2 r2 q => ?_
  · obtain ⟨dk, Γ3, F3, fp3, x3, r3, b3, h3⟩ := shr_ok r2 v2 h2
    refine hc.se _ EX _ r3 h3 (fun w3 Γ4 z F4 H4 fp4 x4 r4 v4 h4 => ?_) fun c Γ' F' H' fp' x4 r4 q => ?_
    · obtain ⟨dx, Γ5, F5, fp5, x5, r5, b5, h5⟩ := shr_ok r4 v4 h4
      obtain ⟨xx, r6, v6, _⟩ := g F5 Γ5 H4 fp5 (((x2.trans x3).trans x4).trans x5) r5
      obtain ⟨a', o, e', _, gg, z'⟩ := dget_ok r6 v6 (((b3.mono x4.same).mono x5.same).rb r6.fx) h5
      cases e'
      refine ⟨o, gg, ?_⟩
      rcases z' with ⟨rfl, z'⟩ | ⟨u, x', rfl, hu, z'⟩
      · exact k _ Γ5 _ F5 H4 fp5 (x1.trans xx) r6 (.sh b5) z'
      · exact k _ Γ5 _ F5 H4 fp5 (x1.trans xx) r6 (.sh hu) z'
    · obtain ⟨xx, r6, _, _⟩ := g F' Γ' H' fp' ((x2.trans x3).trans x4) r4
      exact e c Γ' F' H' fp' (x1.trans xx) r6 q
  · obtain ⟨x3, r3, _, _⟩ := g F' Γ' H' fp' x2 r2
    exact e c Γ' F' H' fp' (x1.trans x3) r3 q⟩
/-- for x in reversed(range(n)) -/
def qiRev (p : QE) : QI := fun Γ R E => p Γ (fun w Γ1 => match w with
  | .sh (.int n) => 0 ≤ n ∧ n < 2 ^ 62 ∧ R ((List.range n.toNat).map fun (i : Nat) => .int (n - 1 - (i : Int))) Γ1
  | _ => False) E
theorem it_rangeC {F : Hp} (lo c : Int) (n : Nat) (f : Nat → D) (hf : ∀ i, f i = .int (lo + (i : Nat) * c)) : ItOk (Itc lo c n) F ((List.range n).map f) := fun B3 F3 Γ3 σ3 H3 fp3 s3 r3 i => by
  refine ⟨fun d hd => ?_, fun hi => show n ≤ i by simpa using hi⟩
  rw [List.getElem?_map] at hd
  have hi : i < n := by
    cases z : (List.range n)[i]? with
    | none =>
      rw [z] at hd
      cases hd
    | some c => simpa using (List.getElem?_eq_some_iff.mp z).1
  rw [List.getElem?_range hi] at hd
  refine ⟨hi, fun y H4 ⟨e4, ey⟩ => ?_⟩
  subst e4 ey
  have hd' : f i = d := Option.some.inj hd
  rw [← hd', hf]
  exact ⟨F3, .refl, r3, .int _⟩
theorem di_revR {tg : Expr} {p p2 pos2 : Pos} (hm : X.mg "reversed" = none) (hm2 : X.mg "range" = none) (ha : DE X W a ta pa) (hg : Gl X "reversed" := by rfl) (hg2 : Gl X "range" := by rfl) (na : starEach [a] X.env = (false, eval a X.env) :: starEach [] X.env := by rfl)
    (hs : starEach [(.Call (.Name "range" p2) [a] [] pos2)] X.env = (false, eval (.Call (.Name "range" p2) [a] [] pos2) X.env) :: starEach [] X.env := by rfl) :
    DI X W tg (.Call (.Name "reversed" p) [.Call (.Name "range" p2) [a] [] pos2] [] pos) (iRevR (tRg1 ta)) (qiRev pa) := ⟨pi_revR hg hm (prg_1 hg2 hm2 ha.pe na) hs, fun {B F Γ σ H fp} R EX Q r q k e => by
  refine ha.se _ _ _ r q (fun w Γ1 v F1 H1 fp1 x1 r1 v1 h1 => ?_) e
  split at h1
  · rename_i n
    obtain ⟨h2, h3, h4⟩ := h1
    cases v1 with
    | sh hv =>
      cases hv
      refine ⟨n, rfl, by omega, by omega, by omega, h3, ?_⟩
      have e1 : (n - 0).toNat = n.toNat := by rw [Int.sub_zero]
      rw [e1]
      refine k _ Γ1 _ F1 H1 fp1 x1 r1 (it_rangeC _ _ _ _ fun i => ?_) h4
      have : ((n.toNat : Nat) : Int) = n := Int.toNat_of_nonneg h2
      rw [this]
      congr 1
      omega
  · exact h1.elim⟩
/-- x += e -/
def rIAdd : R2 := fun x y H Q => L2.rAdd x y H Q ∨ rAddS x y H Q
theorem or_iadd : OpR X (inplaceOp .Add) rIAdd := OpR.or (fun pins s σ H x y v u Q I rx ry h => in_add pins s σ H x y v u Q I rx ry h) fun pins s σ H x y v u Q I rx ry h => in_addS pins s σ H x y v u Q I rx ry h
def opIAdd : OP2 := fun d1 d2 k => match d1, d2 with
  | .int i, .int j => k (.sh (.int (i + j)))
  | .str a, .str b => a.length + b.length ≤ sizeLine ∧ k (.sh (.str (a ++ b)))
  | _, _ => False
theorem os_iadd : OpS rIAdd opIAdd := fun {B F Γ σ H fp x y d1 d2} k Q r b1 b2 z c => by
  cases b1 with
  | int i =>
    cases b2 with
    | int j => exact .inl ⟨i, j, rfl, rfl, op_sc r (.int _) c z⟩
    | _ => exact z.elim
  | str a ha =>
    cases b2 with
    | str b hb => exact .inr ⟨a, b, rfl, rfl, z.1, op_sc r (.str _ (strOk_app ha hb)) c z.2⟩
    | _ => exact z.elim
  | _ => exact z.elim
end
end PL

namespace PL
open PySem PySem.Spec PyProof.Rows L2
/-! ### the data of a value are its own -/
theorem keyD_inj {a b : Key} (h : keyD a = keyD b) : a = b := by
  cases a <;> cases b <;> simp [keyD] at h <;> simp [h]
mutual
theorem Rp.func {H : Hp} : ∀ {v : V} {d d' : D}, Rp H v d → Rp H v d' → d = d'
  | _, _, _, .non, h => by cases h; rfl
  | _, _, _, .bl _, h => by cases h; rfl
  | _, _, _, .int _, h => by cases h; rfl
  | _, _, _, .str _ _, h => by cases h; rfl
  | _, _, _, .lst e r, h => by
    cases h with
    | lst e' r' =>
      rw [e] at e'
      cases e'
      rw [RpA.func r r']
    | tup e' _ => rw [e] at e'; cases e'
    | dk e' _ => rw [e] at e'; cases e'
    | dt e' _ => rw [e] at e'; cases e'
    | fz e' _ => rw [e] at e'; cases e'
  | _, _, _, .fz e r, h => by
    cases h with
    | fz e' r' =>
      rw [e] at e'
      cases e'
      rw [RpA.func r r']
    | tup e' _ => rw [e] at e'; cases e'
    | dk e' _ => rw [e] at e'; cases e'
    | dt e' _ => rw [e] at e'; cases e'
    | lst e' _ => rw [e] at e'; cases e'
  | _, _, _, .tup e r, h => by
    cases h with
    | tup e' r' =>
      rw [e] at e'
      cases e'
      rw [RpA.func r r']
    | fz e' _ => rw [e] at e'; cases e'
    | dk e' _ => rw [e] at e'; cases e'
    | dt e' _ => rw [e] at e'; cases e'
    | lst e' _ => rw [e] at e'; cases e'
  | _, _, _, .dk e r, h => by
    cases h with
    | dk e' r' =>
      rw [e] at e'
      cases e'
      rw [RpK.func r r']
    | fz e' _ => rw [e] at e'; cases e'
    | tup e' _ => rw [e] at e'; cases e'
    | dt e' _ => rw [e] at e'; cases e'
    | lst e' _ => rw [e] at e'; cases e'
  | _, _, _, .dt e r, h => by
    cases h with
    | dt e' r' =>
      rw [e] at e'
      cases e'
      rw [RpT.func r r']
    | fz e' _ => rw [e] at e'; cases e'
    | tup e' _ => rw [e] at e'; cases e'
    | dk e' _ => rw [e] at e'; cases e'
    | lst e' _ => rw [e] at e'; cases e'
theorem RpA.func {H : Hp} : ∀ {vs : List V} {ds ds' : List D}, RpA H vs ds → RpA H vs ds' → ds = ds'
  | _, _, _, .nil, h => by cases h; rfl
  | _, _, _, .cons h r, h' => by
    cases h' with
    | cons h1 r1 => rw [Rp.func h h1, RpA.func r r1]
theorem RpK.func {H : Hp} : ∀ {vs : List (Key × V)} {ds ds' : List (D × D)}, RpK H vs ds → RpK H vs ds' → ds = ds'
  | _, _, _, .nil, h => by cases h; rfl
  | _, _, _, .cons h r, h' => by
    cases h' with
    | cons h1 r1 => rw [Rp.func h h1, RpK.func r r1]
theorem RpT.func {H : Hp} : ∀ {vs : List (List Key × V)} {ds ds' : List (D × D)}, RpT H vs ds → RpT H vs ds' → ds = ds'
  | _, _, _, .nil, h => by cases h; rfl
  | _, _, _, .cons h r, h' => by
    cases h' with
    | cons h1 r1 => rw [Rp.func h h1, RpT.func r r1]
end
/-! ### what a call gives is new: no list of the arguments is like its lists -/
mutual
def freeD (Q : List D → Prop) : D → Prop
  | .list xs => ¬ Q xs ∧ freeA Q xs
  | .tuple xs => freeA Q xs
  | .dict kvs => freeK Q kvs
  | _ => True
def freeA (Q : List D → Prop) : List D → Prop
  | [] => True
  | x :: r => freeD Q x ∧ freeA Q r
def freeK (Q : List D → Prop) : List (D × D) → Prop
  | [] => True
  | (_, x) :: r => freeD Q x ∧ freeK Q r
end
mutual
def allD (Q : List D → Prop) : D → Prop
  | .list xs => Q xs ∧ allA Q xs
  | .tuple xs => allA Q xs
  | .dict _ => False
  | _ => True
def allA (Q : List D → Prop) : List D → Prop
  | [] => True
  | x :: r => allD Q x ∧ allA Q r
end
open Classical in
noncomputable def cutQ (F H : Hp) (Q : List D → Prop) : Hp := fun a => match F a with
  | some (.lst us) => if ∃ (H' : Hp) (ys : List D), Same H H' ∧ RpA H' us ys ∧ Q ys then none else some (.lst us)
  | o => o
theorem cutQ_sub {F H : Hp} {Q : List D → Prop} : Same (cutQ F H Q) F := fun a o h => by
  unfold cutQ at h
  split at h
  · rename_i us e
    split at h
    · cases h
    · rw [e]
      exact h
  · exact h
theorem cutQ_ne {F H : Hp} {Q : List D → Prop} {a : Addr} {o : HO} (h : F a = some o) (n : ∀ us, o ≠ .lst us) : cutQ F H Q a = some o := by
  unfold cutQ
  split
  · rename_i us e
    rw [h] at e
    injection e with e
    exact absurd e (n us)
  · exact h
mutual
theorem Rp.cutN {F H : Hp} {Q : List D → Prop} (s : Same F H) : ∀ {v : V} {d : D}, Rp F v d → freeD Q d → Rp (cutQ F H Q) v d
  | _, _, .non, _ => .non
  | _, _, .bl _, _ => .bl _
  | _, _, .int _, _ => .int _
  | _, _, .str _ h, _ => .str _ h
  | _, _, .lst (xs := us) (ds := ds) e r, q => by
    simp only [freeD] at q
    refine .lst ?_ (RpA.cutN s r q.2)
    unfold cutQ
    rw [e]
    simp only
    rw [if_neg]
    rintro ⟨H', ys, s', r', q'⟩
    have : ys = ds := RpA.func r' (r.mono (s.trans s'))
    subst this
    exact q.1 q'
  | _, _, .fz e r, q => by
    simp only [freeD, freeK] at q
    exact .fz (cutQ_ne e fun _ z => nomatch z) (RpA.cutN s r q.1.2)
  | _, _, .tup e r, q => by
    simp only [freeD] at q
    exact .tup (cutQ_ne e fun _ z => nomatch z) (RpA.cutN s r q)
  | _, _, .dk e r, q => by
    simp only [freeD] at q
    exact .dk (cutQ_ne e fun _ z => nomatch z) (RpK.cutN s r q)
  | _, _, .dt e r, q => by
    simp only [freeD] at q
    exact .dt (cutQ_ne e fun _ z => nomatch z) (RpT.cutN s r q)
theorem RpA.cutN {F H : Hp} {Q : List D → Prop} (s : Same F H) : ∀ {vs : List V} {ds : List D}, RpA F vs ds → freeA Q ds → RpA (cutQ F H Q) vs ds
  | _, _, .nil, _ => .nil
  | _, _, .cons h r, q => by
    simp only [freeA] at q
    exact .cons (Rp.cutN s h q.1) (RpA.cutN s r q.2)
theorem RpK.cutN {F H : Hp} {Q : List D → Prop} (s : Same F H) : ∀ {vs : List (Key × V)} {ds : List (D × D)}, RpK F vs ds → freeK Q ds → RpK (cutQ F H Q) vs ds
  | _, _, .nil, _ => .nil
  | _, _, .cons h r, q => by
    simp only [freeK] at q
    exact .cons (Rp.cutN s h q.1) (RpK.cutN s r q.2)
theorem RpT.cutN {F H : Hp} {Q : List D → Prop} (s : Same F H) : ∀ {vs : List (List Key × V)} {ds : List (D × D)}, RpT F vs ds → freeK Q ds → RpT (cutQ F H Q) vs ds
  | _, _, .nil, _ => .nil
  | _, _, .cons h r, q => by
    simp only [freeK] at q
    exact .cons (Rp.cutN s h q.1) (RpT.cutN s r q.2)
end
/-- F and the new tuples of F2 -/
def tupF (F F2 : Hp) : Hp := fun a => match F a with
  | some o => some o
  | none => (match F2 a with
    | some (.tup xs) => some (.tup xs)
    | _ => none)
theorem tupF_same {F F2 : Hp} : Same F (tupF F F2) := fun a o h => by
  unfold tupF
  rw [h]
theorem tupF_new {F F2 : Hp} {a : Addr} {o : HO} (h : tupF F F2 a = some o) (e : F a = none) : ∃ xs, o = .tup xs ∧ F2 a = some (.tup xs) := by
  unfold tupF at h
  rw [e] at h
  simp only at h
  split at h
  · rename_i xs q
    cases h
    exact ⟨xs, rfl, q⟩
  · cases h
theorem tupF_sub {F F2 H : Hp} (s : Same F H) (s2 : Same F2 H) : Same (tupF F F2) H := fun a o h => by
  cases e : F a with
  | some u =>
    have := tupF_same (F2 := F2) a u e
    rw [this] at h
    cases h
    exact s a _ e
  | none =>
    obtain ⟨xs, rfl, q⟩ := tupF_new h e
    exact s2 a _ q
theorem frz_app {F H : Hp} {f g : List Addr} (s : Same F H) : Same (frz F H f) (frz F H (f ++ g)) ∧ Same (frz F H g) (frz F H (f ++ g)) := by
  have one : ∀ f' : List Addr, (∀ a ∈ f', a ∈ f ++ g) → Same (frz F H f') (frz F H (f ++ g)) := fun f' hf a o h => by
    unfold frz at h ⊢
    by_cases m : a ∈ f'
    · rw [if_pos m] at h
      rw [if_pos (hf a m)]
      exact h
    · rw [if_neg m] at h
      split
      · exact s a o h
      · exact h
  exact ⟨one f fun a h => List.mem_append_left _ h, one g fun a h => List.mem_append_right _ h⟩
section
variable {F1 F2 H1 H2 : Hp} {Q : List D → Prop}
mutual
theorem Rp.ownN (s1 : Same F1 H2) (s2 : Same F2 H2) (s12 : Same H1 H2) (x : Ext H1 (cutQ F1 H1 Q) F2) : ∀ {v : V} {d : D}, Rp F2 v d → allD Q d → ∃ f : List Addr, (∀ a ∈ f, H1 a = none ∧ F2 a ≠ none ∧ ∃ xs, H2 a = some (.lst xs)) ∧ Rp (frz (tups (tupF F1 F2)) H2 f) v d
  | _, _, .non, _ => ⟨[], by simp, .non⟩
  | _, _, .bl _, _ => ⟨[], by simp, .bl _⟩
  | _, _, .int _, _ => ⟨[], by simp, .int _⟩
  | _, _, .str _ h, _ => ⟨[], by simp, .str _ h⟩
  | _, _, .lst (a := a) (xs := us) (ds := ds) e r, q => by
    simp only [allD] at q
    obtain ⟨f, h1, h2⟩ := RpA.ownN s1 s2 s12 x r q.2
    have hn : H1 a = none := by
      have hc : cutQ F1 H1 Q a = none := by
        cases z : cutQ F1 H1 Q a with
        | none => rfl
        | some o =>
          have e2 := x.same a o z
          rw [e] at e2
          cases e2
          unfold cutQ at z
          split at z
          · rename_i us' e3
            split at z
            · cases z
            · rename_i hno
              cases z
              exact absurd ⟨H2, ds, s12, r.mono s2, q.1⟩ hno
          · rename_i o' hno
            exact absurd z (hno us)
      rcases x.new a (by rw [e]; exact fun z => nomatch z) hc with z | ⟨xs, z⟩
      · exact z
      · rw [e] at z
        cases z
    have st : Same (tups (tupF F1 F2)) H2 := tups_sub.trans (tupF_sub s1 s2)
    obtain ⟨g1, g2⟩ := frz_app (f := [a]) (g := f) st
    refine ⟨[a] ++ f, fun b hb => ?_, .lst ?_ (h2.mono g2)⟩
    · rcases List.mem_append.mp hb with hb | hb
      · have : b = a := by simpa using hb
        subst this
        exact ⟨hn, by rw [e]; exact (fun z => nomatch z), us, s2 _ _ e⟩
      · exact h1 b hb
    · unfold frz
      rw [if_pos (by simp)]
      exact s2 _ _ e
  | _, _, .fz _ _, q => by simp only [allD] at q
  | _, _, .tup (a := a) (xs := us) e r, q => by
    simp only [allD] at q
    obtain ⟨f, h1, h2⟩ := RpA.ownN s1 s2 s12 x r q
    refine ⟨f, h1, .tup ?_ h2⟩
    unfold frz
    split
    · exact s2 _ _ e
    · refine tups_of ?_
      cases z : F1 a with
      | some o =>
        have e1 := s1 a o z
        rw [s2 _ _ e] at e1
        cases e1
        exact tupF_same a _ z
      | none =>
        unfold tupF
        rw [z, e]
  | _, _, .dk _ _, q => by simp only [allD] at q
  | _, _, .dt _ _, q => by simp only [allD] at q
theorem RpA.ownN (s1 : Same F1 H2) (s2 : Same F2 H2) (s12 : Same H1 H2) (x : Ext H1 (cutQ F1 H1 Q) F2) : ∀ {vs : List V} {ds : List D}, RpA F2 vs ds → allA Q ds → ∃ f : List Addr, (∀ a ∈ f, H1 a = none ∧ F2 a ≠ none ∧ ∃ xs, H2 a = some (.lst xs)) ∧ RpA (frz (tups (tupF F1 F2)) H2 f) vs ds
  | _, _, .nil, _ => ⟨[], by simp, .nil⟩
  | _, _, .cons h r, q => by
    simp only [allA] at q
    obtain ⟨f, h1, h2⟩ := Rp.ownN s1 s2 s12 x h q.1
    obtain ⟨g, h3, h4⟩ := RpA.ownN s1 s2 s12 x r q.2
    obtain ⟨g1, g2⟩ := frz_app (f := f) (g := g) (tups_sub.trans (tupF_sub s1 s2))
    exact ⟨f ++ g, fun b hb => (List.mem_append.mp hb).elim (h1 b) (h3 b), .cons (h2.mono g1) (h4.mono g2)⟩
end
end
/-- a call that gives new data -/
def qCallD (n : Nat) (p : PD) (a : QA) : QE := fun Γ R E => a Γ (fun ds Γ1 => ds.length = n ∧ ∃ Q : List D → Prop, freeA Q ds ∧ p ds fun w => match w with
  | .sh d => allD Q d ∧ R (.ow (.dp d)) Γ1
  | _ => False) E
theorem se_callD {W : WX} {ta : TA} {pa : QA} {n : Nat} {p : PD} {E : XK} (ha : SA W ta pa) : SE W (tCall (spD n p) [] E ta) (qCallD n p pa) := fun {B F Γ σ H fp} R EX Q r q k e => by
  refine ha _ _ _ r q (fun ds Γ1 vs F1 H1 fp1 x1 r1 b1 h1 => ?_) e
  rw [List.append_nil]
  obtain ⟨hl, Qd, hq, hp⟩ := h1
  refine ⟨cutQ F1 H1 Qd, ds, _, cutQ_sub.trans r1.fx, b1.cutN r1.fx hq, hl, hp, fun w v F2 H2 x2 s2 f2 rr hw => ?_⟩
  cases rr with
  | ow _ _ => exact hw.elim
  | @sh d hv =>
    obtain ⟨hall, hw⟩ := hw
    obtain ⟨f, g1, g2⟩ := hv.ownN (r1.fx.trans s2) f2 s2 x2 hall
    have nf : ∀ i a, a ∈ normF Γ1 fp1 i → tupF F1 F2 a = none := fun i a hi => by
      obtain ⟨_, e, h⟩ := r1.nb i a (normF_mem hi).1
      cases z : tupF F1 F2 a with
      | none => rfl
      | some u =>
        obtain ⟨xs, rfl, q⟩ := tupF_new z e
        cases q2 : H1 a with
        | none => exact absurd q2 h
        | some u2 =>
          have e1 := s2 a u2 q2
          rw [f2 a _ q] at e1
          cases e1
          exact absurd q2 (r1.no_tup hi xs)
    have xx : Ext B F1 (tupF F1 F2) := ⟨tupF_same, fun a h e => by
      cases z : tupF F1 F2 a with
      | none => exact absurd z h
      | some u =>
        obtain ⟨xs, rfl, _⟩ := tupF_new z e
        exact .inr ⟨xs, rfl⟩⟩
    have r1 := r1.norm
    have r2 : Rel B (tupF F1 F2) Γ1 σ H2 (normF Γ1 fp1) := ⟨r1.bx.trans s2, tupF_sub (r1.fx.trans s2) f2, r1.len, fun i d e => by
      obtain ⟨v, g1, g2⟩ := r1.sh i d e
      exact ⟨v, g1, g2.mono tupF_same⟩, fun i o e => by
      obtain ⟨v, g1, g2⟩ := r1.ow i o e
      refine ⟨v, g1, g2.mono tupF_same fun a ha => ?_⟩
      cases z : H1 a with
      | none => exact absurd z (r1.nb i a ha).2.2
      | some u => exact s2 a u z, fun i a ha => by
      obtain ⟨b, c, d⟩ := r1.nb i a ha
      refine ⟨b, nf i a ha, fun z => d (s2.free z)⟩, r1.dj, r1.ex⟩
    refine k _ Γ1 v (tupF F1 F2) H2 _ (x1.trans xx) r2 (.ow (.dp g2 fun a ha => (g1 a ha).2.2) fun a ha => ?_) hw
    obtain ⟨e1, e2, xs, e3⟩ := g1 a ha
    refine ⟨r1.bx.free e1, ?_, fun i hi => (r1.nb i a hi).2.2 e1⟩
    cases z : tupF F1 F2 a with
    | none => rfl
    | some u =>
      obtain ⟨ys, rfl, q⟩ := tupF_new z (r1.fx.free e1)
      rw [f2 a _ q] at e3
      cases e3
section
variable {X : Cx} {W : WX} {pos p : Pos} {a b e : Expr} {es : List Expr} {ta te : TA} {tb : TE} {pa : QA} {pb : QE} {n : Nat} {q : PD} {x : Str} {j k : Nat}
theorem d_callD (c : Cal X.prog X.w X.K X.mg X.base k x (spD n q)) (hr : Room j X.A) (ha : DA X W (e :: es) ta pa) (hk : k ≤ j := by decide) (hg : Gl X x := by rfl) (hdb : (x == ("__debug__" : Str)) = false := by decide)
    (he : starEach (e :: es) X.env = (false, eval e X.env) :: starEach es X.env := by rfl) (hpl : (backTo pos (starEach es X.env)).any (·.1) = false := by rfl) :
    DE X W (.Call (.Name x p) (e :: es) [] pos) (tCall (spD n q) [] E0 ta) (qCallD n q pa) := ⟨by
  obtain ⟨f, fd, ps, F, hm, kp, b⟩ := c.ex
  exact pe_call F (hr.mono hk) hg hm kp b .nil pass0 ha.pa hdb he hpl, se_callD ha.sa⟩
/-! ### a call that only looks at what names hold -/
def datOf : Option Sl → Option D
  | some (.sh d) => some d
  | some (.ow o) => some o.toD
  | _ => none
def tVars : List Nat → TA
  | [] => tNil
  | i :: r => tCons (tVar i) (tVars r)
def datsOf (Γ : Ev) : List Nat → Option (List D)
  | [] => some []
  | i :: r => (datOf Γ[i]?).bind fun d => (datsOf Γ r).map (d :: ·)
theorem vars_ok {B F : Hp} {Γ : Ev} {σ : L2.St} {H : Hp} {fp : Nat → List Addr} (r : Rel B F Γ σ H fp) : ∀ {is : List Nat} {ds : List D} {Q : List V → Hp → Prop}, datsOf Γ is = some ds → (∀ vs, RpA H vs ds → Q vs H) → tVars is σ H Q
  | [], ds, Q, e, h => by
    cases e
    exact h [] .nil
  | i :: is, ds, Q, e, h => by
    unfold datsOf at e
    cases h1 : datOf Γ[i]? with
    | none =>
      rw [h1] at e
      cases e
    | some d =>
      rw [h1] at e
      cases h2 : datsOf Γ is with
      | none =>
        rw [h2] at e
        cases e
      | some ds2 =>
        rw [h2] at e
        cases e
        obtain ⟨v, hv, hr⟩ : ∃ v, σ[i]? = some (some v) ∧ Rp H v d := by
          unfold datOf at h1
          split at h1
          · rename_i d' q
            cases h1
            obtain ⟨v, g1, g2⟩ := r.sh i _ q
            exact ⟨v, g1, g2.mono r.fx⟩
          · rename_i o q
            cases h1
            obtain ⟨v, g1, g2⟩ := r.ow i _ q
            exact ⟨v, g1, g2.rp r.fx⟩
          · cases h1
        exact ⟨v, hv, vars_ok r h2 fun vs hvs => h (v :: vs) (.cons hr hvs)⟩
def atomD : D → Bool
  | .none => true
  | .bool _ => true
  | .int _ => true
  | .str _ => true
  | _ => false
theorem atom_rp {F F' : Hp} {v : V} {d : D} (h : Rp F v d) (e : atomD d = true) : Rp F' v d := by
  cases h with
  | non => exact .non
  | bl b => exact .bl b
  | int i => exact .int i
  | str x h => exact .str x h
  | _ => cases e
def qCallB (n : Nat) (p : PD) (is : List Nat) : QE := fun Γ R E => match datsOf Γ is with
  | some ds => ds.length = n ∧ p ds fun w => match w with
    | .sh d => atomD d = true ∧ R (.sh d) Γ
    | _ => False
  | none => False
theorem se_callB {n : Nat} {p : PD} {E : XK} {is : List Nat} : SE W (tCall (spD n p) [] E (tVars is)) (qCallB n p is) := fun {B F Γ σ H fp} R EX Q r q k e => by
  unfold qCallB at q
  split at q
  · rename_i ds hds
    obtain ⟨hl, hp⟩ := q
    refine vars_ok r hds fun vs hvs => ?_
    rw [List.append_nil]
    refine ⟨H, ds, _, Same.refl H, hvs, hl, hp, fun w v F2 H2 x2 s2 f2 rr hw => ?_⟩
    cases rr with
    | ow _ _ => exact hw.elim
    | @sh d hv =>
      obtain ⟨ha, hw⟩ := hw
      have r2 : Rel B F Γ σ H2 fp := ⟨r.bx.trans s2, r.fx.trans s2, r.len, r.sh, fun i o e => by
        obtain ⟨v, g1, g2⟩ := r.ow i o e
        refine ⟨v, g1, g2.mono (Same.refl F) fun a ha => ?_⟩
        cases z : H a with
        | none => exact absurd z (g2.mem a ha)
        | some u => exact s2 a u z, fun i a ha => by
        obtain ⟨b, c, d⟩ := r.nb i a ha
        exact ⟨b, c, fun z => d (s2.free z)⟩, r.dj, r.ex⟩
      exact k _ Γ v F H2 fp .refl r2 (.sh (atom_rp hv ha)) hw
  · exact q.elim
/-- the names of the arguments -/
structure DNs (X : Cx) (es : List Expr) (is : List Nat) : Prop where
  pa : PA X es (tVars is)
theorem dn_nil : DNs X [] [] := ⟨pa_nil⟩
theorem dn_cons {i : Nat} {is : List Nat} {y : Str} {py : Pos} (h : DNs X es is) (hN : X.N[i]? = some y := by rfl) (hv : Vis X.env.scope y := by first | exact Or.inl rfl | exact Or.inr (Or.inl rfl) | exact Or.inr (Or.inr rfl)) (hd : (y == ("__debug__" : Str)) = false := by decide)
    (hcd : (y == ("__classdict__" : Str)) = false := by decide) (hs : starEach (.Name y py :: es) X.env = (false, eval (.Name y py) X.env) :: starEach es X.env := by rfl) : DNs X (.Name y py :: es) (i :: is) := ⟨pa_cons (pe_var hN hv hd hcd) h.pa hs⟩
theorem d_callB {is : List Nat} (c : Cal X.prog X.w X.K X.mg X.base k x (spD n q)) (hr : Room j X.A) (ha : DNs X (e :: es) is) (hk : k ≤ j := by decide) (hg : Gl X x := by rfl) (hdb : (x == ("__debug__" : Str)) = false := by decide)
    (he : starEach (e :: es) X.env = (false, eval e X.env) :: starEach es X.env := by rfl) (hpl : (backTo pos (starEach es X.env)).any (·.1) = false := by rfl) :
    DE X W (.Call (.Name x p) (e :: es) [] pos) (tCall (spD n q) [] E0 (tVars is)) (qCallB n q is) := ⟨by
  obtain ⟨f, fd, ps, F, hm, kp, b⟩ := c.ex
  exact pe_call F (hr.mono hk) hg hm kp b .nil pass0 ha.pa hdb he hpl, se_callB⟩
end
end PL

namespace PL
open PySem PySem.Spec PyProof.Rows L2
section
variable {X : Cx} {W : WX} {pos p : Pos} {a b e : Expr} {es : List Expr} {ta te : TE} {tb : TE} {pa pe : QE} {n : Nat} {x : Str} {j k : Nat}
/-! ### sorted, of ints -/
def opSortI : OP1 := fun d k => match d with
  | .list ds => (match intsOf ds with
    | some ns => ∀ ms : List Int, ms.Perm ns → ms.Pairwise (· ≤ ·) → k (.ow (.l (ms.map .int)))
    | none => False)
  | _ => False
theorem us_sortI {K : PySem.W.Frag} : UnS (fun x H Q => rSortedI K [x] H Q) opSortI := fun {B F Γ σ H fp x d} k Q r b z c => by
  cases b with
  | @lst a xs ds e t =>
    unfold opSortI at z
    simp only at z
    split at z
    · rename_i ns hns
      have := ints_rp t hns
      subst this
      refine ⟨a, ns, rfl, .inl (.inl e), fun ms p h1 h2 hp => ?_⟩
      obtain ⟨r5, v5⟩ := new_lst r (rpa_ints ms) hp
      exact c _ _ F _ .refl r5 v5 (z ms h1 h2)
    · exact z.elim
  | _ => exact z.elim
theorem d_sortI (hm : X.mg "sorted" = none) (ha : DE X W a ta pa) (hg : Gl X "sorted" := by rfl) (he : starEach [a] X.env = (false, eval a X.env) :: starEach [] X.env := by rfl) (hpl : (backTo pos (starEach [] X.env)).any (·.1) = false := by rfl) :
    DE X W (.Call (.Name "sorted" p) [a] [] pos) (tCB (rSortedI X.K) (tCons ta tNil)) (qUn opSortI pa) := d_bi1 cr_sortedI us_sortI hm (by decide +kernel) ha hg (by decide) (by decide) he hpl
/-! ### xs.pop(i), xs.remove(k), xs an own list -/
def qPopAt (i : Nat) (p : QE) : QE := fun Γ R E => isOwL Γ[i]? = true ∧ p Γ (fun w Γ1 => bor w Γ1 fun d => match d with
  | .int m => -(2 ^ 62) ≤ m ∧ m < 2 ^ 62 ∧ (match Γ1[i]? with
    | some (.ow (.l ds)) => (match ixN ds.length m with
      | some j => (match ds[j]? with
        | some y => R (.sh y) (Γ1.set i (.ow (.l (ds.eraseIdx j))))
        | none => False)
      | none => False)
    | _ => False)
  | _ => False) E
theorem RpA.erase {F : Hp} : ∀ {vs : List V} {ds : List D} (j : Nat), RpA F vs ds → RpA F (vs.eraseIdx j) (ds.eraseIdx j)
  | _, _, j, .nil => by simp; exact .nil
  | _, _, 0, .cons h r => by simpa using r
  | _, _, j + 1, .cons h r => by
    simp only [List.eraseIdx_cons_succ]
    exact .cons h (RpA.erase j r)
theorem se_popAt {K : PySem.W.Frag} {i : Nat} (ha : SE W ta pa) : SE W (tBM K "list" rPopAt (tVar i) (tCons ta tNil)) (qPopAt i pa) := fun {B F Γ σ H fp} R EX Q r q k e => by
  obtain ⟨v, h1, h2⟩ := own_ty (K := K) r q.1
  refine ⟨v, h1, h2, ha _ _ _ r q.2 (fun w Γ1 y F1 H1 fp1 x1 r1 v1 h3 => ?_) e⟩
  obtain ⟨d, b, z⟩ := bor_rb r1 v1 h3
  cases b with
  | int m =>
    obtain ⟨m1, m2, z⟩ := z
    split at z
    · rename_i ds hd
      split at z
      · rename_i jj hj
        split at z
        · rename_i y hy
          obtain ⟨e1, e2, e3, e4⟩ := ixN_seq hj
          obtain ⟨u, z1, z2⟩ := r1.ow i _ hd
          rw [h1] at z1
          cases z1
          generalize hf : fp1 i = f at z2
          cases z2 with
          | @l a xs ds e5 t5 =>
            obtain ⟨yv, g1, g2⟩ := t5.get hy
            obtain ⟨a', xs', ea, e6, t6, r6⟩ := r1.mutL hd h1 (t5.erase jj)
            cases ea
            exact ⟨a, xs, m, jj, yv, rfl, rfl, e5, by omega, by omega, by rw [t5.length]; exact e1, g1, k _ _ _ F1 _ fp1 x1 r6 (.sh g2) z⟩
        · exact z.elim
      · exact z.elim
    · exact z.elim
  | _ => exact z.elim
theorem d_popAt (i : Nat) {px apos : Pos} (ha : DE X W a ta pa) (hN : X.N[i]? = some x := by rfl) (hv : Vis X.env.scope x := by first | exact Or.inl rfl | exact Or.inr (Or.inl rfl) | exact Or.inr (Or.inr rfl)) (hd : (x == ("__debug__" : Str)) = false := by decide)
    (hcd : (x == ("__classdict__" : Str)) = false := by decide) (hbase : attributeBase (.Name x px) "pop" X.env (eval (.Name x px) X.env) = eval (.Name x px) X.env := by rfl)
    (hfew : ((backTo pos (starEach [a] X.env)).all (fun x => !x.1) && (backToKw pos (keywordEach [] X.env)).all (fun x => x.1.isSome) && decide ([a].length + ([] : List Keyword).length + (if ([] : List Keyword).isEmpty then 0 else 1) < 30)) = true := by rfl)
    (hline : (apos.endLine == pos.line) = true := by rfl) (hs : starEach [a] X.env = (false, eval a X.env) :: starEach [] X.env := by rfl) (hpl : (backTo pos (starEach [] X.env)).any (·.1) = false := by rfl) :
    DE X W (.Call (.Attribute (.Name x px) "pop" apos) [a] [] pos) (tBM X.K "list" rPopAt (tVar i) (tCons ta tNil)) (qPopAt i pa) :=
  ⟨pe_bm PySem.F.plainAttrs_list PySem.F.slot_list_pop PySem.F.type_list_pop mt_popAt (pe_var hN hv hd hcd) (pa_cons ha.pe pa_nil hs) hbase hfew hline hs hpl, se_popAt ha.se⟩
def qRem (i : Nat) (p : QE) : QE := fun Γ R E => isOwL Γ[i]? = true ∧ p Γ (fun w Γ1 => bor w Γ1 fun d => match d with
  | .int m => (match Γ1[i]? with
    | some (.ow (.l ds)) => (match intsOf ds with
      | some ns => m ∈ ns ∧ R (.sh .none) (Γ1.set i (.ow (.l ((ns.erase m).map .int))))
      | none => False)
    | _ => False)
  | _ => False) E
theorem erase_ix (m : Int) : ∀ ns : List Int, m ∈ ns → ∃ j, ns[j]? = some m ∧ (∀ i : Nat, i < j → ns[i]? ≠ some m) ∧ ns.eraseIdx j = ns.erase m
  | [], h => by cases h
  | a :: r, h => by
    by_cases e : a = m
    · subst e
      exact ⟨0, rfl, fun i hi => absurd hi (by omega), by simp⟩
    · have hr : m ∈ r := by
        rcases List.mem_cons.mp h with h | h
        · exact absurd h.symm e
        · exact h
      obtain ⟨j, h1, h2, h3⟩ := erase_ix m r hr
      refine ⟨j + 1, by simpa using h1, fun i hi => ?_, ?_⟩
      · cases i with
        | zero => simpa using e
        | succ i => simpa using h2 i (by omega)
      · have b : (a == m) = false := by simpa using e
        rw [List.eraseIdx_cons_succ, h3, List.erase_cons, b]
        rfl
theorem se_rem {K : PySem.W.Frag} {i : Nat} (ha : SE W ta pa) : SE W (tBM K "list" rRemI (tVar i) (tCons ta tNil)) (qRem i pa) := fun {B F Γ σ H fp} R EX Q r q k e => by
  obtain ⟨v, h1, h2⟩ := own_ty (K := K) r q.1
  refine ⟨v, h1, h2, ha _ _ _ r q.2 (fun w Γ1 y F1 H1 fp1 x1 r1 v1 h3 => ?_) e⟩
  obtain ⟨d, b, z⟩ := bor_rb r1 v1 h3
  cases b with
  | int m =>
    simp only at z
    split at z
    · rename_i ds hd
      split at z
      · rename_i ns hns
        obtain ⟨hm, z⟩ := z
        obtain ⟨jj, g1, g2, g3⟩ := erase_ix m ns hm
        obtain ⟨u, z1, z2⟩ := r1.ow i _ hd
        rw [h1] at z1
        cases z1
        generalize hf : fp1 i = f at z2
        cases z2 with
        | @l a xs ds e5 t5 =>
          have := ints_rp t5 hns
          subst this
          obtain ⟨a', xs', ea, e6, t6, r6⟩ := r1.mutL hd h1 (rpa_ints (F := F1) (ns.erase m))
          cases ea
          refine ⟨a, ns, m, jj, rfl, rfl, e5, g1, g2, ?_⟩
          rw [g3]
          exact k _ _ _ F1 _ fp1 x1 r6 (.sh .non) z
      · exact z.elim
    · exact z.elim
  | _ => exact z.elim
theorem d_remI (i : Nat) {px apos : Pos} (ha : DE X W a ta pa) (hN : X.N[i]? = some x := by rfl) (hv : Vis X.env.scope x := by first | exact Or.inl rfl | exact Or.inr (Or.inl rfl) | exact Or.inr (Or.inr rfl)) (hd : (x == ("__debug__" : Str)) = false := by decide)
    (hcd : (x == ("__classdict__" : Str)) = false := by decide) (hbase : attributeBase (.Name x px) "remove" X.env (eval (.Name x px) X.env) = eval (.Name x px) X.env := by rfl)
    (hfew : ((backTo pos (starEach [a] X.env)).all (fun x => !x.1) && (backToKw pos (keywordEach [] X.env)).all (fun x => x.1.isSome) && decide ([a].length + ([] : List Keyword).length + (if ([] : List Keyword).isEmpty then 0 else 1) < 30)) = true := by rfl)
    (hline : (apos.endLine == pos.line) = true := by rfl) (hs : starEach [a] X.env = (false, eval a X.env) :: starEach [] X.env := by rfl) (hpl : (backTo pos (starEach [] X.env)).any (·.1) = false := by rfl) :
    DE X W (.Call (.Attribute (.Name x px) "remove" apos) [a] [] pos) (tBM X.K "list" rRemI (tVar i) (tCons ta tNil)) (qRem i pa) :=
  ⟨pe_bm PySem.F.plainAttrs_list PySem.F.slot_list_remove PySem.F.type_list_remove mt_remove (pe_var hN hv hd hcd) (pa_cons ha.pe pa_nil hs) hbase hfew hline hs hpl, se_rem ha.se⟩
/-! ### a list inside own data is changed, and the data are forgotten -/
def ixP (c : Nat) : D → Option D
  | .list xs => xs[c]?
  | .tuple xs => xs[c]?
  | _ => none
structure DPath (X : Cx) (i : Nat) (e : Expr) (to : TE) (g : D → Option D) : Prop where
  pe : PE X e to
  run : ∀ {G H : Hp} {σ : L2.St} {v : V} {d d' : D} {Q : VK}, σ[i]? = some (some v) → Rp G v d → Same G H → g d = some d' → (∀ u, Rp G u d' → Q u H) → to σ H Q
theorem path_0 (i : Nat) {px : Pos} (hN : X.N[i]? = some x := by rfl) (hv : Vis X.env.scope x := by first | exact Or.inl rfl | exact Or.inr (Or.inl rfl) | exact Or.inr (Or.inr rfl)) (hd : (x == ("__debug__" : Str)) = false := by decide)
    (hcd : (x == ("__classdict__" : Str)) = false := by decide) : DPath X i (.Name x px) (tVar i) some := ⟨pe_var hN hv hd hcd, fun hσ hr _ hg h => by
  cases hg
  exact ⟨_, hσ, h _ hr⟩⟩
theorem path_s {i c : Nat} {to : TE} {g : D → Option D} {o : Expr} {jj : Nat} {p2 : Pos} (h : DPath X i o to g) (hx : PlainIx (.Constant (.int (c : Int)) jj p2) := by exact fun _ _ => rfl) :
    DPath X i (.Subscript o (.Constant (.int (c : Int)) jj p2) pos) (tOp (rIx X.K) to (tC (.int (c : Int)))) (fun d => (g d).bind (ixP c)) := ⟨pe_ix ix_seq h.pe pe_int hx, fun {G H σ v d d' Q} hσ hr s hg hq => by
  cases hgd : g d with
  | none =>
    rw [hgd] at hg
    cases hg
  | some d1 =>
    rw [hgd] at hg
    refine h.run hσ hr s hgd fun u hu => ?_
    have hg : ixP c d1 = some d' := hg
    cases hu with
    | @lst a xs ds e t =>
      obtain ⟨w, g1, g2⟩ := t.get (show ds[c]? = some d' from hg)
      exact .inl ⟨a, xs, c, w, rfl, rfl, .inl (.inl (s _ _ e)), (ixD_eq xs (c : Int)).trans g1, hq w g2⟩
    | @tup a xs ds e t =>
      obtain ⟨w, g1, g2⟩ := t.get (show ds[c]? = some d' from hg)
      exact .inr (.inl ⟨a, xs, c, w, rfl, rfl, .inl (.inl (s _ _ e)), (ixD_eq xs (c : Int)).trans g1, hq w g2⟩)
    | _ => cases hg⟩
def qFgt (i : Nat) (g : D → Option D) : QE := fun Γ R _ => match Γ[i]? with
  | some (.ow (.dp d)) => (match g d with
    | some (.list xs) => xs.length < sizeLine ∧ R (.sh .none) (Γ.set i .un)
    | _ => False)
  | _ => False
/-- what an argument of that must be -/
structure PConst (X : Cx) (e : Expr) (te : TE) : Prop where
  pe : PE X e te
  run : ∀ {σ : L2.St} {H : Hp} {Q : VK}, (∀ v H', Same H H' → Q v H') → te σ H Q
theorem pc_int {i : Int} {jj} : PConst X (.Constant (.int i) jj pos) (tC (.int i)) := ⟨pe_int, fun {σ H Q} h => h _ H (Same.refl H)⟩
theorem pc_str {y : Str} {jj} : PConst X (.Constant (.str y) jj pos) (tC (.str y)) := ⟨pe_str, fun {σ H Q} h => h _ H (Same.refl H)⟩
theorem pc_nil : PConst X (.List [] pos) (tLst tNil) := ⟨pe_lst pa_nil, fun {σ H Q} h => ⟨by decide, fun p hp => h _ _ fun a u e => by rw [upd_ne (ne_of_none e hp)]; exact e⟩⟩
theorem se_fgt {K : PySem.W.Frag} {i : Nat} {o : Expr} {to : TE} {g : D → Option D} (hp : DPath X i o to g) (hc : PConst X a ta) : SE W (tBM K "list" rAppend to (tCons ta tNil)) (qFgt i g) := fun {B F Γ σ H fp} R EX Q r q k _ => by
  unfold qFgt at q
  split at q
  · rename_i d hd
    split at q
    · rename_i ds hg
      obtain ⟨hl, hR⟩ := q
      obtain ⟨v, h1, h2⟩ := r.ow i _ hd
      generalize hf : fp i = f at h2
      cases h2 with
      | dp h3 h4 =>
        have sG : Same (frz (tups F) H f) H := fun a o q => by
          unfold frz at q
          split at q
          · exact q
          · exact r.fx a o (tups_sub a o q)
        refine hp.run h1 h3 sG hg fun u hu => ?_
        cases hu with
        | @lst ad us ds e t =>
          have hm : ad ∈ f := by
            apply Classical.byContradiction
            intro n
            unfold frz at e
            rw [if_neg n] at e
            obtain ⟨xs, z⟩ := tups_is e
            cases z
          refine ⟨.inl ⟨rfl, us, .inl (.inl (sG _ _ e))⟩, hc.run fun y H2 s2 => ?_⟩
          have e2 : H2 ad = some (.lst us) := s2 _ _ (sG _ _ e)
          refine ⟨ad, us, y, rfl, rfl, e2, by rw [t.length]; exact hl, ?_⟩
          rw [← hf] at hm
          obtain ⟨b1, b2, b3⟩ := r.nb i ad hm
          have cell : ∀ j c, c ∈ fp j → j ≠ i → upd H2 ad (.lst (us ++ [y])) c = H c := fun j c hcj hj => by
            have hne : c ≠ ad := fun z => hj (r.dj j i c hcj (z ▸ hm))
            rw [upd_ne hne]
            cases z : H c with
            | none => exact absurd z (r.nb j c hcj).2.2
            | some u => exact s2 c u z
          refine k _ (Γ.set i .un) _ F _ (dropF fp i) .refl ⟨fun c o q => ?_, fun c o q => ?_, by rw [List.length_set]; exact r.len, fun j d q => ?_, fun j o q => ?_, fun j c hc => ?_, fun j1 j2 c h1 h2 => r.dj j1 j2 c (mem_dropF h1).2 (mem_dropF h2).2, fun j c q => r.ex j c (ex_ne (fun _ => Sl.noConfusion) q).2⟩ (.sh .non) hR
          · rw [upd_ne fun z => by rw [z, b1] at q; cases q]
            exact s2 c o (r.bx c o q)
          · rw [upd_ne fun z => by rw [z, b2] at q; cases q]
            exact s2 c o (r.fx c o q)
          · rcases set_get q with ⟨_, h⟩ | ⟨h, q⟩
            · cases h
            · exact r.sh j d q
          · rcases set_get q with ⟨_, h⟩ | ⟨h, q⟩
            · cases h
            · obtain ⟨w, g1, g2⟩ := r.ow j o q
              refine ⟨w, g1, ?_⟩
              rw [dropF_ne (fun z => h z.symm)]
              exact g2.mono (Same.refl F) fun c hc => cell j c hc (fun z => h z.symm)
          · obtain ⟨hj, hcj⟩ := mem_dropF hc
            obtain ⟨c1, c2, c3⟩ := r.nb j c hcj
            exact ⟨c1, c2, by rw [cell j c hcj hj]; exact c3⟩
    · exact q.elim
  · exact q.elim
theorem d_fgt {i : Nat} {o : Expr} {to : TE} {g : D → Option D} {apos : Pos} (hp : DPath X i o to g) (hc : PConst X a ta) (hbase : attributeBase o "append" X.env (eval o X.env) = eval o X.env := by rfl)
    (hfew : ((backTo pos (starEach [a] X.env)).all (fun x => !x.1) && (backToKw pos (keywordEach [] X.env)).all (fun x => x.1.isSome) && decide ([a].length + ([] : List Keyword).length + (if ([] : List Keyword).isEmpty then 0 else 1) < 30)) = true := by rfl)
    (hline : (apos.endLine == pos.line) = true := by rfl) (hs : starEach [a] X.env = (false, eval a X.env) :: starEach [] X.env := by rfl) (hpl : (backTo pos (starEach [] X.env)).any (·.1) = false := by rfl) :
    DE X W (.Call (.Attribute o "append" apos) [a] [] pos) (tBM X.K "list" rAppend to (tCons ta tNil)) (qFgt i g) :=
  ⟨pe_bm PySem.F.plainAttrs_list PySem.F.slot_list_append PySem.F.type_list_append mt_append hp.pe (pa_cons hc.pe pa_nil hs) hbase hfew hline hs hpl, se_fgt hp hc⟩
end
end PL

namespace PL
open PySem PySem.Spec PyProof.Rows L2
/-! ### comprehensions over the keys of an own dict -/
section
variable {W : WX} {g : TG} {qg : QG} {js : List Nat} {tt : TT} {qt : QT} {te : TE} {qe : QE} {vs : List Nat} {B F1 H1 : Hp} {Γ1 : Ev} {σ : L2.St} {fp1 : Nat → List Addr} {J : It} {ds : List D} {R : List D → Ev → Prop} {Q : VK}
theorem lc_body (r1 : Rel B F1 Γ1 σ H1 fp1) (ok : ItOk J F1 ds) (ho : noOw Γ1 vs = true) (h1 : lcGo vs qg qt qe R ds [] (wipEv vs Γ1)) (hg : SG g qg js) (ht : ST (fun _ _ _ _ => False) tt qt) (he : SE (fun _ _ _ _ => False) te qe) (hj : ∀ j ∈ js, j ∈ vs)
    (k : ∀ acc Γ2 Dl F' H' fp', Ext B F1 F' → Rel B F' (backEv Γ1 vs Γ2) σ H' fp' → RW B F' (backEv Γ1 vs Γ2) σ H' fp' (.ref Dl) (.ow (.l acc)) → R acc Γ2 → Q (.ref Dl) H') : tLc (fun _ H R => R J H) g tt te vs σ H1 Q := by
  intro Dl hD
  have r2 : Rel B F1 (wipEv vs Γ1) (wipe σ vs) H1 fp1 := r1.wip vs
  obtain ⟨r3, v3⟩ := new_lst r2 (.nil) hD
  refine ⟨fun i m H' => m + i = ds.length ∧ ∃ Γ' F' fp' acc, Ext B F1 F' ∧ Rel B F' Γ' (wipe σ vs) H' fp' ∧ OwnV B F' H' fp' (.ref Dl) (.l acc) ∧
    lcGo vs qg qt qe R (ds.drop i) acc Γ', ⟨ds.length, rfl, _, F1, fp1, [], .refl, r3, v3.own, h1⟩, ?_⟩
  rintro i m H' ⟨hm, Γ', F', fp', acc, x, r', v', hf⟩
  obtain ⟨o1, o2⟩ := ok B F' Γ' _ H' fp' x.same r' i
  by_cases hlt : i < ds.length
  · obtain ⟨B', rB, gd⟩ := r'.hold v'
    obtain ⟨go, yld⟩ := (ok B' F' Γ' _ H' fp' x.same rB i).1 ds[i] (List.getElem?_eq_getElem hlt)
    refine .inr ⟨go, fun H2 => ∃ m', m' < m ∧ (m' + (i + 1) = ds.length ∧ ∃ Γ' F' fp' acc, Ext B F1 F' ∧ Rel B F' Γ' (wipe σ vs) H2 fp' ∧ OwnV B F' H2 fp' (.ref Dl) (.l acc) ∧
      lcGo vs qg qt qe R (ds.drop (i + 1)) acc Γ'), fun H2 h => h, fun y H2 hy => ?_⟩
    obtain ⟨F2, x2, r2, b2⟩ := yld y H2 hy
    rw [List.drop_eq_getElem_cons hlt] at hf
    refine hg _ _ r2 (.sh b2) hf fun Γ3 F3 σ3 fp3 x3 r3 c3 h3 => ?_
    have hw : wipe σ3 vs = wipe σ vs := wipe_chg c3 hj
    refine ⟨hw, ht _ noEX _ r3 h3 (fun b Γ4 F4 H4 fp4 x4 r4 h4 => ?_) afe_no⟩
    have x24 := (x2.trans x3).trans x4
    cases b with
    | true =>
      refine he _ noEX _ r4 (h4.t rfl) (fun w5 Γ5 z F5 H5 fp5 x5 r5 v5 h5 => ?_) afe_no
      obtain ⟨d6, Γ6, F6, fp6, x6, r6, b6, hsz, h6⟩ := shr_ok r5 v5 h5
      have r7 := r6.wip vs
      rw [hw] at r7
      obtain ⟨y8, r8, v8⟩ := gd F6 _ _ H5 fp6 ((x24.trans x5).trans x6) r7
      obtain ⟨xs, e9, l9, r9, v9⟩ := own_app r8 v8 b6
      exact ⟨xs, e9, by rw [l9]; exact hsz, m - 1, by omega, by omega, _, F6, fp6, _, x.trans y8, r9, v9, h6⟩
    | false =>
      have r7 := r4.wip vs
      rw [hw] at r7
      obtain ⟨y8, r8, v8⟩ := gd F4 _ _ H4 fp4 x24 r7
      exact ⟨m - 1, by omega, by omega, _, F4, fp4, acc, x.trans y8, r8, v8, h4.f rfl⟩
  · refine .inl ⟨o2 (by omega), ?_⟩
    rw [List.drop_of_length_le (by omega)] at hf
    exact k _ _ _ F' H' fp' x (r1.back ho x.same r') v'.rw hf
end
section
variable {F : Hp} {a0 : Addr} {od : Obj} {w : HO}
/-- the cell of a locked dict is no datum -/
def notL (w : HO) : Prop := ∀ xs, w ≠ .lst xs
mutual
theorem Rp.rmZ (e0 : F a0 = some (.frz od w)) (nl : notL w) : ∀ {v : V} {d : D}, Rp F v d → Rp (rmF F a0) v d
  | _, _, .non => .non
  | _, _, .bl b => .bl b
  | _, _, .int i => .int i
  | _, _, .str x h => .str x h
  | _, _, .lst h r => .lst (by rw [rmF_ne fun z => by rw [z, e0] at h; cases h]; exact h) (RpA.rmZ e0 nl r)
  | _, _, .fz h r => .fz (by rw [rmF_ne fun z => by rw [z, e0] at h; cases h; exact nl _ rfl]; exact h) (RpA.rmZ e0 nl r)
  | _, _, .tup h r => .tup (by rw [rmF_ne fun z => by rw [z, e0] at h; cases h]; exact h) (RpA.rmZ e0 nl r)
  | _, _, .dk h r => .dk (by rw [rmF_ne fun z => by rw [z, e0] at h; cases h]; exact h) (RpK.rmZ e0 nl r)
  | _, _, .dt h r => .dt (by rw [rmF_ne fun z => by rw [z, e0] at h; cases h]; exact h) (RpT.rmZ e0 nl r)
theorem RpA.rmZ (e0 : F a0 = some (.frz od w)) (nl : notL w) : ∀ {vs : List V} {ds : List D}, RpA F vs ds → RpA (rmF F a0) vs ds
  | _, _, .nil => .nil
  | _, _, .cons h r => .cons (Rp.rmZ e0 nl h) (RpA.rmZ e0 nl r)
theorem RpK.rmZ (e0 : F a0 = some (.frz od w)) (nl : notL w) : ∀ {vs : List (Key × V)} {ds : List (D × D)}, RpK F vs ds → RpK (rmF F a0) vs ds
  | _, _, .nil => .nil
  | _, _, .cons h r => .cons (Rp.rmZ e0 nl h) (RpK.rmZ e0 nl r)
theorem RpT.rmZ (e0 : F a0 = some (.frz od w)) (nl : notL w) : ∀ {vs : List (List Key × V)} {ds : List (D × D)}, RpT F vs ds → RpT (rmF F a0) vs ds
  | _, _, .nil => .nil
  | _, _, .cons h r => .cons (Rp.rmZ e0 nl h) (RpT.rmZ e0 nl r)
end
end
section
variable {B F F2 : Hp} {Γ Γ' : Ev} {σ σ' : L2.St} {H H2 : Hp} {fp fp' : Nat → List Addr} {i : Nat} {ad : Addr} {od : Obj} {u w : HO} {o : O} {v : V}
theorem RO.rmZ {f : List Addr} {v : V} {o : O} (e0 : F ad = some (.frz od w)) (nl : notL w) (r : RO F H v o f) (hn : ad ∉ f) {H' : Hp} (hc : ∀ a ∈ f, H' a = H a) : RO (rmF F ad) H' v o f := by
  cases r with
  | l h r => exact .l (by rw [hc _ (by simp)]; exact h) (RpA.rmZ e0 nl r)
  | k h r => exact .k (by rw [hc _ (by simp)]; exact h) (RpK.rmZ e0 nl r)
  | t h r => exact .t (by rw [hc _ (by simp)]; exact h) (RpT.rmZ e0 nl r)
  | dp r h =>
    refine .dp (r.mono fun a u q => ?_) fun a ha => by rw [hc a ha]; exact h a ha
    unfold frz at q ⊢
    split
    · rename_i m
      rw [if_pos m] at q
      rw [hc a m]
      exact q
    · rename_i m
      rw [if_neg m] at q
      obtain ⟨xs, rfl⟩ := tups_is q
      refine tups_of ?_
      have q2 := tups_sub a _ q
      rw [rmF_ne fun z => by rw [z, e0] at q2; cases q2]
      exact q2
theorem Rel.lockO (r : Rel B F Γ σ H fp) (hd : Γ[i]? = some (.ow o)) (hf : fp i = [ad]) (hv : σ[i]? = some (some (.ref ad))) : Rel B (upd F ad u) (Γ.set i (.ex ad)) σ (upd H ad u) (dropF fp i) := by
  have hm : ad ∈ fp i := by rw [hf]; simp
  obtain ⟨b1, b2, b3⟩ := r.nb i ad hm
  have sF : Same F (upd F ad u) := fun c q e => by
    rw [upd_ne fun z => by rw [z, b2] at e; cases e]
    exact e
  have ne : ∀ j c, c ∈ fp j → j ≠ i → c ≠ ad := fun j c hc hj z => hj (r.dj j i c hc (z ▸ hm))
  refine ⟨fun c q e => ?_, fun c q e => ?_, by rw [List.length_set]; exact r.len, fun j d q => ?_, fun j q e => ?_, fun j c hc => ?_, fun j1 j2 c h1 h2 => r.dj j1 j2 c (mem_dropF h1).2 (mem_dropF h2).2, fun j c q => ?_⟩
  · rw [upd_ne fun z => by rw [z, b1] at e; cases e]
    exact r.bx c q e
  · rcases upd_some e with ⟨rfl, rfl⟩ | ⟨h, e⟩
    · exact upd_same
    · rw [upd_ne h]
      exact r.fx c q e
  · rcases set_get q with ⟨_, h⟩ | ⟨h, q⟩
    · cases h
    · obtain ⟨v, g1, g2⟩ := r.sh j d q
      exact ⟨v, g1, g2.mono sF⟩
  · rcases set_get e with ⟨_, h⟩ | ⟨h, e⟩
    · cases h
    · obtain ⟨v, g1, g2⟩ := r.ow j q e
      have hji : j ≠ i := fun z => h z.symm
      rw [dropF_ne hji]
      exact ⟨v, g1, g2.mono sF fun c hc => upd_ne (ne j c hc hji)⟩
  · obtain ⟨hj, hc⟩ := mem_dropF hc
    obtain ⟨c1, c2, c3⟩ := r.nb j c hc
    have hne := ne j c hc hj
    exact ⟨c1, by rw [upd_ne hne]; exact c2, by rw [upd_ne hne]; exact c3⟩
  · rcases set_get q with ⟨rfl, h⟩ | ⟨h, q⟩
    · cases h
      exact hv
    · exact r.ex j c q
theorem Rel.unlockO (hB : B ad = none) (hF : F ad = none) (nl : notL w) (x : Ext B (upd F ad (.frz od w)) F2) (r2 : Rel B F2 Γ' σ' H2 fp') (e : Γ'[i]? = some (.ex ad)) (ho : RO F (upd H2 ad w) (.ref ad) o [ad]) :
    Ext B F (rmF F2 ad) ∧ Rel B (rmF F2 ad) (Γ'.set i (.ow o)) σ' (upd H2 ad w) (putF fp' i [ad]) ∧ F2 ad = some (.frz od w) := by
  have e0 : F2 ad = some (.frz od w) := x.same ad _ upd_same
  have sF : Same F (rmF F2 ad) := fun c q h => by
    have hne : c ≠ ad := fun z => by rw [z, hF] at h; cases h
    rw [rmF_ne hne]
    exact x.same c q (by rw [upd_ne hne]; exact h)
  have ne : ∀ j c, c ∈ fp' j → c ≠ ad := fun j c hc z => by
    have := (r2.nb j c hc).2.1
    rw [z, e0] at this
    cases this
  have nm : ∀ j c, c ∈ putF fp' i [ad] j → (j = i ∧ c = ad) ∨ (j ≠ i ∧ c ∈ fp' j) := fun j c hc => by
    by_cases hj : j = i
    · subst hj
      rw [putF_same] at hc
      exact .inl ⟨rfl, by simpa using hc⟩
    · rw [putF_ne hj] at hc
      exact .inr ⟨hj, hc⟩
  refine ⟨⟨sF, fun c q z => ?_⟩, ⟨fun c q h => ?_, fun c q h => ?_, by rw [List.length_set]; exact r2.len, fun j d q => ?_, fun j q h => ?_, fun j c hc => ?_, fun j1 j2 c h1 h2 => ?_, fun j c q => r2.ex j c (ex_ne (fun _ => Sl.noConfusion) q).2⟩, e0⟩
  · have hne : c ≠ ad := fun h => by
      rw [h] at q
      exact q (if_pos rfl)
    rw [rmF_ne hne] at q ⊢
    exact x.new c q (by rw [upd_ne hne]; exact z)
  · rw [upd_ne fun z => by rw [z, hB] at h; cases h]
    exact r2.bx c q h
  · obtain ⟨hne, h⟩ := rmF_some h
    rw [upd_ne hne]
    exact r2.fx c q h
  · rcases set_get q with ⟨_, h⟩ | ⟨h, q⟩
    · cases h
    · obtain ⟨v, g1, g2⟩ := r2.sh j d q
      exact ⟨v, g1, g2.rmZ e0 nl⟩
  · rcases set_get h with ⟨rfl, h'⟩ | ⟨hj, h'⟩
    · cases h'
      rw [putF_same]
      exact ⟨_, r2.ex i ad e, ho.mono sF fun a _ => rfl⟩
    · obtain ⟨v, g1, g2⟩ := r2.ow j q h'
      have hji : j ≠ i := fun z => hj z.symm
      rw [putF_ne hji]
      exact ⟨v, g1, RO.rmZ e0 nl g2 (fun z => ne j ad z rfl) fun a ha => upd_ne (ne j a ha)⟩
  · rcases nm j c hc with ⟨rfl, rfl⟩ | ⟨hj, hc⟩
    · exact ⟨hB, if_pos rfl, by rw [upd_same]; exact fun z => nomatch z⟩
    · obtain ⟨c1, c2, c3⟩ := r2.nb j c hc
      have hne := ne j c hc
      exact ⟨c1, by rw [rmF_ne hne]; exact c2, by rw [upd_ne hne]; exact c3⟩
  · rcases nm j1 c h1 with ⟨e1, e2⟩ | ⟨hj, g1⟩
    · rcases nm j2 c h2 with ⟨e3, _⟩ | ⟨_, g2⟩
      · rw [e1, e3]
      · exact absurd e2 (ne j2 c g2)
    · rcases nm j2 c h2 with ⟨_, e2⟩ | ⟨_, g2⟩
      · exact absurd e2 (ne j1 c g1)
      · exact r2.dj j1 j2 c g1 g2
end
def keysD (ds : List (D × D)) : List D := ds.map (·.1)
def key1Ok : D → Prop
  | .str x => PyData.strOk x = true
  | .tuple ks => keyOkD (.tuple ks)
  | _ => True
theorem RpK.get1 {F : Hp} {kvs : List (Key × V)} {ds : List (D × D)} (t : RpK F kvs ds) : ∀ {j : Nat} {d : D}, (keysD ds)[j]? = some d → ∃ k v, kvs[j]? = some (k, v) ∧ d = keyD k := by
  induction kvs generalizing ds with
  | nil =>
    cases t
    intro j d e
    simp [keysD] at e
  | cons p r ih =>
    cases t with
    | @cons k v _ d0 ds h t =>
      intro j d e
      cases j with
      | zero => exact ⟨k, v, rfl, by simpa [keysD] using e.symm⟩
      | succ j => exact ih t (by simpa [keysD] using e)
theorem RpT.get1 {F : Hp} {kvs : List (List Key × V)} {ds : List (D × D)} (t : RpT F kvs ds) : ∀ {j : Nat} {d : D}, (keysD ds)[j]? = some d → ∃ k v, kvs[j]? = some (k, v) ∧ d = .tuple (k.map keyD) := by
  induction kvs generalizing ds with
  | nil =>
    cases t
    intro j d e
    simp [keysD] at e
  | cons p r ih =>
    cases t with
    | @cons k v _ d0 ds h t =>
      intro j d e
      cases j with
      | zero => exact ⟨k, v, rfl, by simpa [keysD] using e.symm⟩
      | succ j => exact ih t (by simpa [keysD] using e)
theorem keys_mem {ds : List (D × D)} {j : Nat} {d : D} (ok : ∀ p ∈ ds, key1Ok p.1) (e : (keysD ds)[j]? = some d) : key1Ok d := by
  obtain ⟨p, hp, rfl⟩ := List.mem_map.mp (List.mem_of_getElem? e)
  exact ok p hp
theorem it_keys {F : Hp} {ad : Addr} {od : Obj} {kvs : List (Key × V)} {ds : List (D × D)} (e : F ad = some (.frz od (.dK kvs))) (t : RpK F kvs ds) (ok : ∀ p ∈ ds, key1Ok p.1) : ItOk (Itk ad od kvs) F (keysD ds) := fun B3 F3 Γ3 σ3 H3 fp3 s3 r3 i => by
  have hH : H3 ad = some (.frz od (.dK kvs)) := r3.fx _ _ (s3 _ _ e)
  have hlen : (keysD ds).length = kvs.length := by rw [keysD, List.length_map, t.length]
  refine ⟨fun d hd => ?_, fun hi => ⟨hH, by omega⟩⟩
  have hi := (List.getElem?_eq_some_iff.mp hd).1
  obtain ⟨k, v, hk, rfl⟩ := t.get1 hd
  have hok := keys_mem ok hd
  refine ⟨⟨hH, by omega⟩, fun y H4 ⟨e4, k', v', hk', ey⟩ => ?_⟩
  subst e4 ey
  rw [hk] at hk'
  cases hk'
  refine ⟨F3, .refl, r3, ?_⟩
  cases k with
  | inl n => exact .int n
  | inr x => exact .str x hok
/-
theorem it_keysT {F : Hp} {ad : Addr} {od : Obj} {kvs : List (List Key × V)} {ds : List (D × D)} (e : F ad = some (.frz od (.dT kvs))) (t : RpT F kvs ds) (ok : ∀ p ∈ ds, key1Ok p.1) : ItOk (Itkt ad od kvs) F (keysD ds) := fun B3 F3 Γ3 σ3 H3 fp3 s3 r3 i => by
  have hH : H3 ad = some (.frz od (.dT kvs)) := r3.fx _ _ (s3 _ _ e)
  have hlen : (keysD ds).length = kvs.length := by rw [keysD, List.length_map, t.length]
  refine ⟨fun d hd => ?_, fun hi => ⟨hH, by omega⟩⟩
  have hi := (List.getElem?_eq_some_iff.mp hd).1
  obtain ⟨k, v, hk, rfl⟩ := t.get1 hd
  have hok := keys_mem ok hd
  refine ⟨⟨hH, by omega⟩, fun y H4 ⟨e4, k', v', q, hk', ey, hq⟩ => ?_⟩
  subst e4 ey
  rw [hk] at hk'
  cases hk'
  obtain ⟨F4, fp4, x4, r4, hF4⟩ := r3.frzTup hq
  sorry
-/
def qLcK (i : Nat) (vs : List Nat) (g : QG) (t : QT) (p : QE) : QE := fun Γ R _ => match Γ[i]? with
  | some (.ow (.k ds)) => (∀ p ∈ ds, key1Ok p.1) ∧ ∀ a : Addr, noOw (Γ.set i (.ex a)) vs = true ∧ lcGo vs g t p (fun acc Γ2 => (backEv (Γ.set i (.ex a)) vs Γ2)[i]? = some (.ex a) ∧ R (.ow (.l acc)) ((backEv (Γ.set i (.ex a)) vs Γ2).set i (.ow (.k ds)))) (keysD ds) [] (wipEv vs (Γ.set i (.ex a)))
  | _ => False
section
variable {W : WX} {g : TG} {qg : QG} {js : List Nat} {tt : TT} {qt : QT} {te : TE} {qe : QE} {vs : List Nat}
theorem se_lcK (i : Nat) (hg : SG g qg js) (ht : ST (fun _ _ _ _ => False) tt qt) (he : SE (fun _ _ _ _ => False) te qe) (hj : ∀ j ∈ js, j ∈ vs) : SE W (tLockE (tLc (iKeys (tVar i)) g tt te vs)) (qLcK i vs qg qt qe) := fun {B F Γ σ H fp} R EX Q r q k e => by
  unfold qLcK at q
  split at q
  · rename_i ds hd
    obtain ⟨hok, q⟩ := q
    obtain ⟨v, hv, h2⟩ := r.ow i _ hd
    generalize hf : fp i = f at h2
    cases h2 with
    | @k ad kvs ds e1 t =>
      have hm : ad ∈ fp i := by rw [hf]; simp
      obtain ⟨b1, b2, b3⟩ := r.nb i ad hm
      refine ⟨ad, .dK kvs, e1, trivial, fun od => ?_⟩
      obtain ⟨ho, q⟩ := q ad
      have r1 := r.lockO (u := .frz od (.dK kvs)) hd hf hv
      have sF : Same F (upd F ad (.frz od (.dK kvs))) := fun c q e => by
        rw [upd_ne fun z => by rw [z, b2] at e; cases e]
        exact e
      have nl : notL (.dK kvs) := fun _ z => nomatch z
      show iKeys (tVar i) σ _ _
      refine ⟨.ref ad, hv, ad, od, rfl, .inl ⟨kvs, upd_same, ?_⟩⟩
      refine lc_body (Q := fun v H' => H' ad = some (.frz od (.dK kvs)) ∧ Q v (upd H' ad (.dK kvs))) r1 (it_keys upd_same (t.mono sF) hok) ho q hg ht he hj fun acc Γ2 Dl F' H' fp' x r2 rw2 hR => ?_
      have hH : H' ad = some (.frz od (.dK kvs)) := r2.fx _ _ (x.same _ _ upd_same)
      obtain ⟨x3, r3, e0⟩ := Rel.unlockO (o := .k ds) b1 b2 nl x r2 hR.1 (.k upd_same t)
      refine ⟨hH, k _ _ (.ref Dl) (rmF F' ad) _ _ x3 r3 ?_ hR.2⟩
      cases rw2 with
      | @ow o f h hfree =>
        cases h with
        | @l a xs ds2 e5 t5 =>
          obtain ⟨f1, f2, f3⟩ := hfree Dl (by simp)
          have hne : Dl ≠ ad := fun z => by rw [z, hH] at e5; cases e5
          refine .ow (f := [Dl]) (.l (by rw [upd_ne hne]; exact e5) (t5.rmZ e0 nl)) fun c hc => ?_
          have : c = Dl := by simpa using hc
          subst this
          refine ⟨f1, by rw [rmF_ne hne]; exact f2, fun j hj2 => ?_⟩
          by_cases hji : j = i
          · subst hji
            rw [putF_same] at hj2
            exact hne (by simpa using hj2)
          · rw [putF_ne hji] at hj2
            exact f3 j hj2
  · exact q.elim
end
section
variable {X : Cx} {W : WX} {pos : Pos} {tg elt : Expr} {g : BK TG} {qg : QG} {js : List Nat} {tt : BK TT} {qt : QT} {te : BK TE} {qe : QE} {ifs : List Expr} {scope : Scope} {own : List (Str × Nat)}
/-- [.. for x in NAME], an own dict -/
theorem b_lcK (i : Nat) {x : Str} {px : Pos} (hc : X.calm = true) (hN : X.N.Nodup) (ok : BlkOk X.N X.env.scope scope own)
    (hg : ∀ (s : Shared) (H : Hp) (C : Addr) (cl : List (Str × Addr)) (fp : List Addr), DG (X.blk s H scope (compEnvC scope cl C X.env) fp) tg (g s H C cl fp) qg js)
    (ht : ∀ (s : Shared) (H : Hp) (C : Addr) (cl : List (Str × Addr)) (fp : List Addr), DTs (X.blk s H scope (compEnvC scope cl C X.env) fp) W0 ifs (tt s H C cl fp) qt)
    (he : ∀ (s : Shared) (H : Hp) (C : Addr) (cl : List (Str × Addr)) (fp : List Addr), DE (X.blk s H scope (compEnvC scope cl C X.env) fp) W0 elt (te s H C cl fp) qe)
    (h1 : ∀ s H C cl fp, g s H C cl fp = bz g := by intros; rfl) (h2 : ∀ s H C cl fp, tt s H C cl fp = bz tt := by intros; rfl) (h3 : ∀ s H C cl fp, te s H C cl fp = bz te := by intros; rfl)
    (hNi : X.N[i]? = some x := by rfl) (hv : Vis X.env.scope x := by first | exact Or.inl rfl | exact Or.inr (Or.inl rfl) | exact Or.inr (Or.inr rfl)) (hd : (x == ("__debug__" : Str)) = false := by decide)
    (hcd : (x == ("__classdict__" : Str)) = false := by decide)
    (hj : (∀ j ∈ js, j ∈ own.map (·.2)) := by decide) (hs : ∀ y, foldedSetIterable (.Name x px) X.env y = pure y := by intro _; rfl) :
    DE X W (.ListComp elt [⟨tg, .Name x px, ifs, 0⟩] scope pos) (tLockE (tLc (iKeys (tVar i)) (bz g) (bz tt) (bz te) (own.map (·.2)))) (qLcK i (own.map (·.2)) qg qt qe) :=
  ⟨pe_lock (pe_lc hc hN (pi_keys (pe_var hNi hv hd hcd)) ok (fun s H C cl fp => h1 s H C cl fp ▸ (hg s H C cl fp).pg) (fun s H C cl fp => h2 s H C cl fp ▸ (ht s H C cl fp).pt) (fun s H C cl fp => h3 s H C cl fp ▸ (he s H C cl fp).pe) hs),
   se_lcK i (hg ({} : Shared) (fun _ => none) 0 [] []).sg (ht ({} : Shared) (fun _ => none) 0 [] []).st (he ({} : Shared) (fun _ => none) 0 [] []).se hj⟩
end
end PL

namespace PL
open PySem PySem.Spec PyProof.Rows L2
section
variable {X : Cx} {W : WX} {pos p : Pos} {a : Expr} {ta : TE} {pa : QE}
/-! ### min of a list of ints -/
def opMin : OP1 := fun d k => match d with
  | .list ds => (match intsOf ds with
    | some ns => 0 < ns.length ∧ ∀ m, m ∈ ns → (∀ y, y ∈ ns → m ≤ y) → k (.sh (.int m))
    | none => False)
  | _ => False
theorem us_min {K : PySem.W.Frag} : UnS (fun x H Q => rMin K [x] H Q) opMin := fun {B F Γ σ H fp x d} k Q r b z c => by
  cases b with
  | @lst a xs ds e t =>
    unfold opMin at z
    simp only at z
    split at z
    · rename_i ns hn
      have := ints_rp t hn
      subst this
      exact ⟨a, ns, rfl, .inl (.inl e), z.1, fun m h1 h2 => op_sc r (.int _) c (z.2 m h1 h2)⟩
    · exact z.elim
  | _ => exact z.elim
theorem d_min (hc : X.calm = true) (hm : X.mg "min" = none) (ha : DE X W a ta pa) (hg : Gl X "min" := by rfl) (he : starEach [a] X.env = (false, eval a X.env) :: starEach [] X.env := by rfl) (hpl : (backTo pos (starEach [] X.env)).any (·.1) = false := by rfl) :
    DE X W (.Call (.Name "min" p) [a] [] pos) (tCB (rMin X.K) (tCons ta tNil)) (qUn opMin pa) := d_bi1 (cr_min hc) us_min hm (by decide +kernel) ha hg (by decide) (by decide) he hpl
end
end PL

namespace PL
open PySem PySem.Spec PyProof.Rows L2
/-! ### a comprehension over an own list that stays own -/
def qLcO (i : Nat) (vs : List Nat) (g : QG) (t : QT) (p : QE) : QE := fun Γ R _ => match Γ[i]? with
  | some (.ow (.l ds)) => vs.contains i = false ∧ noOw Γ vs = true ∧ lcGo vs (fun w Γ' k => Γ'[i]? = some (.ow (.l ds)) ∧ g w Γ' k) t p (fun acc Γ2 => Γ2[i]? = some (.ow (.l ds)) ∧ R (.ow (.l acc)) (backEv Γ vs Γ2)) ds [] (wipEv vs Γ)
  | _ => False
section
variable {W : WX} {g : TG} {qg : QG} {js : List Nat} {tt : TT} {qt : QT} {te : TE} {qe : QE} {vs : List Nat}
theorem se_lcO {K : PySem.W.Frag} (i : Nat) (hg : SG g qg js) (ht : ST (fun _ _ _ _ => False) tt qt) (he : SE (fun _ _ _ _ => False) te qe) (hj : ∀ j ∈ js, j ∈ vs) : SE W (tLc (iList K (tVar i)) g tt te vs) (qLcO i vs qg qt qe) := fun {B F Γ σ H fp} R EX Q r q k e => by
  unfold qLcO at q
  split at q
  · rename_i ds hd
    obtain ⟨hi, ho, q⟩ := q
    obtain ⟨v, hv, h2⟩ := r.ow i _ hd
    have hv' : (wipe σ vs)[i]? = some (some v) := by rw [wipe_out (by simpa using hi)]; exact hv
    obtain ⟨ad, rfl, hsq⟩ : ∃ ad, v = .ref ad ∧ ∃ xs, SqL K H ad xs := by
      generalize fp i = f at h2
      cases h2 with
      | @l a xs ds e t => exact ⟨a, rfl, xs, .inl (.inl e)⟩
    refine ⟨.ref ad, hv, ad, rfl, hsq, ?_⟩
    intro Dl hD
    have r2 : Rel B F (wipEv vs Γ) (wipe σ vs) H fp := r.wip vs
    obtain ⟨r3, v3⟩ := new_lst r2 (.nil) hD
    refine ⟨fun n m H' => m + n = ds.length ∧ ∃ Γ' F' fp' acc, Ext B F F' ∧ Rel B F' Γ' (wipe σ vs) H' fp' ∧ OwnV B F' H' fp' (.ref Dl) (.l acc) ∧
      lcGo vs (fun w Γ' k => Γ'[i]? = some (.ow (.l ds)) ∧ qg w Γ' k) qt qe (fun acc Γ2 => Γ2[i]? = some (.ow (.l ds)) ∧ R (.ow (.l acc)) (backEv Γ vs Γ2)) (ds.drop n) acc Γ', ⟨ds.length, rfl, _, F, fp, [], .refl, r3, v3.own, q⟩, ?_⟩
    rintro n m H' ⟨hm, Γ', F', fp', acc, x, r', v', hf⟩
    have cell : ∀ {B' : Hp}, Rel B' F' Γ' (wipe σ vs) H' fp' → Γ'[i]? = some (.ow (.l ds)) → ∃ us, H' ad = some (.lst us) ∧ RpA F' us ds := fun r' hc => by
      obtain ⟨u, z1, z2⟩ := r'.ow i _ hc
      rw [hv'] at z1
      cases z1
      generalize fp' i = f at z2
      cases z2 with
      | @l a us ds e t => exact ⟨us, e, t⟩
    by_cases hlt : n < ds.length
    · rw [List.drop_eq_getElem_cons hlt] at hf
      obtain ⟨hc, hf⟩ := hf
      obtain ⟨us, hus, tus⟩ := cell r' hc
      obtain ⟨u, g1, g2⟩ := tus.get (List.getElem?_eq_getElem hlt)
      obtain ⟨B', rB, gd⟩ := r'.hold v'
      refine .inr ⟨⟨us, u, .inl (.inl hus), g1⟩, fun H2 => ∃ m', m' < m ∧ (m' + (n + 1) = ds.length ∧ ∃ Γ' F' fp' acc, Ext B F F' ∧ Rel B F' Γ' (wipe σ vs) H2 fp' ∧ OwnV B F' H2 fp' (.ref Dl) (.l acc) ∧
        lcGo vs (fun w Γ' k => Γ'[i]? = some (.ow (.l ds)) ∧ qg w Γ' k) qt qe (fun acc Γ2 => Γ2[i]? = some (.ow (.l ds)) ∧ R (.ow (.l acc)) (backEv Γ vs Γ2)) (ds.drop (n + 1)) acc Γ'), fun H2 h => h, fun y H2 hy => ?_⟩
      obtain ⟨e4, f4⟩ := hy
      subst e4
      have hy := f4 us (.inl (.inl hus))
      rw [g1] at hy
      cases hy
      refine hg _ _ rB (.sh g2) hf fun Γ3 F3 σ3 fp3 x3 r3 c3 h3 => ?_
      have hw3 : wipe σ3 vs = wipe σ vs := wipe_chg c3 hj
      refine ⟨hw3, ht _ noEX _ r3 h3 (fun b Γ4 F4 H4 fp4 x4 r4 h4 => ?_) afe_no⟩
      have x24 := x3.trans x4
      cases b with
      | true =>
        refine he _ noEX _ r4 (h4.t rfl) (fun w5 Γ5 z F5 H5 fp5 x5 r5 v5 h5 => ?_) afe_no
        obtain ⟨d6, Γ6, F6, fp6, x6, r6, b6, hsz, h6⟩ := shr_ok r5 v5 h5
        have r7 := r6.wip vs
        rw [hw3] at r7
        obtain ⟨y8, r8, v8⟩ := gd F6 _ _ H5 fp6 ((x24.trans x5).trans x6) r7
        obtain ⟨xs, e9, l9, r9, v9⟩ := own_app r8 v8 b6
        exact ⟨xs, e9, by rw [l9]; exact hsz, m - 1, by omega, by omega, _, F6, fp6, _, x.trans y8, r9, v9, h6⟩
      | false =>
        have r7 := r4.wip vs
        rw [hw3] at r7
        obtain ⟨y8, r8, v8⟩ := gd F4 _ _ H4 fp4 x24 r7
        exact ⟨m - 1, by omega, by omega, _, F4, fp4, acc, x.trans y8, r8, v8, h4.f rfl⟩
    · rw [List.drop_of_length_le (by omega)] at hf
      obtain ⟨hc, hf⟩ := hf
      obtain ⟨us, hus, tus⟩ := cell r' hc
      refine .inl ⟨⟨us, .inl (.inl hus), by rw [tus.length]; omega⟩, ?_⟩
      exact k _ _ _ F' H' fp' x (r.back ho x.same r') v'.rw hf
  · exact q.elim
end
section
variable {X : Cx} {W : WX} {pos : Pos} {tg elt : Expr} {g : BK TG} {qg : QG} {js : List Nat} {tt : BK TT} {qt : QT} {te : BK TE} {qe : QE} {ifs : List Expr} {scope : Scope} {own : List (Str × Nat)}
/-- [.. for x in NAME], an own list, which stays own -/
theorem b_lcO (i : Nat) {x : Str} {px : Pos} (hc : X.calm = true) (hN : X.N.Nodup) (ok : BlkOk X.N X.env.scope scope own)
    (hg : ∀ (s : Shared) (H : Hp) (C : Addr) (cl : List (Str × Addr)) (fp : List Addr), DG (X.blk s H scope (compEnvC scope cl C X.env) fp) tg (g s H C cl fp) qg js)
    (ht : ∀ (s : Shared) (H : Hp) (C : Addr) (cl : List (Str × Addr)) (fp : List Addr), DTs (X.blk s H scope (compEnvC scope cl C X.env) fp) W0 ifs (tt s H C cl fp) qt)
    (he : ∀ (s : Shared) (H : Hp) (C : Addr) (cl : List (Str × Addr)) (fp : List Addr), DE (X.blk s H scope (compEnvC scope cl C X.env) fp) W0 elt (te s H C cl fp) qe)
    (h1 : ∀ s H C cl fp, g s H C cl fp = bz g := by intros; rfl) (h2 : ∀ s H C cl fp, tt s H C cl fp = bz tt := by intros; rfl) (h3 : ∀ s H C cl fp, te s H C cl fp = bz te := by intros; rfl)
    (hNi : X.N[i]? = some x := by rfl) (hv : Vis X.env.scope x := by first | exact Or.inl rfl | exact Or.inr (Or.inl rfl) | exact Or.inr (Or.inr rfl)) (hd : (x == ("__debug__" : Str)) = false := by decide)
    (hcd : (x == ("__classdict__" : Str)) = false := by decide)
    (hj : (∀ j ∈ js, j ∈ own.map (·.2)) := by decide) (hs : ∀ y, foldedSetIterable (.Name x px) X.env y = pure y := by intro _; rfl) :
    DE X W (.ListComp elt [⟨tg, .Name x px, ifs, 0⟩] scope pos) (tLc (iList X.K (tVar i)) (bz g) (bz tt) (bz te) (own.map (·.2))) (qLcO i (own.map (·.2)) qg qt qe) :=
  ⟨pe_lc hc hN (pi_list (pe_var hNi hv hd hcd)) ok (fun s H C cl fp => h1 s H C cl fp ▸ (hg s H C cl fp).pg) (fun s H C cl fp => h2 s H C cl fp ▸ (ht s H C cl fp).pt) (fun s H C cl fp => h3 s H C cl fp ▸ (he s H C cl fp).pe) hs,
   se_lcO i (hg ({} : Shared) (fun _ => none) 0 [] []).sg (ht ({} : Shared) (fun _ => none) 0 [] []).st (he ({} : Shared) (fun _ => none) 0 [] []).se hj⟩
theorem bs_setLcO (i : Nat) {i2 : Nat} {x y : Str} {px py spos : Pos} (hc : X.calm = true) (hN : X.N.Nodup) (ok : BlkOk X.N X.env.scope scope own)
    (hg : ∀ (s : Shared) (H : Hp) (C : Addr) (cl : List (Str × Addr)) (fp : List Addr), DG (X.blk s H scope (compEnvC scope cl C X.env) fp) tg (g s H C cl fp) qg js)
    (ht : ∀ (s : Shared) (H : Hp) (C : Addr) (cl : List (Str × Addr)) (fp : List Addr), DTs (X.blk s H scope (compEnvC scope cl C X.env) fp) W0 ifs (tt s H C cl fp) qt)
    (he : ∀ (s : Shared) (H : Hp) (C : Addr) (cl : List (Str × Addr)) (fp : List Addr), DE (X.blk s H scope (compEnvC scope cl C X.env) fp) W0 elt (te s H C cl fp) qe)
    (hsw : swapsWith (.ListComp elt [⟨tg, .Name x px, ifs, 0⟩] scope pos) (some (.Name y py)) spos.line X.env = pure true)
    (h1 : ∀ s H C cl fp, g s H C cl fp = bz g := by intros; rfl) (h2 : ∀ s H C cl fp, tt s H C cl fp = bz tt := by intros; rfl) (h3 : ∀ s H C cl fp, te s H C cl fp = bz te := by intros; rfl)
    (hNi : X.N[i]? = some x := by rfl) (hv : Vis X.env.scope x := by first | exact Or.inl rfl | exact Or.inr (Or.inl rfl) | exact Or.inr (Or.inr rfl)) (hd : (x == ("__debug__" : Str)) = false := by decide)
    (hcd : (x == ("__classdict__" : Str)) = false := by decide) (hy : X.N[i2]? = some y := by rfl) (hyl : X.env.scope.names.lookup y = some .local := by rfl)
    (hj : (∀ j ∈ js, j ∈ own.map (·.2)) := by decide) (hs : ∀ y, foldedSetIterable (.Name x px) X.env y = pure y := by intro _; rfl) :
    DS X W (.Assign [.Name y py] (.ListComp elt [⟨tg, .Name x px, ifs, 0⟩] scope pos) spos) (tAsg (tLc (iList X.K (tVar i)) (bz g) (bz tt) (bz te) (own.map (·.2))) (gName i2)) (qAsg (qLcO i (own.map (·.2)) qg qt qe) (qgN i2)) :=
  ⟨ps_setLc hc hN hy hyl hsw (pi_list (pe_var hNi hv hd hcd)) ok (fun s H C cl fp => h1 s H C cl fp ▸ (hg s H C cl fp).pg) (fun s H C cl fp => h2 s H C cl fp ▸ (ht s H C cl fp).pt) (fun s H C cl fp => h3 s H C cl fp ▸ (he s H C cl fp).pe) hs,
   ss_asg (se_lcO i (hg ({} : Shared) (fun _ => none) 0 [] []).sg (ht ({} : Shared) (fun _ => none) 0 [] []).st (he ({} : Shared) (fun _ => none) 0 [] []).se hj) sg_name⟩
end
end PL

namespace PL
open PySem PySem.Spec PyProof.Rows L2
abbrev tl (x : Str) : List Nat := x.cps.toList
theorem idxOf?_mem {l : List Nat} {c : Nat} (h : c ∈ l) : l.idxOf? c = some (l.idxOf c) := List.findIdx?_eq_some_iff_findIdx_eq.mpr ⟨List.idxOf_lt_length_iff.mpr h, rfl⟩
theorem str_ext {x y : Str} (h : tl x = tl y) : x = y := by
  cases x
  cases y
  congr 1
  exact Array.toList_inj.mp h
theorem tl_app (x y : Str) : tl (x ++ y) = tl x ++ tl y := by
  show (x.cps ++ y.cps).toList = _
  rw [Array.toList_append]
theorem ixD_map {α : Type} {xs : List α} {p : Nat} {a : α} (f : α → D) (h : xs[p]? = some a) : ixD (xs.map f) (p : Int) = some (f a) := by
  show (xs.map f)[p]? = _
  rw [List.getElem?_map, h]
  rfl
theorem ixD_nat {α : Type} {xs : List α} {p : Nat} {a : α} (h : xs[p]? = some a) : ixD xs (p : Int) = some a := h
theorem tl_len (x : Str) : (tl x).length = x.length := by simp [tl, Str.length]
def natD (n : Nat) : D := .int n
theorem intsOf_map' {α : Type} (g : α → Int) : ∀ xs : List α, intsOf (xs.map fun x => .int (g x)) = some (xs.map g)
  | [] => rfl
  | x :: r => by simp [intsOf, intsOf_map' g r]
theorem app_len (x y : Str) : (x ++ y).length = x.length + y.length := by
  rw [← tl_len, tl_app, List.length_append, tl_len, tl_len]
theorem hasDict_keys : ∀ k : List Key, PyData.hasDictAll (k.map keyD) = false
  | [] => by simp [PyData.hasDictAll]
  | .inl i :: r => by simp [PyData.hasDictAll, keyD, PyData.hasDict, hasDict_keys r]
  | .inr i :: r => by simp [PyData.hasDictAll, keyD, PyData.hasDict, hasDict_keys r]
theorem depth_keys : ∀ k : List Key, PyData.depthAll (k.map keyD) ≤ 1
  | [] => by simp [PyData.depthAll]
  | .inl i :: r => by
    have := depth_keys r
    simp only [List.map_cons, keyD, PyData.depthAll, PyData.depth]
    omega
  | .inr i :: r => by
    have := depth_keys r
    simp only [List.map_cons, keyD, PyData.depthAll, PyData.depth]
    omega
theorem flat_keys (k : List Key) : flat 60 (.tuple (k.map keyD)) = true := by
  have := depth_keys k
  have e : (PyData.tuple (k.map keyD)).depth = PyData.depthAll (k.map keyD) + 1 := by simp [PyData.depth]
  simp only [flat, PyData.hasDict, hasDict_keys, e, Bool.not_false, Bool.true_and, decide_eq_true_eq]
  omega
theorem boolsOf_map' {α : Type} (g : α → Bool) : ∀ xs : List α, boolsOf (xs.map fun x => .bool (g x)) = some (xs.map g)
  | [] => rfl
  | x :: r => by simp [boolsOf, boolsOf_map' g r]
theorem flat_int (i : Int) : flat 60 (.int i) = true := rfl
theorem eqv_nat (a b : Nat) : PyData.eqv (.int a) (.int b) = (a == b) := by
  have := eqv_keyD (.inl (a : Int)) (.inl (b : Int))
  show PyData.eqv (keyD (.inl (a : Int))) (keyD (.inl (b : Int))) = _
  rw [this, Bool.beq_eq_decide_eq]
  apply decide_eq_decide.mpr
  simp
  omega
theorem eqv_int (a b : Int) : PyData.eqv (.int a) (.int b) = decide (a = b) := by
  have := eqv_keyD (.inl a) (.inl b)
  show PyData.eqv (keyD (.inl a)) (keyD (.inl b)) = _
  rw [this]
  apply decide_eq_decide.mpr
  simp
theorem eqv_str (a b : Str) : PyData.eqv (.str a) (.str b) = decide (a = b) := by
  have := eqv_keyD (.inr a) (.inr b)
  show PyData.eqv (keyD (.inr a)) (keyD (.inr b)) = _
  rw [this]
  apply decide_eq_decide.mpr
  simp
theorem sign_inj (a b : Nat) : decide ((⟨#[a]⟩ : Str) = ⟨#[b]⟩) = decide (a = b) := by
  apply decide_eq_decide.mpr
  simp
theorem Cif.tt {c : Bool} {A B : Prop} (e : c = true) (h : A) : Cif c A B := by
  subst e
  exact Cif.yes h
theorem Cif.ff {c : Bool} {A B : Prop} (e : c = false) (h : B) : Cif c A B := by
  subst e
  exact Cif.no h
def intsD (ns : List Int) : D := .list (ns.map .int)
def scrD (ns : List Int) : D := .dict [(.none, intsD ns)]
theorem map_snoc (ns : List Int) (x : Int) : ns.map PyData.int ++ [.int x] = (ns ++ [x]).map .int := by simp
theorem app_in {ns : List Int} {l x : Int} (h : ∀ x ∈ ns, 0 ≤ x ∧ x < l) (h0 : 0 ≤ x) (h1 : x < l) : ∀ y ∈ ns ++ [x], 0 ≤ y ∧ y < l := by
  intro y hy
  rcases List.mem_append.mp hy with hy | hy
  · exact h y hy
  · simp at hy
    subst hy
    exact ⟨h0, h1⟩
def sameOk : Nat → D → Bool
  | 0, _ => false
  | n + 1, d => match d with
    | .list xs => decide (xs.length ≤ 1000000) && xs.all (sameOk n)
    | .tuple xs => decide (xs.length ≤ 1000000) && xs.all (sameOk n)
    | .dict _ => false
    | _ => true
theorem eqv_bool (a b : Bool) : PyData.eqv (.bool a) (.bool b) = decide (a = b) := by
  cases a <;> cases b <;> rfl
theorem strsOf_map' {α : Type} (g : α → Str) : ∀ xs : List α, strsOf (xs.map fun x => .str (g x)) = some (xs.map g)
  | [] => rfl
  | x :: r => by simp [strsOf, strsOf_map' g r]
theorem join_signs : ∀ cs : List Nat, tl (Str.join Str.empty (cs.map fun c => ⟨#[c]⟩)) = cs
  | [] => rfl
  | [c] => rfl
  | c :: d :: r => by
    have ih := join_signs (d :: r)
    show tl ((⟨#[c]⟩ : Str) ++ Str.empty ++ Str.join Str.empty ((d :: r).map fun c => ⟨#[c]⟩)) = _
    rw [tl_app, tl_app, ih]
    rfl
theorem nodup_inj {l : List Nat} (h : l.Nodup) {i j : Nat} {hi : i < l.length} {hj : j < l.length} (e : l[i] = l[j]) : i = j := by
  have p := List.pairwise_iff_getElem.mp h
  rcases Nat.lt_trichotomy i j with q | q | q
  · exact absurd e (p i j hi hj q)
  · exact q
  · exact absurd e.symm (p j i hj hi q)
theorem ixN_lt {n i : Nat} (h : i < n) : ixN n (i : Int) = some i := by
  unfold ixN
  rw [if_pos (by omega), if_pos (by omega)]
  simp
theorem enumD_map {α : Type} (g : α → D) : ∀ (xs : List α) (k : Nat), enumD k (xs.map g) = (xs.zipIdx k).map fun p => .tuple [.int (p.2 : Int), g p.1]
  | [], _ => rfl
  | x :: r, k => by simp [enumD, enumD_map g r]
theorem drop_cons {k n : Nat} {i : Nat} {r : List Nat} (h : (List.range n).drop k = i :: r) : k < n ∧ i = k ∧ r = (List.range n).drop (k + 1) := by
  by_cases hk : k < n
  · rw [List.drop_eq_getElem_cons (by simpa using hk)] at h
    simp only [List.getElem_range, List.cons.injEq] at h
    exact ⟨hk, h.1.symm, h.2.symm⟩
  · rw [List.drop_eq_nil_of_le (by simpa using hk)] at h
    cases h
theorem filter_one : ∀ (n p : Nat), p < n → ((List.range n).filter fun k => k == p) = [p]
  | 0, p, h => by omega
  | n + 1, p, h => by
    rw [List.range_succ, List.filter_append]
    by_cases e : p = n
    · subst e
      rw [List.filter_eq_nil_iff.mpr fun k hk => by simp only [List.mem_range] at hk; simp; omega]
      simp
    · rw [filter_one n p (by omega)]
      have : (n == p) = false := beq_eq_false_iff_ne.mpr (by omega)
      simp [this]
theorem nodup_le {α : Type} [DecidableEq α] : ∀ {l l' : List α}, l.Nodup → (∀ x ∈ l, x ∈ l') → l.length ≤ l'.length
  | [], _, _, _ => Nat.zero_le _
  | a :: r, l', h, hs => by
    have h := List.nodup_cons.mp h
    have ha := hs a (by simp)
    have := nodup_le (l := r) (l' := l'.erase a) h.2 fun x hx => (List.mem_erase_of_ne fun z => h.1 (by rw [← z]; exact hx)).mpr (hs x (List.mem_cons_of_mem _ hx))
    rw [List.length_erase_of_mem ha] at this
    have := List.length_pos_of_mem ha
    simp only [List.length_cons]
    omega
theorem ixD_last {α : Type} {xs : List α} {k : Nat} {a : α} (hl : xs.length = k + 1) (h : xs[k]? = some a) : ixD xs (-1) = some a := by
  show (if 0 < xs.length then xs[xs.length - 1 - 0]? else none) = _
  rw [if_pos (by omega), show xs.length - 1 - 0 = k by omega, h]
theorem plain_ints : ∀ ns : List Int, PyData.plainAll (ns.map .int) = true
  | [] => rfl
  | n :: r => by simp [PyData.plainAll, PyData.plain, plain_ints r]
theorem seq_i {p q : QS} {P : PEnds} {Γ : Ev} (h : p { P with nx := q P } Γ) : qSeq p q P Γ := h
end PL

namespace PL
open PySem PySem.Spec PyProof.Rows L2
/-! ### plain data that can be shown: no dict, depth k, weight w -/
structure Pd (k w : Nat) (d : D) : Prop where
  hd : d.hasDict = false
  dp : d.depth ≤ k
  wt : d.weight ≤ w
  sh : d.showable = true
  is : d.intsShort 13 = true
structure PdA (k w : Nat) (ds : List D) : Prop where
  hd : PyData.hasDictAll ds = false
  dp : PyData.depthAll ds ≤ k
  wt : PyData.weightAll ds ≤ w
  sh : PyData.showableAll ds = true
  is : PyData.intsShortAll 13 ds = true
theorem Pd.mono {k w k' w' : Nat} {d : D} (h : Pd k w d) (hk : k ≤ k') (hw : w ≤ w') : Pd k' w' d := ⟨h.hd, Nat.le_trans h.dp hk, Nat.le_trans h.wt hw, h.sh, h.is⟩
theorem PdA.mono {k w k' w' : Nat} {d : List D} (h : PdA k w d) (hk : k ≤ k') (hw : w ≤ w') : PdA k' w' d := ⟨h.hd, Nat.le_trans h.dp hk, Nat.le_trans h.wt hw, h.sh, h.is⟩
theorem Pd.non : Pd 0 0 .none := ⟨rfl, Nat.le_refl _, Nat.le_refl _, rfl, rfl⟩
theorem Pd.bool {b : Bool} : Pd 0 0 (.bool b) := ⟨rfl, Nat.le_refl _, Nat.le_refl _, rfl, rfl⟩
theorem Pd.int {i : Int} (h : -999999999999 ≤ i ∧ i ≤ 999999999999) : Pd 0 40 (.int i) := by
  have hlog : i ≠ 0 → i.natAbs.log2 < 40 := fun hz => (Nat.log2_lt (n := i.natAbs) (k := 40) (by omega)).mpr (by omega)
  refine ⟨rfl, Nat.le_refl _, ?_, ?_, ?_⟩
  · simp only [PyData.weight]
    split
    · omega
    · rename_i hz
      have := hlog (by simpa using hz)
      omega
  · simp only [PyData.showable, decide_eq_true_eq]
    by_cases hz : i = 0
    · subst hz
      decide
    · have := hlog hz
      omega
  · have := PyProof.Rows.intsShortAll_ints2 [i] (by simpa using h)
    simpa [PyData.intsShortAll] using this
theorem Pd.str {x : Str} : Pd 0 x.length (.str x) := ⟨rfl, Nat.le_refl _, by simp [PyData.weight, Str.length], rfl, rfl⟩
theorem PdA.nil {k : Nat} : PdA k 0 [] := ⟨rfl, Nat.zero_le _, Nat.le_refl _, rfl, rfl⟩
theorem PdA.cons {k w w' : Nat} {d : D} {ds : List D} (h : Pd k w d) (r : PdA k w' ds) : PdA k (w + w' + 1) (d :: ds) := by
  refine ⟨by simp [PyData.hasDictAll, h.hd, r.hd], ?_, ?_, by simp [PyData.showableAll, h.sh, r.sh], by simp [PyData.intsShortAll, h.is, r.is]⟩
  · have := h.dp
    have := r.dp
    simp only [PyData.depthAll]
    omega
  · have := h.wt
    have := r.wt
    simp only [PyData.weightAll]
    omega
theorem Pd.lst {k w : Nat} {ds : List D} (h : PdA k w ds) : Pd (k + 1) w (.list ds) := ⟨by simpa [PyData.hasDict] using h.hd, by have := h.dp; simp only [PyData.depth]; omega, by simpa [PyData.weight] using h.wt, by simpa [PyData.showable] using h.sh, by simpa [PyData.intsShort] using h.is⟩
theorem Pd.tup {k w : Nat} {ds : List D} (h : PdA k w ds) : Pd (k + 1) w (.tuple ds) := ⟨by simpa [PyData.hasDict] using h.hd, by have := h.dp; simp only [PyData.depth]; omega, by simpa [PyData.weight] using h.wt, by simpa [PyData.showable] using h.sh, by simpa [PyData.intsShort] using h.is⟩
theorem PdA.map {α : Type} {k w : Nat} (f : α → D) : ∀ (xs : List α), (∀ x ∈ xs, Pd k w (f x)) → PdA k ((w + 1) * xs.length) (xs.map f)
  | [], _ => .nil
  | x :: r, h => (PdA.cons (h x List.mem_cons_self) (PdA.map f r fun y hy => h y (List.mem_cons_of_mem _ hy))).mono (Nat.le_refl _) (by rw [List.length_cons, Nat.mul_succ]; omega)
theorem PdA.mapL {α : Type} {k w n : Nat} (f : α → D) (xs : List α) (h : ∀ x ∈ xs, Pd k w (f x)) (hn : xs.length ≤ n) : PdA k ((w + 1) * n) (xs.map f) := (PdA.map f xs h).mono (Nat.le_refl _) (Nat.mul_le_mul_left _ hn)
theorem PdA.app {k w w' : Nat} : ∀ {ds es : List D}, PdA k w ds → PdA k w' es → PdA k (w + w') (ds ++ es)
  | [], es, _, e => by
    rw [List.nil_append]
    exact e.mono (Nat.le_refl _) (Nat.le_add_left _ _)
  | d :: ds, es, h, e => by
    have h1 := h.hd
    have h2 := h.dp
    have h3 := h.wt
    have h4 := h.sh
    have h5 := h.is
    simp only [PyData.hasDictAll, Bool.or_eq_false_iff] at h1
    simp only [PyData.depthAll] at h2
    simp only [PyData.weightAll] at h3
    simp only [PyData.showableAll, Bool.and_eq_true] at h4
    simp only [PyData.intsShortAll, Bool.and_eq_true] at h5
    rw [List.cons_append]
    have ih := PdA.app (k := k) (w := PyData.weightAll ds) (w' := w') (ds := ds) ⟨h1.2, by omega, Nat.le_refl _, h4.2, h5.2⟩ e
    exact (PdA.cons (w := d.weight) ⟨h1.1, by omega, Nat.le_refl _, h4.1, h5.1⟩ ih).mono (Nat.le_refl _) (by omega)
theorem Pd.flat {k w : Nat} {d : D} (h : Pd k w d) (hk : k ≤ 60) : flat 60 d = true := by
  have := h.dp
  have e : d.depth ≤ 60 := by omega
  simp [PL.flat, h.hd, e]
theorem Pd.shown {k w : Nat} {d : D} (h : Pd k w d) (hw : w ≤ 60000) (hc : d.canLay0 = true) : d.shown.length + 64 ≤ sizeLine := by
  have h1 := PyData.shown_le 13 (by decide) d (PyData.leavesShort_of_canLay0 13 d hc h.is)
  have := h.wt
  have : d.weight ≤ 60000 := by omega
  have := Nat.mul_le_mul_left 15 this
  rw [sizeLine_eq]
  omega
theorem Pd.show {k w : Nat} {d : D} (h : Pd k w d) (hk : k ≤ 60) (hw : w ≤ 60000) : d.showable = true ∧ PL.flat 60 d = true ∧ (d.canLay0 = true → d.shown.length + 64 ≤ sizeLine) := ⟨h.sh, h.flat hk, h.shown hw⟩
/-! ### slices of typed lists -/
def cutG {α : Type} (v : List α) (lo hi : Option Int) : List α := (v.drop (HT.sIx v.length 0 lo)).take (HT.sIx v.length v.length hi - HT.sIx v.length 0 lo)
theorem cutD_map {α : Type} (f : α → D) (v : List α) (lo hi : Option Int) : cutD (v.map f) lo hi = (cutG v lo hi).map f := by
  unfold cutD cutG
  rw [List.length_map, List.map_take, List.map_drop]
theorem cutG_to {α : Type} (v : List α) (k : Nat) : cutG v (some 0) (some (k : Int)) = v.take k := by
  unfold cutG
  rw [show (0 : Int) = ((0 : Nat) : Int) from rfl, HT.sIx_nat, HT.sIx_nat, Nat.zero_min, List.drop_zero, Nat.sub_zero, List.take_eq_take_iff]
  omega
theorem cutG_to0 {α : Type} (v : List α) (k : Nat) : cutG v none (some (k : Int)) = v.take k := by
  unfold cutG
  rw [HT.sIx_none, HT.sIx_nat, List.drop_zero, Nat.sub_zero, List.take_eq_take_iff]
  omega
theorem cutG_from {α : Type} (v : List α) (k : Nat) : cutG v (some (k : Int)) none = v.drop k := by
  unfold cutG
  rw [HT.sIx_nat, HT.sIx_none]
  by_cases h : k ≤ v.length
  · rw [Nat.min_eq_left h, List.take_of_length_le (by rw [List.length_drop]; omega)]
  · rw [Nat.min_eq_right (by omega), List.drop_of_length_le (Nat.le_refl _), List.drop_of_length_le (by omega), List.take_nil]
theorem cutG_btw {α : Type} (v : List α) (a b : Nat) : cutG v (some (a : Int)) (some (b : Int)) = (v.drop a).take (b - a) := by
  unfold cutG
  rw [HT.sIx_nat, HT.sIx_nat]
  by_cases h : a ≤ v.length
  · rw [Nat.min_eq_left h, List.take_eq_take_iff, List.length_drop]
    omega
  · rw [Nat.min_eq_right (a := a) (b := v.length) (by omega), List.drop_of_length_le (Nat.le_refl _), List.drop_of_length_le (by omega), List.take_nil, List.take_nil]
theorem mem_cutG {α : Type} {v : List α} {lo hi : Option Int} {x : α} (h : x ∈ cutG v lo hi) : x ∈ v := List.mem_of_mem_drop (List.mem_of_mem_take h)
theorem len_cutG {α : Type} (v : List α) (lo hi : Option Int) : (cutG v lo hi).length ≤ v.length := by
  unfold cutG
  rw [List.length_take, List.length_drop]
  omega
end PL

set_option pp.maxSteps 1500
namespace PL
open PySem PySem.Spec PyProof.Rows L2
local macro_rules | `(tactic| ac_rfl) => `(tactic| ((conv => whnf); repeat ((first | refine Cif.yes ?_ | refine Cif.no ?_ | (refine And.intro ?_ ?_; · first | (show _ ≤ (_ : Int); omega) | (show _ < (_ : Int); omega) | assumption | exact trivial | exact rfl | (refine small ?_; first | omega | (simp only [List.length_map, List.length_cons, List.length_nil, List.length_append]; omega)) | (refine ltsmall ?_; first | omega | (simp only [List.length_map, List.length_cons, List.length_nil, List.length_append]; omega)) | (refine cdiv ?_ ?_ <;> omega) | (refine cmulR ?_ ?_ <;> omega) | (refine cmulL ?_ ?_ <;> omega) | (refine ⟨?_, ?_, ?_, ?_⟩ <;> omega))); (conv => whnf))))
local macro_rules | `(tactic| exists $e) => `(tactic| first | exact $e | exact And.right $e | exact And.right (And.right $e) | exact And.right (And.right (And.right $e)))
/-! ### renamings -/
abbrev Rn := List (Str × Str)
def prD (p : Str × Str) : D := .tuple [.str p.1, .str p.2]
def rnD (rn : Rn) : D := .list (rn.map prD)
structure RnOk (rn : Rn) : Prop where
  n1 : 1 ≤ rn.length
  n2 : rn.length ≤ 12
  od : (rn.map (·.1)).Nodup
  nd : (rn.map (·.2)).Nodup
def moversL (rn : Rn) : List Nat := ((rn.zipIdx).filter fun p => p.1.1 != p.1.2).map (·.2)
-- movers_of(renaming) slots: 0=renaming 1=k 2=old 3=new
def q_movers_of : QS :=
  (qRet (qLc [1, 2, 3] (qiE (qCons (qVar 0) qNil)) (qgTup 2 (qgCons (qgN 1) (qgCons (qgTup 2 (qgCons (qgN 2) (qgCons (qgN 3) qgNil))) qgNil))) (qB (qOp opNe (qVar 2) (qVar 3))) (qVar 1)))
def P_movers_of : PD := fun ds R => ∃ rn : Rn, ds = [rnD rn] ∧ rn.length ≤ 12 ∧ R (.ow (.l ((moversL rn).map natD)))
theorem pure_movers_of : ∀ ds R, ds.length = 1 → P_movers_of ds R → q_movers_of (endsOf R) (startEv 4 ds) := by
  rintro ds R - ⟨rn, rfl, hn, h⟩
  ac_rfl
  rw [enumD_map]
  refine lc0_fil (vs := [1, 2, 3]) (fun p : (Str × Str) × Nat => .tuple [.int (p.2 : Int), prD p.1]) (fun p => p.1.1 != p.1.2) (fun p => natD p.2) _ (fun p hp acc K ha hK1 hK2 => ?_) (by simp; exact small (by omega)) ?_
  · ac_rfl
    rw [eqv_str]
    refine ⟨fun hz => ?_, fun hz => ?_⟩
    · ac_rfl
      refine hK1 ?_
      have hz : ¬ p.1.1 = p.1.2 := by simpa using hz
      simpa using hz
    · refine hK2 ?_
      have hz : p.1.1 = p.1.2 := by simpa using hz
      simpa using hz
  · have e : (moversL rn).map natD = ((rn.zipIdx).filter fun p => p.1.1 != p.1.2).map fun p => natD p.2 := by
      unfold moversL
      rw [List.map_map]
      rfl
    rw [e] at h
    exact h
def waitD : Option Nat → D
  | none => .none
  | some j => .int (j : Int)
def waitOf (rn : Rn) (p : Str × Str) : Option Nat := if p.1 = p.2 then none else (rn.zipIdx.find? fun q => q.1.1 == p.2).map (·.2)
def waitsL (rn : Rn) : List (Option Nat) := rn.map (waitOf rn)
def hdD (ps : List ((Str × Str) × Nat)) : List (D × D) := ps.map fun p => (.str p.1.1, .int (p.2 : Int))
theorem any_hd (x : Str) : ∀ ps : List ((Str × Str) × Nat), ((hdD ps).any fun p => PyData.eqv p.1 (.str x)) = decide (x ∈ ps.map (·.1.1))
  | [] => rfl
  | p :: r => by
    have ih := any_hd x r
    unfold hdD at ih ⊢
    simp only [List.map_cons, List.any_cons, eqv_str, ih]
    by_cases z : p.1.1 = x
    · subst z
      simp
    · have z' : x ≠ p.1.1 := fun y => z y.symm
      simp [z, z']
theorem put_hd {ps : List ((Str × Str) × Nat)} {p : (Str × Str) × Nat} (h : p.1.1 ∉ ps.map (·.1.1)) : putD (hdD ps) (.str p.1.1) (.int (p.2 : Int)) = hdD (ps ++ [p]) := by
  unfold putD
  rw [any_hd, if_neg (by simpa using h)]
  simp [hdD]
theorem fold_hd : ∀ (ps dn : List ((Str × Str) × Nat)), ((dn ++ ps).map (·.1.1)).Nodup → ps.foldl (fun acc p => putD acc (.str p.1.1) (.int (p.2 : Int))) (hdD dn) = hdD (dn ++ ps)
  | [], dn, _ => by simp
  | p :: r, dn, h => by
    have hp : p.1.1 ∉ dn.map (·.1.1) := by
      intro z
      rw [List.map_append, List.nodup_append] at h
      exact h.2.2 _ z p.1.1 (by simp) rfl
    rw [List.foldl_cons, put_hd hp, fold_hd r (dn ++ [p]) (by simpa using h)]
    simp
theorem look_hd (x : Str) : ∀ ps : List ((Str × Str) × Nat), lookD (hdD ps) (.str x) = (ps.find? fun p => p.1.1 == x).map fun p => .int (p.2 : Int)
  | [] => rfl
  | p :: r => by
    have ih := look_hd x r
    unfold lookD hdD at ih ⊢
    simp only [List.map_cons, List.find?_cons, eqv_str]
    by_cases z : p.1.1 = x
    · simp [z]
    · have b : (p.1.1 == x) = false := by simpa using z
      rw [b]
      simp only [z, decide_false]
      exact ih
theorem zip_olds (rn : Rn) : (rn.zipIdx).map (·.1.1) = rn.map (·.1) := by
  have e : rn = (rn.zipIdx).map (·.1) := by simp
  conv => rhs; rw [e]
  rw [List.map_map]
  rfl
-- waits_of(renaming) slots: 0=renaming 1=holders* 2=k 3=old 4=_ 5=new
def q_waits_of : QS :=
  (qSeq (qAsg (qDc false [2, 3, 4] (qiE (qCons (qVar 0) qNil)) (qgTup 2 (qgCons (qgN 2) (qgCons (qgTup 2 (qgCons (qgN 3) (qgCons (qgN 4) qgNil))) qgNil))) qYes (qVar 3) (qVar 2)) (qgN 1))
  (qRet (qLc [3, 5] (qiL (qVar 0)) (qgTup 2 (qgCons (qgN 3) (qgCons (qgN 5) qgNil))) qYes (qIf (qB (qOp opEq (qVar 3) (qVar 5))) (qC .none) (qGet1 (qVar 1) (qVar 5))))))
def P_waits_of : PD := fun ds R => ∃ rn : Rn, ds = [rnD rn] ∧ RnOk rn ∧ R (.ow (.l ((waitsL rn).map waitD)))
theorem pure_waits_of : ∀ ds R, ds.length = 1 → P_waits_of ds R → q_waits_of (endsOf R) (startEv 6 ds) := by
  rintro ds R - ⟨rn, rfl, ok, h⟩
  have hn := ok.n2
  have hf := fold_hd rn.zipIdx [] (by rw [List.nil_append, zip_olds]; exact ok.od)
  ac_rfl
  rw [enumD_map]
  refine dcGo_ok (b := false) (vs := [2, 3, 4]) (fun p : (Str × Str) × Nat => .tuple [.int (p.2 : Int), prD p.1]) (fun p => .str p.1.1) (fun p => .int (p.2 : Int)) _ [] (fun p hp acc K ha hK => ?_) (by simp; exact small (by omega)) ?_
  · ac_rfl
    exact hK
  · rw [show ([] : List (D × D)) = hdD [] from rfl, hf, List.nil_append]
    ac_rfl
    refine lc0_map (vs := [3, 5]) prD (fun p => waitD (waitOf rn p)) rn (fun p hp acc K ha hK => ?_) (small (by omega)) ?_
    · unfold waitOf at hK
      ac_rfl
      rw [eqv_str]
      refine ⟨fun hz => ?_, fun hz => ?_⟩
      · have hz : p.1 = p.2 := by simpa using hz
        rw [if_pos hz] at hK
        ac_rfl
        exact hK
      · have hz : ¬ p.1 = p.2 := by simpa using hz
        rw [if_neg hz] at hK
        ac_rfl
        rw [look_hd]
        cases hfd : rn.zipIdx.find? fun q => q.1.1 == p.2 with
        | none =>
          rw [hfd] at hK
          ac_rfl
          exact hK
        | some q =>
          rw [hfd] at hK
          ac_rfl
          exact hK
    · have e : (waitsL rn).map waitD = rn.map fun p => waitD (waitOf rn p) := by
        unfold waitsL
        rw [List.map_map]
        rfl
      rw [e] at h
      exact h
end PL

namespace PL
open PySem PySem.Spec PyProof.Rows L2
local macro_rules | `(tactic| ac_rfl) => `(tactic| ((conv => whnf); repeat ((first | refine Cif.yes ?_ | refine Cif.no ?_ | (refine And.intro ?_ ?_; · first | (show _ ≤ (_ : Int); omega) | (show _ < (_ : Int); omega) | assumption | exact trivial | exact rfl | (refine small ?_; first | omega | (simp only [List.length_map, List.length_cons, List.length_nil, List.length_append]; omega)) | (refine ltsmall ?_; first | omega | (simp only [List.length_map, List.length_cons, List.length_nil, List.length_append]; omega)) | (refine cdiv ?_ ?_ <;> omega) | (refine cmulR ?_ ?_ <;> omega) | (refine cmulL ?_ ?_ <;> omega) | (refine ⟨?_, ?_, ?_, ?_⟩ <;> omega))); (conv => whnf))))
local macro_rules | `(tactic| exists $e) => `(tactic| first | exact $e | exact And.right $e | exact And.right (And.right $e) | exact And.right (And.right (And.right $e)))
/-! ### rings -/
abbrev Ws := List (Option Nat)
def nxt (ws : Ws) (k : Nat) : Option Nat := ws[k]?.getD none
structure WsOk (ws : Ws) : Prop where
  rng : ∀ k j, nxt ws k = some j → j < ws.length
  inj : ∀ a b j, nxt ws a = some j → nxt ws b = some j → a = b
def orbG (ws : Ws) (p : Nat) : Nat → Nat → Option (List Nat)
  | 0, _ => none
  | m + 1, k => match nxt ws k with
    | none => none
    | some j => if j = p then some [] else (orbG ws p m j).map (j :: ·)
def ringF (ws : Ws) (p : Nat) : Option (List Nat) := (orbG ws p ws.length p).map (p :: ·)
/-- a chain of waiting persons -/
structure Chn (ws : Ws) (p : Nat) (c : List Nat) (l : Nat) : Prop where
  hd : c[0]? = some p
  ls : c[c.length - 1]? = some l
  st : ∀ i a b, c[i]? = some a → c[i + 1]? = some b → nxt ws a = some b
  nd : c.Nodup
  lt : ∀ a ∈ c, a < ws.length
theorem Chn.pos {ws : Ws} {p l : Nat} {c : List Nat} (h : Chn ws p c l) : 0 < c.length := (List.getElem?_eq_some_iff.mp h.hd).1
theorem nodup_ix {c : List Nat} (h : c.Nodup) {i j a : Nat} (hi : c[i]? = some a) (hj : c[j]? = some a) : i = j := by
  obtain ⟨h1, e1⟩ := List.getElem?_eq_some_iff.mp hi
  obtain ⟨h2, e2⟩ := List.getElem?_eq_some_iff.mp hj
  exact nodup_inj h (e1.trans e2.symm)
theorem Chn.new {ws : Ws} (ok : WsOk ws) {p l j : Nat} {c : List Nat} (h : Chn ws p c l) (e : nxt ws l = some j) (hj : j ≠ p) : j ∉ c := by
  intro hm
  obtain ⟨i, hi⟩ := List.getElem?_of_mem hm
  cases i with
  | zero =>
    rw [h.hd] at hi
    exact hj (Option.some.inj hi).symm
  | succ i =>
    have hlt := (List.getElem?_eq_some_iff.mp hi).1
    have ei : c[i]? = some c[i] := List.getElem?_eq_getElem (by omega)
    have := ok.inj _ _ _ (h.st i _ _ ei hi) e
    rw [this] at ei
    have := nodup_ix h.nd ei h.ls
    omega
theorem Chn.snoc {ws : Ws} (ok : WsOk ws) {p l j : Nat} {c : List Nat} (h : Chn ws p c l) (e : nxt ws l = some j) (hj : j ≠ p) : Chn ws p (c ++ [j]) j := by
  have hp := h.pos
  refine ⟨by rw [List.getElem?_append_left hp]; exact h.hd, by simp, fun i a b ha hb => ?_, ?_, fun a ha => ?_⟩
  · rcases Nat.lt_or_ge (i + 1) c.length with hi | hi
    · rw [List.getElem?_append_left (by omega)] at ha
      rw [List.getElem?_append_left hi] at hb
      exact h.st i a b ha hb
    · have hlt := (List.getElem?_eq_some_iff.mp hb).1
      simp at hlt
      have hi2 : i = c.length - 1 := by omega
      rw [List.getElem?_append_left (by omega), hi2, h.ls] at ha
      rw [List.getElem?_append_right hi, show i + 1 - c.length = 0 by omega] at hb
      have e1 : l = a := Option.some.inj ha
      have e2 : j = b := by simpa using hb
      rw [← e1, ← e2]
      exact e
  · rw [List.nodup_append]
    exact ⟨h.nd, by simp, fun a ha b hb z => h.new ok e hj (by simp at hb; rw [← hb, ← z]; exact ha)⟩
  · rcases List.mem_append.mp ha with ha | ha
    · exact h.lt a ha
    · simp at ha
      rw [ha]
      exact ok.rng _ _ e
theorem range_le {c : List Nat} {n : Nat} (h : c.Nodup) (hl : ∀ a ∈ c, a < n) : c.length ≤ n := by
  have := nodup_le (l' := List.range n) h fun x hx => List.mem_range.mpr (hl x hx)
  simpa using this
def wsD (ws : Ws) : D := .list (ws.map waitD)
def ringW : Option (List Nat) → Wv
  | none => .sh .none
  | some c => .ow (.l (c.map natD))
-- ring_from(waits, person) slots: 0=waits 1=person 2=chain 3=following
def q_ring_from : QS :=
  (qSeq (qAsg (qLst (qCons (qVar 1) qNil)) (qgN 2))
  (qSeq (qAsg (qOp opIx (qVar 0) (qVar 1)) (qgN 3))
  (qFrz 3 (qSeq (qWhile (qAnd (qB (qOp opIsNot (qVar 3) (qC .none))) (qB (qOp opNe (qVar 3) (qVar 1))))
   (qSeq (qDrop (qApp 2 (qVar 3)))
   (qAsg (qOp opIx (qVar 0) (qVar 3)) (qgN 3))))
  (qSeq (qIfS (qB (qOp opIs (qVar 3) (qC .none)))
   (qRet (qC .none))
   qNext)
  (qRet (qVar 2)))))))
def P_ring_from : PD := fun ds R => ∃ (ws : Ws) (p : Nat), ds = [wsD ws, .int p] ∧ WsOk ws ∧ p < ws.length ∧ ws.length ≤ 1000 ∧ R (ringW (ringF ws p))
theorem ws_ix {ws : Ws} {k : Nat} (h : k < ws.length) : ixD (ws.map waitD) (k : Int) = some (waitD (nxt ws k)) := by
  have e : ws[k]? = some ws[k] := List.getElem?_eq_getElem h
  rw [ixD_map waitD e]
  unfold nxt
  rw [e]
  rfl
theorem pure_ring_from : ∀ ds R, ds.length = 2 → P_ring_from ds R → q_ring_from (endsOf R) (startEv 4 ds) := by
  rintro ds R - ⟨ws, p, rfl, ok, hp, hn, h⟩
  ac_rfl
  rw [ws_ix hp]
  have key : ∀ d, d = waitD (nxt ws p) → (qSeq (qWhile (qAnd (qB (qOp opIsNot (qVar 3) (qC .none))) (qB (qOp opNe (qVar 3) (qVar 1))))
   (qSeq (qDrop (qApp 2 (qVar 3)))
   (qAsg (qOp opIx (qVar 0) (qVar 3)) (qgN 3))))
  (qSeq (qIfS (qB (qOp opIs (qVar 3) (qC .none)))
   (qRet (qC .none))
   qNext)
  (qRet (qVar 2)))) (endsOf R) [.sh (wsD ws), .sh (.int p), .ow (.l [.int p]), .sh d] := fun d hd => by
    subst hd
    refine seq_i ?_
    refine ⟨fun m Γ => ∃ (c : List Nat) (l : Nat), Γ = [.sh (wsD ws), .sh (.int p), .ow (.l (c.map natD)), .sh (waitD (nxt ws l))] ∧ Chn ws p c l ∧ c.length + m = ws.length ∧ (orbG ws p (m + 1) l).map (c ++ ·) = ringF ws p, ⟨ws.length - 1, [p], p, rfl, ⟨rfl, rfl, fun i a b ha hb => by simp at hb, by simp, fun a ha => by simp at ha; rw [ha]; exact hp⟩, by simp; omega, by rw [show ws.length - 1 + 1 = ws.length by omega]; rfl⟩, ?_⟩
    rintro m Γ ⟨c, l, rfl, hc, hm, ho⟩
    have hl : l < ws.length := hc.lt l (List.mem_of_getElem? hc.ls)
    cases hx : nxt ws l with
    | none =>
      have hr : ringF ws p = none := by
        rw [← ho]
        unfold orbG
        rw [hx]
        rfl
      rw [hr] at h
      ac_rfl
      exact h
    | some j =>
      have hj := ok.rng _ _ hx
      unfold orbG at ho
      rw [hx] at ho
      simp only at ho
      ac_rfl
      rw [show PyData.eqv (waitD (some j)) (.int (p : Int)) = (j == p) from eqv_nat j p]
      refine ⟨fun hz => ?_, fun hz => ?_⟩
      · have hz : ¬ j = p := by simpa using hz
        have hc2 := hc.snoc ok hx hz
        have hle := range_le hc2.nd hc2.lt
        simp at hle
        rw [if_neg hz] at ho
        obtain ⟨m', rfl⟩ : ∃ k, m = k + 1 := ⟨m - 1, by omega⟩
        ac_rfl
        rw [ws_ix hj]
        ac_rfl
        refine ⟨m', by omega, c ++ [j], j, congrArg (fun z => [_, _, Sl.ow (.l z), _]) (by simp; rfl), hc2, by simp; omega, ?_⟩
        rw [← ho, Option.map_map]
        congr 1
        funext x
        simp
      · have hz : j = p := by simpa using hz
        rw [if_pos hz] at ho
        have hr : ringF ws p = some c := by rw [← ho]; simp
        rw [hr] at h
        ac_rfl
        exact h
  exact key _ rfl
end PL

namespace PL
open PySem PySem.Spec PyProof.Rows L2
local macro_rules | `(tactic| ac_rfl) => `(tactic| ((conv => whnf); repeat ((first | refine Cif.yes ?_ | refine Cif.no ?_ | (refine And.intro ?_ ?_; · first | (show _ ≤ (_ : Int); omega) | (show _ < (_ : Int); omega) | assumption | exact trivial | exact rfl | (refine small ?_; first | omega | (simp only [List.length_map, List.length_cons, List.length_nil, List.length_append]; omega)) | (refine ltsmall ?_; first | omega | (simp only [List.length_map, List.length_cons, List.length_nil, List.length_append]; omega)) | (refine cdiv ?_ ?_ <;> omega) | (refine cmulR ?_ ?_ <;> omega) | (refine cmulL ?_ ?_ <;> omega) | (refine ⟨?_, ?_, ?_, ?_⟩ <;> omega))); (conv => whnf))))
local macro_rules | `(tactic| exists $e) => `(tactic| first | exact $e | exact And.right $e | exact And.right (And.right $e) | exact And.right (And.right (And.right $e)))
theorem waitOf_some {rn : Rn} {p : Str × Str} {j : Nat} (h : waitOf rn p = some j) : p.1 ≠ p.2 ∧ ∃ q, rn[j]? = some q ∧ q.1 = p.2 := by
  unfold waitOf at h
  split at h
  · cases h
  · rename_i z
    refine ⟨z, ?_⟩
    cases hf : rn.zipIdx.find? fun q => q.1.1 == p.2 with
    | none =>
      rw [hf] at h
      cases h
    | some q =>
      rw [hf] at h
      have h1 := List.mem_of_find?_eq_some hf
      have h2 := List.find?_some hf
      have h3 : q.2 = j := by simpa using h
      subst h3
      exact ⟨q.1, List.mem_zipIdx_iff_getElem?.mp h1, by simpa using h2⟩
theorem nxt_waits {rn : Rn} {k j : Nat} (h : nxt (waitsL rn) k = some j) : ∃ p q, rn[k]? = some p ∧ rn[j]? = some q ∧ q.1 = p.2 ∧ p.1 ≠ p.2 := by
  unfold nxt waitsL at h
  rw [List.getElem?_map] at h
  cases hk : rn[k]? with
  | none =>
    rw [hk] at h
    cases h
  | some p =>
    rw [hk] at h
    obtain ⟨z, q, h1, h2⟩ := waitOf_some (show waitOf rn p = some j from h)
    exact ⟨p, q, rfl, h1, h2, z⟩
theorem inj_map {α β : Type} (g : α → β) {l : List α} (h : (l.map g).Nodup) {i j : Nat} {a b : α} (hi : l[i]? = some a) (hj : l[j]? = some b) (e : g a = g b) : i = j := by
  have p := List.pairwise_iff_getElem.mp h
  obtain ⟨h1, e1⟩ := List.getElem?_eq_some_iff.mp hi
  obtain ⟨h2, e2⟩ := List.getElem?_eq_some_iff.mp hj
  rcases Nat.lt_trichotomy i j with q | q | q
  · have h1' : i < (l.map g).length := by rw [List.length_map]; exact h1
    have h2' : j < (l.map g).length := by rw [List.length_map]; exact h2
    exact absurd (by rw [List.getElem_map, List.getElem_map, e1, e2, e]) (p i j h1' h2' q)
  · exact q
  · have h1' : i < (l.map g).length := by rw [List.length_map]; exact h1
    have h2' : j < (l.map g).length := by rw [List.length_map]; exact h2
    exact absurd (by rw [List.getElem_map, List.getElem_map, e1, e2, e]) (p j i h2' h1' q)
theorem ws_ok {rn : Rn} (ok : RnOk rn) : WsOk (waitsL rn) := by
  refine ⟨fun k j h => ?_, fun a b j h1 h2 => ?_⟩
  · obtain ⟨p, q, _, hq, _⟩ := nxt_waits h
    have := (List.getElem?_eq_some_iff.mp hq).1
    unfold waitsL
    rw [List.length_map]
    exact this
  · obtain ⟨p, q, hp, hq, e1, _⟩ := nxt_waits h1
    obtain ⟨p2, q2, hp2, hq2, e2, _⟩ := nxt_waits h2
    rw [hq] at hq2
    cases hq2
    exact inj_map (·.2) ok.nd hp hp2 (by rw [← e1, ← e2])
theorem ws_len (rn : Rn) : (waitsL rn).length = rn.length := List.length_map _
def minHd (c : List Nat) : Bool := c.all fun x => decide (c.headD 0 ≤ x)
def ringO : Option (List Nat) → D
  | none => .none
  | some c => .list (c.map natD)
def ringD (c : List Nat) : D := .list (c.map natD)
def keepR : Option (List Nat) → Bool
  | none => false
  | some c => minHd c
def ringsL (ws : Ws) : List (List Nat) := ((List.range ws.length).map (ringF ws)).filterMap fun o => if keepR o = true then o else none
theorem rings_D : ∀ l : List (Option (List Nat)), (l.filter keepR).map ringO = (l.filterMap fun o => if keepR o = true then o else none).map ringD
  | [] => rfl
  | none :: r => by
    have ih := rings_D r
    rw [List.filter_cons_of_neg (by simp [keepR]), List.filterMap_cons_none (by simp [keepR])]
    exact ih
  | some c :: r => by
    have ih := rings_D r
    by_cases z : keepR (some c) = true
    · rw [List.filter_cons_of_pos z, List.filterMap_cons_some (b := c) (by rw [if_pos z]), List.map_cons, List.map_cons, ih]
      rfl
    · rw [List.filter_cons_of_neg z, List.filterMap_cons_none (by rw [if_neg z])]
      exact ih
theorem ints_nat (c : List Nat) : intsOf (c.map natD) = some (c.map fun n : Nat => (n : Int)) := by
  have := intsOf_map (c.map fun n : Nat => (n : Int))
  rw [List.map_map] at this
  exact this
theorem ringF_pos {ws : Ws} {k : Nat} {c : List Nat} (h : ringF ws k = some c) : ∃ r, c = k :: r := by
  unfold ringF at h
  rw [Option.map_eq_some_iff] at h
  obtain ⟨r, _, rfl⟩ := h
  exact ⟨r, rfl⟩
-- rings_of(renaming) slots: 0=renaming 1=waits* 2=found 3=person 4=ring
def q_rings_of : QS :=
  (qSeq (qAsg (qCall 1 P_waits_of (qCons (qVar 0) qNil)) (qgN 1))
  (qFrz 1 (qSeq (qAsg (qLc [3] (qiR1 (qCons (qUn opLen (qVar 0)) qNil)) (qgN 3) qYes (qCall 2 P_ring_from (qCons (qVar 1) (qCons (qVar 3) qNil)))) (qgN 2))
  (qFrz 2 (qRet (qLc [4] (qiL (qVar 2)) (qgN 4) (qAnd (qB (qOp opIsNot (qVar 4) (qC .none))) (qB (qOp opEq (qOp opIx (qVar 4) (qC (.int 0))) (qUn opMin (qVar 4))))) (qVar 4)))))))
def P_rings_of : PD := fun ds R => ∃ rn : Rn, ds = [rnD rn] ∧ RnOk rn ∧ R (.ow (.l ((ringsL (waitsL rn)).map ringD)))
theorem pure_rings_of : ∀ ds R, ds.length = 1 → P_rings_of ds R → q_rings_of (endsOf R) (startEv 5 ds) := by
  rintro ds R - ⟨rn, rfl, ok, h⟩
  have hn := ok.n2
  have wl := ws_len rn
  have wok := ws_ok ok
  unfold ringsL at h
  rw [← rings_D, wl] at h
  ac_rfl
  refine ⟨rn, rfl, ok, ?_⟩
  ac_rfl
  generalize waitsL rn = ws at *
  have hpl : (List.map prD rn).length = rn.length := List.length_map _
  rw [hpl]
  refine ⟨by omega, ?_⟩
  ac_rfl
  refine lc0_map (vs := [3]) (fun i : Nat => .int (i : Int)) (fun k => ringO (ringF ws k)) (List.range rn.length) (fun k hk acc K ha hK => ?_) (by simp; exact small (by omega)) ?_
  · have hk : k < rn.length := by simpa using hk
    ac_rfl
    refine ⟨ws, k, rfl, wok, by omega, by omega, ?_⟩
    cases hr : ringF ws k with
    | none =>
      rw [hr] at hK
      ac_rfl
      exact hK
    | some c =>
      rw [hr] at hK
      ac_rfl
      exact hK
  · have e : ((List.range rn.length).map fun k => ringO (ringF ws k)) = ((List.range rn.length).map (ringF ws)).map ringO := by
      rw [List.map_map]
      rfl
    rw [e]
    ac_rfl
    refine lc0_fil (vs := [4]) ringO keepR ringO ((List.range rn.length).map (ringF ws)) (fun o ho acc K ha hK1 hK2 => ?_) (by simp; exact small (by omega)) ?_
    · obtain ⟨k, _, rfl⟩ := List.mem_map.mp ho
      cases hr : ringF ws k with
      | none =>
        rw [hr] at hK1 hK2
        ac_rfl
        exact hK2 rfl
      | some c =>
        rw [hr] at hK1 hK2
        obtain ⟨r, rfl⟩ := ringF_pos hr
        ac_rfl
        rw [ints_nat (k :: r)]
        refine ⟨by simp, fun m hm hle => ?_⟩
        ac_rfl
        have hdec : decide ((k : Int) = m) = minHd (k :: r) := by
          rw [Bool.eq_iff_iff]
          unfold minHd
          constructor
          · intro e
            have e : (k : Int) = m := of_decide_eq_true e
            rw [List.all_eq_true]
            intro x hx
            have := hle (x : Int) (List.mem_map.mpr ⟨x, hx, rfl⟩)
            refine decide_eq_true ?_
            show k ≤ x
            omega
          · intro hall
            rw [List.all_eq_true] at hall
            obtain ⟨x, hx, rfl⟩ := List.mem_map.mp hm
            have h1 : k ≤ x := of_decide_eq_true (hall x hx)
            have h2 := hle (k : Int) (List.mem_map.mpr ⟨k, by simp, rfl⟩)
            refine decide_eq_true ?_
            omega
        rw [show PyData.eqv (natD k) (.int m) = decide ((k : Int) = m) from eqv_int k m, hdec]
        refine ⟨fun hz => ?_, fun hz => ?_⟩
        · ac_rfl
          exact hK1 hz
        · exact hK2 hz
    · exact h
end PL

namespace PL
open PySem PySem.Spec PyProof.Rows L2
/-! ### rings and orders -/
theorem Chn.one {ws : Ws} {p : Nat} (hp : p < ws.length) : Chn ws p [p] p := ⟨rfl, rfl, fun i a b ha hb => by simp at hb, by simp, fun a ha => by simp at ha; rw [ha]; exact hp⟩
theorem nxt_lt {ws : Ws} {k j : Nat} (h : nxt ws k = some j) : k < ws.length := by
  unfold nxt at h
  cases e : ws[k]? with
  | none =>
    rw [e] at h
    cases h
  | some o => exact (List.getElem?_eq_some_iff.mp e).1
/-- a set that waits within itself lies on rings -/
theorem orb_closed {ws : Ws} (ok : WsOk ws) {T : List Nat} (hT : ∀ y ∈ T, ∃ j ∈ T, nxt ws y = some j) {p : Nat} : ∀ (m : Nat) (c : List Nat) (l : Nat), Chn ws p c l → l ∈ T → c.length + m = ws.length → orbG ws p (m + 1) l ≠ none
  | m, c, l, hc, hl, hm => by
    obtain ⟨j, hj, hx⟩ := hT l hl
    unfold orbG
    rw [hx]
    simp only
    by_cases z : j = p
    · rw [if_pos z]
      exact fun y => nomatch y
    · rw [if_neg z]
      have hc2 := hc.snoc ok hx z
      have hle := range_le hc2.nd hc2.lt
      simp at hle
      cases m with
      | zero => omega
      | succ m =>
        have := orb_closed ok hT m (c ++ [j]) j hc2 hj (by simp; omega)
        intro y
        rw [Option.map_eq_none_iff] at y
        exact this y
theorem ring_closed {ws : Ws} (ok : WsOk ws) {T : List Nat} (hT : ∀ y ∈ T, ∃ j ∈ T, nxt ws y = some j) {p : Nat} (hp : p ∈ T) : ringF ws p ≠ none := by
  obtain ⟨j, _, hx⟩ := hT p hp
  have hlt := nxt_lt hx
  have := orb_closed ok hT (ws.length - 1) [p] p (Chn.one hlt) hp (by simp; omega)
  rw [show ws.length - 1 + 1 = ws.length by omega] at this
  unfold ringF
  intro y
  rw [Option.map_eq_none_iff] at y
  exact this y
/-- what a ring is -/
theorem orb_ring {ws : Ws} (ok : WsOk ws) {p : Nat} : ∀ (m : Nat) (c : List Nat) (l : Nat) (r : List Nat), Chn ws p c l → orbG ws p m l = some r → ∃ l', Chn ws p (c ++ r) l' ∧ nxt ws l' = some p
  | 0, c, l, r, _, h => by cases h
  | m + 1, c, l, r, hc, h => by
    unfold orbG at h
    cases hx : nxt ws l with
    | none =>
      rw [hx] at h
      cases h
    | some j =>
      rw [hx] at h
      simp only at h
      by_cases z : j = p
      · rw [if_pos z] at h
        cases h
        rw [List.append_nil]
        exact ⟨l, hc, by rw [hx, z]⟩
      · rw [if_neg z, Option.map_eq_some_iff] at h
        obtain ⟨r', h1, rfl⟩ := h
        obtain ⟨l', h2, h3⟩ := orb_ring ok m (c ++ [j]) j r' (hc.snoc ok hx z) h1
        exact ⟨l', by simpa using h2, h3⟩
theorem ring_chn {ws : Ws} (ok : WsOk ws) {p : Nat} {c : List Nat} (hp : p < ws.length) (h : ringF ws p = some c) : ∃ l, Chn ws p c l ∧ nxt ws l = some p := by
  unfold ringF at h
  rw [Option.map_eq_some_iff] at h
  obtain ⟨r, h1, rfl⟩ := h
  obtain ⟨l, h2, h3⟩ := orb_ring ok ws.length [p] p r (Chn.one hp) h1
  exact ⟨l, h2, h3⟩
theorem chn_closed {ws : Ws} {p l : Nat} {c : List Nat} (h : Chn ws p c l) (e : nxt ws l = some p) : ∀ y ∈ c, ∃ j ∈ c, nxt ws y = some j := by
  intro y hy
  obtain ⟨i, hi⟩ := List.getElem?_of_mem hy
  have hlt := (List.getElem?_eq_some_iff.mp hi).1
  by_cases z : i + 1 < c.length
  · have e2 : c[i + 1]? = some c[i + 1] := List.getElem?_eq_getElem z
    exact ⟨_, List.getElem_mem z, h.st i _ _ hi e2⟩
  · have : i = c.length - 1 := by omega
    rw [this, h.ls] at hi
    cases hi
    exact ⟨p, List.mem_of_getElem? h.hd, e⟩
theorem least (P : Nat → Prop) [DecidablePred P] : ∀ n : Nat, (∃ k, k < n ∧ P k) → ∃ k, k < n ∧ P k ∧ ∀ j, P j → j < n → k ≤ j
  | 0, ⟨k, h, _⟩ => by omega
  | n + 1, ⟨k, hk, hP⟩ => by
    by_cases z : ∃ k, k < n ∧ P k
    · obtain ⟨k', h1, h2, h3⟩ := least P n z
      refine ⟨k', by omega, h2, fun j hj hlt => ?_⟩
      by_cases y : j < n
      · exact h3 j hj y
      · omega
    · refine ⟨k, hk, hP, fun j hj hlt => ?_⟩
      apply Classical.byContradiction
      intro y
      exact z ⟨j, by omega, hj⟩
theorem mem_ringsL {ws : Ws} {c : List Nat} : c ∈ ringsL ws ↔ ∃ k, k < ws.length ∧ ringF ws k = some c ∧ minHd c = true := by
  unfold ringsL
  rw [List.mem_filterMap]
  constructor
  · rintro ⟨o, ho, h⟩
    obtain ⟨k, hk, rfl⟩ := List.mem_map.mp ho
    split at h
    · rename_i z
      refine ⟨k, by simpa using hk, h, ?_⟩
      rw [h] at z
      exact z
    · cases h
  · rintro ⟨k, hk, h, z⟩
    refine ⟨ringF ws k, List.mem_map.mpr ⟨k, by simpa using hk, rfl⟩, ?_⟩
    rw [h, if_pos (show keepR (some c) = true from z)]
theorem rings_some {ws : Ws} (ok : WsOk ws) {T : List Nat} (hT : ∀ y ∈ T, ∃ j ∈ T, nxt ws y = some j) (hne : T ≠ []) : ringsL ws ≠ [] := by
  obtain ⟨p, hp⟩ := List.exists_mem_of_ne_nil _ hne
  have hr := ring_closed ok hT hp
  obtain ⟨j, _, hx⟩ := hT p hp
  obtain ⟨q, h1, h2, h3⟩ := least (fun k => ringF ws k ≠ none) ws.length ⟨p, nxt_lt hx, hr⟩
  cases hc : ringF ws q with
  | none => exact absurd hc h2
  | some c =>
    obtain ⟨l, g1, g2⟩ := ring_chn ok h1 hc
    have cl := chn_closed g1 g2
    have hm : minHd c = true := by
      unfold minHd
      rw [List.all_eq_true]
      intro x hx
      have e : c.headD 0 = q := by
        obtain ⟨r, rfl⟩ := ringF_pos hc
        rfl
      rw [e]
      exact decide_eq_true (h3 x (ring_closed ok cl hx) (g1.lt x hx))
    intro z
    have : c ∈ ringsL ws := mem_ringsL.mpr ⟨q, h1, hc, hm⟩
    rw [z] at this
    cases this
theorem rings_ring {ws : Ws} (ok : WsOk ws) {c : List Nat} (h : c ∈ ringsL ws) : c ≠ [] ∧ ∀ y ∈ c, ∃ j ∈ c, nxt ws y = some j := by
  obtain ⟨k, hk, hc, _⟩ := mem_ringsL.mp h
  obtain ⟨l, g1, g2⟩ := ring_chn ok hk hc
  refine ⟨fun z => ?_, chn_closed g1 g2⟩
  have := g1.pos
  rw [z] at this
  cases this
theorem no_self {rn : Rn} {k : Nat} (h : nxt (waitsL rn) k = some k) : False := by
  obtain ⟨p, q, hp, hq, e, z⟩ := nxt_waits h
  rw [hp] at hq
  cases hq
  exact z e
/-! ### the order -/
def able (ws : Ws) (left : List Nat) (p : Nat) : Bool := match nxt ws p with
  | none => true
  | some j => decide (j ∉ left)
def ordG (ws : Ws) : Nat → List Nat → List Nat
  | 0, _ => []
  | m + 1, left => match (left.filter (able ws left)).head? with
    | none => []
    | some a => a :: ordG ws m (left.filter fun p => p != a)
def orderL (rn : Rn) : List Nat := ordG (waitsL rn) rn.length (moversL rn)
theorem able_some {ws : Ws} (ok : WsOk ws) (hno : ringsL ws = []) {left : List Nat} (hne : left ≠ []) : ∃ a r, left.filter (able ws left) = a :: r := by
  cases hf : left.filter (able ws left) with
  | cons a r => exact ⟨a, r, rfl⟩
  | nil =>
    have hT : ∀ y ∈ left, ∃ j ∈ left, nxt ws y = some j := by
      intro y hy
      have := List.filter_eq_nil_iff.mp hf y hy
      unfold able at this
      cases hx : nxt ws y with
      | none =>
        rw [hx] at this
        exact absurd rfl this
      | some j =>
        rw [hx] at this
        exact ⟨j, by simpa using this, rfl⟩
    exact absurd hno (rings_some ok hT hne)
end PL

namespace PL
open PySem PySem.Spec PyProof.Rows L2
local macro_rules | `(tactic| ac_rfl) => `(tactic| ((conv => whnf); repeat ((first | refine Cif.yes ?_ | refine Cif.no ?_ | (refine And.intro ?_ ?_; · first | (show _ ≤ (_ : Int); omega) | (show _ < (_ : Int); omega) | assumption | exact trivial | exact rfl | (refine small ?_; first | omega | (simp only [List.length_map, List.length_cons, List.length_nil, List.length_append]; omega)) | (refine ltsmall ?_; first | omega | (simp only [List.length_map, List.length_cons, List.length_nil, List.length_append]; omega)) | (refine cdiv ?_ ?_ <;> omega) | (refine cmulR ?_ ?_ <;> omega) | (refine cmulL ?_ ?_ <;> omega) | (refine ⟨?_, ?_, ?_, ?_⟩ <;> omega))); (conv => whnf))))
local macro_rules | `(tactic| exists $e) => `(tactic| first | exact $e | exact And.right $e | exact And.right (And.right $e) | exact And.right (And.right (And.right $e)))
theorem nats_ints (c : List Nat) : c.map natD = (c.map fun n : Nat => (n : Int)).map PyData.int := by
  rw [List.map_map]
  rfl
theorem hasDict_nats : ∀ c : List Nat, PyData.hasDictAll (c.map natD) = false
  | [] => by simp [PyData.hasDictAll]
  | n :: r => by simp [PyData.hasDictAll, natD, PyData.hasDict, hasDict_nats r]
theorem depth_nats : ∀ c : List Nat, PyData.depthAll (c.map natD) = 0
  | [] => by simp [PyData.depthAll]
  | n :: r => by simp [PyData.depthAll, natD, PyData.depth, depth_nats r]
theorem flat_nats (c : List Nat) : flat 60 (.list (c.map natD)) = true := by
  have e1 : (PyData.list (c.map natD)).hasDict = false := by simp [PyData.hasDict, hasDict_nats]
  have e2 : (PyData.list (c.map natD)).depth ≤ 60 := by simp [PyData.depth, depth_nats]
  simp [flat, e1, e2]
theorem flat_wait (o : Option Nat) : flat 60 (waitD o) = true := by cases o <;> rfl
theorem in_nats (o : Option Nat) (c : List Nat) : inD (waitD o) (c.map natD) = (match o with
  | none => false
  | some j => decide (j ∈ c)) := by
  unfold inD
  induction c with
  | nil => cases o <;> simp
  | cons n r ih =>
    rw [List.map_cons, List.any_cons, ih]
    cases o with
    | none => rfl
    | some j =>
      rw [show PyData.eqv (natD n) (waitD (some j)) = (n == j) from eqv_nat n j]
      by_cases z : n = j
      · subst z
        simp
      · have z' : j ≠ n := fun y => z y.symm
        have b : (n == j) = false := by simpa using z
        rw [b]
        simp [z']
def isL (s : Sl) (ds : List D) : Prop := s = .sh (.list ds) ∨ s = .ow (.l ds)
theorem not_in_able (ws : Ws) (left : List Nat) (p : Nat) : (!inD (waitD (nxt ws p)) (left.map natD)) = able ws left p := by
  rw [in_nats]
  unfold able
  cases nxt ws p with
  | none => rfl
  | some j => simp
theorem moversL_le (rn : Rn) : (moversL rn).length ≤ rn.length := by
  unfold moversL
  rw [List.length_map]
  have := List.length_filter_le (fun p : (Str × Str) × Nat => p.1.1 != p.1.2) rn.zipIdx
  rw [List.length_zipIdx] at this
  exact this
theorem moversL_lt (rn : Rn) : ∀ k ∈ moversL rn, k < rn.length := by
  intro k hk
  unfold moversL at hk
  obtain ⟨p, hp, rfl⟩ := List.mem_map.mp hk
  have := List.mem_zipIdx_iff_getElem?.mp (List.mem_filter.mp hp).1
  exact (List.getElem?_eq_some_iff.mp this).1
theorem ordG_nil (ws : Ws) : ∀ m, ordG ws m [] = []
  | 0 => rfl
  | m + 1 => rfl
def foundD (rn : Rn) : D := match ringsL (waitsL rn) with
  | c :: _ => .tuple [.str (Str.ofString "ring"), ringD c]
  | [] => .tuple [.str (Str.ofString "order"), .list ((orderL rn).map natD)]
-- find_order(renaming) slots: 0=renaming 1=rings 2=waits* 3=left* 4=order 5=able* 6=person
def q_find_order : QS :=
  (qSeq (qAsg (qCall 1 P_rings_of (qCons (qVar 0) qNil)) (qgN 1))
  (qFrz 1 (qSeq (qIfS (qTru (qVar 1))
   (qRet (qTup (qCons (qC (.str "ring")) (qCons (qOp opIx (qVar 1) (qC (.int 0))) qNil))))
   qNext)
  (qSeq (qAsg (qCall 1 P_waits_of (qCons (qVar 0) qNil)) (qgN 2))
  (qFrz 2 (qSeq (qAsg (qCall 1 P_movers_of (qCons (qVar 0) qNil)) (qgN 3))
  (qFrz 3 (qSeq (qAsg (qLst qNil) (qgN 4))
  (qSeq (qWhile (qTru (qVar 3))
   (qSeq (qAsg (qLc [6] (qiL (qVar 3)) (qgN 6) (qB (qOp (opInW not) (qOp opIx (qVar 2) (qVar 6)) (qVar 3))) (qVar 6)) (qgN 5))
   (qFrz 5 (qSeq (qDrop (qApp 4 (qOp opIx (qVar 5) (qC (.int 0)))))
   (qAsg (qLc [6] (qiL (qVar 3)) (qgN 6) (qB (qOp opNe (qVar 6) (qOp opIx (qVar 5) (qC (.int 0))))) (qVar 6)) (qgN 3))))))
  (qRet (qTup (qCons (qC (.str "order")) (qCons (qVar 4) qNil)))))))))))))
def P_find_order : PD := fun ds R => ∃ rn : Rn, ds = [rnD rn] ∧ RnOk rn ∧ R (.sh (foundD rn))
theorem pure_find_order : ∀ ds R, ds.length = 1 → P_find_order ds R → q_find_order (endsOf R) (startEv 7 ds) := by
  rintro ds R - ⟨rn, rfl, ok, h⟩
  have hn := ok.n2
  have wl := ws_len rn
  have wok := ws_ok ok
  unfold foundD at h
  ac_rfl
  refine ⟨rn, rfl, ok, ?_⟩
  cases hr : ringsL (waitsL rn) with
  | cons c r =>
    rw [hr] at h
    ac_rfl
    exact h
  | nil =>
    rw [hr] at h
    ac_rfl
    refine ⟨rn, rfl, ok, ?_⟩
    ac_rfl
    refine ⟨rn, rfl, hn, ?_⟩
    have hml := moversL_le rn
    have hmlt := moversL_lt rn
    unfold orderL at h
    generalize waitsL rn = ws at *
    generalize moversL rn = mv at *
    generalize hO : ordG ws rn.length mv = od at *
    ac_rfl
    refine ⟨fun m Γ => ∃ (left acc : List Nat) (s3 x5 : Sl), Γ = [.sh (rnD rn), .sh (.list []), .sh (.list (ws.map waitD)), s3, .ow (.l (acc.map natD)), x5, .un] ∧ isL s3 (left.map natD) ∧ (∀ k ∈ left, k < rn.length) ∧ left.length ≤ m ∧ m ≤ rn.length ∧ acc.length + m ≤ 12 ∧ acc ++ ordG ws m left = od, ⟨rn.length, mv, [], _, _, rfl, .inl rfl, hmlt, hml, Nat.le_refl _, by simp; omega, hO⟩, ?_⟩
    rintro m Γ ⟨left, acc, s3, x5, rfl, h3, hlt, hlm, hmn, ham, he⟩
    have next : left ≠ [] → ∃ (a : Nat) (r1 : List Nat), left.filter (able ws left) = a :: r1 ∧ a ∈ left ∧ ∀ (x5 : Sl) (s3 : Sl), isL s3 ((left.filter fun p => p != a).map natD) → ∃ m', m' < m ∧ ∃ (left' acc' : List Nat) (s3' x5' : Sl), [Sl.sh (rnD rn), .sh (.list []), .sh (.list (ws.map waitD)), s3, .ow (.l (acc.map natD ++ [natD a])), x5, .un] = [.sh (rnD rn), .sh (.list []), .sh (.list (ws.map waitD)), s3', .ow (.l (acc'.map natD)), x5', .un] ∧ isL s3' (left'.map natD) ∧ (∀ k ∈ left', k < rn.length) ∧ left'.length ≤ m' ∧ m' ≤ rn.length ∧ acc'.length + m' ≤ 12 ∧ acc' ++ ordG ws m' left' = od := fun hne => by
      have hpos : 0 < left.length := List.length_pos_iff.mpr hne
      obtain ⟨m, rfl⟩ : ∃ k, m = k + 1 := ⟨m - 1, by omega⟩
      obtain ⟨a, r1, hab⟩ := able_some wok hr hne
      have ham2 : a ∈ left := (List.mem_filter.mp (by rw [hab]; exact List.mem_cons_self)).1
      have he2 : (acc ++ [a]) ++ ordG ws m (left.filter fun p => p != a) = od := by
        rw [← he]
        conv => rhs; unfold ordG
        rw [hab]
        simp
      have hlen : (left.filter fun p => p != a).length ≤ m := by
        have h1 : (left.filter fun p => p != a).length < left.length := List.length_filter_lt_length_iff_exists.mpr ⟨a, ham2, by simp⟩
        omega
      exact ⟨a, r1, hab, ham2, fun x5 s3 hs => ⟨m, by omega, left.filter fun p => p != a, acc ++ [a], s3, x5, by simp, hs, fun k hk => hlt k (List.mem_filter.mp hk).1, hlen, by omega, by simp; omega, he2⟩⟩
    have hll : left.length ≤ 1000 := by omega
    have hnil : left = [] → R (.sh (.tuple [.str (Str.ofString "order"), .list (acc.map natD)])) := fun z => by
      subst z
      rw [ordG_nil, List.append_nil] at he
      subst he
      exact h
    clear h he
    rcases h3 with rfl | rfl
    · skip
      ac_rfl
      refine ⟨fun hz => ?_, fun hz => ?_⟩
      · obtain ⟨a, r1, hab, ham2, next⟩ := next fun z => by rw [z] at hz; cases hz
        clear hnil hz
        ac_rfl
        refine lc0_fil (vs := [6]) natD (able ws left) natD left (fun p hp acc2 K ha hK1 hK2 => ?_) (small (by omega)) ?_
        · have hpl : p < ws.length := by rw [wl]; exact hlt p hp
          ac_rfl
          rw [ws_ix hpl]
          ac_rfl
          refine ⟨by rw [flat_wait, flat_nats]; rfl, ?_⟩
          rw [not_in_able]
          ac_rfl
          refine ⟨fun hz => ?_, fun hz => ?_⟩
          · ac_rfl
            exact hK1 hz
          · exact hK2 hz
        · rw [hab]
          ac_rfl
          refine lc0_fil (vs := [6]) natD (fun p => p != a) natD left (fun p hp acc2 K ha hK1 hK2 => ?_) (small (by omega)) ?_
          · ac_rfl
            rw [show PyData.eqv (natD p) (natD a) = (p == a) from eqv_nat p a]
            refine ⟨fun hz => ?_, fun hz => ?_⟩
            · ac_rfl
              exact hK1 hz
            · exact hK2 hz
          · exact next _ _ (.inr rfl)
      · have fin := hnil (by simpa using hz)
        clear hnil next
        ac_rfl
        exact fin
    · skip
      ac_rfl
      refine ⟨fun hz => ?_, fun hz => ?_⟩
      · obtain ⟨a, r1, hab, ham2, next⟩ := next fun z => by rw [z] at hz; cases hz
        clear hnil hz
        ac_rfl
        refine lc0_fil (vs := [6]) natD (able ws left) natD left (fun p hp acc2 K ha hK1 hK2 => ?_) (small (by omega)) ?_
        · have hpl : p < ws.length := by rw [wl]; exact hlt p hp
          ac_rfl
          rw [ws_ix hpl]
          ac_rfl
          refine ⟨by rw [flat_wait, flat_nats]; rfl, ?_⟩
          rw [not_in_able]
          ac_rfl
          refine ⟨fun hz => ?_, fun hz => ?_⟩
          · ac_rfl
            exact hK1 hz
          · exact hK2 hz
        · rw [hab]
          ac_rfl
          refine lc0_fil (vs := [6]) natD (fun p => p != a) natD left (fun p hp acc2 K ha hK1 hK2 => ?_) (small (by omega)) ?_
          · ac_rfl
            rw [show PyData.eqv (natD p) (natD a) = (p == a) from eqv_nat p a]
            refine ⟨fun hz => ?_, fun hz => ?_⟩
            · ac_rfl
              exact hK1 hz
            · exact hK2 hz
          · exact next _ _ (.inr rfl)
      · have fin := hnil (by simpa using hz)
        clear hnil next
        ac_rfl
        exact fin
end PL

namespace PL
open PySem PySem.Spec PyProof.Rows L2
local macro_rules | `(tactic| ac_rfl) => `(tactic| ((conv => whnf); repeat ((first | refine Cif.yes ?_ | refine Cif.no ?_ | (refine And.intro ?_ ?_; · first | (show _ ≤ (_ : Int); omega) | (show _ < (_ : Int); omega) | assumption | exact trivial | exact rfl | (refine small ?_; first | omega | (simp only [List.length_map, List.length_cons, List.length_nil, List.length_append]; omega)) | (refine ltsmall ?_; first | omega | (simp only [List.length_map, List.length_cons, List.length_nil, List.length_append]; omega)) | (refine cdiv ?_ ?_ <;> omega) | (refine cmulR ?_ ?_ <;> omega) | (refine cmulL ?_ ?_ <;> omega) | (refine ⟨?_, ?_, ?_, ?_⟩ <;> omega))); (conv => whnf))))
local macro_rules | `(tactic| exists $e) => `(tactic| first | exact $e | exact And.right $e | exact And.right (And.right $e) | exact And.right (And.right (And.right $e)))
/-! ### different numbers counted -/
def addI (seen : List Int) (m : Int) : List Int := if m ∈ seen then seen else seen ++ [m]
def keysI (ms : List Int) : List Int := ms.foldl addI []
def kdI (ms : List Int) : List (D × D) := ms.map fun m => (.int m, .bool true)
theorem any_kdI (m : Int) : ∀ ms : List Int, ((kdI ms).any fun p => PyData.eqv p.1 (.int m)) = decide (m ∈ ms)
  | [] => rfl
  | x :: r => by
    have ih := any_kdI m r
    show (PyData.eqv (.int x) (.int m) || (kdI r).any fun p => PyData.eqv p.1 (.int m)) = _
    rw [ih, eqv_int]
    by_cases h : x = m
    · subst h
      simp
    · have : m ≠ x := fun e => h e.symm
      simp [h, this]
theorem put_kdI (m : Int) (ms : List Int) : putD (kdI ms) (.int m) (.bool true) = kdI (addI ms m) := by
  unfold putD addI
  rw [any_kdI]
  by_cases h : m ∈ ms
  · rw [if_pos (by simpa using h), if_pos h]
    unfold kdI
    rw [List.map_map]
    apply List.map_congr_left
    intro x hx
    show (if PyData.eqv (.int x) (.int m) = true then (PyData.int x, PyData.bool true) else (.int x, .bool true)) = _
    split <;> rfl
  · rw [if_neg (by simpa using h), if_neg h]
    simp [kdI]
theorem fold_kdI : ∀ (ss ms : List Int), ss.foldl (fun acc s => putD acc (.int s) (.bool true)) (kdI ms) = kdI (ss.foldl addI ms)
  | [], _ => rfl
  | s :: r, ms => by
    simp only [List.foldl_cons]
    rw [put_kdI, fold_kdI r]
theorem addI_nodup (ss : List Int) : ∀ ms : List Int, ms.Nodup → (ss.foldl addI ms).Nodup ∧ (∀ x, x ∈ ss.foldl addI ms ↔ x ∈ ms ∨ x ∈ ss) ∧ (ss.foldl addI ms).length ≤ ms.length + ss.length := by
  induction ss with
  | nil => intro ms h; exact ⟨h, by simp, by simp⟩
  | cons s r ih =>
    intro ms h
    rw [List.foldl_cons]
    by_cases z : s ∈ ms
    · rw [show addI ms s = ms from if_pos z]
      obtain ⟨h1, h2, h3⟩ := ih ms h
      refine ⟨h1, fun x => ?_, ?_⟩
      · rw [h2]
        constructor
        · rintro (h | h)
          · exact .inl h
          · exact .inr (List.mem_cons_of_mem _ h)
        · rintro (h | h)
          · exact .inl h
          · rcases List.mem_cons.mp h with rfl | h
            · exact .inl z
            · exact .inr h
      · simp only [List.length_cons]
        omega
    · rw [show addI ms s = ms ++ [s] from if_neg z]
      obtain ⟨h1, h2, h3⟩ := ih (ms ++ [s]) (by
        rw [List.nodup_append]
        exact ⟨h, by simp, fun a ha b hb e => z (by simp at hb; rw [← hb, ← e]; exact ha)⟩)
      refine ⟨h1, fun x => ?_, ?_⟩
      · rw [h2]
        simp only [List.mem_append, List.mem_cons, List.not_mem_nil, or_false]
        constructor
        · rintro ((h | h) | h)
          · exact .inl h
          · exact .inr (.inl h)
          · exact .inr (.inr h)
        · rintro (h | h | h)
          · exact .inl (.inl h)
          · exact .inl (.inr h)
          · exact .inr h
      · simp only [List.length_append, List.length_cons, List.length_nil] at h3 ⊢
        omega
theorem keysI_len (l : List Int) : (keysI l).length = l.length ↔ l.Nodup := by
  obtain ⟨h1, h2, h3⟩ := addI_nodup l [] (by simp)
  constructor
  · intro h
    have key : ∀ (ss ms : List Int), (ss.foldl addI ms).length = ms.length + ss.length → ms.Nodup → ss.Nodup ∧ ∀ x ∈ ss, x ∉ ms := by
      intro ss
      induction ss with
      | nil => intro ms _ _; simp
      | cons s r ih =>
        intro ms he hn
        rw [List.foldl_cons] at he
        by_cases z : s ∈ ms
        · rw [show addI ms s = ms from if_pos z] at he
          obtain ⟨_, _, h3⟩ := addI_nodup r ms hn
          simp only [List.length_cons] at he
          exfalso
          have : (r.foldl addI ms).length = ms.length + (r.length + 1) := he
          omega
        · rw [show addI ms s = ms ++ [s] from if_neg z] at he
          have hn2 : (ms ++ [s]).Nodup := by
            rw [List.nodup_append]
            exact ⟨hn, by simp, fun a ha b hb e => z (by simp at hb; rw [← hb, ← e]; exact ha)⟩
          have he2 : (r.foldl addI (ms ++ [s])).length = (ms ++ [s]).length + r.length := by
            simp only [List.length_append, List.length_cons, List.length_nil] at he ⊢
            have : (r.foldl addI (ms ++ [s])).length = ms.length + (r.length + 1) := he
            omega
          obtain ⟨g1, g2⟩ := ih _ he2 hn2
          refine ⟨List.nodup_cons.mpr ⟨fun hs => g2 s hs (by simp), g1⟩, fun x hx => ?_⟩
          rcases List.mem_cons.mp hx with rfl | hx
          · exact z
          · exact fun hm => g2 x hx (List.mem_append_left _ hm)
    exact (key l [] (by simpa [keysI] using h) (by simp)).1
  · intro h
    refine Nat.le_antisymm (by simpa [keysI] using h3) (nodup_le h fun x hx => (h2 x).mpr (.inr hx))
theorem ixD_mapI {α β : Type} (g : α → β) (l : List α) (i : Int) : ixD (l.map g) i = (ixD l i).map g := by
  cases i with
  | ofNat n => exact List.getElem?_map ..
  | negSucc n =>
    show (if n < (l.map g).length then (l.map g)[(l.map g).length - 1 - n]? else none) = Option.map g (if n < l.length then l[l.length - 1 - n]? else none)
    rw [List.length_map]
    split
    · exact List.getElem?_map ..
    · rfl
theorem ixD_prev {l : List Int} {k : Nat} (hk : k < l.length) : ∃ a, ixD l ((k : Int) - 1) = some a ∧ a ∈ l := by
  cases k with
  | zero =>
    refine ⟨l[l.length - 1 - 0], ?_, List.getElem_mem _⟩
    show (if 0 < l.length then l[l.length - 1 - 0]? else none) = _
    rw [if_pos hk]
    exact List.getElem?_eq_getElem _
  | succ k =>
    refine ⟨l[k], ?_, List.getElem_mem _⟩
    rw [show ((k + 1 : Nat) : Int) - 1 = (k : Int) by omega]
    exact List.getElem?_eq_getElem _
def stepOk (ws : Ws) (l : List Int) (k : Nat) : Bool := match ixD l ((k : Int) - 1), l[k]? with
  | some a, some b => (match nxt ws a.toNat with
    | some j => decide ((j : Int) = b)
    | none => false)
  | _, _ => false
def inRng (n : Nat) (l : List Int) : Bool := l.all fun p => decide (0 ≤ p) && decide (p < (n : Int))
def isRingB (rn : Rn) (l : List Int) : Bool := decide (2 ≤ l.length) && (inRng rn.length l && (decide l.Nodup && (List.range l.length).all (stepOk (waitsL rn) l)))
-- is_ring(renaming, ring) slots: 0=renaming* 1=ring* 2=waits* 3=person 4=k
def q_is_ring : QS :=
  (qSeq (qIfS (qOr (qB (qOp opLt (qUn opLen (qVar 1)) (qC (.int 2)))) (qNot (qB (qUn opAll (qLc [3] (qiL (qVar 1)) (qgN 3) qYes (qChain opLe opLt (qC (.int 0)) (qVar 3) (qUn opLen (qVar 0))))))))
   (qRet (qC (.bool false)))
   qNext)
  (qSeq (qIfS (qB (qOp opNe (qLenD (qDc false [3] (qiL (qVar 1)) (qgN 3) qYes (qVar 3) (qC (.bool true)))) (qUn opLen (qVar 1))))
   (qRet (qC (.bool false)))
   qNext)
  (qSeq (qAsg (qCall 1 P_waits_of (qCons (qVar 0) qNil)) (qgN 2))
  (qFrz 2 (qRet (qUn opAll (qLc [4] (qiR1 (qCons (qUn opLen (qVar 1)) qNil)) (qgN 4) qYes (qOp opEq (qOp opIx (qVar 2) (qOp opIx (qVar 1) (qOp opSub (qVar 4) (qC (.int 1))))) (qOp opIx (qVar 1) (qVar 4))))))))))
def P_is_ring : PD := fun ds R => ∃ (rn : Rn) (l : List Int), ds = [rnD rn, intsD l] ∧ RnOk rn ∧ l.length ≤ 1000 ∧ R (.sh (.bool (isRingB rn l)))
theorem eqv_wait (o : Option Nat) (x : Int) : PyData.eqv (waitD o) (.int x) = (match o with
  | some j => decide ((j : Int) = x)
  | none => false) := by
  cases o with
  | none => rfl
  | some j => exact eqv_int j x
theorem pure_is_ring : ∀ ds R, ds.length = 2 → P_is_ring ds R → q_is_ring (endsOf R) (startEv 5 ds) := by
  rintro ds R - ⟨rn, l, rfl, ok, hl, h⟩
  have hn := ok.n2
  have wl := ws_len rn
  have hpl : (List.map prD rn).length = rn.length := List.length_map _
  have hil : (List.map PyData.int l).length = l.length := List.length_map _
  unfold isRingB at h
  ac_rfl
  rw [hil]
  refine ⟨fun hz => ?_, fun hz => ?_⟩
  · have hz : (l.length : Int) < 2 := of_decide_eq_true hz
    rw [show decide (2 ≤ l.length) = false from decide_eq_false (by omega)] at h
    ac_rfl
    exact h
  · have hz : ¬ (l.length : Int) < 2 := of_decide_eq_false hz
    rw [show decide (2 ≤ l.length) = true from decide_eq_true (by omega), Bool.true_and] at h
    ac_rfl
    refine lc0_map (vs := [3]) PyData.int (fun p => .bool (decide (0 ≤ p) && decide (p < (rn.length : Int)))) l (fun p hp acc K ha hK => ?_) (small (by omega)) ?_
    · ac_rfl
      refine ⟨fun hz => ?_, fun hz => ?_⟩
      · have hz : decide (0 ≤ p) = true := hz
        rw [hz, Bool.true_and] at hK
        ac_rfl
        rw [hpl]
        exact hK
      · have hz : decide (0 ≤ p) = false := hz
        rw [hz, Bool.false_and] at hK
        ac_rfl
        exact hK
    · ac_rfl
      rw [boolsOf_map']
      ac_rfl
      rw [show (l.map fun p => decide (0 ≤ p) && decide (p < (rn.length : Int))).all id = inRng rn.length l by rw [List.all_map]; rfl]
      refine ⟨fun hr => ?_, fun hr => ?_⟩
      · have hr : inRng rn.length l = false := by simpa using hr
        rw [hr, Bool.false_and] at h
        ac_rfl
        exact h
      · have hr : inRng rn.length l = true := by simpa using hr
        rw [hr, Bool.true_and] at h
        ac_rfl
        refine dcGo_ok (b := false) (vs := [3]) PyData.int PyData.int (fun _ => .bool true) l [] (fun p hp acc K ha hK => ?_) (by simp; exact small (by omega)) ?_
        · ac_rfl
          exact hK
        · rw [show ([] : List (D × D)) = kdI [] from rfl, fold_kdI]
          ac_rfl
          rw [show (kdI (l.foldl addI [])).length = (keysI l).length from List.length_map _, hil, eqv_nat]
          have hkl := keysI_len l
          refine ⟨fun hd => ?_, fun hd => ?_⟩
          · have hd : ¬ l.Nodup := fun z => by
              rw [hkl.mpr z] at hd
              simp at hd
            rw [decide_eq_false hd, Bool.false_and] at h
            ac_rfl
            exact h
          · have hd : l.Nodup := hkl.mp (by simpa using hd)
            rw [decide_eq_true hd, Bool.true_and] at h
            ac_rfl
            refine ⟨rn, rfl, ok, ?_⟩
            generalize waitsL rn = ws at *
            ac_rfl
            rw [hil]
            refine lc0_map (vs := [4]) (fun i : Nat => .int (i : Int)) (fun k => .bool (stepOk ws l k)) (List.range l.length) (fun k hk acc K ha hK => ?_) (by simp; exact small (by omega)) ?_
            · have hk : k < l.length := by simpa using hk
              obtain ⟨a, ea, ma⟩ := ixD_prev hk
              have eb : l[k]? = some l[k] := List.getElem?_eq_getElem hk
              have ra := (List.all_eq_true.mp hr) a ma
              simp only [Bool.and_eq_true, decide_eq_true_eq] at ra
              obtain ⟨n, rfl⟩ : ∃ n : Nat, a = n := ⟨a.toNat, by omega⟩
              have hst : stepOk ws l k = PyData.eqv (waitD (nxt ws n)) (.int l[k]) := by
                unfold stepOk
                rw [ea, eb, eqv_wait]
                rfl
              rw [hst] at hK
              ac_rfl
              rw [ixD_mapI, ea]
              ac_rfl
              rw [ws_ix (by omega)]
              ac_rfl
              rw [ixD_map PyData.int eb]
              ac_rfl
              refine ⟨by rw [flat_wait]; rfl, ?_⟩
              ac_rfl
              exact hK
            · ac_rfl
              rw [boolsOf_map']
              ac_rfl
              have e : ((List.range l.length).map (stepOk ws l)).all id = (List.range l.length).all (stepOk ws l) := by
                rw [List.all_map]
                rfl
              rw [← e] at h
              exact h
end PL

namespace PL
open PySem PySem.Spec PyProof.Rows L2
local macro_rules | `(tactic| ac_rfl) => `(tactic| ((conv => whnf); repeat ((first | refine Cif.yes ?_ | refine Cif.no ?_ | (refine And.intro ?_ ?_; · first | (show _ ≤ (_ : Int); omega) | (show _ < (_ : Int); omega) | assumption | exact trivial | exact rfl | (refine small ?_; first | omega | (simp only [List.length_map, List.length_cons, List.length_nil, List.length_append]; omega)) | (refine ltsmall ?_; first | omega | (simp only [List.length_map, List.length_cons, List.length_nil, List.length_append]; omega)) | (refine cdiv ?_ ?_ <;> omega) | (refine cmulR ?_ ?_ <;> omega) | (refine cmulL ?_ ?_ <;> omega) | (refine ⟨?_, ?_, ?_, ?_⟩ <;> omega))); (conv => whnf))))
local macro_rules | `(tactic| exists $e) => `(tactic| first | exact $e | exact And.right $e | exact And.right (And.right $e) | exact And.right (And.right (And.right $e)))
theorem eqv_intsL (a b : List Int) : PyData.eqv (.list (a.map .int)) (.list (b.map .int)) = decide (a = b) := by
  have e : ∀ c : List Int, c.map PyData.int = (c.map Sum.inl : List Key).map keyD := fun c => by simp [keyD, Function.comp_def]
  rw [e a, e b, PyData.eqv, eqv_keysD]
  exact decide_eq_decide.mpr (List.map_inj_right fun x y h => Sum.inl.inj h)
theorem hasDict_ints : ∀ c : List Int, PyData.hasDictAll (c.map .int) = false
  | [] => by simp [PyData.hasDictAll]
  | n :: r => by simp [PyData.hasDictAll, PyData.hasDict, hasDict_ints r]
theorem depth_ints : ∀ c : List Int, PyData.depthAll (c.map .int) = 0
  | [] => by simp [PyData.depthAll]
  | n :: r => by simp [PyData.depthAll, PyData.depth, depth_ints r]
theorem flat_ints (c : List Int) : flat 60 (.list (c.map .int)) = true := by
  have e1 : (PyData.list (c.map .int)).hasDict = false := by simp [PyData.hasDict, hasDict_ints]
  have e2 : (PyData.list (c.map .int)).depth ≤ 60 := by simp [PyData.depth, depth_ints]
  simp [flat, e1, e2]
theorem in_ints (o : Option Nat) (c : List Int) : inD (waitD o) (c.map .int) = (match o with
  | none => false
  | some j => decide ((j : Int) ∈ c)) := by
  unfold inD
  induction c with
  | nil => cases o <;> simp
  | cons n r ih =>
    rw [List.map_cons, List.any_cons, ih]
    cases o with
    | none => rfl
    | some j =>
      rw [show PyData.eqv (.int n) (waitD (some j)) = decide (n = (j : Int)) from eqv_int n j]
      by_cases z : n = (j : Int)
      · subst z
        simp
      · have z' : (j : Int) ≠ n := fun y => z y.symm
        simp [z, z']
def moversI (rn : Rn) : List Int := (moversL rn).map fun n : Nat => (n : Int)
theorem movers_sorted (rn : Rn) : (moversI rn).Pairwise (· ≤ ·) := by
  unfold moversI moversL
  rw [List.map_map, List.pairwise_map]
  have h : (rn.zipIdx).Pairwise fun a b => a.2 < b.2 := by
    rw [List.pairwise_iff_getElem]
    intro i j hi hj hij
    simp only [List.getElem_zipIdx]
    omega
  refine (h.sublist List.filter_sublist).imp fun hab => ?_
  simp only [Function.comp_apply]
  omega
theorem sorted_eq {ms l mv : List Int} (h1 : ms.Perm l) (h2 : ms.Pairwise (· ≤ ·)) (h3 : mv.Pairwise (· ≤ ·)) : decide (ms = mv) = decide (l.Perm mv) := by
  apply decide_eq_decide.mpr
  constructor
  · intro e
    subst e
    exact h1.symm
  · intro e
    exact List.Perm.eq_of_pairwise (le := (· ≤ ·)) (fun a b _ _ x y => Int.le_antisymm x y) h2 h3 (h1.trans e)
def ordOk (ws : Ws) (l : List Int) (k : Nat) : Bool := match l[k]? with
  | some a => !inD (waitD (nxt ws a.toNat)) ((l.drop (k + 1)).map .int)
  | none => true
def isOrderB (rn : Rn) (l : List Int) : Bool := decide (l.Perm (moversI rn)) && (List.range l.length).all (ordOk (waitsL rn) l)
theorem cutD_from (l : List Int) (k : Nat) : cutD (l.map .int) (some ((k : Int) + 1)) none = (l.drop (k + 1)).map .int := by
  unfold cutD
  rw [show ((k : Int) + 1) = ((k + 1 : Nat) : Int) by omega, HT.sIx_nat, HT.sIx_none, List.map_drop, List.length_map]
  by_cases h : k + 1 ≤ l.length
  · rw [Nat.min_eq_left h, List.take_of_length_le (by rw [List.length_drop, List.length_map]; omega)]
  · rw [Nat.min_eq_right (by omega), List.drop_eq_nil_of_le (by rw [List.length_map]; omega), List.drop_eq_nil_of_le (by rw [List.length_map]; omega)]
    simp
-- is_order(renaming, order) slots: 0=renaming 1=order* 2=waits* 3=k 4=person
def q_is_order : QS :=
  (qSeq (qIfS (qB (qOp opNe (qUn opSortI (qVar 1)) (qCall 1 P_movers_of (qCons (qVar 0) qNil))))
   (qRet (qC (.bool false)))
   qNext)
  (qSeq (qAsg (qCall 1 P_waits_of (qCons (qVar 0) qNil)) (qgN 2))
  (qFrz 2 (qRet (qUn opAll (qLc [3, 4] (qiE (qCons (qVar 1) qNil)) (qgTup 2 (qgCons (qgN 3) (qgCons (qgN 4) qgNil))) qYes (qOp (opInW not) (qOp opIx (qVar 2) (qVar 4)) (qSl (qVar 1) (qoS (qOp opAdd (qVar 3) (qC (.int 1)))) qoN))))))))
def P_is_order : PD := fun ds R => ∃ (rn : Rn) (l : List Int), ds = [rnD rn, intsD l] ∧ RnOk rn ∧ l.length ≤ 1000 ∧ R (.sh (.bool (isOrderB rn l)))
theorem pure_is_order : ∀ ds R, ds.length = 2 → P_is_order ds R → q_is_order (endsOf R) (startEv 5 ds) := by
  rintro ds R - ⟨rn, l, rfl, ok, hl, h⟩
  have hn := ok.n2
  have wl := ws_len rn
  have hil : (List.map PyData.int l).length = l.length := List.length_map _
  have hms := movers_sorted rn
  have hmI : (moversL rn).map natD = (moversI rn).map .int := by
    unfold moversI
    exact nats_ints _
  have hmlt := moversL_lt rn
  unfold isOrderB at h
  ac_rfl
  rw [intsOf_map]
  intro ms p1 p2
  ac_rfl
  refine ⟨rn, rfl, hn, ?_⟩
  rw [hmI]
  ac_rfl
  refine ⟨by rw [flat_ints, flat_ints]; rfl, ?_⟩
  rw [eqv_intsL, sorted_eq p1 p2 hms]
  clear p1 p2 hms hmI
  refine ⟨fun hz => ?_, fun hz => ?_⟩
  · have hz : decide (l.Perm (moversI rn)) = false := by simpa using hz
    rw [hz, Bool.false_and] at h
    ac_rfl
    exact h
  · have hz : decide (l.Perm (moversI rn)) = true := by simpa using hz
    rw [hz, Bool.true_and] at h
    have hp : l.Perm (moversI rn) := of_decide_eq_true hz
    clear hz
    ac_rfl
    refine ⟨rn, rfl, ok, ?_⟩
    have hlt : ∀ x ∈ l, ∃ n : Nat, x = n ∧ n < rn.length := fun x hx => by
      obtain ⟨n, h1, h2⟩ := List.mem_map.mp (hp.mem_iff.mp hx)
      exact ⟨n, h2.symm, hmlt n h1⟩
    clear hp hmlt
    generalize waitsL rn = ws at *
    ac_rfl
    rw [enumD_map]
    refine lc0_map (vs := [3, 4]) (fun p : Int × Nat => .tuple [.int (p.2 : Int), .int p.1]) (fun p => .bool (ordOk ws l p.2)) (l.zipIdx) (fun p hpz acc K ha hK => ?_) (by simp; exact small (by omega)) ?_
    · have hk := List.mem_zipIdx_iff_getElem?.mp hpz
      obtain ⟨n, e1, e2⟩ := hlt p.1 (List.mem_of_getElem? hk)
      obtain ⟨x, k⟩ := p
      simp only at e1 hk hK
      subst e1
      ac_rfl
      rw [ws_ix (by omega)]
      ac_rfl
      rw [cutD_from]
      have ho : ordOk ws l k = !inD (waitD (nxt ws n)) ((l.drop (k + 1)).map .int) := by
        unfold ordOk
        rw [hk]
        rfl
      rw [ho] at hK
      refine ⟨by rw [flat_wait, flat_ints]; rfl, ?_⟩
      ac_rfl
      exact hK
    · ac_rfl
      rw [boolsOf_map']
      ac_rfl
      have e : ((l.zipIdx).map fun p => ordOk ws l p.2).all id = (List.range l.length).all (ordOk ws l) := by
        rw [List.all_map]
        have e2 : (l.zipIdx).map (·.2) = List.range l.length := by
          rw [List.range_eq_range']
          exact List.zipIdx_map_snd 0 l
        rw [← e2, List.all_map]
        rfl
      rw [← e] at h
      exact h
def judgeB (rn : Rn) (w : Str) (ls : List (List Int)) : Bool := match ls with
  | [l] => if w = Str.ofString "order" then isOrderB rn l else (decide (w = Str.ofString "ring") && isRingB rn l)
  | _ => false
def ppD (w : Str) (ls : List (List Int)) : D := .tuple (.str w :: ls.map intsD)
-- judge_order(renaming, verdict) slots: 0=renaming 1=verdict
def q_judge_order : QS :=
  (qSeq (qIfS (qB (qOp opNe (qUn opLen (qVar 1)) (qC (.int 2))))
   (qRet (qC (.bool false)))
   qNext)
  (qSeq (qIfS (qB (qOp opEq (qOp opIx (qVar 1) (qC (.int 0))) (qC (.str "order"))))
   (qRet (qCall 2 P_is_order (qCons (qVar 0) (qCons (qOp opIx (qVar 1) (qC (.int 1))) qNil))))
   qNext)
  (qRet (qAndV (qOp opEq (qOp opIx (qVar 1) (qC (.int 0))) (qC (.str "ring"))) (qCall 2 P_is_ring (qCons (qVar 0) (qCons (qOp opIx (qVar 1) (qC (.int 1))) qNil)))))))
def P_judge_order : PD := fun ds R => ∃ (rn : Rn) (w : Str) (ls : List (List Int)), ds = [rnD rn, ppD w ls] ∧ RnOk rn ∧ (∀ l ∈ ls, l.length ≤ 1000) ∧ ls.length ≤ 100 ∧ R (.sh (.bool (judgeB rn w ls)))
theorem pure_judge_order : ∀ ds R, ds.length = 2 → P_judge_order ds R → q_judge_order (endsOf R) (startEv 2 ds) := by
  rintro ds R - ⟨rn, w, ls, rfl, ok, hll, hls, h⟩
  match ls, hll, hls, h with
  | [], _, _, h =>
    ac_rfl
    exact h
  | [l], hll, _, h =>
    have hl := hll l (by simp)
    have h : R (.sh (.bool (if w = Str.ofString "order" then isOrderB rn l else (decide (w = Str.ofString "ring") && isRingB rn l)))) := h
    ac_rfl
    rw [eqv_str]
    refine ⟨fun hz => ?_, fun hz => ?_⟩
    · have hz : w = Str.ofString "order" := of_decide_eq_true hz
      rw [if_pos hz] at h
      ac_rfl
      exact ⟨rn, l, rfl, ok, hl, h⟩
    · have hz : ¬ w = Str.ofString "order" := of_decide_eq_false hz
      rw [if_neg hz] at h
      ac_rfl
      rw [eqv_str]
      refine ⟨fun hy => ?_, fun hy => ?_⟩
      · rw [hy, Bool.true_and] at h
        ac_rfl
        exact ⟨rn, l, rfl, ok, hl, h⟩
      · rw [hy, Bool.false_and] at h
        ac_rfl
        exact h
  | a :: b :: r, _, hls, h =>
    ac_rfl
    exact h
end PL

namespace PL
open PySem PySem.Spec PyProof.Rows L2
local macro_rules | `(tactic| ac_rfl) => `(tactic| ((conv => whnf); repeat ((first | refine Cif.yes ?_ | refine Cif.no ?_ | (refine And.intro ?_ ?_; · first | (show _ ≤ (_ : Int); omega) | (show _ < (_ : Int); omega) | assumption | exact trivial | exact rfl | (refine small ?_; first | omega | (simp only [List.length_map, List.length_cons, List.length_nil, List.length_append]; omega)) | (refine ltsmall ?_; first | omega | (simp only [List.length_map, List.length_cons, List.length_nil, List.length_append]; omega)) | (refine cdiv ?_ ?_ <;> omega) | (refine cmulR ?_ ?_ <;> omega) | (refine cmulL ?_ ?_ <;> omega) | (refine ⟨?_, ?_, ?_, ?_⟩ <;> omega))); (conv => whnf))))
local macro_rules | `(tactic| exists $e) => `(tactic| first | exact $e | exact And.right $e | exact And.right (And.right $e) | exact And.right (And.right (And.right $e)))
-- _law_cell(script, k) slots: 0=script 1=k
def q__law_cell : QS :=
  (qSeq (qIfS (qB (qOp opLt (qVar 1) (qUn opLen (qVar 0))))
   (qRet (qUn opInt (qOp opIx (qVar 0) (qVar 1))))
   qNext)
  (qRet (qC (.int 0))))
def P__law_cell : PD := fun ds R => ∃ (ns : List Int) (k : Nat), ds = [scrD ns, .int k] ∧ ns.length ≤ 63 ∧ ∀ i, R (.sh (.int i))
theorem pure__law_cell : ∀ ds R, ds.length = 2 → P__law_cell ds R → q__law_cell (endsOf R) (startEv 2 ds) := by
  rintro ds R - ⟨ns, k, rfl, hl, h⟩
  ac_rfl
  refine ⟨fun hz => ?_, fun hz => ?_⟩
  · have hk : k < ns.length := by
      have := of_decide_eq_true hz
      simp at this
      omega
    ac_rfl
    rw [ixD_map _ (List.getElem?_eq_getElem hk)]
    ac_rfl
    exact h _
  · ac_rfl
    exact h _
-- _law_numbers(cell, count, limit) slots: 0=cell 1=count 2=limit 3=found 4=k 5=mixed
def q__law_numbers : QS :=
  (qSeq (qAsg (qLst qNil) (qgN 3))
  (qSeq (qIfS (qB (qOp opGe (qVar 0) (qOp opPow (qC (.int 10)) (qC (.int 18)))))
   (qSeq (qFor (qiR1 (qCons (qVar 1) qNil)) (qgN 4)
    (qSeq (qDrop (qApp 3 (qOp opMod (qUn opInt (qVar 0)) (qVar 2))))
    (qAsg (qOp opFdiv (qUn opInt (qVar 0)) (qVar 2)) (qgN 0))))
   (qRet (qVar 3)))
   qNext)
  (qSeq (qFor (qiR1 (qCons (qVar 1) qNil)) (qgN 4)
   (qSeq (qAsg (qOp opMod (qUn opInt (qOp opAdd (qOp opAdd (qOp opMul (qVar 0) (qC (.int 48271))) (qOp opMul (qVar 4) (qC (.int 69621)))) (qC (.int 7)))) (qC (.int 2147483647))) (qgN 5))
   (qSeq (qAsg (qOp opMod (qUn opInt (qOp opAdd (qOp opAdd (qOp opAdd (qOp opMul (qVar 5) (qVar 5)) (qOp opMul (qVar 5) (qC (.int 40692)))) (qOp opMul (qVar 4) (qC (.int 16807)))) (qC (.int 11)))) (qC (.int 2147483399))) (qgN 5))
   (qDrop (qApp 3 (qOp opMod (qUn opInt (qOp opFdiv (qVar 5) (qC (.int 32)))) (qVar 2)))))))
  (qRet (qVar 3)))))
def P__law_numbers : PD := fun ds R => ∃ (c : Int) (n : Nat) (l : Int), ds = [.int c, .int n, .int l] ∧ n ≤ 1000 ∧ 0 < l ∧ l < 1073741824 ∧ ∀ ns : List Int, ns.length = n → (∀ x ∈ ns, 0 ≤ x ∧ x < l) → R (.ow (.l (ns.map .int)))
theorem pure__law_numbers : ∀ ds R, ds.length = 3 → P__law_numbers ds R → q__law_numbers (endsOf R) (startEv 6 ds) := by
  rintro ds R - ⟨c, n, l, rfl, hn, h0, h1, h⟩
  ac_rfl
  refine ⟨⟨by decide, by decide, by decide⟩, ?_⟩
  ac_rfl
  refine ⟨fun hz => ?_, fun hz => ?_⟩
  · clear hz
    ac_rfl
    refine forGo_ok (fun i : Nat => .int (i : Int)) (fun r Γ => ∃ (c : Int) (ns : List Int) (a b : Sl), Γ = [.sh (.int c), .sh (.int n), .sh (.int l), .ow (.l (ns.map .int)), a, b] ∧ ns.length + r.length = n ∧ ∀ x ∈ ns, 0 ≤ x ∧ x < l) ?_ ?_ _ _ ⟨c, [], _, _, rfl, by simp, by simp⟩
    · rintro Γ ⟨c, ns, a, b, rfl, hl, hr⟩
      ac_rfl
      exact h ns (by simpa using hl) hr
    · rintro i r Γ K ⟨c, ns, a, b, rfl, hl, hr⟩ hK
      simp only [List.length_cons] at hl
      ac_rfl
      exact hK _ ⟨_, ns ++ [c % l], _, _, congrArg (fun z => [_, _, _, Sl.ow (.l z), _, _]) (map_snoc ns _), by simp; omega, app_in hr (Int.emod_nonneg _ (by omega)) (Int.emod_lt_of_pos _ h0)⟩
  · clear hz
    ac_rfl
    refine forGo_ok (fun i : Nat => .int (i : Int)) (fun r Γ => ∃ (ns : List Int) (a b : Sl), Γ = [.sh (.int c), .sh (.int n), .sh (.int l), .ow (.l (ns.map .int)), a, b] ∧ ns.length + r.length = n ∧ ∀ x ∈ ns, 0 ≤ x ∧ x < l) ?_ ?_ _ _ ⟨[], _, _, rfl, by simp, by simp⟩
    · rintro Γ ⟨ns, a, b, rfl, hl, hr⟩
      ac_rfl
      exact h ns (by simpa using hl) hr
    · rintro i r Γ K ⟨ns, a, b, rfl, hl, hr⟩ hK
      simp only [List.length_cons] at hl
      ac_rfl
      exact hK _ ⟨ns ++ [_ % l], _, _, congrArg (fun z => [_, _, _, Sl.ow (.l z), _, _]) (map_snoc ns _), by simp; omega, app_in hr (Int.emod_nonneg _ (by omega)) (Int.emod_lt_of_pos _ h0)⟩

/-- the same of itself -/
def PR__law_same : Nat → PD
  | 0 => fun _ _ => False
  | n + 1 => fun ds R => ∃ d, ds = [d, d] ∧ sameOk (n + 1) d = true ∧ R (.sh (.bool true))
def P__law_same : PD := PR__law_same 3
-- _law_same(told, due) slots: 0=told 1=due 2=k
def q__law_same (PR : PD) : QS :=
  (qSeq (qIfS (qB (qUn (opIsi "list") (qVar 1)))
   (qIfS (qOr (qNot (qB (qUn (opIsi "list") (qVar 0)))) (qB (qOp opNe (qUn opLen (qVar 0)) (qUn opLen (qVar 1)))))
    (qRet (qC (.bool false)))
    qNext)
   (qIfS (qB (qUn (opIsi "tuple") (qVar 1)))
    (qIfS (qOr (qNot (qB (qUn (opIsi "tuple") (qVar 0)))) (qB (qOp opNe (qUn opLen (qVar 0)) (qUn opLen (qVar 1)))))
     (qRet (qC (.bool false)))
     qNext)
    (qIfS (qB (qOp opIs (qVar 1) (qC .none)))
     (qRet (qOp opIs (qVar 0) (qC .none)))
     (qIfS (qB (qUn (opIsi "bool") (qVar 1)))
      (qRet (qAndV (qUn (opIsi "bool") (qVar 0)) (qOp opEq (qVar 0) (qVar 1))))
      (qIfS (qB (qUn (opIsi "int") (qVar 1)))
       (qRet (qAndV (qUn (opIsi "int") (qVar 0)) (qAndV (qNotV (qUn (opIsi "bool") (qVar 0))) (qOp opEq (qVar 0) (qVar 1)))))
       (qRet (qAndV (qUn (opIsi "str") (qVar 0)) (qOp opEq (qVar 0) (qVar 1)))))))))
  (qSeq (qFor (qiR1 (qCons (qUn opLen (qVar 1)) qNil)) (qgN 2)
   (qIfS (qNot (qB (qCall 2 PR (qCons (qOp opIx (qVar 0) (qVar 2)) (qCons (qOp opIx (qVar 1) (qVar 2)) qNil)))))
    (qRet (qC (.bool false)))
    qNext))
  (qRet (qC (.bool true)))))
theorem pure__law_same (m : Nat) : ∀ ds R, ds.length = 2 → PR__law_same (m + 1) ds R → q__law_same (PR__law_same m) (endsOf R) (startEv 3 ds) := by
  rintro ds R - ⟨d, rfl, hd, h⟩
  cases d with
  | none =>
    ac_rfl
    exact h
  | bool b =>
    ac_rfl
    rw [eqv_bool]
    have e : decide (b = b) = true := by simp
    rw [e]
    exact h
  | int i =>
    ac_rfl
    rw [eqv_int]
    have e : decide (i = i) = true := by simp
    rw [e]
    exact h
  | str x =>
    ac_rfl
    rw [eqv_str]
    have e : decide (x = x) = true := by simp
    rw [e]
    exact h
  | dict _ => cases hd
  | list v =>
    simp only [sameOk, Bool.and_eq_true, decide_eq_true_eq, List.all_eq_true] at hd
    ac_rfl
    rw [eqv_int]
    refine Cif.ff (by simp) ?_
    ac_rfl
    refine forGo_ok (fun i : Nat => .int (i : Int)) (fun r Γ => ∃ a, Γ = [.sh (.list v), .sh (.list v), a] ∧ ∀ i ∈ r, i < v.length) ?_ ?_ _ _ ⟨_, rfl, by simp⟩
    · rintro Γ ⟨a, rfl, hr⟩
      ac_rfl
      exact h
    · rintro i r Γ K ⟨a, rfl, hr⟩ hK
      have hi := hr i (by simp)
      have e : v[i]? = some v[i] := List.getElem?_eq_getElem hi
      ac_rfl
      rw [ixD_nat e]
      ac_rfl
      rw [ixD_nat e]
      ac_rfl
      have hdi := hd.2 _ (List.getElem_mem hi)
      cases m with
      | zero => cases hdi
      | succ m =>
      refine ⟨_, rfl, hdi, ?_⟩
      ac_rfl
      exact hK _ ⟨_, rfl, fun j hj => hr j (List.mem_cons_of_mem _ hj)⟩
  | tuple v =>
    simp only [sameOk, Bool.and_eq_true, decide_eq_true_eq, List.all_eq_true] at hd
    ac_rfl
    rw [eqv_int]
    refine Cif.ff (by simp) ?_
    ac_rfl
    refine forGo_ok (fun i : Nat => .int (i : Int)) (fun r Γ => ∃ a, Γ = [.sh (.tuple v), .sh (.tuple v), a] ∧ ∀ i ∈ r, i < v.length) ?_ ?_ _ _ ⟨_, rfl, by simp⟩
    · rintro Γ ⟨a, rfl, hr⟩
      ac_rfl
      exact h
    · rintro i r Γ K ⟨a, rfl, hr⟩ hK
      have hi := hr i (by simp)
      have e : v[i]? = some v[i] := List.getElem?_eq_getElem hi
      ac_rfl
      rw [ixD_nat e]
      ac_rfl
      rw [ixD_nat e]
      ac_rfl
      have hdi := hd.2 _ (List.getElem_mem hi)
      cases m with
      | zero => cases hdi
      | succ m =>
      refine ⟨_, rfl, hdi, ?_⟩
      ac_rfl
      exact hK _ ⟨_, rfl, fun j hj => hr j (List.mem_cons_of_mem _ hj)⟩

/-! ### the law's own waits and movers -/
theorem zip_range (rn : Rn) : rn.zipIdx.map (·.2) = List.range rn.length := by
  rw [List.range_eq_range']
  exact List.zipIdx_map_snd 0 rn
def mvAt (rn : Rn) (k : Nat) : Bool := match rn[k]? with
  | some p => p.1 != p.2
  | none => false
theorem moversL_range (rn : Rn) : moversL rn = (List.range rn.length).filter (mvAt rn) := by
  unfold moversL
  rw [← zip_range, List.filter_map]
  congr 1
  apply List.filter_congr
  intro p hp
  have := List.mem_zipIdx_iff_getElem?.mp hp
  unfold mvAt
  rw [Function.comp_apply, this]
-- _law_movers(renaming) slots: 0=renaming* 1=k
def q__law_movers : QS :=
  (qRet (qLc [1] (qiR1 (qCons (qUn opLen (qVar 0)) qNil)) (qgN 1) (qB (qOp opNe (qOp opIx (qOp opIx (qVar 0) (qVar 1)) (qC (.int 0))) (qOp opIx (qOp opIx (qVar 0) (qVar 1)) (qC (.int 1))))) (qVar 1)))
def P__law_movers : PD := fun ds R => ∃ rn : Rn, ds = [rnD rn] ∧ rn.length ≤ 12 ∧ R (.ow (.l ((moversL rn).map natD)))
theorem pure__law_movers : ∀ ds R, ds.length = 1 → P__law_movers ds R → q__law_movers (endsOf R) (startEv 2 ds) := by
  rintro ds R - ⟨rn, rfl, hn, h⟩
  rw [moversL_range] at h
  have hpl : (List.map prD rn).length = rn.length := List.length_map _
  ac_rfl
  rw [hpl]
  refine lc0_fil (vs := [1]) (fun i : Nat => .int (i : Int)) (mvAt rn) natD (List.range rn.length) (fun k hk acc K ha hK1 hK2 => ?_) (by simp; exact small (by omega)) ?_
  · have hk : k < rn.length := by simpa using hk
    have e : rn[k]? = some rn[k] := List.getElem?_eq_getElem hk
    unfold mvAt at hK1 hK2
    rw [e] at hK1 hK2
    ac_rfl
    rw [ixD_map prD e]
    ac_rfl
    rw [ixD_map prD e]
    ac_rfl
    rw [eqv_str]
    refine ⟨fun hz => ?_, fun hz => ?_⟩
    · ac_rfl
      refine hK1 ?_
      have hz : ¬ rn[k].1 = rn[k].2 := by simpa using hz
      simpa using hz
    · refine hK2 ?_
      have hz : rn[k].1 = rn[k].2 := by simpa using hz
      simpa using hz
  · exact h
end PL

namespace PL
open PySem PySem.Spec PyProof.Rows L2
local macro_rules | `(tactic| ac_rfl) => `(tactic| ((conv => whnf); repeat ((first | refine Cif.yes ?_ | refine Cif.no ?_ | (refine And.intro ?_ ?_; · first | (show _ ≤ (_ : Int); omega) | (show _ < (_ : Int); omega) | assumption | exact trivial | exact rfl | (refine small ?_; first | omega | (simp only [List.length_map, List.length_cons, List.length_nil, List.length_append]; omega)) | (refine ltsmall ?_; first | omega | (simp only [List.length_map, List.length_cons, List.length_nil, List.length_append]; omega)) | (refine cdiv ?_ ?_ <;> omega) | (refine cmulR ?_ ?_ <;> omega) | (refine cmulL ?_ ?_ <;> omega) | (refine ⟨?_, ?_, ?_, ?_⟩ <;> omega))); (conv => whnf))))
local macro_rules | `(tactic| exists $e) => `(tactic| first | exact $e | exact And.right $e | exact And.right (And.right $e) | exact And.right (And.right (And.right $e)))
def befAt (rn : Rn) (k j : Nat) : Bool := (j != k) && (match rn[j]?, rn[k]? with
  | some q, some p => q.1 == p.2
  | _, _ => false)
theorem find_head' {α : Type} (p : α → Bool) : ∀ l : List α, l.find? p = (l.filter p).head?
  | [] => rfl
  | a :: r => by
    have ih := find_head' p r
    by_cases h : p a = true
    · rw [List.find?_cons_of_pos h, List.filter_cons_of_pos h]
      rfl
    · rw [List.find?_cons_of_neg h, List.filter_cons_of_neg h, ih]
theorem bef_nxt {rn : Rn} (ok : RnOk rn) {k : Nat} {p : Str × Str} (hk : rn[k]? = some p) : ((List.range rn.length).filter (befAt rn k)).head? = nxt (waitsL rn) k := by
  have e0 : nxt (waitsL rn) k = waitOf rn p := by
    unfold nxt waitsL
    rw [List.getElem?_map, hk]
    rfl
  rw [e0]
  unfold waitOf
  by_cases z : p.1 = p.2
  · rw [if_pos z]
    have : (List.range rn.length).filter (befAt rn k) = [] := by
      rw [List.filter_eq_nil_iff]
      intro j hj hb
      unfold befAt at hb
      rw [hk] at hb
      cases hj2 : rn[j]? with
      | none =>
        rw [hj2] at hb
        simp at hb
      | some q =>
        rw [hj2] at hb
        simp only [Bool.and_eq_true, bne_iff_ne, beq_iff_eq] at hb
        exact hb.1 (inj_map (·.1) ok.od hj2 hk (hb.2.trans z.symm))
    rw [this]
    rfl
  · rw [if_neg z, find_head', ← zip_range, List.filter_map, List.head?_map]
    congr 2
    apply List.filter_congr
    intro q hq
    have hq := List.mem_zipIdx_iff_getElem?.mp hq
    unfold befAt
    rw [Function.comp_apply, hq, hk]
    simp only
    by_cases y : q.1.1 = p.2
    · have hne : q.2 ≠ k := fun e => by
        rw [e, hk] at hq
        cases hq
        exact z y
      simp [y, hne]
    · simp [y]
theorem ix0_none (c : List Nat) : ixD (c.map natD ++ [.none]) 0 = some (waitD c.head?) := by
  cases c <;> rfl
-- _law_waits(renaming) slots: 0=renaming* 1=found 2=k* 3=before 4=j
def q__law_waits : QS :=
  (qSeq (qAsg (qLst qNil) (qgN 1))
  (qSeq (qFor (qiR1 (qCons (qUn opLen (qVar 0)) qNil)) (qgN 2)
   (qSeq (qAsg (qLc [4] (qiR1 (qCons (qUn opLen (qVar 0)) qNil)) (qgN 4) (qAnd (qB (qOp opNe (qVar 4) (qVar 2))) (qB (qOp opEq (qOp opIx (qOp opIx (qVar 0) (qVar 4)) (qC (.int 0))) (qOp opIx (qOp opIx (qVar 0) (qVar 2)) (qC (.int 1)))))) (qVar 4)) (qgN 3))
   (qFrz 3 (qDrop (qApp 1 (qOp opIx (qOp opAdd (qVar 3) (qLst (qCons (qC .none) qNil))) (qC (.int 0))))))))
  (qRet (qVar 1))))
def P__law_waits : PD := fun ds R => ∃ rn : Rn, ds = [rnD rn] ∧ RnOk rn ∧ R (.ow (.l ((waitsL rn).map waitD)))
theorem pure__law_waits : ∀ ds R, ds.length = 1 → P__law_waits ds R → q__law_waits (endsOf R) (startEv 5 ds) := by
  rintro ds R - ⟨rn, rfl, ok, h⟩
  have hn := ok.n2
  have wl := ws_len rn
  have hpl : (List.map prD rn).length = rn.length := List.length_map _
  ac_rfl
  rw [hpl]
  refine forGo_ok (fun i : Nat => .int (i : Int)) (fun r Γ => ∃ (k : Nat) (a b : Sl), Γ = [.sh (rnD rn), .ow (.l (((waitsL rn).take k).map waitD)), a, b, .un] ∧ r = (List.range rn.length).drop k ∧ k ≤ rn.length) ?_ ?_ (List.range rn.length) _ ⟨0, _, _, rfl, rfl, by omega⟩
  · rintro Γ ⟨k, a, b, rfl, hr, hk⟩
    have : k = rn.length := by
      have := congrArg List.length hr
      simp at this
      omega
    subst this
    rw [List.take_of_length_le (by omega)]
    ac_rfl
    exact h
  · rintro i r Γ K ⟨k, a, b, rfl, hr, hk⟩ hK
    obtain ⟨hkn, rfl, rfl⟩ := drop_cons hr.symm
    have e1 : rn[i]? = some rn[i] := List.getElem?_eq_getElem hkn
    have hb := bef_nxt ok e1
    have hbl : ((List.range rn.length).filter (befAt rn i)).length ≤ 12 := by
      have := List.length_filter_le (befAt rn i) (List.range rn.length)
      rw [List.length_range] at this
      omega
    have hw : (waitsL rn).take (i + 1) = (waitsL rn).take i ++ [nxt (waitsL rn) i] := by
      have e2 : (waitsL rn)[i]? = some ((waitsL rn)[i]'(by omega)) := List.getElem?_eq_getElem _
      rw [List.take_succ, e2]
      unfold nxt
      rw [e2]
      rfl
    have next := fun (a b : Sl) => hK [.sh (rnD rn), .ow (.l (((waitsL rn).take i).map waitD ++ [waitD (nxt (waitsL rn) i)])), a, b, .un] ⟨i + 1, a, b, by rw [hw, List.map_append]; rfl, rfl, by omega⟩
    have tl1 : (((waitsL rn).take i).map waitD).length ≤ 12 := by
      rw [List.length_map, List.length_take]
      omega
    clear hK h
    ac_rfl
    rw [hpl]
    refine lc0_fil (vs := [4]) (fun i : Nat => .int (i : Int)) (befAt rn i) natD (List.range rn.length) (fun j hj acc K2 ha hK1 hK2 => ?_) (by simp; exact small (by omega)) ?_
    · have hj : j < rn.length := by simpa using hj
      have e2 : rn[j]? = some rn[j] := List.getElem?_eq_getElem hj
      unfold befAt at hK1 hK2
      rw [e1, e2] at hK1 hK2
      ac_rfl
      rw [eqv_nat]
      refine ⟨fun hz => ?_, fun hz => ?_⟩
      · have hz : (j != i) = true := hz
        rw [hz] at hK1 hK2
        ac_rfl
        rw [ixD_map prD e2]
        ac_rfl
        rw [ixD_map prD e1]
        ac_rfl
        rw [eqv_str]
        refine ⟨fun hy => ?_, fun hy => ?_⟩
        · ac_rfl
          refine hK1 ?_
          have hy : rn[j].1 = rn[i].2 := of_decide_eq_true hy
          simp [hy]
        · refine hK2 ?_
          have hy : ¬ rn[j].1 = rn[i].2 := of_decide_eq_false hy
          simp [hy]
      · have hz : (j != i) = false := hz
        rw [hz] at hK2
        exact Cif.no (hK2 rfl)
    · ac_rfl
      rw [ix0_none, hb]
      ac_rfl
      exact next _ _
end PL

namespace PL
open PySem PySem.Spec PyProof.Rows L2
local macro_rules | `(tactic| ac_rfl) => `(tactic| ((conv => whnf); repeat ((first | refine Cif.yes ?_ | refine Cif.no ?_ | (refine And.intro ?_ ?_; · first | (show _ ≤ (_ : Int); omega) | (show _ < (_ : Int); omega) | assumption | exact trivial | exact rfl | (refine small ?_; first | omega | (simp only [List.length_map, List.length_cons, List.length_nil, List.length_append]; omega)) | (refine ltsmall ?_; first | omega | (simp only [List.length_map, List.length_cons, List.length_nil, List.length_append]; omega)) | (refine cdiv ?_ ?_ <;> omega) | (refine cmulR ?_ ?_ <;> omega) | (refine cmulL ?_ ?_ <;> omega) | (refine ⟨?_, ?_, ?_, ?_⟩ <;> omega))); (conv => whnf))))
local macro_rules | `(tactic| exists $e) => `(tactic| first | exact $e | exact And.right $e | exact And.right (And.right $e) | exact And.right (And.right (And.right $e)))
theorem erase_filter {l : List Nat} (h : l.Nodup) (a : Nat) : l.erase a = l.filter fun p => p != a := by
  induction l with
  | nil => rfl
  | cons b r ih =>
    have hn := List.nodup_cons.mp h
    by_cases e : b = a
    · subst e
      rw [List.erase_cons_head, List.filter_cons_of_neg (by simp)]
      symm
      rw [List.filter_eq_self]
      intro x hx
      have : x ≠ b := fun z => hn.1 (z ▸ hx)
      simpa using this
    · have b2 : (b == a) = false := by simpa using e
      rw [List.erase_cons_tail (by simpa using e), List.filter_cons_of_pos (by simpa using e), ih hn.2]
theorem erase_int (l : List Nat) (a : Nat) : ((l.map fun n : Nat => (n : Int)).erase (a : Int)) = (l.erase a).map fun n : Nat => (n : Int) := by
  induction l with
  | nil => rfl
  | cons b r ih =>
    rw [List.map_cons, List.erase_cons, List.erase_cons, ih]
    by_cases e : b = a
    · subst e
      simp
    · have e2 : ¬ (b : Int) = (a : Int) := by omega
      have b1 : ((b : Int) == (a : Int)) = false := by simpa using e2
      have b2 : (b == a) = false := by simpa using e
      rw [b1, b2]
      rfl
theorem movers_nodup (rn : Rn) : (moversL rn).Nodup := by
  rw [moversL_range]
  exact List.nodup_range.sublist List.filter_sublist
-- _law_order(renaming) slots: 0=renaming 1=waits* 2=left* 3=order 4=turn 5=able 6=k
def q__law_order : QS :=
  (qSeq (qAsg (qCall 1 P__law_waits (qCons (qVar 0) qNil)) (qgN 1))
  (qFrz 1 (qSeq (qAsg (qCall 1 P__law_movers (qCons (qVar 0) qNil)) (qgN 2))
  (qSeq (qAsg (qLst qNil) (qgN 3))
  (qSeq (qFor (qiR1 (qCons (qUn opLen (qVar 0)) qNil)) (qgN 4)
   (qSeq (qAsg (qLcO 2 [6] (qgN 6) (qB (qOp (opInW not) (qOp opIx (qVar 1) (qVar 6)) (qVar 2))) (qVar 6)) (qgN 5))
   (qFrz 5 (qIfS (qB (qOp opGt (qUn opLen (qVar 5)) (qC (.int 0))))
    (qSeq (qDrop (qApp 3 (qOp opIx (qVar 5) (qC (.int 0)))))
    (qDrop (qRem 2 (qOp opIx (qVar 5) (qC (.int 0))))))
    qNext))))
  (qRet (qVar 3)))))))
def P__law_order : PD := fun ds R => ∃ rn : Rn, ds = [rnD rn] ∧ RnOk rn ∧ R (.ow (.l ((orderL rn).map natD)))
theorem ordG_stop {ws : Ws} {left : List Nat} (h : left.filter (able ws left) = []) : ∀ m, ordG ws m left = []
  | 0 => rfl
  | m + 1 => by
    unfold ordG
    rw [h]
    rfl
theorem pure__law_order : ∀ ds R, ds.length = 1 → P__law_order ds R → q__law_order (endsOf R) (startEv 7 ds) := by
  rintro ds R - ⟨rn, rfl, ok, h⟩
  have hn := ok.n2
  have wl := ws_len rn
  have hml := moversL_le rn
  have hmlt := moversL_lt rn
  have hmn := movers_nodup rn
  have hpl : (List.map prD rn).length = rn.length := List.length_map _
  ac_rfl
  refine ⟨rn, rfl, ok, ?_⟩
  ac_rfl
  refine ⟨rn, rfl, hn, ?_⟩
  unfold orderL at h
  generalize waitsL rn = ws at *
  generalize moversL rn = mv at *
  generalize hO : ordG ws rn.length mv = od at *
  ac_rfl
  rw [hpl]
  refine forGo_ok (fun i : Nat => .int (i : Int)) (fun r Γ => ∃ (left acc : List Nat) (a b : Sl), Γ = [.sh (rnD rn), .sh (.list (ws.map waitD)), .ow (.l (left.map natD)), .ow (.l (acc.map natD)), a, b, .un] ∧ left.Nodup ∧ (∀ k ∈ left, k < rn.length) ∧ left.length ≤ 12 ∧ acc.length + r.length ≤ 12 ∧ acc ++ ordG ws r.length left = od) ?_ ?_ (List.range rn.length) _ ⟨mv, [], _, _, rfl, hmn, hmlt, by omega, by simp; omega, by simpa using hO⟩
  · rintro Γ ⟨left, acc, a, b, rfl, _, _, _, _, he⟩
    have he : acc = od := by simpa [ordG] using he
    subst he
    ac_rfl
    exact h
  · rintro i r Γ K ⟨left, acc, a, b, rfl, hnd, hlt, hll, hal, he⟩ hK
    clear h
    ac_rfl
    refine lc0_fil (vs := [6]) natD (able ws left) natD left (fun p hp acc2 K2 ha hK1 hK2 => ?_) (small (by omega)) ?_
    · have hpl2 : p < ws.length := by rw [wl]; exact hlt p hp
      refine ⟨rfl, ?_⟩
      ac_rfl
      rw [ws_ix hpl2]
      ac_rfl
      refine ⟨by rw [flat_wait, flat_nats]; rfl, ?_⟩
      rw [not_in_able]
      ac_rfl
      refine ⟨fun hz => ?_, fun hz => ?_⟩
      · ac_rfl
        exact hK1 hz
      · exact hK2 hz
    · refine ⟨rfl, ?_⟩
      simp only [List.length_cons] at hal he
      cases hab : left.filter (able ws left) with
      | nil =>
        have hs : acc ++ ordG ws r.length left = od := by
          rw [ordG_stop hab] at he ⊢
          exact he
        ac_rfl
        exact hK _ ⟨left, acc, _, _, rfl, hnd, hlt, hll, by omega, hs⟩
      | cons a r1 =>
        have ham2 : a ∈ left := (List.mem_filter.mp (by rw [hab]; exact List.mem_cons_self)).1
        have he2 : (acc ++ [a]) ++ ordG ws r.length (left.filter fun p => p != a) = od := by
          rw [← he]
          conv => rhs; unfold ordG
          rw [hab]
          simp
        have next := fun (x y : Sl) => hK [.sh (rnD rn), .sh (.list (ws.map waitD)), .ow (.l ((left.filter fun p => p != a).map natD)), .ow (.l (acc.map natD ++ [natD a])), x, y, .un] ⟨left.filter fun p => p != a, acc ++ [a], x, y, by simp, hnd.sublist List.filter_sublist, fun k hk => hlt k (List.mem_filter.mp hk).1, by have := List.length_filter_le (fun p => p != a) left; omega, by simp; omega, he2⟩
        have hal2 : (acc.map natD).length ≤ 12 := by rw [List.length_map]; omega
        have hin : ((a : Nat) : Int) ∈ left.map fun n : Nat => (n : Int) := List.mem_map.mpr ⟨a, ham2, rfl⟩
        have hint := ints_nat left
        have hers : (((left.map fun n : Nat => (n : Int)).erase (a : Int)).map PyData.int) = (left.filter fun p => p != a).map natD := by
          rw [erase_int, erase_filter hnd, ← nats_ints]
        clear hK
        ac_rfl
        refine Cif.tt (by show decide ((0 : Int) < ((List.map natD (a :: r1)).length : Nat)) = true; simp) ?_
        ac_rfl
        rw [hint]
        refine ⟨hin, ?_⟩
        rw [hers]
        exact next _ _
end PL

namespace PL
open PySem PySem.Spec PyProof.Rows L2
local macro_rules | `(tactic| ac_rfl) => `(tactic| ((conv => whnf); repeat ((first | refine Cif.yes ?_ | refine Cif.no ?_ | (refine And.intro ?_ ?_; · first | (show _ ≤ (_ : Int); omega) | (show _ < (_ : Int); omega) | assumption | exact trivial | exact rfl | (refine small ?_; first | omega | (simp only [List.length_map, List.length_cons, List.length_nil, List.length_append]; omega)) | (refine ltsmall ?_; first | omega | (simp only [List.length_map, List.length_cons, List.length_nil, List.length_append]; omega)) | (refine cdiv ?_ ?_ <;> omega) | (refine cmulR ?_ ?_ <;> omega) | (refine cmulL ?_ ?_ <;> omega) | (refine ⟨?_, ?_, ?_, ?_⟩ <;> omega))); (conv => whnf))))
local macro_rules | `(tactic| exists $e) => `(tactic| first | exact $e | exact And.right $e | exact And.right (And.right $e) | exact And.right (And.right (And.right $e)))
/-! ### different numbers, sorted -/
-- _law_unique(some) slots: 0=some 1=found 2=one
def q__law_unique : QS :=
  (qSeq (qAsg (qOwn (.k [])) (qgN 1))
  (qSeq (qFor (qiL (qVar 0)) (qgN 2)
   (qDPut 1 (qVar 2) (qC (.bool true))))
  (qRet (qUn opSortI (qLcK 1 [2] (qgN 2) qYes (qVar 2))))))
def P__law_unique : PD := fun ds R => ∃ l : List Int, ds = [intsD l] ∧ l.length ≤ 1000 ∧ ∀ ms : List Int, ms.length = (keysI l).length → R (.ow (.l (ms.map .int)))
theorem keys_kdI (ms : List Int) : keysD (kdI ms) = ms.map .int := by
  unfold keysD kdI
  rw [List.map_map]
  rfl
theorem pure__law_unique : ∀ ds R, ds.length = 1 → P__law_unique ds R → q__law_unique (endsOf R) (startEv 3 ds) := by
  rintro ds R - ⟨l, rfl, hl, h⟩
  ac_rfl
  refine forGo_ok PyData.int (fun r Γ => ∃ (dn : List Int) (a : Sl), Γ = [.sh (intsD l), .ow (.k (kdI (keysI dn))), a] ∧ dn ++ r = l ∧ isOw (some a) = false) ?_ ?_ _ _ ⟨[], _, rfl, rfl, rfl⟩
  · rintro Γ ⟨dn, a, rfl, e, ha⟩
    have e : dn = l := by simpa using e
    subst e
    have hkl : (keysI dn).length ≤ dn.length := by
      have := (addI_nodup dn [] (by simp)).2.2
      simpa [keysI] using this
    ac_rfl
    refine ⟨fun p hp => ?_, fun ad => ⟨?_, ?_⟩⟩
    · obtain ⟨m, _, rfl⟩ := List.mem_map.mp hp
      trivial
    · show (!isOw (some a) && true) = true
      rw [ha]
      rfl
    · rw [keys_kdI]
      refine lc0_map (vs := [2]) PyData.int PyData.int (keysI dn) (fun x hx acc K hacc hK => ?_) (small (by omega)) ?_
      · ac_rfl
        exact hK
      · refine ⟨rfl, ?_⟩
        ac_rfl
        rw [intsOf_map]
        intro ms p1 _
        exact h ms p1.length_eq
  · rintro x r Γ K ⟨dn, a, rfl, e, ha⟩ hK
    have hlen : (kdI (keysI dn)).length ≤ 1000 := by
      have h1 := (addI_nodup dn [] (by simp)).2.2
      have h2 := congrArg List.length e
      simp at h2
      have h3 : (kdI (keysI dn)).length = (keysI dn).length := List.length_map _
      have h4 : (keysI dn).length ≤ dn.length := by simpa [keysI] using h1
      omega
    have next := hK [.sh (intsD l), .ow (.k (putD (kdI (keysI dn)) (.int x) (.bool true))), .sh (.int x)] ⟨dn ++ [x], _, by rw [put_kdI]; unfold keysI; rw [List.foldl_append]; rfl, by rw [← e]; simp, rfl⟩
    ac_rfl
    exact next
end PL

namespace PL
open PySem PySem.Spec PyProof.Rows L2
local macro_rules | `(tactic| ac_rfl) => `(tactic| ((conv => whnf); repeat ((first | refine Cif.yes ?_ | refine Cif.no ?_ | (refine And.intro ?_ ?_; · first | (show _ ≤ (_ : Int); omega) | (show _ < (_ : Int); omega) | assumption | exact trivial | exact rfl | (refine small ?_; first | omega | (simp only [List.length_map, List.length_cons, List.length_nil, List.length_append]; omega)) | (refine ltsmall ?_; first | omega | (simp only [List.length_map, List.length_cons, List.length_nil, List.length_append]; omega)) | (refine cdiv ?_ ?_ <;> omega) | (refine cmulR ?_ ?_ <;> omega) | (refine cmulL ?_ ?_ <;> omega) | (refine ⟨?_, ?_, ?_, ?_⟩ <;> omega))); (conv => whnf))))
local macro_rules | `(tactic| exists $e) => `(tactic| first | exact $e | exact And.right $e | exact And.right (And.right $e) | exact And.right (And.right (And.right $e)))
def stepL (ws : Ws) (n : Nat) (l : List Int) (k : Nat) : Bool := match l[k]?, l[(k + 1) % l.length]? with
  | some a, some b => (decide (0 ≤ a) && decide (a < (n : Int))) && (match nxt ws a.toNat with
    | some j => decide ((j : Int) = b)
    | none => false)
  | _, _ => false
theorem steps_eq (ws : Ws) (n : Nat) (l : List Int) (h2 : 2 ≤ l.length) : (List.range l.length).all (stepL ws n l) = (inRng n l && (List.range l.length).all (stepOk ws l)) := by
  have hix : ∀ {k : Nat}, k < l.length → l[k]? = some (l[k]?.getD 0) := fun {k} hk => by rw [List.getElem?_eq_getElem hk]; rfl
  rw [Bool.eq_iff_iff, Bool.and_eq_true, List.all_eq_true, List.all_eq_true]
  constructor
  · intro h
    have hs : ∀ k, k < l.length → (0 ≤ l[k]?.getD 0 ∧ l[k]?.getD 0 < (n : Int)) ∧ ∃ j, nxt ws (l[k]?.getD 0).toNat = some j ∧ (j : Int) = l[(k + 1) % l.length]?.getD 0 := fun k hk => by
      have := h k (by simpa using hk)
      unfold stepL at this
      rw [hix hk, hix (Nat.mod_lt (k + 1) (by omega))] at this
      simp only [Bool.and_eq_true, decide_eq_true_eq] at this
      refine ⟨this.1, ?_⟩
      cases hx : nxt ws (l[k]?.getD 0).toNat with
      | none =>
        rw [hx] at this
        simp at this
      | some j =>
        rw [hx] at this
        exact ⟨j, rfl, by simpa using this.2⟩
    refine ⟨?_, fun k hk => ?_⟩
    · unfold inRng
      rw [List.all_eq_true]
      intro x hx
      obtain ⟨k, hk⟩ := List.getElem?_of_mem hx
      have hlt := (List.getElem?_eq_some_iff.mp hk).1
      have := (hs k hlt).1
      rw [hk] at this
      simp only [Option.getD_some] at this
      simp [this]
    · have hk : k < l.length := by simpa using hk
      unfold stepOk
      cases k with
      | zero =>
        have e : ixD l (((0 : Nat) : Int) - 1) = l[l.length - 1]? := by
          show (if 0 < l.length then l[l.length - 1 - 0]? else none) = _
          rw [if_pos hk]
          rfl
        obtain ⟨_, j, h3, h4⟩ := hs (l.length - 1) (by omega)
        rw [show (l.length - 1 + 1) % l.length = 0 by rw [Nat.sub_add_cancel (by omega), Nat.mod_self]] at h4
        rw [e, hix hk, hix (show l.length - 1 < l.length by omega)]
        dsimp only
        rw [h3]
        exact decide_eq_true h4
      | succ k =>
        obtain ⟨_, j, h3, h4⟩ := hs k (by omega)
        rw [Nat.mod_eq_of_lt hk] at h4
        rw [show ((k + 1 : Nat) : Int) - 1 = (k : Int) by omega, show ixD l (k : Int) = l[k]? from rfl, hix (show k < l.length by omega), hix hk]
        dsimp only
        rw [h3]
        exact decide_eq_true h4
  · rintro ⟨hr, h⟩ k hk
    have hk : k < l.length := by simpa using hk
    unfold stepL
    have hm := Nat.mod_lt (k + 1) (show l.length > 0 by omega)
    have hrk := (List.all_eq_true.mp hr) (l[k]?.getD 0) (List.mem_of_getElem? (hix hk))
    rw [hix hk, hix hm]
    simp only [Bool.and_eq_true]
    refine ⟨by simpa using hrk, ?_⟩
    have h1 := h ((k + 1) % l.length) (by simpa using hm)
    unfold stepOk at h1
    by_cases z : k + 1 = l.length
    · have z0 : (k + 1) % l.length = 0 := by rw [z, Nat.mod_self]
      have e : ixD l (((0 : Nat) : Int) - 1) = l[l.length - 1]? := by
        show (if 0 < l.length then l[l.length - 1 - 0]? else none) = _
        rw [if_pos (by omega)]
        rfl
      rw [z0] at h1 ⊢
      rw [e, show l.length - 1 = k by omega, hix hk, hix (show 0 < l.length by omega)] at h1
      exact h1
    · rw [Nat.mod_eq_of_lt (by omega)] at h1 ⊢
      rw [show ((k + 1 : Nat) : Int) - 1 = (k : Int) by omega, show ixD l (k : Int) = l[k]? from rfl, hix hk, hix (show k + 1 < l.length by omega)] at h1
      exact h1
end PL

namespace PL
open PySem PySem.Spec PyProof.Rows L2
local macro_rules | `(tactic| ac_rfl) => `(tactic| ((conv => whnf); repeat ((first | refine Cif.yes ?_ | refine Cif.no ?_ | (refine And.intro ?_ ?_; · first | (show _ ≤ (_ : Int); omega) | (show _ < (_ : Int); omega) | assumption | exact trivial | exact rfl | (refine small ?_; first | omega | (simp only [List.length_map, List.length_cons, List.length_nil, List.length_append]; omega)) | (refine ltsmall ?_; first | omega | (simp only [List.length_map, List.length_cons, List.length_nil, List.length_append]; omega)) | (refine cdiv ?_ ?_ <;> omega) | (refine cmulR ?_ ?_ <;> omega) | (refine cmulL ?_ ?_ <;> omega) | (refine ⟨?_, ?_, ?_, ?_⟩ <;> omega))); (conv => whnf))))
local macro_rules | `(tactic| exists $e) => `(tactic| first | exact $e | exact And.right $e | exact And.right (And.right $e) | exact And.right (And.right (And.right $e)))
-- _law_is_ring(renaming, ring) slots: 0=renaming 1=ring 2=waits 3=k
def q__law_is_ring : QS :=
  (qSeq (qAsg (qCall 1 P__law_waits (qCons (qVar 0) qNil)) (qgN 2))
  (qFrz 2 (qSeq (qIfS (qOr (qB (qOp opLt (qUn opLen (qVar 1)) (qC (.int 2)))) (qB (qOp opNe (qUn opLen (qCall 1 P__law_unique (qCons (qVar 1) qNil))) (qUn opLen (qVar 1)))))
   (qRet (qC (.bool false)))
   qNext)
  (qSeq (qFor (qiR1 (qCons (qUn opLen (qVar 1)) qNil)) (qgN 3)
   (qIfS (qOr (qB (qOp opLt (qOp opIx (qVar 1) (qVar 3)) (qC (.int 0)))) (qOr (qB (qOp opGe (qOp opIx (qVar 1) (qVar 3)) (qUn opLen (qVar 0)))) (qB (qOp opNe (qOp opIx (qVar 2) (qOp opIx (qVar 1) (qVar 3))) (qOp opIx (qVar 1) (qOp opMod (qOp opAdd (qVar 3) (qC (.int 1))) (qUn opLen (qVar 1))))))))
    (qRet (qC (.bool false)))
    qNext))
  (qRet (qC (.bool true)))))))
def P__law_is_ring : PD := fun ds R => ∃ (rn : Rn) (l : List Int), ds = [rnD rn, intsD l] ∧ RnOk rn ∧ l.length ≤ 1000 ∧ R (.sh (.bool (isRingB rn l)))
theorem pure__law_is_ring : ∀ ds R, ds.length = 2 → P__law_is_ring ds R → q__law_is_ring (endsOf R) (startEv 4 ds) := by
  rintro ds R - ⟨rn, l, rfl, ok, hl, h⟩
  have hn := ok.n2
  have wl := ws_len rn
  have hpl : (List.map prD rn).length = rn.length := List.length_map _
  have hil : (List.map PyData.int l).length = l.length := List.length_map _
  have hkl := keysI_len l
  have hse := steps_eq (waitsL rn) rn.length l
  unfold isRingB at h
  ac_rfl
  refine ⟨rn, rfl, ok, ?_⟩
  generalize waitsL rn = ws at *
  ac_rfl
  rw [hil]
  refine ⟨fun hz => ?_, fun hz => ?_⟩
  · have hz : (l.length : Int) < 2 := of_decide_eq_true hz
    rw [show decide (2 ≤ l.length) = false from decide_eq_false (by omega)] at h
    ac_rfl
    exact h
  · have hz : ¬ (l.length : Int) < 2 := of_decide_eq_false hz
    rw [show decide (2 ≤ l.length) = true from decide_eq_true (by omega), Bool.true_and] at h
    have hse := hse (by omega)
    ac_rfl
    refine ⟨l, rfl, hl, fun ms hms => ?_⟩
    have hml : (List.map PyData.int ms).length = (keysI l).length := by rw [List.length_map]; exact hms
    ac_rfl
    rw [hml, hil, eqv_nat]
    refine ⟨fun hd => ?_, fun hd => ?_⟩
    · have hd : ¬ l.Nodup := fun z => by
        rw [hkl.mpr z] at hd
        simp at hd
      rw [decide_eq_false hd, Bool.false_and, Bool.and_false] at h
      ac_rfl
      exact h
    · have hd : l.Nodup := hkl.mp (by simpa using hd)
      rw [decide_eq_true hd, Bool.true_and, ← hse] at h
      ac_rfl
      rw [hil]
      have hfalse : ∀ i, i < l.length → stepL ws rn.length l i = false → R (.sh (.bool false)) := fun i hi hs => by
        have e : (List.range l.length).all (stepL ws rn.length l) = false := by
          rw [List.all_eq_false]
          exact ⟨i, by simpa using hi, by rw [hs]; simp⟩
        rw [e] at h
        exact h
      refine forGo_ok (fun i : Nat => .int (i : Int)) (fun r Γ => ∃ (k : Nat) (a : Sl), Γ = [.sh (rnD rn), .sh (intsD l), .sh (.list (ws.map waitD)), a] ∧ r = (List.range l.length).drop k ∧ ∀ j, j < k → j < l.length → stepL ws rn.length l j = true) ?_ ?_ (List.range l.length) _ ⟨0, _, rfl, rfl, fun j hj => by omega⟩
      · rintro Γ ⟨k, a, rfl, hr, hall⟩
        have hk : l.length ≤ k := by
          have := congrArg List.length hr
          simp at this
          omega
        have e : (List.range l.length).all (stepL ws rn.length l) = true := by
          rw [List.all_eq_true]
          intro j hj
          have hj : j < l.length := by simpa using hj
          exact hall j (by omega) hj
        rw [e] at h
        ac_rfl
        exact h
      · rintro i r Γ K ⟨k, a, rfl, hr, hall⟩ hK
        obtain ⟨hkn, rfl, rfl⟩ := drop_cons hr.symm
        have next := fun (a : Sl) (hs : stepL ws rn.length l i = true) => hK [.sh (rnD rn), .sh (intsD l), .sh (.list (ws.map waitD)), a] ⟨i + 1, a, rfl, rfl, fun j hj hjl => by
          rcases Nat.lt_or_ge j i with z | z
          · exact hall j z hjl
          · have : j = i := by omega
            rw [this]
            exact hs⟩
        have e1 : l[i]? = some l[i] := List.getElem?_eq_getElem hkn
        have hm := Nat.mod_lt (i + 1) (show l.length > 0 by omega)
        have e2 : l[(i + 1) % l.length]? = some l[(i + 1) % l.length] := List.getElem?_eq_getElem hm
        have hf := hfalse i hkn
        unfold stepL at hf next
        rw [e1, e2] at hf next
        dsimp only at hf next
        generalize hx : l[i] = x at *
        generalize hy : l[(i + 1) % l.length] = y at *
        clear hK h hse hall hfalse
        ac_rfl
        rw [ixD_map PyData.int e1]
        ac_rfl
        refine ⟨fun h0 => ?_, fun h0 => ?_⟩
        · have h0 : x < 0 := of_decide_eq_true h0
          have fin := hf (by rw [decide_eq_false (by omega : ¬ 0 ≤ x)]; rfl)
          ac_rfl
          exact fin
        · have h0 : ¬ x < 0 := of_decide_eq_false h0
          rw [decide_eq_true (by omega : 0 ≤ x), Bool.true_and] at hf next
          ac_rfl
          rw [ixD_map PyData.int e1]
          ac_rfl
          rw [hpl]
          refine ⟨fun h1 => ?_, fun h1 => ?_⟩
          · have h1 : (rn.length : Int) ≤ x := of_decide_eq_true h1
            have fin := hf (by rw [decide_eq_false (by omega : ¬ x < (rn.length : Int))]; rfl)
            ac_rfl
            exact fin
          · have h1 : ¬ (rn.length : Int) ≤ x := of_decide_eq_false h1
            rw [decide_eq_true (by omega : x < (rn.length : Int)), Bool.true_and] at hf next
            obtain ⟨n, rfl⟩ : ∃ n : Nat, x = n := ⟨x.toNat, by omega⟩
            ac_rfl
            rw [ixD_map PyData.int e1]
            ac_rfl
            rw [ws_ix (by omega)]
            ac_rfl
            rw [hil, show ((i : Int) + 1) % (l.length : Int) = (((i + 1) % l.length : Nat) : Int) by rw [Int.natCast_emod, Int.natCast_add]; rfl, ixD_map PyData.int e2]
            ac_rfl
            refine ⟨by rw [flat_wait]; rfl, ?_⟩
            rw [eqv_wait]
            rw [show ((n : Nat) : Int).toNat = n from rfl] at hf next
            refine ⟨fun hz => ?_, fun hz => ?_⟩
            · have fin := hf (by revert hz; cases nxt ws n <;> exact fun hz => by simpa using hz)
              ac_rfl
              exact fin
            · ac_rfl
              exact next _ (by revert hz; cases nxt ws n <;> exact fun hz => by simpa using hz)
end PL

namespace PL
open PySem PySem.Spec PyProof.Rows L2
local macro_rules | `(tactic| ac_rfl) => `(tactic| ((conv => whnf); repeat ((first | refine Cif.yes ?_ | refine Cif.no ?_ | (refine And.intro ?_ ?_; · first | (show _ ≤ (_ : Int); omega) | (show _ < (_ : Int); omega) | assumption | exact trivial | exact rfl | (refine small ?_; first | omega | (simp only [List.length_map, List.length_cons, List.length_nil, List.length_append]; omega)) | (refine ltsmall ?_; first | omega | (simp only [List.length_map, List.length_cons, List.length_nil, List.length_append]; omega)) | (refine cdiv ?_ ?_ <;> omega) | (refine cmulR ?_ ?_ <;> omega) | (refine cmulL ?_ ?_ <;> omega) | (refine ⟨?_, ?_, ?_, ?_⟩ <;> omega))); (conv => whnf))))
local macro_rules | `(tactic| exists $e) => `(tactic| first | exact $e | exact And.right $e | exact And.right (And.right $e) | exact And.right (And.right (And.right $e)))
-- _law_accepts(renaming, verdict) slots: 0=renaming 1=verdict 2=waits 3=k
def q__law_accepts : QS :=
  (qSeq (qIfS (qB (qOp opNe (qUn opLen (qVar 1)) (qC (.int 2))))
   (qRet (qC (.bool false)))
   qNext)
  (qSeq (qIfS (qB (qOp opEq (qOp opIx (qVar 1) (qC (.int 0))) (qC (.str "ring"))))
   (qRet (qCall 2 P__law_is_ring (qCons (qVar 0) (qCons (qOp opIx (qVar 1) (qC (.int 1))) qNil))))
   qNext)
  (qSeq (qIfS (qOr (qB (qOp opNe (qOp opIx (qVar 1) (qC (.int 0))) (qC (.str "order")))) (qB (qOp opNe (qUn opSortI (qOp opIx (qVar 1) (qC (.int 1)))) (qCall 1 P__law_movers (qCons (qVar 0) qNil)))))
   (qRet (qC (.bool false)))
   qNext)
  (qSeq (qAsg (qCall 1 P__law_waits (qCons (qVar 0) qNil)) (qgN 2))
  (qFrz 2 (qSeq (qFor (qiR1 (qCons (qUn opLen (qOp opIx (qVar 1) (qC (.int 1)))) qNil)) (qgN 3)
   (qIfS (qB (qOp (opInW id) (qOp opIx (qVar 2) (qOp opIx (qOp opIx (qVar 1) (qC (.int 1))) (qVar 3))) (qSl (qOp opIx (qVar 1) (qC (.int 1))) (qoS (qOp opAdd (qVar 3) (qC (.int 1)))) qoN)))
    (qRet (qC (.bool false)))
    qNext))
  (qRet (qC (.bool true)))))))))
def P__law_accepts : PD := fun ds R => ∃ (rn : Rn) (w : Str) (ls : List (List Int)), ds = [rnD rn, ppD w ls] ∧ RnOk rn ∧ (∀ l ∈ ls, l.length ≤ 1000) ∧ ls.length ≤ 100 ∧ R (.sh (.bool (judgeB rn w ls)))
theorem pure__law_accepts : ∀ ds R, ds.length = 2 → P__law_accepts ds R → q__law_accepts (endsOf R) (startEv 4 ds) := by
  rintro ds R - ⟨rn, w, ls, rfl, ok, hll, hls, h⟩
  match ls, hll, hls, h with
  | [], _, _, h =>
    ac_rfl
    exact h
  | a :: b :: r, _, hls, h =>
    ac_rfl
    exact h
  | [l], hll, _, h =>
    have hl := hll l (by simp)
    have h : R (.sh (.bool (if w = Str.ofString "order" then isOrderB rn l else (decide (w = Str.ofString "ring") && isRingB rn l)))) := h
    ac_rfl
    rw [eqv_str]
    refine ⟨fun hz => ?_, fun hz => ?_⟩
    · have hz : w = Str.ofString "ring" := of_decide_eq_true hz
      have hne : ¬ w = Str.ofString "order" := fun e => by
        rw [hz] at e
        exact absurd e (by decide +kernel)
      rw [if_neg hne, decide_eq_true hz, Bool.true_and] at h
      ac_rfl
      exact ⟨rn, l, rfl, ok, hl, h⟩
    · have hz : ¬ w = Str.ofString "ring" := of_decide_eq_false hz
      rw [decide_eq_false hz, Bool.false_and] at h
      ac_rfl
      rw [eqv_str]
      refine ⟨fun hy => ?_, fun hy => ?_⟩
      · have hy : ¬ w = Str.ofString "order" := by simpa using hy
        rw [if_neg hy] at h
        ac_rfl
        exact h
      · have hy : w = Str.ofString "order" := by simpa using hy
        rw [if_pos hy] at h
        have hn := ok.n2
        have wl := ws_len rn
        have hms := movers_sorted rn
        have hmI : (moversL rn).map natD = (moversI rn).map .int := by
          unfold moversI
          exact nats_ints _
        have hmlt := moversL_lt rn
        unfold isOrderB at h
        ac_rfl
        rw [intsOf_map]
        intro ms p1 p2
        ac_rfl
        refine ⟨rn, rfl, hn, ?_⟩
        rw [hmI]
        ac_rfl
        refine ⟨by rw [flat_ints, flat_ints]; rfl, ?_⟩
        rw [eqv_intsL, sorted_eq p1 p2 hms]
        clear p1 p2 hms hmI
        refine ⟨fun hz => ?_, fun hz => ?_⟩
        · have hz : decide (l.Perm (moversI rn)) = false := by simpa using hz
          rw [hz, Bool.false_and] at h
          ac_rfl
          exact h
        · have hz : decide (l.Perm (moversI rn)) = true := by simpa using hz
          rw [hz, Bool.true_and] at h
          have hp : l.Perm (moversI rn) := of_decide_eq_true hz
          clear hz
          ac_rfl
          refine ⟨rn, rfl, ok, ?_⟩
          have hlt : ∀ x ∈ l, ∃ n : Nat, x = n ∧ n < rn.length := fun x hx => by
            obtain ⟨n, h1, h2⟩ := List.mem_map.mp (hp.mem_iff.mp hx)
            exact ⟨n, h2.symm, hmlt n h1⟩
          clear hp hmlt
          generalize waitsL rn = ws at *
          have hil : (List.map PyData.int l).length = l.length := List.length_map _
          ac_rfl
          rw [hil]
          have hfalse : ∀ i, i < l.length → ordOk ws l i = false → R (.sh (.bool false)) := fun i hi hs => by
            have e : (List.range l.length).all (ordOk ws l) = false := by
              rw [List.all_eq_false]
              exact ⟨i, by simpa using hi, by rw [hs]; simp⟩
            rw [e] at h
            exact h
          refine forGo_ok (fun i : Nat => .int (i : Int)) (fun r Γ => ∃ (k : Nat) (a : Sl), Γ = [.sh (rnD rn), .sh (ppD w [l]), .sh (.list (ws.map waitD)), a] ∧ r = (List.range l.length).drop k ∧ ∀ j, j < k → j < l.length → ordOk ws l j = true) ?_ ?_ (List.range l.length) _ ⟨0, _, rfl, rfl, fun j hj => by omega⟩
          · rintro Γ ⟨k, a, rfl, hr, hall⟩
            have hk : l.length ≤ k := by
              have := congrArg List.length hr
              simp at this
              omega
            have e : (List.range l.length).all (ordOk ws l) = true := by
              rw [List.all_eq_true]
              intro j hj
              have hj : j < l.length := by simpa using hj
              exact hall j (by omega) hj
            rw [e] at h
            ac_rfl
            exact h
          · rintro i r Γ K ⟨k, a, rfl, hr, hall⟩ hK
            obtain ⟨hkn, rfl, rfl⟩ := drop_cons hr.symm
            have next := fun (a : Sl) (hs : ordOk ws l i = true) => hK [.sh (rnD rn), .sh (ppD w [l]), .sh (.list (ws.map waitD)), a] ⟨i + 1, a, rfl, rfl, fun j hj hjl => by
              rcases Nat.lt_or_ge j i with z | z
              · exact hall j z hjl
              · have : j = i := by omega
                rw [this]
                exact hs⟩
            have e1 : l[i]? = some l[i] := List.getElem?_eq_getElem hkn
            have hf := hfalse i hkn
            obtain ⟨n, hx, hnl⟩ := hlt l[i] (List.getElem_mem hkn)
            rw [hx] at e1
            have ho : ordOk ws l i = !inD (waitD (nxt ws n)) ((l.drop (i + 1)).map .int) := by
              unfold ordOk
              rw [e1]
              rfl
            rw [ho] at hf next
            clear hK h hall hfalse
            ac_rfl
            rw [ixD_map PyData.int e1]
            ac_rfl
            rw [ws_ix (by omega)]
            ac_rfl
            rw [cutD_from]
            refine ⟨by rw [flat_wait, flat_ints]; rfl, ?_⟩
            ac_rfl
            refine ⟨fun hz => ?_, fun hz => ?_⟩
            · have hz : inD (waitD (nxt ws n)) ((l.drop (i + 1)).map .int) = true := hz
              have fin := hf (by rw [hz]; rfl)
              ac_rfl
              exact fin
            · have hz : inD (waitD (nxt ws n)) ((l.drop (i + 1)).map .int) = false := hz
              ac_rfl
              exact next _ (by rw [hz]; rfl)
end PL

namespace PL
open PySem PySem.Spec PyProof.Rows L2
local macro_rules | `(tactic| ac_rfl) => `(tactic| ((conv => whnf); repeat ((first | refine Cif.yes ?_ | refine Cif.no ?_ | (refine And.intro ?_ ?_; · first | (show _ ≤ (_ : Int); omega) | (show _ < (_ : Int); omega) | assumption | exact trivial | exact rfl | (refine small ?_; first | omega | (simp only [List.length_map, List.length_cons, List.length_nil, List.length_append]; omega)) | (refine ltsmall ?_; first | omega | (simp only [List.length_map, List.length_cons, List.length_nil, List.length_append]; omega)) | (refine cdiv ?_ ?_ <;> omega) | (refine cmulR ?_ ?_ <;> omega) | (refine cmulL ?_ ?_ <;> omega) | (refine ⟨?_, ?_, ?_, ?_⟩ <;> omega))); (conv => whnf))))
local macro_rules | `(tactic| exists $e) => `(tactic| first | exact $e | exact And.right $e | exact And.right (And.right $e) | exact And.right (And.right (And.right $e)))
def preR (ws : Ws) (k : Nat) : List (List Nat) := ((List.range k).map (ringF ws)).filterMap fun o => if keepR o = true then o else none
theorem preR_succ (ws : Ws) (k : Nat) : preR ws (k + 1) = preR ws k ++ (match ringF ws k with
  | some c => if minHd c = true then [c] else []
  | none => []) := by
  unfold preR
  rw [List.range_succ, List.map_append, List.filterMap_append]
  congr 1
  cases h : ringF ws k with
  | none => simp [h, keepR]
  | some c =>
    by_cases z : minHd c = true
    · simp [h, keepR, z]
    · simp [h, keepR, z]
-- _law_rings(renaming) slots: 0=renaming 1=waits 2=found 3=k 4=chain 5=turn 6=after
def q__law_rings : QS :=
  (qSeq (qAsg (qCall 1 P__law_waits (qCons (qVar 0) qNil)) (qgN 1))
  (qFrz 1 (qSeq (qAsg (qLst qNil) (qgN 2))
  (qSeq (qFor (qiR1 (qCons (qUn opLen (qVar 0)) qNil)) (qgN 3)
   (qSeq (qAsg (qLst (qCons (qVar 3) qNil)) (qgN 4))
   (qSeq (qFor (qiR1 (qCons (qUn opLen (qVar 0)) qNil)) (qgN 5)
    (qSeq (qAsg (qOp opIx (qVar 1) (qOp opIx (qVar 4) (qOp opSub (qUn opLen (qVar 4)) (qC (.int 1))))) (qgN 6))
    (qFrz 6 (qIfS (qAnd (qB (qOp opIsNot (qVar 6) (qC .none))) (qB (qOp (opInW not) (qVar 6) (qVar 4))))
     (qDrop (qApp 4 (qVar 6)))
     qNext))))
   (qIfS (qAnd (qB (qOp opGt (qUn opLen (qVar 4)) (qC (.int 1)))) (qAnd (qB (qOp opEq (qOp opIx (qVar 1) (qOp opIx (qVar 4) (qOp opSub (qUn opLen (qVar 4)) (qC (.int 1))))) (qVar 3))) (qB (qOp opEq (qUn opMin (qVar 4)) (qVar 3)))))
    (qDrop (qApp 2 (qVar 4)))
    qNext))))
  (qRet (qVar 2))))))
def P__law_rings : PD := fun ds R => ∃ rn : Rn, ds = [rnD rn] ∧ RnOk rn ∧ R (.ow (.l ((ringsL (waitsL rn)).map ringD)))
theorem chn_last {ws : Ws} {k l : Nat} {c : List Nat} (h : Chn ws k c l) : ixD (c.map natD) ((c.length : Int) - 1) = some (natD l) := by
  have hp := h.pos
  rw [show ((c.length : Int) - 1) = ((c.length - 1 : Nat) : Int) by omega, ixD_map natD h.ls]
/-- no more persons come -/
def stopd (ws : Ws) (k l : Nat) : Prop := nxt ws l = none ∨ nxt ws l = some k
theorem pure__law_rings : ∀ ds R, ds.length = 1 → P__law_rings ds R → q__law_rings (endsOf R) (startEv 7 ds) := by
  rintro ds R - ⟨rn, rfl, ok, h⟩
  have hn := ok.n2
  have wl := ws_len rn
  have wok := ws_ok ok
  have hself : ∀ k, nxt (waitsL rn) k ≠ some k := fun k => no_self
  have hpl : (List.map prD rn).length = rn.length := List.length_map _
  have hR : ringsL (waitsL rn) = preR (waitsL rn) rn.length := by
    unfold ringsL preR
    rw [wl]
  rw [hR] at h
  ac_rfl
  refine ⟨rn, rfl, ok, ?_⟩
  generalize waitsL rn = ws at *
  ac_rfl
  rw [hpl]
  refine forGo_ok (fun i : Nat => .int (i : Int)) (fun r Γ => ∃ (k : Nat) (a b c d : Sl), Γ = [.sh (rnD rn), .sh (.list (ws.map waitD)), .ow (.l ((preR ws k).map ringD)), a, b, c, d] ∧ r = (List.range rn.length).drop k ∧ k ≤ rn.length ∧ (preR ws k).length ≤ k) ?_ ?_ (List.range rn.length) _ ⟨0, _, _, _, _, rfl, rfl, by omega, by simp [preR]⟩
  · rintro Γ ⟨k, a, b, c, d, rfl, hr, hk, _⟩
    have : k = rn.length := by
      have := congrArg List.length hr
      simp at this
      omega
    subst this
    ac_rfl
    exact h
  · rintro i r Γ K ⟨k, a, b, c, d, rfl, hr, hk, hpr⟩ hK
    obtain ⟨hkn, rfl, rfl⟩ := drop_cons hr.symm
    have hps := preR_succ ws i
    have hprl : ((preR ws i).map ringD).length ≤ 12 := by rw [List.length_map]; omega
    clear h
    ac_rfl
    rw [hpl]
    refine forGo_ok (fun i : Nat => .int (i : Int)) (fun r2 Γ => ∃ (t m : Nat) (ch : List Nat) (l : Nat) (x y : Sl), Γ = [.sh (rnD rn), .sh (.list (ws.map waitD)), .ow (.l ((preR ws i).map ringD)), .sh (.int (i : Nat)), .ow (.l (ch.map natD)), x, y] ∧ r2 = (List.range rn.length).drop t ∧ Chn ws i ch l ∧ ch.length + m = ws.length ∧ (orbG ws i (m + 1) l).map (ch ++ ·) = ringF ws i ∧ (stopd ws i l ∨ t + 1 ≤ ch.length)) ?_ ?_ (List.range rn.length) _ ⟨0, ws.length - 1, [i], i, _, _, rfl, rfl, Chn.one (by omega), by simp; omega, by rw [show ws.length - 1 + 1 = ws.length by omega]; rfl, .inr (by simp)⟩
    · rintro Γ ⟨t, m, ch, l, x, y, rfl, ht, hc, hm, ho, hst⟩
      have hle := range_le hc.nd hc.lt
      have hst : stopd ws i l := by
        rcases hst with hst | hst
        · exact hst
        · have htn : rn.length ≤ t := by
            have := congrArg List.length ht
            simp at this
            omega
          omega
      have hll : l < ws.length := hc.lt l (List.mem_of_getElem? hc.ls)
      have hcl : (ch.map natD).length = ch.length := List.length_map _
      have hlast := chn_last hc
      have hint := ints_nat ch
      have next := fun (q : List (List Nat)) (hq : preR ws (i + 1) = q) (s4 a5 a6 : Sl) => hK [.sh (rnD rn), .sh (.list (ws.map waitD)), .ow (.l (q.map ringD)), .sh (.int (i : Nat)), s4, a5, a6] ⟨i + 1, _, _, _, _, by rw [hq], rfl, by omega, by
        rw [hps]
        rw [List.length_append]
        have : (match ringF ws i with
          | some c => if minHd c = true then [c] else []
          | none => []).length ≤ 1 := by
          cases ringF ws i with
          | none => simp
          | some c =>
            dsimp only
            split <;> simp
        omega⟩
      clear hK
      rcases hst with hx | hx
      · have hr : ringF ws i = none := by
          rw [← ho]
          unfold orbG
          rw [hx]
          rfl
        rw [hr, List.append_nil] at hps
        have fin := next _ hps
        clear next
        ac_rfl
        rw [hcl]
        refine ⟨fun _ => ?_, fun _ => ?_⟩
        · ac_rfl
          rw [hcl, hlast]
          ac_rfl
          rw [ws_ix hll, hx]
          ac_rfl
          exact fin _ _ _
        · ac_rfl
          exact fin _ _ _
      · have hr : ringF ws i = some ch := by
          rw [← ho]
          unfold orbG
          rw [hx]
          dsimp only
          rw [if_pos rfl]
          simp
        rw [hr] at hps
        have h1 : 1 < ch.length := by
          apply Classical.byContradiction
          intro z
          have hc1 : ch.length = 1 := by have := hc.pos; omega
          have e1 := hc.hd
          have e2 := hc.ls
          rw [hc1] at e2
          rw [show (1 : Nat) - 1 = 0 from rfl, e1] at e2
          have : i = l := Option.some.inj e2
          rw [← this] at hx
          exact hself i hx
        have hhd : ch.headD 0 = i := by
          obtain ⟨q, rfl⟩ := ringF_pos hr
          rfl
        have hmin : ∀ m : Int, m ∈ (ch.map fun n : Nat => (n : Int)) → (∀ y, y ∈ (ch.map fun n : Nat => (n : Int)) → m ≤ y) → PyData.eqv (.int m) (.int (i : Int)) = minHd ch := fun m hmm hall => by
          rw [eqv_int, Bool.eq_iff_iff]
          unfold minHd
          rw [hhd, List.all_eq_true]
          constructor
          · intro e x hx
            have e : m = (i : Int) := of_decide_eq_true e
            have := hall (x : Int) (List.mem_map.mpr ⟨x, hx, rfl⟩)
            refine decide_eq_true ?_
            omega
          · intro hall2
            obtain ⟨x, hx, rfl⟩ := List.mem_map.mp hmm
            have g1 : i ≤ x := of_decide_eq_true (hall2 x hx)
            have g2 := hall (i : Int) (List.mem_map.mpr ⟨i, List.mem_of_getElem? hc.hd, rfl⟩)
            refine decide_eq_true ?_
            omega
        have fin := next _ hps
        dsimp only at fin
        clear next
        ac_rfl
        rw [hcl]
        refine Cif.tt (by show decide ((1 : Int) < (ch.length : Nat)) = true; exact decide_eq_true (by omega)) ?_
        ac_rfl
        rw [hcl, hlast]
        ac_rfl
        rw [ws_ix hll, hx]
        ac_rfl
        rw [show PyData.eqv (waitD (some i)) (.int (i : Int)) = decide ((i : Int) = i) from eqv_int i i]
        refine Cif.tt (by simp) ?_
        ac_rfl
        rw [hint]
        refine ⟨by rw [List.length_map]; omega, fun m hm1 hm2 => ?_⟩
        dsimp only
        ac_rfl
        rw [hmin m hm1 hm2]
        refine ⟨fun hz => ?_, fun hz => ?_⟩
        · rw [if_pos hz, List.map_append] at fin
          ac_rfl
          exact fin _ _ _
        · rw [if_neg (by rw [hz]; simp), List.append_nil] at fin
          ac_rfl
          exact fin _ _ _
    · rintro t0 r2 Γ K2 ⟨t, m, ch, l, x, y, rfl, ht, hc, hm, ho, hst⟩ hK2
      obtain ⟨htn, rfl, rfl⟩ := drop_cons ht.symm
      have hll : l < ws.length := hc.lt l (List.mem_of_getElem? hc.ls)
      have hle := range_le hc.nd hc.lt
      have hlast := chn_last hc
      have hcl : (ch.map natD).length = ch.length := List.length_map _
      have step : stopd ws i l → ∀ a5 a6 : Sl, K2 [.sh (rnD rn), .sh (.list (ws.map waitD)), .ow (.l ((preR ws i).map ringD)), .sh (.int (i : Nat)), .ow (.l (ch.map natD)), a5, a6] := fun hs a5 a6 => hK2 _ ⟨t0 + 1, m, ch, l, a5, a6, rfl, rfl, hc, hm, ho, .inl hs⟩
      clear hK
      ac_rfl
      rw [hcl, hlast]
      ac_rfl
      rw [ws_ix hll]
      cases hx : nxt ws l with
      | none =>
        have fin := step (.inl hx)
        clear hK2 step
        ac_rfl
        exact fin _ _
      | some j =>
        ac_rfl
        refine ⟨by rw [show flat 60 (waitD (some j)) = true from rfl, flat_nats]; rfl, ?_⟩
        rw [in_nats]
        dsimp only
        by_cases hj : j ∈ ch
        · have hji : j = i := Classical.byContradiction fun z => hc.new wok hx z hj
          have fin := step (.inr (by rw [hx, hji]))
          clear hK2 step
          rw [decide_eq_true hj]
          ac_rfl
          exact fin _ _
        · have hji : j ≠ i := fun z => hj (by rw [z]; exact List.mem_of_getElem? hc.hd)
          have hc2 := hc.snoc wok hx hji
          have hle2 := range_le hc2.nd hc2.lt
          simp at hle2
          obtain ⟨m', rfl⟩ : ∃ q, m = q + 1 := ⟨m - 1, by omega⟩
          have ho2 : (orbG ws i (m' + 1) j).map ((ch ++ [j]) ++ ·) = ringF ws i := by
            rw [← ho]
            conv => rhs; unfold orbG
            rw [hx]
            dsimp only
            rw [if_neg hji, Option.map_map]
            congr 1
            funext x
            simp
          have hst2 : stopd ws i j ∨ t0 + 1 + 1 ≤ (ch ++ [j]).length := by
            rcases hst with hst | hst
            · rcases hst with z | z
              · rw [hx] at z
                cases z
              · rw [hx] at z
                exact absurd (Option.some.inj z) hji
            · exact .inr (by simp; omega)
          have fin := fun (a5 a6 : Sl) => hK2 [.sh (rnD rn), .sh (.list (ws.map waitD)), .ow (.l ((preR ws i).map ringD)), .sh (.int (i : Nat)), .ow (.l (ch.map natD ++ [natD j])), a5, a6] ⟨t0 + 1, m', ch ++ [j], j, a5, a6, by simp, rfl, hc2, by simp; omega, ho2, hst2⟩
          have hchl : (ch.map natD).length ≤ 12 := by omega
          clear hK2 step
          rw [decide_eq_false hj]
          ac_rfl
          exact fin _ _
end PL

namespace PL
open PySem PySem.Spec PyProof.Rows L2
/-! ### what is accepted goes with the verdict -/
theorem ring_acc {rn : Rn} (ok : RnOk rn) {l : List Int} (h : isRingB rn l = true) : ringsL (waitsL rn) ≠ [] := by
  unfold isRingB at h
  simp only [Bool.and_eq_true, decide_eq_true_eq] at h
  obtain ⟨h2, hr, _, hs⟩ := h
  have hall := steps_eq (waitsL rn) rn.length l h2
  rw [hr, hs, Bool.true_and, List.all_eq_true] at hall
  have hne : l.map Int.toNat ≠ [] := fun z => by
    have := congrArg List.length z
    simp at this
    rw [this] at h2
    simp at h2
  refine rings_some (ws_ok ok) (T := l.map Int.toNat) (fun y hy => ?_) hne
  obtain ⟨x, hx, rfl⟩ := List.mem_map.mp hy
  obtain ⟨k, hk⟩ := List.getElem?_of_mem hx
  have hlt := (List.getElem?_eq_some_iff.mp hk).1
  have hm := Nat.mod_lt (k + 1) (show l.length > 0 by omega)
  have e2 : l[(k + 1) % l.length]? = some l[(k + 1) % l.length] := List.getElem?_eq_getElem hm
  have := hall k (by simpa using hlt)
  unfold stepL at this
  rw [hk, e2] at this
  simp only [Bool.and_eq_true] at this
  cases hn : nxt (waitsL rn) x.toNat with
  | none =>
    rw [hn] at this
    simp at this
  | some j =>
    rw [hn] at this
    have hj : (j : Int) = l[(k + 1) % l.length] := by simpa using this.2
    exact ⟨j, List.mem_map.mpr ⟨_, List.getElem_mem hm, by rw [← hj]; rfl⟩, rfl⟩
theorem mover_of {rn : Rn} {k j : Nat} (h : nxt (waitsL rn) k = some j) : (k : Int) ∈ moversI rn := by
  obtain ⟨p, q, hp, _, _, hne⟩ := nxt_waits h
  unfold moversI moversL
  refine List.mem_map.mpr ⟨k, List.mem_map.mpr ⟨(p, k), List.mem_filter.mpr ⟨List.mem_zipIdx_iff_getElem?.mpr hp, by simpa using hne⟩, rfl⟩, rfl⟩
theorem order_acc {rn : Rn} (ok : RnOk rn) {l : List Int} (h : isOrderB rn l = true) : ringsL (waitsL rn) = [] := by
  unfold isOrderB at h
  simp only [Bool.and_eq_true, decide_eq_true_eq, List.all_eq_true] at h
  obtain ⟨hp, hs⟩ := h
  cases hc : ringsL (waitsL rn) with
  | nil => rfl
  | cons c r =>
    exfalso
    obtain ⟨hne, hcl⟩ := rings_ring (ws_ok ok) (c := c) (by rw [hc]; exact List.mem_cons_self)
    have inl : ∀ y ∈ c, (y : Int) ∈ l := fun y hy => by
      obtain ⟨j, _, hj⟩ := hcl y hy
      exact hp.mem_iff.mpr (mover_of hj)
    obtain ⟨y0, hy0⟩ := List.exists_mem_of_ne_nil _ hne
    obtain ⟨k0, hk0⟩ := List.getElem?_of_mem (inl y0 hy0)
    obtain ⟨k, hk, ⟨y, hy, hky⟩, hmin⟩ := least (fun k => ∃ y ∈ c, l[k]? = some (y : Int)) l.length ⟨k0, (List.getElem?_eq_some_iff.mp hk0).1, y0, hy0, hk0⟩
    obtain ⟨j, hj, hx⟩ := hcl y hy
    obtain ⟨k', hk'⟩ := List.getElem?_of_mem (inl j hj)
    have hlt' := (List.getElem?_eq_some_iff.mp hk').1
    have hle := hmin k' ⟨j, hj, hk'⟩ hlt'
    have hne' : k' ≠ k := fun z => by
      rw [z, hky] at hk'
      have : y = j := by
        have := Option.some.inj hk'
        omega
      rw [this] at hx
      exact no_self hx
    have hd : (j : Int) ∈ l.drop (k + 1) := by
      refine List.mem_of_getElem? (i := k' - (k + 1)) ?_
      rw [List.getElem?_drop, show k + 1 + (k' - (k + 1)) = k' by omega]
      exact hk'
    have := hs k (by simpa using hk)
    unfold ordOk at this
    rw [hky] at this
    dsimp only at this
    rw [show ((y : Nat) : Int).toNat = y from rfl, hx, in_ints] at this
    simp [hd] at this
end PL

namespace PL
open PySem PySem.Spec PyProof.Rows L2
local macro_rules | `(tactic| ac_rfl) => `(tactic| ((conv => whnf); repeat ((first | refine Cif.yes ?_ | refine Cif.no ?_ | (refine And.intro ?_ ?_; · first | (show _ ≤ (_ : Int); omega) | (show _ < (_ : Int); omega) | assumption | exact trivial | exact rfl | (refine small ?_; first | omega | (simp only [List.length_map, List.length_cons, List.length_nil, List.length_append]; omega)) | (refine ltsmall ?_; first | omega | (simp only [List.length_map, List.length_cons, List.length_nil, List.length_append]; omega)) | (refine cdiv ?_ ?_ <;> omega) | (refine cmulR ?_ ?_ <;> omega) | (refine cmulL ?_ ?_ <;> omega) | (refine ⟨?_, ?_, ?_, ?_⟩ <;> omega))); (conv => whnf))))
local macro_rules | `(tactic| exists $e) => `(tactic| first | exact $e | exact And.right $e | exact And.right (And.right $e) | exact And.right (And.right (And.right $e)))
/-! ### drawn words -/
-- _law_letters(draw, count) slots: 0=draw 1=count 2=found 3=k
def q__law_letters : QS :=
  (qSeq (qAsg (qC (.str "")) (qgN 2))
  (qSeq (qFor (qiR1 (qCons (qVar 1) qNil)) (qgN 3)
   (qSeq (qAsg (qOp opAdd (qVar 2) (qOp opIx (qC (.str "abcdefghijklmnopqrstuvwxyz")) (qOp opMod (qUn opInt (qVar 0)) (qC (.int 26))))) (qgN 2))
   (qAsg (qOp opAdd (qOp opFdiv (qUn opInt (qVar 0)) (qC (.int 26))) (qOp opMul (qC (.int 5)) (qVar 3))) (qgN 0))))
  (qRet (qVar 2))))
def P__law_letters : PD := fun ds R => ∃ (d : Int) (n : Nat), ds = [.int d, .int n] ∧ n ≤ 5 ∧ ∀ s : Str, s.length = n → R (.sh (.str s))
abbrev abcS : Str := Str.ofString "abcdefghijklmnopqrstuvwxyz"
theorem pure__law_letters : ∀ ds R, ds.length = 2 → P__law_letters ds R → q__law_letters (endsOf R) (startEv 4 ds) := by
  rintro ds R - ⟨d, n, rfl, hn, h⟩
  ac_rfl
  refine forGo_ok (fun i : Nat => .int (i : Int)) (fun r Γ => ∃ (d : Int) (s : Str) (a : Sl), Γ = [.sh (.int d), .sh (.int n), .sh (.str s), a] ∧ s.length + r.length = n ∧ ∀ i ∈ r, i < 1000) ?_ ?_ (List.range n) _ ⟨d, Str.ofString "", _, rfl, by simp; decide +kernel, fun i hi => Nat.lt_of_lt_of_le (List.mem_range.mp hi) (by omega)⟩
  · rintro Γ ⟨d, s, a, rfl, hs, _⟩
    ac_rfl
    exact h s (by simpa using hs)
  · rintro i r Γ K ⟨d, s, a, rfl, hs, hr⟩ hK
    have hi := hr i (by simp)
    obtain ⟨m, hm⟩ : ∃ m : Nat, d % 26 = m := ⟨(d % 26).toNat, by omega⟩
    have hm26 : m < 26 := by omega
    have hal : (tl abcS).length = 26 := by decide +kernel
    have e : (tl abcS)[m]? = some ((tl abcS)[m]'(by omega)) := List.getElem?_eq_getElem _
    simp only [List.length_cons] at hs
    clear h
    ac_rfl
    refine ⟨small (by decide +kernel), ?_⟩
    rw [hm, show ixD (Str.ofString "abcdefghijklmnopqrstuvwxyz").cps.toList (m : Int) = some ((tl abcS)[m]'(by omega)) from e]
    ac_rfl
    refine hK _ ⟨_, _, _, rfl, ?_, fun j hj => hr j (List.mem_cons_of_mem _ hj)⟩
    rw [app_len]
    show s.length + 1 + r.length = n
    omega
end PL

namespace PL
open PySem PySem.Spec PyProof.Rows L2
local macro_rules | `(tactic| ac_rfl) => `(tactic| ((conv => whnf); repeat ((first | refine Cif.yes ?_ | refine Cif.no ?_ | (refine And.intro ?_ ?_; · first | (show _ ≤ (_ : Int); omega) | (show _ < (_ : Int); omega) | assumption | exact trivial | exact rfl | (refine small ?_; first | omega | (simp only [List.length_map, List.length_cons, List.length_nil, List.length_append]; omega)) | (refine ltsmall ?_; first | omega | (simp only [List.length_map, List.length_cons, List.length_nil, List.length_append]; omega)) | (refine cdiv ?_ ?_ <;> omega) | (refine cmulR ?_ ?_ <;> omega) | (refine cmulL ?_ ?_ <;> omega) | (refine ⟨?_, ?_, ?_, ?_⟩ <;> omega))); (conv => whnf))))
local macro_rules | `(tactic| exists $e) => `(tactic| first | exact $e | exact And.right $e | exact And.right (And.right $e) | exact And.right (And.right (And.right $e)))
theorem ixN_mod {n : Nat} {a : Int} (h : 0 < n) : ∃ j : Nat, ixN n (a % (n : Int)) = some j ∧ j < n ∧ a % (n : Int) = (j : Int) := by
  have h1 := Int.emod_nonneg a (b := (n : Int)) (by omega)
  have h2 := Int.emod_lt_of_pos a (b := (n : Int)) (by omega)
  refine ⟨(a % (n : Int)).toNat, ?_, by omega, by omega⟩
  have e : a % (n : Int) = (((a % (n : Int)).toNat : Nat) : Int) := by omega
  rw [e]
  exact ixN_lt (by omega)
theorem nat_of {a : Int} (h : 0 ≤ a) : ∃ n : Nat, a = n := ⟨a.toNat, by omega⟩
theorem ints_at {ns : List Int} {n : Nat} (h : ns.length = n) {k : Nat} (hk : k < n) {l : Int} (hr : ∀ x ∈ ns, 0 ≤ x ∧ x < l) : ∃ x : Nat, ixD (ns.map PyData.int) (k : Int) = some (.int (x : Int)) ∧ (x : Int) < l := by
  have hk : k < ns.length := by omega
  obtain ⟨h0, h1⟩ := hr _ (List.getElem_mem hk)
  refine ⟨ns[k].toNat, ?_, by omega⟩
  rw [ixD_map _ (List.getElem?_eq_getElem hk)]
  congr 2
  omega
-- _law_pool(cell, count) slots: 0=cell 1=count 2=found 3=draws 4=k 5=word
def q__law_pool : QS :=
  (qSeq (qAsg (qLst qNil) (qgN 2))
  (qSeq (qAsg (qCall 3 P__law_numbers (qCons (qVar 0) (qCons (qOp opMul (qC (.int 2)) (qVar 1)) (qCons (qC (.int 16000000)) qNil)))) (qgN 3))
  (qFrz 3 (qSeq (qFor (qiR1 (qCons (qOp opMul (qC (.int 2)) (qVar 1)) qNil)) (qgN 4)
   (qSeq (qAsg (qCall 2 P__law_letters (qCons (qOp opIx (qVar 3) (qVar 4)) (qCons (qOp opAdd (qC (.int 1)) (qOp opMod (qOp opFdiv (qOp opIx (qVar 3) (qVar 4)) (qC (.int 7))) (qC (.int 5)))) qNil))) (qgN 5))
   (qSeq (qIfS (qB (qOp opEq (qOp opMod (qOp opIx (qVar 3) (qVar 4)) (qC (.int 5))) (qC (.int 0))))
    (qAsg (qOp opIx (qLst (qCons (qC (.str "")) (qCons (qC (.str "~")) (qCons (qC (.str "~~")) (qCons (qC (.str "~~~")) (qCons (qC (.str "a b")) (qCons (qC (.str "ab")) (qCons (qC (.str "a")) (qCons (qOp opAdd (qVar 5) (qC (.str "~"))) (qCons (qOp opAdd (qVar 5) (qC (.str "!"))) qNil)))))))))) (qOp opMod (qOp opFdiv (qOp opIx (qVar 3) (qVar 4)) (qC (.int 40))) (qC (.int 9)))) (qgN 5))
    qNext)
   (qIfS (qAnd (qB (qOp (opInW not) (qVar 5) (qVar 2))) (qB (qOp opLt (qUn opLen (qVar 2)) (qVar 1))))
    (qDrop (qApp 2 (qVar 5)))
    qNext))))
  (qSeq (qFor (qiR1 (qCons (qVar 1) qNil)) (qgN 4)
   (qIfS (qB (qOp opLt (qUn opLen (qVar 2)) (qVar 1)))
    (qDrop (qApp 2 (qOp opAdd (qOp opAdd (qC (.str "zz")) (qOp opIx (qC (.str "0123456789")) (qOp opMod (qVar 4) (qC (.int 10))))) (qOp opMul (qC (.str "y")) (qOp opAdd (qOp opFdiv (qVar 4) (qC (.int 10))) (qC (.int 6)))))))
    qNext))
  (qRet (qVar 2)))))))
def P__law_pool : PD := fun ds R => ∃ (c : Int) (n : Nat), ds = [.int c, .int n] ∧ n ≤ 24 ∧ ∀ ws : List Str, ws.length = n → ws.Nodup → (∀ w ∈ ws, w.length ≤ 12) → R (.ow (.l (ws.map .str)))
theorem flat_strs (ws : List Str) : flat 60 (.list (ws.map .str)) = true := by
  have h1 : ∀ ws : List Str, PyData.hasDictAll (ws.map .str) = false := by
    intro ws
    induction ws with
    | nil => simp [PyData.hasDictAll]
    | cons a r ih => simp [PyData.hasDictAll, PyData.hasDict, ih]
  have h2 : ∀ ws : List Str, PyData.depthAll (ws.map .str) = 0 := by
    intro ws
    induction ws with
    | nil => simp [PyData.depthAll]
    | cons a r ih => simp [PyData.depthAll, PyData.depth, ih]
  have e1 : (PyData.list (ws.map .str)).hasDict = false := by simp [PyData.hasDict, h1]
  have e2 : (PyData.list (ws.map .str)).depth ≤ 60 := by simp [PyData.depth, h2]
  simp [flat, e1, e2]
theorem in_strs (x : Str) (ws : List Str) : inD (.str x) (ws.map .str) = decide (x ∈ ws) := by
  unfold inD
  induction ws with
  | nil => simp
  | cons a r ih =>
    rw [List.map_cons, List.any_cons, ih, eqv_str]
    by_cases z : a = x
    · subst z
      simp
    · have z' : x ≠ a := fun y => z y.symm
      simp [z, z']
def fillW (k : Nat) : Str := Str.ofString "zz" ++ (⟨#[48 + k % 10]⟩ : Str) ++ Txt.mul (Str.ofString "y") ((k : Int) / 10 + 6)
theorem fill_inj : ∀ j < 24, ∀ k < 24, fillW j = fillW k → j = k := by decide +kernel
theorem fill_len : ∀ k < 24, 9 ≤ (fillW k).length ∧ (fillW k).length ≤ 12 := by decide +kernel
theorem dig_ix (i : Nat) : ixD (Str.ofString "0123456789").cps.toList ((i : Int) % 10) = some (48 + i % 10) := by
  have h : ∀ m < 10, ixD (Str.ofString "0123456789").cps.toList ((m : Nat) : Int) = some (48 + m) := by decide +kernel
  rw [show (i : Int) % 10 = ((i % 10 : Nat) : Int) by omega]
  exact h _ (Nat.mod_lt _ (by omega))
theorem seq_nx {p q : QS} {P : PEnds} {Γ : Ev} (h : p { P with nx := q P } Γ) : qSeq p q P Γ := h
theorem pure__law_pool : ∀ ds R, ds.length = 2 → P__law_pool ds R → q__law_pool (endsOf R) (startEv 6 ds) := by
  rintro ds R - ⟨c, n, rfl, hn, h⟩
  ac_rfl
  refine ⟨c, 2 * n, 16000000, congrArg (fun z : Int => [PyData.int c, .int z, .int 16000000]) (by omega), by omega, by omega, by omega, fun ns hl hr0 => ?_⟩
  ac_rfl
  refine forGo_ok (fun i : Nat => .int (i : Int)) (fun r Γ => ∃ (fd : List Str) (a b : Sl), Γ = [.sh (.int c), .sh (.int (n : Nat)), .ow (.l (fd.map .str)), .sh (.list (ns.map .int)), a, b] ∧ fd.Nodup ∧ (∀ w ∈ fd, w.length ≤ 6) ∧ fd.length ≤ n ∧ ∀ i ∈ r, i < 2 * n) ?_ ?_ _ _ ⟨[], _, _, rfl, by simp, by simp, by simp, fun i hi => by have := List.mem_range.mp hi; omega⟩
  · rintro Γ ⟨fd, a, b, rfl, hnd, hw, hfl, _⟩
    ac_rfl
    refine forGo_ok (fun i : Nat => .int (i : Int)) (fun r Γ => ∃ (k : Nat) (fd : List Str) (a b : Sl), Γ = [.sh (.int c), .sh (.int (n : Nat)), .ow (.l (fd.map .str)), .sh (.list (ns.map .int)), a, b] ∧ fd.Nodup ∧ (∀ w ∈ fd, w.length ≤ 6 ∨ ∃ j, j < k ∧ w = fillW j) ∧ fd.length ≤ n ∧ k ≤ n ∧ k ≤ fd.length ∧ r = (List.range n).drop k) ?_ ?_ (List.range n) _ ⟨0, fd, _, _, rfl, hnd, fun w h => .inl (hw w h), hfl, by omega, by omega, rfl⟩
    · rintro Γ ⟨k, fd, a, b, rfl, hnd, hw, hfl, hk, hkf, hr⟩
      have hkn : k = n := by
        have := congrArg List.length hr
        simp at this
        omega
      ac_rfl
      refine h fd (by omega) hnd fun w hm => ?_
      rcases hw w hm with z | ⟨j, hj, rfl⟩
      · omega
      · exact (fill_len j (by omega)).2
    · rintro i r Γ K ⟨k, fd, a, b, rfl, hnd, hw, hfl, hk, hkf, hr⟩ hK
      obtain ⟨hkn, rfl, rfl⟩ := drop_cons hr.symm
      have hlm : (fd.map PyData.str).length = fd.length := List.length_map _
      clear h
      ac_rfl
      rw [hlm]
      refine ⟨fun hz => ?_, fun hz => ?_⟩
      · ac_rfl
        refine ⟨small (by decide +kernel), ?_⟩
        rw [dig_ix]
        ac_rfl
        refine ⟨small (by show 2 + 1 ≤ 1000000; omega), ?_⟩
        ac_rfl
        have l1 : (Str.ofString "zz" ++ ({ cps := #[48 + i % 10] } : Str)).length = 3 := by rw [app_len]; rfl
        have l2 := (fill_len i (by omega)).2
        unfold fillW at l2
        rw [app_len, l1] at l2
        refine ⟨by show 1 * _ ≤ 1048576; omega, small (by rw [l1]; omega), ltsmall (by rw [hlm]; omega), ?_⟩
        have hni : fillW i ∉ fd := fun z => by
          rcases hw _ z with q | ⟨j, hj, e⟩
          · have := (fill_len i (by omega)).1
            omega
          · have := fill_inj i (by omega) j (by omega) e
            omega
        refine hK _ ⟨i + 1, fd ++ [fillW i], _, _, by rw [List.map_append]; rfl, ?_, fun w hm => ?_, by simp; simp at hz; omega, by omega, by simp; omega, rfl⟩
        · rw [List.nodup_append]
          exact ⟨hnd, by simp, fun a ha b hb z => hni (by simp at hb; rw [← hb, ← z]; exact ha)⟩
        · rcases List.mem_append.mp hm with q | q
          · exact (hw w q).imp id fun ⟨j, hj, e⟩ => ⟨j, by omega, e⟩
          · exact .inr ⟨i, by omega, by simpa using q⟩
      · have hz : ¬ fd.length < n := fun z => by simp at hz; omega
        ac_rfl
        exact hK _ ⟨i + 1, fd, _, _, rfl, hnd, fun w hm => (hw w hm).imp id fun ⟨j, hj, e⟩ => ⟨j, by omega, e⟩, hfl, by omega, by omega, rfl⟩
  · rintro i r Γ K ⟨fd, a, b, rfl, hnd, hw, hfl, hr⟩ hK
    have hi := hr i (by simp)
    obtain ⟨x, ex, bx⟩ := ints_at hl hi hr0
    have e5 : (x : Int) / 7 % 5 = ((x / 7 % 5 : Nat) : Int) := by omega
    clear h
    ac_rfl
    rw [ex]
    ac_rfl
    rw [ex]
    ac_rfl
    refine ⟨x, 1 + x / 7 % 5, congrArg (fun z : Int => [PyData.int x, .int z]) (by omega), by omega, fun s hs => ?_⟩
    ac_rfl
    rw [ex]
    ac_rfl
    have key0 : ∀ a b, K [.sh (.int c), .sh (.int (n : Nat)), .ow (.l (fd.map .str)), .sh (.list (ns.map .int)), a, b] := fun a b => hK _ ⟨fd, a, b, rfl, hnd, hw, hfl, fun j hj => hr j (List.mem_cons_of_mem _ hj)⟩
    have key1 : ∀ w : Str, w.length ≤ 6 → w ∉ fd → fd.length < n → ∀ a b, K [.sh (.int c), .sh (.int (n : Nat)), .ow (.l (fd.map .str ++ [.str w])), .sh (.list (ns.map .int)), a, b] := fun w h1 h2 h3 a b => hK _ ⟨fd ++ [w], a, b, by rw [List.map_append]; rfl, by
      rw [List.nodup_append]
      exact ⟨hnd, by simp, fun a ha b hb z => h2 (by simp at hb; rw [← hb, ← z]; exact ha)⟩, fun v hv => by
        rcases List.mem_append.mp hv with q | q
        · exact hw v q
        · simp at q
          rw [q]
          exact h1, by simp; omega, fun j hj => hr j (List.mem_cons_of_mem _ hj)⟩
    clear hK
    have hlm : (fd.map PyData.str).length = fd.length := List.length_map _
    have fin : ∀ w : Str, w.length ≤ 6 → ∀ (Q : PEnds), Q.nx = K → qIfS (qAnd (qB (qOp (opInW not) (qVar 5) (qVar 2))) (qB (qOp opLt (qUn opLen (qVar 2)) (qVar 1)))) (qDrop (qApp 2 (qVar 5))) qNext Q [.sh (.int c), .sh (.int (n : Nat)), .ow (.l (fd.map .str)), .sh (.list (ns.map .int)), .sh (.int (i : Nat)), .sh (.str w)] := fun w hwl Q hQ => by
      have k1 := key1 w hwl
      clear key1
      rcases Q with ⟨nx, rt, bk, ct, ex⟩
      dsimp only at hQ
      subst hQ
      ac_rfl
      refine ⟨by rw [flat_strs]; rfl, ?_⟩
      rw [in_strs]
      dsimp only
      by_cases hm : w ∈ fd
      · rw [decide_eq_true hm]
        ac_rfl
        exact key0 _ _
      · rw [decide_eq_false hm]
        ac_rfl
        rw [hlm]
        refine ⟨fun hz => ?_, fun hz => ?_⟩
        · have hz : fd.length < n := by simp at hz; omega
          ac_rfl
          exact k1 hm hz _ _
        · ac_rfl
          exact key0 _ _
    refine ⟨fun hz => ?_, fun hz => ?_⟩
    · ac_rfl
      have e9 : ∃ w, ixD [PyData.str (Str.ofString ""), .str (Str.ofString "~"), .str (Str.ofString "~~"), .str (Str.ofString "~~~"), .str (Str.ofString "a b"), .str (Str.ofString "ab"), .str (Str.ofString "a"), .str (s ++ Str.ofString "~"), .str (s ++ Str.ofString "!")] ((x : Int) / 40 % 9) = some (.str w) ∧ w.length ≤ 6 := by
        obtain ⟨m, hm⟩ : ∃ m : Nat, (x : Int) / 40 % 9 = m := ⟨((x : Int) / 40 % 9).toNat, by omega⟩
        have hm9 : m < 9 := by omega
        rw [hm]
        have l7 : (s ++ Str.ofString "~").length ≤ 6 := by
          rw [app_len, show (Str.ofString "~").length = 1 from rfl]
          omega
        have l8 : (s ++ Str.ofString "!").length ≤ 6 := by
          rw [app_len, show (Str.ofString "!").length = 1 from rfl]
          omega
        match m, hm9 with
        | 0, _ => exact ⟨_, rfl, by decide +kernel⟩
        | 1, _ => exact ⟨_, rfl, by decide +kernel⟩
        | 2, _ => exact ⟨_, rfl, by decide +kernel⟩
        | 3, _ => exact ⟨_, rfl, by decide +kernel⟩
        | 4, _ => exact ⟨_, rfl, by decide +kernel⟩
        | 5, _ => exact ⟨_, rfl, by decide +kernel⟩
        | 6, _ => exact ⟨_, rfl, by decide +kernel⟩
        | 7, _ => exact ⟨_, rfl, l7⟩
        | 8, _ => exact ⟨_, rfl, l8⟩
      obtain ⟨w9, e9, l9⟩ := e9
      rw [ex]
      ac_rfl
      rw [show ixD _ ((x : Int) / 40 % 9) = _ from e9]
      ac_rfl
      exact fin w9 l9 _ rfl
    · ac_rfl
      exact fin s (by omega) _ rfl
end PL

namespace PL
open PySem PySem.Spec PyProof.Rows L2
local macro_rules | `(tactic| ac_rfl) => `(tactic| ((conv => whnf); repeat ((first | refine Cif.yes ?_ | refine Cif.no ?_ | (refine And.intro ?_ ?_; · first | (show _ ≤ (_ : Int); omega) | (show _ < (_ : Int); omega) | assumption | exact trivial | exact rfl | (refine small ?_; first | omega | (simp only [List.length_map, List.length_cons, List.length_nil, List.length_append]; omega)) | (refine ltsmall ?_; first | omega | (simp only [List.length_map, List.length_cons, List.length_nil, List.length_append]; omega)) | (refine cdiv ?_ ?_ <;> omega) | (refine cmulR ?_ ?_ <;> omega) | (refine cmulL ?_ ?_ <;> omega) | (refine ⟨?_, ?_, ?_, ?_⟩ <;> omega))); (conv => whnf))))
local macro_rules | `(tactic| exists $e) => `(tactic| first | exact $e | exact And.right $e | exact And.right (And.right $e) | exact And.right (And.right (And.right $e)))
theorem perm_erase {α : Type} : ∀ (l : List α) (j : Nat) (h : j < l.length), (l[j] :: l.eraseIdx j).Perm l
  | [], j, h => absurd h (by simp)
  | a :: r, 0, _ => by simp
  | a :: r, j + 1, h => by
    have ih := perm_erase r j (by simpa using h)
    simp only [List.getElem_cons_succ, List.eraseIdx_cons_succ]
    exact (List.Perm.swap a _ _).trans (List.Perm.cons a ih)
theorem map_erase {α β : Type} (f : α → β) : ∀ (l : List α) (j : Nat), (l.map f).eraseIdx j = (l.eraseIdx j).map f
  | [], _ => by simp
  | a :: r, 0 => by simp
  | a :: r, j + 1 => by simp [map_erase f r j]
def NoO (a : Sl) : Prop := a = .un ∨ ∃ d, a = .sh d
-- _law_renaming(script, at) slots: 0=script 1=at 2=draws 3=size 4=pool 5=olds* 6=rest 7=news* 8=k
def q__law_renaming : QS :=
  (qSeq (qAsg (qCall 3 P__law_numbers (qCons (qCall 2 P__law_cell (qCons (qVar 0) (qCons (qVar 1) qNil))) (qCons (qC (.int 30)) (qCons (qC (.int 5040)) qNil)))) (qgN 2))
  (qFrz 2 (qSeq (qAsg (qOp opAdd (qC (.int 1)) (qOp opMod (qOp opIx (qVar 2) (qC (.int 0))) (qOp opIx (qLst (qCons (qC (.int 4)) (qCons (qC (.int 6)) (qCons (qC (.int 12)) qNil)))) (qOp opMod (qOp opIx (qVar 2) (qC (.int 1))) (qC (.int 3)))))) (qgN 3))
  (qSeq (qAsg (qCall 2 P__law_pool (qCons (qCall 2 P__law_cell (qCons (qVar 0) (qCons (qOp opAdd (qVar 1) (qC (.int 1))) qNil))) (qCons (qOp opMul (qC (.int 2)) (qVar 3)) qNil))) (qgN 4))
  (qFrz 4 (qSeq (qAsg (qSl (qVar 4) (qoS (qC (.int 0))) (qoS (qVar 3))) (qgN 5))
  (qFrz 5 (qSeq (qAsg (qOp opAdd (qOp opIx (qLst (qCons (qVar 5) (qCons (qVar 5) (qCons (qVar 4) qNil)))) (qOp opMod (qOp opIx (qVar 2) (qC (.int 2))) (qC (.int 3)))) (qLst qNil)) (qgN 6))
  (qSeq (qIfS (qB (qOp opEq (qOp opMod (qOp opIx (qVar 2) (qC (.int 2))) (qC (.int 9))) (qC (.int 4))))
   (qAsg (qOp opAdd (qSl (qVar 5) (qoS (qC (.int 1))) qoN) (qSl (qVar 4) (qoS (qVar 3)) (qoS (qOp opAdd (qVar 3) (qC (.int 1)))))) (qgN 6))
   qNext)
  (qSeq (qAsg (qLst qNil) (qgN 7))
  (qSeq (qFor (qiR1 (qCons (qVar 3) qNil)) (qgN 8)
   (qIfS (qB (qOp opEq (qOp opMod (qOp opIx (qVar 2) (qC (.int 2))) (qC (.int 9))) (qC (.int 4))))
    (qDrop (qApp 7 (qOp opIx (qVar 6) (qVar 8))))
    (qDrop (qApp 7 (qPopAt 6 (qOp opMod (qOp opIx (qVar 2) (qOp opAdd (qC (.int 4)) (qVar 8))) (qUn opLen (qVar 6))))))))
  (qRet (qLc [8] (qiR1 (qCons (qVar 3) qNil)) (qgN 8) qYes (qTup (qCons (qOp opIx (qVar 5) (qVar 8)) (qCons (qOp opIx (qVar 7) (qVar 8)) qNil))))))))))))))))
structure RnW (rn : Rn) : Prop where
  ok : RnOk rn
  w : ∀ p ∈ rn, p.1.length ≤ 12 ∧ p.2.length ≤ 12
def P__law_renaming : PD := fun ds R => ∃ (ns : List Int) (k : Nat), ds = [scrD ns, .int k] ∧ ns.length ≤ 63 ∧ ∀ rn : Rn, RnW rn → R (.ow (.l (rn.map prD)))
theorem pure__law_renaming : ∀ ds R, ds.length = 2 → P__law_renaming ds R → q__law_renaming (endsOf R) (startEv 9 ds) := by
  rintro ds R - ⟨ns, at0, rfl, hl, h⟩
  ac_rfl
  refine ⟨ns, at0, rfl, hl, fun c => ?_⟩
  ac_rfl
  refine ⟨c, 30, 5040, rfl, by omega, by omega, by omega, fun dr hdl hdr => ?_⟩
  obtain ⟨d0, e0, b0⟩ := ints_at hdl (k := 0) (by omega) hdr
  obtain ⟨d1, e1, b1⟩ := ints_at hdl (k := 1) (by omega) hdr
  obtain ⟨d2, e2, b2⟩ := ints_at hdl (k := 2) (by omega) hdr
  ac_rfl
  rw [show ixD (dr.map PyData.int) 0 = _ from e0]
  ac_rfl
  rw [show ixD (dr.map PyData.int) 1 = _ from e1]
  ac_rfl
  have e3 : ∃ m : Nat, ixD [PyData.int 4, .int 6, .int 12] ((d1 : Int) % 3) = some (.int (m : Nat)) ∧ 1 ≤ m ∧ m ≤ 12 := by
    obtain ⟨m, hm⟩ : ∃ m : Nat, (d1 : Int) % 3 = m := ⟨((d1 : Int) % 3).toNat, by omega⟩
    have hm9 : m < 3 := by omega
    rw [hm]
    match m, hm9 with
    | 0, _ => exact ⟨4, rfl, by omega⟩
    | 1, _ => exact ⟨6, rfl, by omega⟩
    | 2, _ => exact ⟨12, rfl, by omega⟩
  obtain ⟨m3, e3, hm3⟩ := e3
  rw [e3]
  ac_rfl
  have hmod : (d0 : Int) % (m3 : Int) = ((d0 % m3 : Nat) : Int) := by omega
  have hmlt := Nat.mod_lt d0 (show 0 < m3 by omega)
  refine ⟨ns, at0 + 1, congrArg (fun z : Int => [scrD ns, PyData.int z]) (by omega), hl, fun c2 => ?_⟩
  ac_rfl
  rw [hmod]
  obtain ⟨size, hsz⟩ : ∃ size, size = 1 + d0 % m3 := ⟨_, rfl⟩
  have hs1 : 1 ≤ size := by omega
  have hs12 : size ≤ 12 := by omega
  have hsI : (1 : Int) + ((d0 % m3 : Nat) : Int) = (size : Int) := by omega
  rw [hsI]
  refine ⟨c2, 2 * size, congrArg (fun z : Int => [PyData.int c2, PyData.int z]) (by omega), by omega, fun ws hwl hwn hww => ?_⟩
  clear hsI hsz hmlt hmod e3 hm3 e0 e1
  ac_rfl
  have he0 : (O.l (cutD (List.map PyData.str ws) (some 0) (some (size : Int)))).toD = .list ((ws.take size).map .str) := by rw [cutD_map, cutG_to]; rfl
  rw [he0]
  have hol : (ws.take size).length = size := by rw [List.length_take]; omega
  have e3 : ∃ rs : List Str, ixD [PyData.list ((ws.take size).map .str), .list ((ws.take size).map .str), (O.l (ws.map .str)).toD] ((d2 : Int) % 3) = some (.list (rs.map .str)) ∧ rs.Nodup ∧ (∀ w ∈ rs, w ∈ ws) ∧ size ≤ rs.length ∧ rs.length ≤ 24 := by
    obtain ⟨m, hm⟩ : ∃ m : Nat, (d2 : Int) % 3 = m := ⟨((d2 : Int) % 3).toNat, by omega⟩
    have hm9 : m < 3 := by omega
    rw [hm]
    have t := hwn.sublist (List.take_sublist size ws)
    match m, hm9 with
    | 0, _ => exact ⟨_, rfl, t, fun w h => List.mem_of_mem_take h, by omega, by omega⟩
    | 1, _ => exact ⟨_, rfl, t, fun w h => List.mem_of_mem_take h, by omega, by omega⟩
    | 2, _ => exact ⟨_, rfl, hwn, fun w h => h, by omega, by omega⟩
  obtain ⟨rs, e3, hrn, hrw, hrl, hrl2⟩ := e3
  have fin : ∀ (news : List Str) (x6 x8 : Sl), NoO x8 → news.length = size → news.Nodup → (∀ w ∈ news, w ∈ ws) → qRet (qLc [8] (qiR1 (qCons (qVar 3) qNil)) (qgN 8) qYes (qTup (qCons (qOp opIx (qVar 5) (qVar 8)) (qCons (qOp opIx (qVar 7) (qVar 8)) qNil)))) (endsOf R) [.sh (scrD ns), .sh (.int (at0 : Nat)), .sh (.list (dr.map .int)), .sh (.int (size : Nat)), .sh (.list (ws.map .str)), .sh (.list ((ws.take size).map .str)), x6, .ow (.l (news.map .str)), x8] := fun news x6 x8 h8 hnl hnn hnw => by
    clear e3
    have hfin := h ((ws.take size).zip news) ⟨⟨by rw [List.length_zip]; omega, by rw [List.length_zip]; omega, by
      rw [List.map_fst_zip (by omega)]
      exact hwn.sublist (List.take_sublist size ws), by
      rw [List.map_snd_zip (by omega)]
      exact hnn⟩, fun p hp => by
        have := List.of_mem_zip hp
        exact ⟨hww _ (List.mem_of_mem_take this.1), hww _ (hnw _ this.2)⟩⟩
    clear h
    ac_rfl
    refine ⟨by rcases h8 with rfl | ⟨d, rfl⟩ <;> rfl, ?_⟩
    refine lc0_map (vs := [8]) (fun i : Nat => .int (i : Int)) (fun i : Nat => .tuple [.str ((ws.take size)[i]?.getD ⟨#[]⟩), .str (news[i]?.getD ⟨#[]⟩)]) (List.range size) (fun i hi acc K ha hK => ?_) (by simp; exact small (by omega)) ?_
    · have hi : i < size := by simpa using hi
      have q1 : (ws.take size)[i]? = some (ws.take size)[i] := List.getElem?_eq_getElem (by omega)
      have q2 : news[i]? = some news[i] := List.getElem?_eq_getElem (by omega)
      rw [q1, q2] at hK
      ac_rfl
      rw [ixD_map _ q1]
      ac_rfl
      rw [ixD_map _ q2]
      ac_rfl
      exact hK
    · have e : (List.range size).map (fun i : Nat => PyData.tuple [.str ((ws.take size)[i]?.getD ⟨#[]⟩), .str (news[i]?.getD ⟨#[]⟩)]) = ((ws.take size).zip news).map prD := by
        apply List.ext_getElem
        · simp
          omega
        · intro i h1 h2
          simp only [List.length_map, List.length_range] at h1
          simp only [List.getElem_map, List.getElem_range, List.getElem_zip, prD]
          rw [List.getElem?_eq_getElem (by omega), List.getElem?_eq_getElem (by omega)]
          rfl
      rw [e]
      exact hfin
  clear h
  rw [show ixD (dr.map PyData.int) 2 = _ from e2]
  ac_rfl
  rw [e3]
  ac_rfl
  rw [show ixD (dr.map PyData.int) 2 = _ from e2]
  ac_rfl
  refine ⟨fun hz => ?_, fun hz => ?_⟩
  · have hsz1 : (size : Int) + 1 = ((size + 1 : Nat) : Int) := by omega
    have hrs : ∃ rest : List Str, rest.length = size ∧ rest.Nodup ∧ (∀ w ∈ rest, w ∈ ws) ∧ cutD ((ws.take size).map PyData.str) (some 1) none ++ cutD (ws.map .str) (some (size : Int)) (some ((size : Int) + 1)) = rest.map .str := by
      refine ⟨(ws.take (size + 1)).drop 1, by rw [List.length_drop, List.length_take]; omega, (hwn.sublist (List.take_sublist _ _)).sublist (List.drop_sublist _ _), fun w h => List.mem_of_mem_take (List.mem_of_mem_drop h), ?_⟩
      rw [cutD_map, cutD_map, hsz1, cutG_btw, show (1 : Int) = ((1 : Nat) : Int) from rfl, cutG_from, ← List.map_append]
      congr 1
      rw [List.take_add, List.drop_append_of_le_length (by omega)]
      congr 2
      omega
    obtain ⟨rest, hrl3, hrn3, hrw3, hre⟩ := hrs
    ac_rfl
    refine ⟨small (by rw [← List.length_append, hre, List.length_map]; omega), ?_⟩
    rw [hre]
    ac_rfl
    refine forGo_ok (fun i : Nat => .int (i : Int)) (fun r Γ => ∃ (k : Nat) (a : Sl), Γ = [.sh (scrD ns), .sh (.int (at0 : Nat)), .sh (.list (dr.map .int)), .sh (.int (size : Nat)), .sh (.list (ws.map .str)), .sh (.list ((ws.take size).map .str)), .ow (.l (rest.map .str)), .ow (.l ((rest.take k).map .str)), a] ∧ NoO a ∧ k ≤ size ∧ r = (List.range size).drop k) ?_ ?_ (List.range size) _ ⟨0, _, rfl, .inl rfl, by omega, rfl⟩
    · rintro Γ ⟨k, a, rfl, ha, hks, hr⟩
      have hks : k = size := by
        have := congrArg List.length hr
        simp at this
        omega
      subst hks
      refine fin (rest.take k) _ a ha (by rw [List.length_take]; omega) (hrn3.sublist (List.take_sublist _ _)) fun w h => hrw3 w (List.mem_of_mem_take h)
    · rintro i r Γ K ⟨k, a, rfl, ha, hks, hr⟩ hK
      obtain ⟨hkn, rfl, rfl⟩ := drop_cons hr.symm
      have hlt : ((rest.take i).map PyData.str).length ≤ 12 := by rw [List.length_map, List.length_take]; omega
      have ei : rest[i]? = some rest[i] := List.getElem?_eq_getElem (by omega)
      clear fin
      ac_rfl
      rw [show ixD (dr.map PyData.int) 2 = _ from e2]
      ac_rfl
      refine Cif.tt hz ?_
      ac_rfl
      rw [ixD_map _ ei]
      ac_rfl
      exact hK _ ⟨i + 1, _, by rw [List.take_add_one, ei, List.map_append]; rfl, .inr ⟨_, rfl⟩, by omega, rfl⟩
  · ac_rfl
    refine forGo_ok (fun i : Nat => .int (i : Int)) (fun r Γ => ∃ (k : Nat) (rest news : List Str) (a : Sl), Γ = [.sh (scrD ns), .sh (.int (at0 : Nat)), .sh (.list (dr.map .int)), .sh (.int (size : Nat)), .sh (.list (ws.map .str)), .sh (.list ((ws.take size).map .str)), .ow (.l (rest.map .str)), .ow (.l (news.map .str)), a] ∧ NoO a ∧ (news ++ rest).Nodup ∧ (∀ w ∈ news ++ rest, w ∈ ws) ∧ news.length = k ∧ rest.length ≤ 24 ∧ size ≤ rest.length + k ∧ k ≤ size ∧ r = (List.range size).drop k) ?_ ?_ (List.range size) _ ⟨0, rs, [], _, by rw [List.append_nil]; rfl, .inl rfl, hrn, hrw, rfl, hrl2, hrl, by omega, rfl⟩
    · rintro Γ ⟨k, rest, news, a, rfl, ha, hn, hw, hk, hr2, hsl, hks, hr⟩
      have hks : k = size := by
        have := congrArg List.length hr
        simp at this
        omega
      refine fin news _ a ha (by omega) (List.nodup_append.mp hn).1 fun w h => hw w (List.mem_append_left _ h)
    · rintro i r Γ K ⟨k, rest, news, a, rfl, ha, hn, hw, hk, hr2, hsl, hks, hr⟩ hK
      obtain ⟨hkn, rfl, rfl⟩ := drop_cons hr.symm
      obtain ⟨x, ex, bx⟩ := ints_at hdl (k := 4 + i) (by omega) hdr
      have hlm : (rest.map PyData.str).length = rest.length := List.length_map _
      clear fin
      ac_rfl
      rw [show ixD (dr.map PyData.int) 2 = _ from e2]
      ac_rfl
      refine Cif.ff hz ?_
      ac_rfl
      rw [show ((4 : Int) + (i : Int)) = ((4 + i : Nat) : Int) by omega, ex]
      (conv => whnf)
      refine ⟨by rw [hlm]; show (0 : Int) < (rest.length : Nat); omega, ?_⟩
      rw [hlm]
      (conv => whnf)
      obtain ⟨j, ej, hjl, ejI⟩ := ixN_mod (n := rest.length) (a := (x : Int)) (by omega)
      have ey : rest[j]? = some rest[j] := List.getElem?_eq_getElem hjl
      rw [ejI]
      refine ⟨by have : (0 : Int) ≤ (j : Int) := by omega
                 exact Int.le_trans (by decide) this, by
                 have : (j : Int) < 24 := by omega
                 exact Int.lt_trans this (by decide), ?_⟩
      dsimp only [List.set, List.getElem?_cons_succ, List.getElem?_cons_zero]
      rw [hlm, ← ejI, ej]
      dsimp only
      rw [List.getElem?_map, ey]
      have hnl : (news.map PyData.str).length ≤ 12 := by rw [List.length_map]; omega
      ac_rfl
      have hp : (news ++ [rest[j]] ++ rest.eraseIdx j).Perm (news ++ rest) := by
        rw [List.append_assoc]
        refine List.Perm.append_left _ ?_
        exact (perm_erase rest j hjl)
      refine hK _ ⟨i + 1, rest.eraseIdx j, news ++ [rest[j]], .sh (.int (i : Nat)), ?_, .inr ⟨_, rfl⟩, hp.nodup_iff.mpr hn, fun w h => hw w (hp.mem_iff.mp h), by simp; omega, by rw [List.length_eraseIdx_of_lt hjl]; omega, by rw [List.length_eraseIdx_of_lt hjl]; omega, by omega, rfl⟩
      rw [← map_erase, List.map_append]
      rfl
end PL

namespace PL
open PySem PySem.Spec PyProof.Rows L2
local macro_rules | `(tactic| ac_rfl) => `(tactic| ((conv => whnf); repeat ((first | refine Cif.yes ?_ | refine Cif.no ?_ | (refine And.intro ?_ ?_; · first | (show _ ≤ (_ : Int); omega) | (show _ < (_ : Int); omega) | assumption | exact trivial | exact rfl | (refine small ?_; first | omega | (simp only [List.length_map, List.length_cons, List.length_nil, List.length_append]; omega)) | (refine ltsmall ?_; first | omega | (simp only [List.length_map, List.length_cons, List.length_nil, List.length_append]; omega)) | (refine cdiv ?_ ?_ <;> omega) | (refine cmulR ?_ ?_ <;> omega) | (refine cmulL ?_ ?_ <;> omega) | (refine ⟨?_, ?_, ?_, ?_⟩ <;> omega))); (conv => whnf))))
local macro_rules | `(tactic| exists $e) => `(tactic| first | exact $e | exact And.right $e | exact And.right (And.right $e) | exact And.right (And.right (And.right $e)))
-- _law_papers(renaming, verdict, draws) slots: 0=renaming 1=verdict 2=draws 3=word 4=some 5=size 6=spot 7=other 8=found 9=turned 10=ring
def q__law_papers : QS :=
  (qSeq (qAsg (qVar 1) (qgTup 2 (qgCons (qgN 3) (qgCons (qgN 4) qgNil))))
  (qSeq (qAsg (qUn opLen (qVar 0)) (qgN 5))
  (qSeq (qAsg (qOp opMod (qOp opIx (qVar 2) (qC (.int 0))) (qOp opMax2 (qC (.int 1)) (qUn opLen (qVar 4)))) (qgN 6))
  (qSeq (qAsg (qOp opMod (qOp opIx (qVar 2) (qC (.int 1))) (qOp opMax2 (qC (.int 1)) (qUn opLen (qVar 4)))) (qgN 7))
  (qSeq (qAsg (qLst (qCons (qVar 1) (qCons (qTup (qCons (qVar 3) qNil)) (qCons (qTup (qCons (qVar 3) (qCons (qVar 4) (qCons (qLst qNil) qNil)))) (qCons (qTup (qCons (qC (.str "rings")) (qCons (qVar 4) qNil))) (qCons (qTup (qCons (qC (.str "order")) (qCons (qLst qNil) qNil))) (qCons (qTup (qCons (qC (.str "ring")) (qCons (qLst qNil) qNil))) (qCons (qTup (qCons (qC (.str "order")) (qCons (qRgL1 (qVar 5)) qNil))) (qCons (qTup (qCons (qC (.str "ring")) (qCons (qRgL1 (qVar 5)) qNil))) qNil))))))))) (qgN 8))
  (qSeq (qAsg (qOp opAdd (qVar 8) (qLst (qCons (qTup (qCons (qOp opIx (qLst (qCons (qC (.str "ring")) (qCons (qC (.str "order")) qNil))) (qUn opInt (qOp opEq (qVar 3) (qC (.str "ring"))))) (qCons (qVar 4) qNil))) (qCons (qTup (qCons (qVar 3) (qCons (qOp opAdd (qSl (qVar 4) (qoS (qC (.int 1))) qoN) (qSl (qVar 4) (qoS (qC (.int 0))) (qoS (qC (.int 1))))) qNil))) (qCons (qTup (qCons (qVar 3) (qCons (qUn opRevL (qVar 4)) qNil))) (qCons (qTup (qCons (qVar 3) (qCons (qOp opAdd (qVar 4) (qSl (qVar 4) (qoS (qC (.int 0))) (qoS (qC (.int 1))))) qNil))) qNil)))))) (qgN 8))
  (qSeq (qAsg (qOp opAdd (qVar 8) (qLst (qCons (qTup (qCons (qVar 3) (qCons (qOp opAdd (qSl (qVar 4) (qoS (qC (.int 0))) (qoS (qVar 6))) (qSl (qVar 4) (qoS (qOp opAdd (qVar 6) (qC (.int 1)))) qoN)) qNil))) (qCons (qTup (qCons (qVar 3) (qCons (qOp opAdd (qVar 4) (qLst (qCons (qOp opMod (qOp opIx (qVar 2) (qC (.int 2))) (qVar 5)) qNil))) qNil))) (qCons (qTup (qCons (qVar 3) (qCons (qOp opAdd (qLst (qCons (qVar 5) qNil)) (qSl (qVar 4) (qoS (qC (.int 1))) qoN)) qNil))) (qCons (qTup (qCons (qVar 3) (qCons (qOp opAdd (qLst (qCons (qUn opNeg (qC (.int 1))) qNil)) (qSl (qVar 4) (qoS (qC (.int 1))) qoN)) qNil))) (qCons (qTup (qCons (qC (.str "ring")) (qCons (qSl (qVar 4) (qoS (qC (.int 0))) (qoS (qC (.int 1)))) qNil))) qNil))))))) (qgN 8))
  (qSeq (qAsg (qOp opAdd (qVar 8) (qLc [10] (qiL (qCall 1 P__law_rings (qCons (qVar 0) qNil))) (qgN 10) qYes (qTup (qCons (qC (.str "ring")) (qCons (qVar 10) qNil))))) (qgN 8))
  (qSeq (qAsg (qOp opAdd (qVar 8) (qLst (qCons (qTup (qCons (qC (.str "order")) (qCons (qCall 1 P__law_order (qCons (qVar 0) qNil)) qNil))) (qCons (qTup (qCons (qC (.str "ring")) (qCons (qLst (qCons (qOp opMod (qOp opIx (qVar 2) (qC (.int 3))) (qVar 5)) (qCons (qOp opMod (qOp opIx (qVar 2) (qC (.int 4))) (qVar 5)) qNil))) qNil))) qNil)))) (qgN 8))
  (qSeq (qIfS (qB (qOp opGt (qUn opLen (qVar 4)) (qC (.int 1))))
   (qSeq (qAsg (qUn opList (qVar 4)) (qgN 9))
   (qSeq (qSetIx 9 (qVar 6) (qOp opIx (qVar 4) (qVar 7)))
   (qSeq (qSetIx 9 (qVar 7) (qOp opIx (qVar 4) (qVar 6)))
   (qDrop (qApp 8 (qTup (qCons (qVar 3) (qCons (qVar 9) qNil))))))))
   qNext)
  (qRet (qVar 8))))))))))))
/-! ### lists of small numbers, papers -/
def Il (n : Nat) (ds : List D) : Prop := ∃ l : List Int, ds = l.map .int ∧ l.length ≤ n ∧ ∀ x ∈ l, -1 ≤ x ∧ x < 5040
theorem Il.mono {n m : Nat} {ds : List D} (h : Il n ds) (hm : n ≤ m) : Il m ds := let ⟨l, e, h1, h2⟩ := h; ⟨l, e, Nat.le_trans h1 hm, h2⟩
theorem Il.len {n : Nat} {ds : List D} (h : Il n ds) : ds.length ≤ n := by
  obtain ⟨l, rfl, h1, _⟩ := h
  rw [List.length_map]
  exact h1
theorem Il.nil : Il 0 [] := ⟨[], rfl, Nat.le_refl _, by simp⟩
theorem Il.one {x : Int} (h : -1 ≤ x ∧ x < 5040) : Il 1 [.int x] := ⟨[x], rfl, Nat.le_refl _, by simpa using h⟩
theorem Il.app {n m : Nat} {ds es : List D} (h : Il n ds) (h' : Il m es) : Il (n + m) (ds ++ es) := by
  obtain ⟨l, rfl, h1, h2⟩ := h
  obtain ⟨l', rfl, h1', h2'⟩ := h'
  refine ⟨l ++ l', by rw [List.map_append], by rw [List.length_append]; omega, fun x hx => ?_⟩
  rcases List.mem_append.mp hx with q | q
  · exact h2 x q
  · exact h2' x q
theorem Il.cut {n : Nat} {ds : List D} {lo hi : Option Int} (h : Il n ds) : Il n (cutD ds lo hi) := by
  obtain ⟨l, rfl, h1, h2⟩ := h
  exact ⟨cutG l lo hi, cutD_map _ _ _ _, Nat.le_trans (len_cutG _ _ _) h1, fun x hx => h2 x (mem_cutG hx)⟩
theorem Il.rev {n : Nat} {ds : List D} (h : Il n ds) : Il n ds.reverse := by
  obtain ⟨l, rfl, h1, h2⟩ := h
  exact ⟨l.reverse, by rw [List.map_reverse], by simpa using h1, fun x hx => h2 x (by simpa using hx)⟩
theorem Il.set {n : Nat} {ds : List D} {k : Nat} {x : Int} (h : Il n ds) (hx : -1 ≤ x ∧ x < 5040) : Il n (ds.set k (.int x)) := by
  obtain ⟨l, rfl, h1, h2⟩ := h
  refine ⟨l.set k x, by rw [List.map_set], by simpa using h1, fun y hy => ?_⟩
  rcases List.mem_or_eq_of_mem_set hy with q | q
  · exact h2 y q
  · rw [q]
    exact hx
theorem Il.nats {n : Nat} {c : List Nat} (h1 : c.length ≤ n) (h2 : ∀ x ∈ c, x < 5040) : Il n (c.map natD) := by
  refine ⟨c.map fun n : Nat => (n : Int), nats_ints c, by simpa using h1, fun x hx => ?_⟩
  obtain ⟨y, hy, rfl⟩ := List.mem_map.mp hx
  have := h2 y hy
  omega
def PpOk (d : D) : Prop := ∃ (w : Str) (ls : List (List Int)), d = ppD w ls ∧ w.length ≤ 5 ∧ ls.length ≤ 2 ∧ ∀ l ∈ ls, l.length ≤ 26 ∧ ∀ x ∈ l, -1 ≤ x ∧ x < 5040
theorem pp1 {w : Str} (h : w.length ≤ 5) : PpOk (.tuple [.str w]) := ⟨w, [], rfl, h, by simp, by simp⟩
theorem pp2 {w : Str} {ds : List D} (h : w.length ≤ 5) (h2 : Il 26 ds) : PpOk (.tuple [.str w, .list ds]) := by
  obtain ⟨l, rfl, h3⟩ := h2
  exact ⟨w, [l], rfl, h, by simp, by simpa using h3⟩
theorem pp3 {w : Str} {ds : List D} (h : w.length ≤ 5) (h2 : Il 26 ds) : PpOk (.tuple [.str w, .list ds, .list []]) := by
  obtain ⟨l, rfl, h3⟩ := h2
  refine ⟨w, [l, []], rfl, h, by simp, fun k hk => ?_⟩
  simp at hk
  rcases hk with rfl | rfl
  · exact h3
  · simp
theorem ordG_sub (ws : Ws) : ∀ (m : Nat) (left : List Nat), (ordG ws m left).length ≤ m ∧ ∀ x ∈ ordG ws m left, x ∈ left
  | 0, _ => by simp [ordG]
  | m + 1, left => by
    unfold ordG
    cases h : left.filter (able ws left) with
    | nil => simp
    | cons a r =>
      have ih := ordG_sub ws m (left.filter fun p => p != a)
      have ha : a ∈ left := (List.mem_filter.mp (by rw [h]; exact List.mem_cons_self)).1
      refine ⟨by simpa using ih.1, fun x hx => ?_⟩
      rcases List.mem_cons.mp hx with q | q
      · rw [q]
        exact ha
      · exact (List.mem_filter.mp (ih.2 x q)).1
theorem order_il {rn : Rn} (ok : RnOk rn) : Il 26 ((orderL rn).map natD) := by
  have h := ordG_sub (waitsL rn) rn.length (moversL rn)
  have hn := ok.n2
  refine Il.nats (by have := h.1; unfold orderL; omega) fun x hx => ?_
  have := moversL_lt rn x (h.2 x hx)
  omega
theorem rings_il {rn : Rn} (ok : RnOk rn) : ∀ c ∈ ringsL (waitsL rn), Il 26 (c.map natD) := fun c hc => by
  obtain ⟨k, hk, hr, _⟩ := mem_ringsL.mp hc
  obtain ⟨l, ch, _⟩ := ring_chn (ws_ok ok) hk hr
  have h1 := range_le ch.nd ch.lt
  have hn := ok.n2
  have hl := ws_len rn
  exact Il.nats (by omega) fun x hx => by have := ch.lt x hx; omega
theorem rings_len (rn : Rn) : (ringsL (waitsL rn)).length ≤ rn.length := by
  unfold ringsL
  refine Nat.le_trans (List.length_filterMap_le _ _) ?_
  simp [ws_len]
def P__law_papers : PD := fun ds R => ∃ (rn : Rn) (w : Str) (l dr : List Int), ds = [rnD rn, ppD w [l], intsD dr] ∧ RnOk rn ∧ w.length ≤ 5 ∧ l.length ≤ 12 ∧ (∀ x ∈ l, 0 ≤ x ∧ x < 12) ∧ dr.length = 8 ∧ (∀ x ∈ dr, 0 ≤ x ∧ x < 5040) ∧
  ∀ ps, (∀ d ∈ ps, PpOk d) → ps.length ≤ 100 → R (.ow (.l ps))
theorem pure__law_papers : ∀ ds R, ds.length = 3 → P__law_papers ds R → q__law_papers (endsOf R) (startEv 11 ds) := by
  rintro ds R - ⟨rn, w, l, dr, rfl, ok, hw, hl, hlr, hdl, hdr, h⟩
  have hn := ok.n2
  have hn1 := ok.n1
  have il : Il 12 (l.map PyData.int) := ⟨l, rfl, hl, fun x hx => by have := hlr x hx; omega⟩
  obtain ⟨d0, e0, b0⟩ := ints_at hdl (k := 0) (by omega) hdr
  obtain ⟨d1, e1, b1⟩ := ints_at hdl (k := 1) (by omega) hdr
  obtain ⟨d2, e2, b2⟩ := ints_at hdl (k := 2) (by omega) hdr
  obtain ⟨d3, e3, b3⟩ := ints_at hdl (k := 3) (by omega) hdr
  obtain ⟨d4, e4, b4⟩ := ints_at hdl (k := 4) (by omega) hdr
  have hpl : (List.map prD rn).length = rn.length := List.length_map _
  have hll : (List.map PyData.int l).length = l.length := List.length_map _
  have mx : ∀ d : Nat, ∃ sp : Nat, (d : Int) % (if ((l.length : Nat) : Int) > 1 then ((l.length : Nat) : Int) else 1) = (sp : Int) ∧ (1 ≤ l.length → sp < l.length) := fun d => by
    by_cases z : ((l.length : Nat) : Int) > 1
    · rw [if_pos z]
      exact ⟨d % l.length, by omega, fun _ => Nat.mod_lt _ (by omega)⟩
    · rw [if_neg z]
      exact ⟨0, by omega, fun _ => by omega⟩
  obtain ⟨sp, esp, hsp⟩ := mx d0
  obtain ⟨ot, eot, hot⟩ := mx d1
  clear mx
  ac_rfl
  rw [hpl, show ixD (dr.map PyData.int) 0 = _ from e0]
  ac_rfl
  rw [show ixD (dr.map PyData.int) 1 = _ from e1]
  ac_rfl
  have e6 : ∃ w6 : Str, ixD [PyData.str (Str.ofString "ring"), PyData.str (Str.ofString "order")] (if (PyData.str w).eqv (PyData.str (Str.ofString "ring")) = true then 1 else 0) = some (.str w6) ∧ w6.length ≤ 5 := by
    split
    · exact ⟨_, rfl, by decide +kernel⟩
    · exact ⟨_, rfl, by decide +kernel⟩
  obtain ⟨w6, e6, hw6⟩ := e6
  rw [e6]
  have c01 : ∀ lo hi, (cutD (l.map PyData.int) lo hi).length ≤ 12 := fun lo hi => il.cut.len
  have a01 := c01 (some 0) (some 1)
  have a1 := c01 (some 1) none
  have as := c01 (some 0) (some (sp : Int))
  have at1 := c01 (some ((sp : Int) + 1)) none
  ac_rfl
  rw [hll, esp]
  ac_rfl
  rw [show ixD (dr.map PyData.int) 2 = _ from e2]
  ac_rfl
  have hm : ∀ d : Nat, (d : Int) % (rn.length : Int) = ((d % rn.length : Nat) : Int) := fun d => by omega
  have hmr : ∀ d : Nat, -1 ≤ ((d % rn.length : Nat) : Int) ∧ ((d % rn.length : Nat) : Int) < 5040 := fun d => by
    have := Nat.mod_lt d (show 0 < rn.length by omega)
    omega
  refine ⟨rn, rfl, ok, ?_⟩
  ac_rfl
  have hrl := rings_len rn
  refine lc0_map (vs := [10]) ringD (fun c => .tuple [.str (Str.ofString "ring"), ringD c]) (ringsL (waitsL rn)) (fun c hc acc K ha hK => ?_) (small (by omega)) ?_
  · ac_rfl
    exact hK
  ac_rfl
  refine ⟨rn, rfl, ok, ?_⟩
  ac_rfl
  rw [show ixD (dr.map PyData.int) 3 = _ from e3]
  ac_rfl
  rw [show ixD (dr.map PyData.int) 4 = _ from e4]
  ac_rfl
  have hL : ∀ d ∈ [ppD w [l], .tuple [.str w], .tuple [.str w, intsD l, .list []], .tuple [.str (Str.ofString "rings"), intsD l], .tuple [.str (Str.ofString "order"), .list []], .tuple [.str (Str.ofString "ring"), .list []],
      .tuple [.str (Str.ofString "order"), .list (rgD 0 (rn.length : Nat))], .tuple [.str (Str.ofString "ring"), .list (rgD 0 (rn.length : Nat))]] ++
      [.tuple [.str w6, intsD l], .tuple [.str w, .list (cutD (l.map .int) (some 1) none ++ cutD (l.map .int) (some 0) (some 1))], .tuple [.str w, .list (l.map PyData.int).reverse], .tuple [.str w, .list (l.map .int ++ cutD (l.map .int) (some 0) (some 1))]] ++
      [.tuple [.str w, .list (cutD (l.map .int) (some 0) (some (sp : Int)) ++ cutD (l.map .int) (some ((sp : Int) + 1)) none)], .tuple [.str w, .list (l.map .int ++ [.int ((d2 : Int) % (rn.length : Nat))])], .tuple [.str w, .list ([.int (rn.length : Nat)] ++ cutD (l.map .int) (some 1) none)],
        .tuple [.str w, .list ([.int (-1)] ++ cutD (l.map .int) (some 1) none)], .tuple [.str (Str.ofString "ring"), .list (cutD (l.map .int) (some 0) (some 1))]] ++
      (ringsL (waitsL rn)).map (fun c => .tuple [.str (Str.ofString "ring"), ringD c]) ++ [.tuple [.str (Str.ofString "order"), .list ((orderL rn).map natD)], .tuple [.str (Str.ofString "ring"), .list [.int ((d3 : Int) % (rn.length : Nat)), .int ((d4 : Int) % (rn.length : Nat))]]], PpOk d := by
    have l4 : (Str.ofString "ring").length ≤ 5 := by decide +kernel
    have l5 : (Str.ofString "order").length ≤ 5 := by decide +kernel
    have l6 : (Str.ofString "rings").length ≤ 5 := by decide +kernel
    have i0 : Il 26 [] := Il.nil.mono (by omega)
    have i1 : Il 26 (l.map PyData.int) := il.mono (by omega)
    have ir : Il 26 (rgD 0 (rn.length : Nat)) := by
      have e : rgD 0 ((rn.length : Nat) : Int) = (List.range rn.length).map natD := by
        unfold rgD
        simp [natD]
      rw [e]
      refine Il.nats (by simp; omega) fun x hx => ?_
      have := List.mem_range.mp hx
      omega
    simp only [List.forall_mem_append, List.forall_mem_cons]
    refine ⟨⟨⟨⟨⟨pp2 hw i1, pp1 hw, pp3 hw i1, pp2 l6 i1, pp2 l5 i0, pp2 l4 i0, pp2 l5 ir, pp2 l4 ir, by simp⟩, pp2 hw6 i1, pp2 hw ((il.cut.app il.cut).mono (by omega)), pp2 hw i1.rev, pp2 hw ((il.app il.cut).mono (by omega)), by simp⟩,
      pp2 hw ((il.cut.app il.cut).mono (by omega)), pp2 hw ((il.app (Il.one ?_)).mono (by omega)), pp2 hw (((Il.one ?_).app il.cut).mono (by omega)), pp2 hw (((Il.one ?_).app il.cut).mono (by omega)), pp2 l4 (il.cut.mono (by omega)), by simp⟩, ?_⟩, pp2 l5 (order_il ok), pp2 l4 (((Il.one ?_).app (Il.one ?_)).mono (by omega)), by simp⟩
    · rw [hm]
      exact hmr d2
    · omega
    · omega
    · intro d hd
      obtain ⟨c, hc, rfl⟩ := List.mem_map.mp hd
      exact pp2 l4 (rings_il ok c hc)
    · rw [hm]
      exact hmr d3
    · rw [hm]
      exact hmr d4
  rw [hll]
  refine ⟨fun hz => ?_, fun hz => ?_⟩
  · have hz : 1 < l.length := by
      have := of_decide_eq_true hz
      omega
    have hsp := hsp (by omega)
    have hot := hot (by omega)
    have fin : ∀ L0 (i6 i7 : Int), (∀ d ∈ L0, PpOk d) → L0.length ≤ 60 → i6 = (sp : Int) → i7 = (ot : Int) → (qSeq (qAsg (qUn opList (qVar 4)) (qgN 9))
   (qSeq (qSetIx 9 (qVar 6) (qOp opIx (qVar 4) (qVar 7)))
   (qSeq (qSetIx 9 (qVar 7) (qOp opIx (qVar 4) (qVar 6)))
   (qDrop (qApp 8 (qTup (qCons (qVar 3) (qCons (qVar 9) qNil)))))))) { endsOf R with nx := qRet (qVar 8) (endsOf R) } [.sh (rnD rn), .sh (ppD w [l]), .sh (intsD dr), .sh (.str w), .sh (intsD l), .sh (.int (rn.length : Nat)), .sh (.int i6), .sh (.int i7), .ow (.l L0), .un, .un] := fun L0 i6 i7 h1 h2 h6 h7 => by
      clear hL esp eot
      subst h6 h7
      have x1 : l[ot]? = some l[ot] := List.getElem?_eq_getElem hot
      have x2 : l[sp]? = some l[sp] := List.getElem?_eq_getElem hsp
      ac_rfl
      rw [ixD_map _ x1]
      ac_rfl
      rw [hll, ixN_lt hsp]
      ac_rfl
      rw [ixD_map _ x2]
      ac_rfl
      rw [List.length_set, hll, ixN_lt hot]
      ac_rfl
      refine h _ (fun d hd => ?_) (by simp; omega)
      rcases List.mem_append.mp hd with q | q
      · exact h1 d q
      · simp at q
        subst q
        have r1 := hlr _ (List.getElem_mem hot)
        have r2 := hlr _ (List.getElem_mem hsp)
        exact pp2 hw (((il.set (by omega)).set (by omega)).mono (by omega))
    exact fin _ _ _ hL (by simp; omega) esp eot
  · ac_rfl
    exact h _ hL (by simp; omega)
end PL

namespace PL
open PySem PySem.Spec PyProof.Rows L2
local macro_rules | `(tactic| ac_rfl) => `(tactic| ((conv => whnf); repeat ((first | refine Cif.yes ?_ | refine Cif.no ?_ | (refine And.intro ?_ ?_; · first | (show _ ≤ (_ : Int); omega) | (show _ < (_ : Int); omega) | assumption | exact trivial | exact rfl | (refine small ?_; first | omega | (simp only [List.length_map, List.length_cons, List.length_nil, List.length_append]; omega)) | (refine ltsmall ?_; first | omega | (simp only [List.length_map, List.length_cons, List.length_nil, List.length_append]; omega)) | (refine cdiv ?_ ?_ <;> omega) | (refine cmulR ?_ ?_ <;> omega) | (refine cmulL ?_ ?_ <;> omega) | (refine ⟨?_, ?_, ?_, ?_⟩ <;> omega))); (conv => whnf))))
local macro_rules | `(tactic| exists $e) => `(tactic| first | exact $e | exact And.right $e | exact And.right (And.right $e) | exact And.right (And.right (And.right $e)))
mutual
theorem plain_nd : ∀ d : D, d.hasDict = false → d.plain = true
  | .none, _ => rfl
  | .bool _, _ => rfl
  | .int _, _ => rfl
  | .str _, _ => rfl
  | .list xs, h => by simpa [PyData.plain] using plain_ndA xs (by simpa [PyData.hasDict] using h)
  | .tuple xs, h => by simpa [PyData.plain] using plain_ndA xs (by simpa [PyData.hasDict] using h)
  | .dict _, h => by simp [PyData.hasDict] at h
theorem plain_ndA : ∀ ds : List D, PyData.hasDictAll ds = false → PyData.plainAll ds = true
  | [], _ => rfl
  | d :: r, h => by
    simp only [PyData.hasDictAll, Bool.or_eq_false_iff] at h
    simp [PyData.plainAll, plain_nd d h.1, plain_ndA r h.2]
end
theorem Pd.refl {k w : Nat} {d : D} (h : Pd k w d) : PyData.eqv d d = true := PySem.SeqAt.eqv_refl_plain d (plain_nd d h.hd)
theorem rn_pd {rn : Rn} (h : RnW rn) : Pd 2 1000 (rnD rn) := by
  have hn := h.ok.n2
  refine Pd.mono (.lst (PdA.mapL (k := 1) (w := 26) (n := 12) prD rn (fun p hp => ?_) hn)) (by omega) (by omega)
  have := h.w p hp
  exact Pd.mono (.tup (.cons .str (.cons .str .nil))) (by omega) (by omega)
theorem ints_pd {l : List Int} {n : Nat} (hl : l.length ≤ n) (h : ∀ x ∈ l, -1 ≤ x ∧ x < 5040) : Pd 1 (41 * n) (intsD l) :=
  .lst (PdA.mapL (w := 40) PyData.int l (fun x hx => .int (by have := h x hx; omega)) hl)
theorem pp_pd {d : D} (h : PpOk d) : Pd 2 3000 d := by
  obtain ⟨w, ls, rfl, h1, h2, h3⟩ := h
  have a : PdA 1 ((41 * 26 + 1) * 2) (ls.map intsD) := PdA.mapL (w := 41 * 26) intsD ls (fun l hl => ints_pd (h3 l hl).1 (h3 l hl).2) h2
  refine Pd.mono (.tup (.cons (Pd.str.mono (by omega) h1) a)) (by omega) (by omega)
/-- the verdict's word -/
def wordOf (rn : Rn) : Str := match ringsL (waitsL rn) with
  | _ :: _ => Str.ofString "ring"
  | [] => Str.ofString "order"
def someOf (rn : Rn) : List Int := (match ringsL (waitsL rn) with
  | c :: _ => c
  | [] => orderL rn).map fun n : Nat => (n : Int)
theorem found_eq (rn : Rn) : foundD rn = ppD (wordOf rn) [someOf rn] := by
  unfold foundD wordOf someOf ppD
  cases ringsL (waitsL rn) with
  | nil =>
    simp only [List.map_cons, List.map_nil, intsD, nats_ints]
  | cons c r =>
    simp only [List.map_cons, List.map_nil, intsD, nats_ints, ringD]
theorem some_ok {rn : Rn} (ok : RnOk rn) : (someOf rn).length ≤ 12 ∧ ∀ x ∈ someOf rn, 0 ≤ x ∧ x < 12 := by
  have hn := ok.n2
  unfold someOf
  cases h : ringsL (waitsL rn) with
  | nil =>
    have h := ordG_sub (waitsL rn) rn.length (moversL rn)
    refine ⟨by rw [List.length_map]; exact Nat.le_trans h.1 hn, fun x hx => ?_⟩
    obtain ⟨y, hy, rfl⟩ := List.mem_map.mp hx
    have := moversL_lt rn y (h.2 y hy)
    omega
  | cons c r =>
    obtain ⟨k, hk, hr, _⟩ := mem_ringsL.mp (show c ∈ ringsL (waitsL rn) by rw [h]; exact List.mem_cons_self)
    obtain ⟨l, ch, _⟩ := ring_chn (ws_ok ok) hk hr
    have h1 := range_le ch.nd ch.lt
    have hl := ws_len rn
    refine ⟨by rw [List.length_map]; show c.length ≤ 12; omega, fun x hx => ?_⟩
    obtain ⟨y, hy, rfl⟩ := List.mem_map.mp hx
    have := ch.lt y hy
    omega
theorem word_len (rn : Rn) : (wordOf rn).length ≤ 5 := by
  unfold wordOf
  split <;> decide +kernel
theorem judge_word {rn : Rn} (ok : RnOk rn) {w : Str} {ls : List (List Int)} (h : judgeB rn w ls = true) : w = wordOf rn := by
  unfold judgeB at h
  split at h
  · rename_i l
    split at h
    · rename_i hw
      have := order_acc ok h
      unfold wordOf
      rw [this]
      exact hw
    · simp only [Bool.and_eq_true, decide_eq_true_eq] at h
      have := ring_acc ok h.2
      unfold wordOf
      split
      · exact h.1
      · rename_i e
        exact absurd e this
  · cases h
theorem eqv_same {d : D} (h : d.hasDict = false) : PyData.eqv d d = true := PySem.SeqAt.eqv_refl_plain d (plain_nd d h)
def q_law_8 : QS :=
  (qSeq (qAsg (qLst qNil) (qgN 9))
  (qSeq (qFor (qiL (qCall 3 P__law_papers (qCons (qVar 2) (qCons (qVar 6) (qCons (qVar 1) qNil))))) (qgN 10)
   (qSeq (qAsg (qUn opShow (qVar 10)) (qgN 11))
   (qFrz 11 (qSeq (qAsg (qCall 2 P_judge_order (qCons (qVar 4) (qCons (qVar 10) qNil))) (qgN 12))
   (qSeq (qIfS (qOr (qNot (qB (qUn (opIsi "bool") (qVar 12)))) (qOr (qB (qOp opNe (qVar 12) (qCall 2 P__law_accepts (qCons (qVar 2) (qCons (qVar 10) qNil))))) (qB (qOp opNe (qUn opShow (qVar 10)) (qVar 11)))))
    (qRet (qC (.bool false)))
    qNext)
   (qSeq (qIfS (qB (qVar 12))
    (qDrop (qApp 9 (qOp opIx (qVar 10) (qC (.int 0)))))
    qNext)
   (qSeq (qAsg (qCall 2 P_judge_order (qCons (qUn opList (qVar 3)) (qCons (qVar 10) qNil))) (qgN 12))
   (qIfS (qOr (qNot (qB (qUn (opIsi "bool") (qVar 12)))) (qB (qOp opNe (qVar 12) (qCall 2 P__law_accepts (qCons (qVar 3) (qCons (qVar 10) qNil))))))
    (qRet (qC (.bool false)))
    qNext))))))))
  (qRet (qAndV (qOp opEq (qVar 4) (qVar 2)) (qOp opEq (qUn opLen (qLc [13] (qiL (qVar 9)) (qgN 13) (qB (qOp opNe (qVar 13) (qOp opIx (qVar 6) (qC (.int 0))))) (qVar 13))) (qC (.int 0)))))))
def q_law_7 : QS :=
  (qSeq (qFor (qiR1 (qCons (qC (.int 2)) qNil)) (qgN 7)
   (qSeq (qAsg (qCallD 1 P_find_order (qCons (qVar 4) qNil)) (qgN 8))
   (qSeq (qIfS (qNot (qB (qCallB 2 P__law_same [8, 6])))
    (qRet (qC (.bool false)))
    qNext)
   (qDrop (qFgt 8 (fun d => (some d).bind (ixP 1)))))))
  q_law_8)
def q_law_6 : QS :=
  (qSeq (qIfS (qB (qOp opGt (qUn opLen (qVar 5)) (qC (.int 0))))
   (qAsg (qTup (qCons (qC (.str "ring")) (qCons (qOp opIx (qVar 5) (qC (.int 0))) qNil))) (qgN 6))
   qNext)
  q_law_7)
-- law(script) slots: 0=script 1=draws 2=renaming 3=third 4=handed 5=rings 6=verdict* 7=turn 8=told 9=kinds 10=paper 11=kept 12=answer 13=kind
def q_law : QS :=
  (qSeq (qAsg (qCall 3 P__law_numbers (qCons (qCall 2 P__law_cell (qCons (qVar 0) (qCons (qC (.int 4)) qNil))) (qCons (qC (.int 8)) (qCons (qC (.int 5040)) qNil)))) (qgN 1))
  (qFrz 1 (qSeq (qAsg (qCall 2 P__law_renaming (qCons (qVar 0) (qCons (qC (.int 0)) qNil))) (qgN 2))
  (qFrz 2 (qSeq (qAsg (qCall 2 P__law_renaming (qCons (qVar 0) (qCons (qC (.int 2)) qNil))) (qgN 3))
  (qFrz 3 (qSeq (qAsg (qUn opList (qVar 2)) (qgN 4))
  (qFrz 4 (qSeq (qAsg (qCall 1 P__law_rings (qCons (qVar 2) qNil)) (qgN 5))
  (qFrz 5 (qSeq (qAsg (qTup (qCons (qC (.str "order")) (qCons (qCall 1 P__law_order (qCons (qVar 2) qNil)) qNil))) (qgN 6))
  q_law_6)))))))))))
def P_law : PD := fun ds R => ∃ ns : List Int, ds = [scrD ns] ∧ ns.length ≤ 63 ∧ R (.sh (.bool true))
theorem law_8 {R : Wv → Prop} {ns dr : List Int} {rn th : Rn} (hl : ns.length ≤ 63) (hdl : dr.length = 8) (hdr : ∀ x ∈ dr, 0 ≤ x ∧ x < 5040) (ok : RnW rn) (ok3 : RnW th) (h : R (.sh (.bool true))) (x5 x7 x8 : Sl) :
    q_law_8 (endsOf R) [.sh (scrD ns), .sh (intsD dr), .sh (rnD rn), .sh (rnD th), .sh (rnD rn), x5, .sh (foundD rn), x7, x8, .un, .un, .un, .un, .un] := by
  obtain ⟨hsl, hsr⟩ := some_ok ok.ok
  have hwl := word_len rn
  rw [found_eq]
  ac_rfl
  refine ⟨rn, wordOf rn, someOf rn, dr, rfl, ok.ok, hwl, hsl, hsr, hdl, hdr, fun ps hps hpl => ?_⟩
  ac_rfl
  rw [show ps = ps.map (fun d : D => d) from (List.map_id' ps).symm]
  refine forGo_ok (fun d : D => d) (fun r Γ => ∃ (kinds : List Unit) (a b c d : Sl), Γ = [.sh (scrD ns), .sh (intsD dr), .sh (rnD rn), .sh (rnD th), .sh (rnD rn), x5, .sh (ppD (wordOf rn) [someOf rn]), x7, x8, .ow (.l (kinds.map fun _ => .str (wordOf rn))), a, b, c, .un] ∧ kinds.length + r.length ≤ 100 ∧ ∀ d ∈ r, PpOk d) ?_ ?_ ps _ ⟨[], _, _, _, .un, rfl, by simpa using hpl, hps⟩
  · rintro Γ ⟨kinds, a, b, c, d, rfl, hk, _⟩
    have ern := rn_pd ok
    ac_rfl
    refine ⟨by rw [ern.flat (by omega)]; rfl, ?_⟩
    dsimp only
    rw [ern.refl]
    ac_rfl
    refine lc0_fil (vs := [13]) (fun _ : Unit => .str (wordOf rn)) (fun _ => false) (fun _ => .str (wordOf rn)) kinds (fun x hx acc K ha hK1 hK2 => ?_) (small (by have : kinds.length + 0 ≤ 100 := hk; omega)) ?_
    · ac_rfl
      rw [eqv_str]
      refine Cif.ff (by simp) ?_
      exact hK2 rfl
    · ac_rfl
      have e0 : List.filter (fun _ : Unit => false) kinds = [] := List.filter_eq_nil_iff.mpr (by simp)
      rw [e0]
      exact h
  · rintro p r Γ K ⟨kinds, a, b, c, d, rfl, hk, hr⟩ hK
    have hp := pp_pd (hr p (by simp))
    obtain ⟨s1, s2, s3⟩ := hp.show (by omega) (by omega)
    obtain ⟨w, ls, rfl, h1, h2, h3⟩ := hr p (by simp)
    ac_rfl
    refine ⟨rn, w, ls, rfl, ok.ok, fun l hl => by have := (h3 l hl).1; omega, by omega, ?_⟩
    ac_rfl
    refine ⟨rn, w, ls, rfl, ok.ok, fun l hl => by have := (h3 l hl).1; omega, by omega, ?_⟩
    ac_rfl
    refine Cif.ff (by rw [eqv_bool]; simp) ?_
    ac_rfl
    rw [eqv_str]
    refine Cif.ff (by simp) ?_
    ac_rfl
    simp only [List.length_cons] at hk
    have hkl : (kinds.map fun _ => PyData.str (wordOf rn)).length ≤ 100 := by rw [List.length_map]; omega
    have hr2 : ∀ d ∈ r, PpOk d := fun d hd => hr d (List.mem_cons_of_mem _ hd)
    have l3 : ∀ l ∈ ls, l.length ≤ 1000 := fun l hl => by have := (h3 l hl).1; omega
    refine ⟨fun hz => ?_, fun hz => ?_⟩
    · have hw := judge_word ok.ok hz
      ac_rfl
      refine ⟨th, w, ls, rfl, ok3.ok, l3, by omega, ?_⟩
      ac_rfl
      refine ⟨th, w, ls, rfl, ok3.ok, l3, by omega, ?_⟩
      ac_rfl
      refine Cif.ff (by rw [eqv_bool]; simp) ?_
      ac_rfl
      exact hK _ ⟨kinds ++ [()], _, _, _, .un, by rw [List.map_append]; subst hw; rfl, by simp; omega, hr2⟩
    · ac_rfl
      refine ⟨th, w, ls, rfl, ok3.ok, l3, by omega, ?_⟩
      ac_rfl
      refine ⟨th, w, ls, rfl, ok3.ok, l3, by omega, ?_⟩
      ac_rfl
      refine Cif.ff (by rw [eqv_bool]; simp) ?_
      ac_rfl
      exact hK _ ⟨kinds, _, _, _, .un, rfl, by omega, hr2⟩
theorem free_rn (rn : Rn) (ok : RnOk rn) (Q : List D → Prop) (h : ∀ ds, Q ds → ∀ d ∈ ds, ∃ i, d = .int i) : freeA Q [rnD rn] := by
  have hn := ok.n1
  refine ⟨⟨fun z => ?_, ?_⟩, trivial⟩
  · cases rn with
    | nil => simp at hn
    | cons p r =>
      obtain ⟨i, hi⟩ := h _ z (prD p) (by simp)
      cases hi
  · clear hn ok
    induction rn with
    | nil => trivial
    | cons p r ih => exact ⟨⟨trivial, trivial, trivial⟩, ih⟩
theorem all_pp (w : Str) (l : List Int) : allD (fun ds => ∀ d ∈ ds, ∃ i, d = .int i) (ppD w [l]) := by
  have : ∀ l : List Int, allA (fun ds => ∀ d ∈ ds, ∃ i, d = .int i) (l.map .int) := fun l => by
    induction l with
    | nil => trivial
    | cons x r ih => exact ⟨trivial, ih⟩
  refine ⟨trivial, ⟨fun d hd => ?_, this l⟩, trivial⟩
  obtain ⟨x, _, rfl⟩ := List.mem_map.mp hd
  exact ⟨x, rfl⟩
theorem same_pp {w : Str} {l : List Int} (h : l.length ≤ 12) : sameOk 3 (ppD w [l]) = true := by
  simp only [sameOk, ppD, intsD, List.map_cons, List.map_nil, List.all_cons, List.all_nil, Bool.and_true, Bool.true_and, List.length_cons, List.length_nil, Bool.and_eq_true, decide_eq_true_eq, List.length_map]
  refine ⟨by omega, by omega, ?_⟩
  rw [List.all_eq_true]
  intro d hd
  obtain ⟨x, _, rfl⟩ := List.mem_map.mp hd
  rfl
theorem law_7 {R : Wv → Prop} {ns dr : List Int} {rn th : Rn} (hl : ns.length ≤ 63) (hdl : dr.length = 8) (hdr : ∀ x ∈ dr, 0 ≤ x ∧ x < 5040) (ok : RnW rn) (ok3 : RnW th) (h : R (.sh (.bool true))) (x5 : Sl) :
    q_law_7 (endsOf R) [.sh (scrD ns), .sh (intsD dr), .sh (rnD rn), .sh (rnD th), .sh (rnD rn), x5, .sh (foundD rn), .un, .un, .un, .un, .un, .un, .un] := by
  have tail := fun x7 x8 => law_8 hl hdl hdr ok ok3 h x5 x7 x8
  unfold q_law_7
  generalize q_law_8 = tl8 at *
  have hsl := (some_ok ok.ok).1
  rw [found_eq]
  rw [found_eq] at tail
  ac_rfl
  refine ⟨fun ds => ∀ d ∈ ds, ∃ i, d = .int i, free_rn rn ok.ok _ fun _ z => z, rn, rfl, ok.ok, ?_⟩
  rw [found_eq]
  refine ⟨all_pp _ _, ?_⟩
  ac_rfl
  refine ⟨ppD (wordOf rn) [someOf rn], rfl, same_pp hsl, rfl, ?_⟩
  ac_rfl
  refine ⟨fun ds => ∀ d ∈ ds, ∃ i, d = .int i, free_rn rn ok.ok _ fun _ z => z, rn, rfl, ok.ok, ?_⟩
  rw [found_eq]
  refine ⟨all_pp _ _, ?_⟩
  ac_rfl
  refine ⟨ppD (wordOf rn) [someOf rn], rfl, same_pp hsl, rfl, ?_⟩
  ac_rfl
  exact tail _ _
theorem law_6 {R : Wv → Prop} {ns dr : List Int} {rn th : Rn} (hl : ns.length ≤ 63) (hdl : dr.length = 8) (hdr : ∀ x ∈ dr, 0 ≤ x ∧ x < 5040) (ok : RnW rn) (ok3 : RnW th) (h : R (.sh (.bool true))) :
    q_law_6 (endsOf R) [.sh (scrD ns), .sh (intsD dr), .sh (rnD rn), .sh (rnD th), .sh (rnD rn), .sh (.list ((ringsL (waitsL rn)).map ringD)), .sh (.tuple [.str (Str.ofString "order"), .list ((orderL rn).map natD)]), .un, .un, .un, .un, .un, .un, .un] := by
  have tail := law_7 hl hdl hdr ok ok3 h (.sh (.list ((ringsL (waitsL rn)).map ringD)))
  unfold q_law_6
  generalize q_law_7 = tl7 at *
  have hlm : ((ringsL (waitsL rn)).map ringD).length = (ringsL (waitsL rn)).length := List.length_map _
  unfold foundD at tail
  ac_rfl
  cases hc : ringsL (waitsL rn) with
  | nil =>
    rw [hc] at tail
    ac_rfl
    exact tail
  | cons c r =>
    rw [hc] at tail
    refine Cif.tt (by show decide ((0 : Int) < ((List.map ringD (c :: r)).length : Nat)) = true; simp) ?_
    ac_rfl
    exact tail
theorem pure_law : ∀ ds R, ds.length = 1 → P_law ds R → q_law (endsOf R) (startEv 14 ds) := by
  rintro ds R - ⟨ns, rfl, hl, h⟩
  have tail := fun {dr rn th} => law_6 (R := R) (ns := ns) (dr := dr) (rn := rn) (th := th) hl
  unfold q_law
  generalize q_law_6 = tl6 at *
  ac_rfl
  refine ⟨ns, 4, rfl, hl, fun i => ?_⟩
  ac_rfl
  refine ⟨i, 8, 5040, rfl, by omega, by omega, by omega, fun dr hdl hdr => ?_⟩
  ac_rfl
  refine ⟨ns, 0, rfl, hl, fun rn ok => ?_⟩
  ac_rfl
  refine ⟨ns, 2, rfl, hl, fun th ok3 => ?_⟩
  ac_rfl
  refine ⟨rn, rfl, ok.ok, ?_⟩
  ac_rfl
  refine ⟨rn, rfl, ok.ok, ?_⟩
  ac_rfl
  exact tail hdl hdr ok ok3 h
end PL

namespace PL
open PySem PySem.Spec PyProof.Rows L2

structure Mg (mg : Str → Option Value) : Prop where
  all_ : mg "all" = none
  bool_ : mg "bool" = none
  enumerate_ : mg "enumerate" = none
  int_ : mg "int" = none
  isinstance_ : mg "isinstance" = none
  len_ : mg "len" = none
  list_ : mg "list" = none
  max_ : mg "max" = none
  min_ : mg "min" = none
  range_ : mg "range" = none
  repr_ : mg "repr" = none
  sorted_ : mg "sorted" = none
  str_ : mg "str" = none
  tuple_ : mg "tuple" = none
def topS (i : Nat) : Stmt := PySem.Challenge.pw_lettersacross_k70_orders_of_renamings_or.main.body.getD i (.Pass ⟨0, 0, 0, 0⟩)

section
variable {P : Program} {w : World} {K : PySem.W.Frag} {mg : Str → Option Value} {base : Heap}
abbrev s_movers_of : Stmt := topS 1
abbrev N_movers_of : List Str := ["renaming", "k", "old", "new"]
theorem sc_movers_of : FnScope N_movers_of ["renaming"] (defScope s_movers_of) := ⟨rfl, rfl, rfl, by decide +kernel, rfl, by decide +kernel, by decide +kernel⟩
theorem cal_movers_of {f : Addr} {fd : FuncData} (M : Mg mg) (F : L2.Fun K "movers_of" "movers_of" s_movers_of f fd) (hm : mg "movers_of" = some (.ref f)) (b : Binds K fd ["renaming"] []) : Cal P w K mg base 1 "movers_of" (spD 1 P_movers_of) :=
  have nd := sc_movers_of.nd
  cal_mk F hm b sc_movers_of fun cdv A outer s H E hr => ⟨_, q_movers_of, (dss_one (ds_ret (b_lc (own := [("k", 1), ("old", 2), ("new", 3)]) rfl nd (di_enum M.enumerate_ (da_cons (d_var 0) da_nil)) (blkOk_by (by kernel_rfl)) (fun _ _ _ _ _ => (dg_tup rfl (dgs_cons (dg_name nd) (dgs_cons (dg_tup rfl (dgs_cons (dg_name nd) (dgs_cons (dg_name nd) dgs_nil))) dgs_nil)))) (fun _ _ _ _ _ => (dts_one (d_tcmp (or_ne hr) os_ne (d_var 2) (d_var 3)))) (fun _ _ _ _ _ => (d_var 1))))), pure_movers_of⟩

abbrev s_waits_of : Stmt := topS 2
abbrev N_waits_of : List Str := ["renaming", "holders", "k", "old", "_", "new"]
theorem sc_waits_of : FnScope N_waits_of ["renaming"] (defScope s_waits_of) := ⟨rfl, rfl, rfl, by decide +kernel, rfl, by decide +kernel, by decide +kernel⟩
theorem cal_waits_of {f : Addr} {fd : FuncData} (M : Mg mg) (F : L2.Fun K "waits_of" "waits_of" s_waits_of f fd) (hm : mg "waits_of" = some (.ref f)) (b : Binds K fd ["renaming"] []) : Cal P w K mg base 1 "waits_of" (spD 1 P_waits_of) :=
  have nd := sc_waits_of.nd
  cal_mk F hm b sc_waits_of fun cdv A outer s H E hr => ⟨_, q_waits_of, (dss_cons (ds_set nd (b_dc false (own := [("k", 2), ("old", 3), ("_", 4)]) hr rfl nd (di_enum M.enumerate_ (da_cons (d_var 0) da_nil)) (blkOk_by (by kernel_rfl)) (fun _ _ _ _ _ => (dg_tup rfl (dgs_cons (dg_name nd) (dgs_cons (dg_tup rfl (dgs_cons (dg_name nd) (dgs_cons (dg_name nd) dgs_nil))) dgs_nil)))) (fun _ _ _ _ _ => dts_nil) (fun _ _ _ _ _ => (d_var 3)) (fun _ _ _ _ _ => (d_var 2))))
  (dss_one (ds_ret (b_lc (own := [("old", 3), ("new", 5)]) rfl nd (di_list (d_var 0)) (blkOk_by (by kernel_rfl)) (fun _ _ _ _ _ => (dg_tup rfl (dgs_cons (dg_name nd) (dgs_cons (dg_name nd) dgs_nil)))) (fun _ _ _ _ _ => dts_nil) (fun _ _ _ _ _ => (d_if (d_tcmp (or_eq hr) os_eq (d_var 3) (d_var 5)) d_non (d_get1 hr (d_var 1) (d_var 5)))))))), pure_waits_of⟩

abbrev s_ring_from : Stmt := topS 3
abbrev N_ring_from : List Str := ["waits", "person", "chain", "following"]
theorem sc_ring_from : FnScope N_ring_from ["waits", "person"] (defScope s_ring_from) := ⟨rfl, rfl, rfl, by decide +kernel, rfl, by decide +kernel, by decide +kernel⟩
theorem cal_ring_from {f : Addr} {fd : FuncData} (M : Mg mg) (F : L2.Fun K "ring_from" "ring_from" s_ring_from f fd) (hm : mg "ring_from" = some (.ref f)) (b : Binds K fd ["waits", "person"] []) : Cal P w K mg base 1 "ring_from" (spD 2 P_ring_from) :=
  have nd := sc_ring_from.nd
  cal_mk F hm b sc_ring_from fun cdv A outer s H E hr => ⟨_, q_ring_from, (dss_cons (ds_set nd (d_lst (da_cons (d_var 1) da_nil)))
  (dss_cons (ds_set nd (d_sub_ix (d_var 0) (d_var 1)))
  (dss_frz 3 (dss_cons (ds_while PassesOwn.never (dw_and (d_tcmp op_notN os_isNot (d_var 3) d_non) (dw_and1 (d_tcmp (or_ne hr) os_ne (d_var 3) (d_var 1)))).dt
   (dss_cons (ds_expr (d_append 2 (d_var 3)))
   (dss_one (ds_set nd (d_sub_ix (d_var 0) (d_var 3))))))
  (dss_cons (ds_if (d_tcmp op_isN os_is (d_var 3) d_non)
   (dss_one (ds_ret d_non))
   dss_nil)
  (dss_one (ds_ret (d_var 2)))))))), pure_ring_from⟩

abbrev s_rings_of : Stmt := topS 4
abbrev N_rings_of : List Str := ["renaming", "waits", "found", "person", "ring"]
theorem sc_rings_of : FnScope N_rings_of ["renaming"] (defScope s_rings_of) := ⟨rfl, rfl, rfl, by decide +kernel, rfl, by decide +kernel, by decide +kernel⟩
theorem cal_rings_of {f : Addr} {fd : FuncData} (M : Mg mg) (c_ring_from : Cal P w K mg base 1 "ring_from" (spD 2 P_ring_from)) (c_waits_of : Cal P w K mg base 1 "waits_of" (spD 1 P_waits_of)) (F : L2.Fun K "rings_of" "rings_of" s_rings_of f fd) (hm : mg "rings_of" = some (.ref f)) (b : Binds K fd ["renaming"] []) : Cal P w K mg base 2 "rings_of" (spD 1 P_rings_of) :=
  have nd := sc_rings_of.nd
  cal_mk F hm b sc_rings_of fun cdv A outer s H E hr => ⟨_, q_rings_of, (dss_cons (ds_set nd (d_call c_waits_of hr (da_cons (d_var 0) da_nil)))
  (dss_frz 1 (dss_cons (bs_setLc (own := [("person", 3)]) rfl nd (di_range1 M.range_ (da_cons (d_len M.len_ (d_var 0)) da_nil)) (blkOk_by (by kernel_rfl)) (fun _ _ _ _ _ => (dg_name nd)) (fun _ _ _ _ _ => dts_nil) (fun _ _ _ _ _ => (d_call c_ring_from hr (da_cons (d_var 1) (da_cons (d_var 3) da_nil)))) (sw_true rfl rfl rfl (by decide +kernel)))
  (dss_frz 2 (dss_one (ds_ret (b_lc (own := [("ring", 4)]) rfl nd (di_list (d_var 2)) (blkOk_by (by kernel_rfl)) (fun _ _ _ _ _ => (dg_name nd)) (fun _ _ _ _ _ => (dts_one (dw_and (d_tcmp op_notN os_isNot (d_var 4) d_non) (dw_and1 (d_tcmp (or_eq hr) os_eq (d_sub_ix (d_var 4) d_int) (d_min rfl M.min_ (d_var 4))))).dt)) (fun _ _ _ _ _ => (d_var 4))))))))), pure_rings_of⟩

abbrev s_find_order : Stmt := topS 5
abbrev N_find_order : List Str := ["renaming", "rings", "waits", "left", "order", "able", "person"]
theorem sc_find_order : FnScope N_find_order ["renaming"] (defScope s_find_order) := ⟨rfl, rfl, rfl, by decide +kernel, rfl, by decide +kernel, by decide +kernel⟩
theorem cal_find_order {f : Addr} {fd : FuncData} (M : Mg mg) (c_movers_of : Cal P w K mg base 1 "movers_of" (spD 1 P_movers_of)) (c_rings_of : Cal P w K mg base 2 "rings_of" (spD 1 P_rings_of)) (c_waits_of : Cal P w K mg base 1 "waits_of" (spD 1 P_waits_of)) (F : L2.Fun K "find_order" "find_order" s_find_order f fd) (hm : mg "find_order" = some (.ref f)) (b : Binds K fd ["renaming"] []) : Cal P w K mg base 3 "find_order" (spD 1 P_find_order) :=
  have nd := sc_find_order.nd
  cal_mk F hm b sc_find_order fun cdv A outer s H E hr => ⟨_, q_find_order, (dss_cons (ds_set nd (d_call c_rings_of hr (da_cons (d_var 0) da_nil)))
  (dss_frz 1 (dss_cons (ds_if (d_tru (d_var 1))
   (dss_one (ds_ret (d_tup (da_cons d_str (da_cons (d_sub_ix (d_var 1) d_int) da_nil)))))
   dss_nil)
  (dss_cons (ds_set nd (d_call c_waits_of hr (da_cons (d_var 0) da_nil)))
  (dss_frz 2 (dss_cons (ds_set nd (d_call c_movers_of hr (da_cons (d_var 0) da_nil)))
  (dss_frz 3 (dss_cons (ds_set nd (d_lst da_nil))
  (dss_cons (ds_while PassesOwn.never (d_tru (d_var 3))
   (dss_cons (ds_set nd (b_lc (own := [("person", 6)]) rfl nd (di_list (d_var 3)) (blkOk_by (by kernel_rfl)) (fun _ _ _ _ _ => (dg_name nd)) (fun _ _ _ _ _ => (dts_one (d_tcmp (or_notIn hr) os_in (d_sub_ix (d_var 2) (d_var 6)) (d_var 3)))) (fun _ _ _ _ _ => (d_var 6))))
   (dss_frz 5 (dss_cons (ds_expr (d_append 4 (d_sub_ix (d_var 5) d_int)))
   (dss_one (ds_set nd (b_lc (own := [("person", 6)]) rfl nd (di_list (d_var 3)) (blkOk_by (by kernel_rfl)) (fun _ _ _ _ _ => (dg_name nd)) (fun _ _ _ _ _ => (dts_one (d_tcmp (or_ne hr) os_ne (d_var 6) (d_sub_ix (d_var 5) d_int)))) (fun _ _ _ _ _ => (d_var 6)))))))))
  (dss_one (ds_ret (d_tup (da_cons d_str (da_cons (d_var 4) da_nil)))))))))))))), pure_find_order⟩

abbrev s_is_ring : Stmt := topS 6
abbrev N_is_ring : List Str := ["renaming", "ring", "waits", "person", "k"]
theorem sc_is_ring : FnScope N_is_ring ["renaming", "ring"] (defScope s_is_ring) := ⟨rfl, rfl, rfl, by decide +kernel, rfl, by decide +kernel, by decide +kernel⟩
theorem cal_is_ring {f : Addr} {fd : FuncData} (M : Mg mg) (c_waits_of : Cal P w K mg base 1 "waits_of" (spD 1 P_waits_of)) (F : L2.Fun K "is_ring" "is_ring" s_is_ring f fd) (hm : mg "is_ring" = some (.ref f)) (b : Binds K fd ["renaming", "ring"] []) : Cal P w K mg base 2 "is_ring" (spD 2 P_is_ring) :=
  have nd := sc_is_ring.nd
  cal_mk F hm b sc_is_ring fun cdv A outer s H E hr => ⟨_, q_is_ring, (dss_cons (ds_if (dw_or (d_tcmp or_lt os_ord (d_len M.len_ (d_var 1)) d_int) (dw_or1 (dt_not (d_tb (d_all rfl M.all_ (b_lc (own := [("person", 3)]) rfl nd (di_list (d_var 1)) (blkOk_by (by kernel_rfl)) (fun _ _ _ _ _ => (dg_name nd)) (fun _ _ _ _ _ => dts_nil) (fun _ _ _ _ _ => (d_chain or_le or_lt os_ord os_ord d_int (d_var 3) (d_len M.len_ (d_var 0)))))))))).dt
   (dss_one (ds_ret d_bl))
   dss_nil)
  (dss_cons (ds_if (d_tcmp (or_ne hr) os_ne (d_lenD M.len_ (b_dc false (own := [("person", 3)]) hr rfl nd (di_list (d_var 1)) (blkOk_by (by kernel_rfl)) (fun _ _ _ _ _ => (dg_name nd)) (fun _ _ _ _ _ => dts_nil) (fun _ _ _ _ _ => (d_var 3)) (fun _ _ _ _ _ => d_bl))) (d_len M.len_ (d_var 1)))
   (dss_one (ds_ret d_bl))
   dss_nil)
  (dss_cons (ds_set nd (d_call c_waits_of hr (da_cons (d_var 0) da_nil)))
  (dss_frz 2 (dss_one (ds_ret (d_all rfl M.all_ (b_lc (own := [("k", 4)]) rfl nd (di_range1 M.range_ (da_cons (d_len M.len_ (d_var 1)) da_nil)) (blkOk_by (by kernel_rfl)) (fun _ _ _ _ _ => (dg_name nd)) (fun _ _ _ _ _ => dts_nil) (fun _ _ _ _ _ => (d_cmp (or_eq hr) os_eq (d_sub_ix (d_var 2) (d_sub_ix (d_var 1) (d_sub (d_var 4) d_int))) (d_sub_ix (d_var 1) (d_var 4)))))))))))), pure_is_ring⟩

abbrev s_is_order : Stmt := topS 7
abbrev N_is_order : List Str := ["renaming", "order", "waits", "k", "person"]
theorem sc_is_order : FnScope N_is_order ["renaming", "order"] (defScope s_is_order) := ⟨rfl, rfl, rfl, by decide +kernel, rfl, by decide +kernel, by decide +kernel⟩
theorem cal_is_order {f : Addr} {fd : FuncData} (M : Mg mg) (c_movers_of : Cal P w K mg base 1 "movers_of" (spD 1 P_movers_of)) (c_waits_of : Cal P w K mg base 1 "waits_of" (spD 1 P_waits_of)) (F : L2.Fun K "is_order" "is_order" s_is_order f fd) (hm : mg "is_order" = some (.ref f)) (b : Binds K fd ["renaming", "order"] []) : Cal P w K mg base 2 "is_order" (spD 2 P_is_order) :=
  have nd := sc_is_order.nd
  cal_mk F hm b sc_is_order fun cdv A outer s H E hr => ⟨_, q_is_order, (dss_cons (ds_if (d_tcmp (or_ne hr) os_ne (d_sortI M.sorted_ (d_var 1)) (d_call c_movers_of hr (da_cons (d_var 0) da_nil)))
   (dss_one (ds_ret d_bl))
   dss_nil)
  (dss_cons (ds_set nd (d_call c_waits_of hr (da_cons (d_var 0) da_nil)))
  (dss_frz 2 (dss_one (ds_ret (d_all rfl M.all_ (b_lc (own := [("k", 3), ("person", 4)]) rfl nd (di_enum M.enumerate_ (da_cons (d_var 1) da_nil)) (blkOk_by (by kernel_rfl)) (fun _ _ _ _ _ => (dg_tup rfl (dgs_cons (dg_name nd) (dgs_cons (dg_name nd) dgs_nil)))) (fun _ _ _ _ _ => dts_nil) (fun _ _ _ _ _ => (d_cmp (or_notIn hr) os_in (d_sub_ix (d_var 2) (d_var 4)) (d_slice (d_var 1) (do_some (d_add (d_var 3) d_int)) do_none)))))))))), pure_is_order⟩

abbrev s_judge_order : Stmt := topS 8
abbrev N_judge_order : List Str := ["renaming", "verdict"]
theorem sc_judge_order : FnScope N_judge_order ["renaming", "verdict"] (defScope s_judge_order) := ⟨rfl, rfl, rfl, by decide +kernel, rfl, by decide +kernel, by decide +kernel⟩
theorem cal_judge_order {f : Addr} {fd : FuncData} (M : Mg mg) (c_is_order : Cal P w K mg base 2 "is_order" (spD 2 P_is_order)) (c_is_ring : Cal P w K mg base 2 "is_ring" (spD 2 P_is_ring)) (F : L2.Fun K "judge_order" "judge_order" s_judge_order f fd) (hm : mg "judge_order" = some (.ref f)) (b : Binds K fd ["renaming", "verdict"] []) : Cal P w K mg base 3 "judge_order" (spD 2 P_judge_order) :=
  have nd := sc_judge_order.nd
  cal_mk F hm b sc_judge_order fun cdv A outer s H E hr => ⟨_, q_judge_order, (dss_cons (ds_if (d_tcmp (or_ne hr) os_ne (d_len M.len_ (d_var 1)) d_int)
   (dss_one (ds_ret d_bl))
   dss_nil)
  (dss_cons (ds_if (d_tcmp (or_eq hr) os_eq (d_sub_ix (d_var 1) d_int) d_str)
   (dss_one (ds_ret (d_call c_is_order hr (da_cons (d_var 0) (da_cons (d_sub_ix (d_var 1) d_int) da_nil)))))
   dss_nil)
  (dss_one (ds_ret (d_and (d_cmp (or_eq hr) os_eq (d_sub_ix (d_var 1) d_int) d_str) (d_one (d_call c_is_ring hr (da_cons (d_var 0) (da_cons (d_sub_ix (d_var 1) d_int) da_nil))))))))), pure_judge_order⟩

abbrev s__law_cell : Stmt := topS 10
abbrev N__law_cell : List Str := ["script", "k"]
theorem sc__law_cell : FnScope N__law_cell ["script", "k"] (defScope s__law_cell) := ⟨rfl, rfl, rfl, by decide +kernel, rfl, by decide +kernel, by decide +kernel⟩
theorem cal__law_cell {f : Addr} {fd : FuncData} (M : Mg mg) (F : L2.Fun K "_law_cell" "_law_cell" s__law_cell f fd) (hm : mg "_law_cell" = some (.ref f)) (b : Binds K fd ["script", "k"] []) : Cal P w K mg base 1 "_law_cell" (spD 2 P__law_cell) :=
  have nd := sc__law_cell.nd
  cal_mk F hm b sc__law_cell fun cdv A outer s H E hr => ⟨_, q__law_cell, (dss_cons (ds_if (d_tcmp or_lt os_ord (d_var 1) (d_len M.len_ (d_var 0)))
   (dss_one (ds_ret (d_int1 M.int_ (d_sub_ix (d_var 0) (d_var 1)))))
   dss_nil)
  (dss_one (ds_ret d_int))), pure__law_cell⟩

abbrev s__law_numbers : Stmt := topS 11
abbrev N__law_numbers : List Str := ["cell", "count", "limit", "found", "k", "mixed"]
theorem sc__law_numbers : FnScope N__law_numbers ["cell", "count", "limit"] (defScope s__law_numbers) := ⟨rfl, rfl, rfl, by decide +kernel, rfl, by decide +kernel, by decide +kernel⟩
theorem cal__law_numbers {f : Addr} {fd : FuncData} (M : Mg mg) (F : L2.Fun K "_law_numbers" "_law_numbers" s__law_numbers f fd) (hm : mg "_law_numbers" = some (.ref f)) (b : Binds K fd ["cell", "count", "limit"] []) : Cal P w K mg base 1 "_law_numbers" (spD 3 P__law_numbers) :=
  have nd := sc__law_numbers.nd
  cal_mk F hm b sc__law_numbers fun cdv A outer s H E hr => ⟨_, q__law_numbers, (dss_cons (ds_set nd (d_lst da_nil))
  (dss_cons (ds_if (d_tcmp or_ge os_ord (d_var 0) (d_pow d_int d_int))
   (dss_cons (ds_for PassesOwn.never rfl (di_range1 M.range_ (da_cons (d_var 1) da_nil)) (dg_name nd)
    (dss_cons (ds_expr (d_append 3 (d_mod (d_int1 M.int_ (d_var 0)) (d_var 2))))
    (dss_one (ds_set nd (d_fdiv (d_int1 M.int_ (d_var 0)) (d_var 2))))))
   (dss_one (ds_ret (d_var 3))))
   dss_nil)
  (dss_cons (ds_for PassesOwn.never rfl (di_range1 M.range_ (da_cons (d_var 1) da_nil)) (dg_name nd)
   (dss_cons (ds_set nd (d_mod (d_int1 M.int_ (d_add (d_add (d_mul (d_var 0) d_int) (d_mul (d_var 4) d_int)) d_int)) d_int))
   (dss_cons (ds_set nd (d_mod (d_int1 M.int_ (d_add (d_add (d_add (d_mul (d_var 5) (d_var 5)) (d_mul (d_var 5) d_int)) (d_mul (d_var 4) d_int)) d_int)) d_int))
   (dss_one (ds_expr (d_append 3 (d_mod (d_int1 M.int_ (d_fdiv (d_var 5) d_int)) (d_var 2))))))))
  (dss_one (ds_ret (d_var 3)))))), pure__law_numbers⟩

abbrev s__law_same : Stmt := topS 12
abbrev N__law_same : List Str := ["told", "due", "k"]
theorem sc__law_same : FnScope N__law_same ["told", "due"] (defScope s__law_same) := ⟨rfl, rfl, rfl, by decide +kernel, rfl, by decide +kernel, by decide +kernel⟩
theorem calr__law_same {f : Addr} {fd : FuncData} (M : Mg mg) (F : L2.Fun K "_law_same" "_law_same" s__law_same f fd) (hm : mg "_law_same" = some (.ref f)) (b : Binds K fd ["told", "due"] []) : ∀ n : Nat, Cal P w K mg base (n + 1) "_law_same" (spD 2 (PR__law_same n))
  | 0 => cal_no F hm b sc__law_same
  | m + 1 =>
    have nd := sc__law_same.nd
    have c__law_same := calr__law_same M F hm b m
    cal_mk (k := m + 1) F hm b sc__law_same fun cdv A outer s H E hr => ⟨_, q__law_same (PR__law_same m), (dss_cons (ds_if (d_tb (d_isi (T := "list") (by simp) M.isinstance_ M.list_ (by decide +kernel) (d_var 1)))
   (dss_one (ds_if (dw_or (dt_not (d_tb (d_isi (T := "list") (by simp) M.isinstance_ M.list_ (by decide +kernel) (d_var 0)))) (dw_or1 (d_tcmp (or_ne hr) os_ne (d_len M.len_ (d_var 0)) (d_len M.len_ (d_var 1))))).dt
    (dss_one (ds_ret d_bl))
    dss_nil))
   (dss_one (ds_if (d_tb (d_isi (T := "tuple") (by simp) M.isinstance_ M.tuple_ (by decide +kernel) (d_var 1)))
    (dss_one (ds_if (dw_or (dt_not (d_tb (d_isi (T := "tuple") (by simp) M.isinstance_ M.tuple_ (by decide +kernel) (d_var 0)))) (dw_or1 (d_tcmp (or_ne hr) os_ne (d_len M.len_ (d_var 0)) (d_len M.len_ (d_var 1))))).dt
     (dss_one (ds_ret d_bl))
     dss_nil))
    (dss_one (ds_if (d_tcmp op_isN os_is (d_var 1) d_non)
     (dss_one (ds_ret (d_cmp op_isN os_is (d_var 0) d_non)))
     (dss_one (ds_if (d_tb (d_isi (T := "bool") (by simp) M.isinstance_ M.bool_ (by decide +kernel) (d_var 1)))
      (dss_one (ds_ret (d_and (d_isi (T := "bool") (by simp) M.isinstance_ M.bool_ (by decide +kernel) (d_var 0)) (d_one (d_cmp (or_eq hr) os_eq (d_var 0) (d_var 1))))))
      (dss_one (ds_if (d_tb (d_isi (T := "int") (by simp) M.isinstance_ M.int_ (by decide +kernel) (d_var 1)))
       (dss_one (ds_ret (d_and (d_isi (T := "int") (by simp) M.isinstance_ M.int_ (by decide +kernel) (d_var 0)) (d_and (d_not (d_isi (T := "bool") (by simp) M.isinstance_ M.bool_ (by decide +kernel) (d_var 0))) (d_one (d_cmp (or_eq hr) os_eq (d_var 0) (d_var 1)))))))
       (dss_one (ds_ret (d_and (d_isi (T := "str") (by simp) M.isinstance_ M.str_ (by decide +kernel) (d_var 0)) (d_one (d_cmp (or_eq hr) os_eq (d_var 0) (d_var 1)))))))))))))))
  (dss_cons (ds_for PassesOwn.never rfl (di_range1 M.range_ (da_cons (d_len M.len_ (d_var 1)) da_nil)) (dg_name nd)
   (dss_one (ds_if (dt_not (d_tb (d_call c__law_same hr (da_cons (d_sub_ix (d_var 0) (d_var 2)) (da_cons (d_sub_ix (d_var 1) (d_var 2)) da_nil)) (hk := Nat.le_refl _))))
    (dss_one (ds_ret d_bl))
    dss_nil)))
  (dss_one (ds_ret d_bl)))), pure__law_same m⟩
theorem cal__law_same {f : Addr} {fd : FuncData} (M : Mg mg) (F : L2.Fun K "_law_same" "_law_same" s__law_same f fd) (hm : mg "_law_same" = some (.ref f)) (b : Binds K fd ["told", "due"] []) : Cal P w K mg base 4 "_law_same" (spD 2 P__law_same) := calr__law_same M F hm b 3

abbrev s__law_letters : Stmt := topS 13
abbrev N__law_letters : List Str := ["draw", "count", "found", "k"]
theorem sc__law_letters : FnScope N__law_letters ["draw", "count"] (defScope s__law_letters) := ⟨rfl, rfl, rfl, by decide +kernel, rfl, by decide +kernel, by decide +kernel⟩
theorem cal__law_letters {f : Addr} {fd : FuncData} (M : Mg mg) (F : L2.Fun K "_law_letters" "_law_letters" s__law_letters f fd) (hm : mg "_law_letters" = some (.ref f)) (b : Binds K fd ["draw", "count"] []) : Cal P w K mg base 1 "_law_letters" (spD 2 P__law_letters) :=
  have nd := sc__law_letters.nd
  cal_mk F hm b sc__law_letters fun cdv A outer s H E hr => ⟨_, q__law_letters, (dss_cons (ds_set nd d_str)
  (dss_cons (ds_for PassesOwn.never rfl (di_range1 M.range_ (da_cons (d_var 1) da_nil)) (dg_name nd)
   (dss_cons (ds_set nd (d_add (d_var 2) (d_sub_ix d_str (d_mod (d_int1 M.int_ (d_var 0)) d_int))))
   (dss_one (ds_set nd (d_add (d_fdiv (d_int1 M.int_ (d_var 0)) d_int) (d_mul d_int (d_var 3)))))))
  (dss_one (ds_ret (d_var 2))))), pure__law_letters⟩

abbrev s__law_unique : Stmt := topS 14
abbrev N__law_unique : List Str := ["some", "found", "one"]
theorem sc__law_unique : FnScope N__law_unique ["some"] (defScope s__law_unique) := ⟨rfl, rfl, rfl, by decide +kernel, rfl, by decide +kernel, by decide +kernel⟩
theorem cal__law_unique {f : Addr} {fd : FuncData} (M : Mg mg) (F : L2.Fun K "_law_unique" "_law_unique" s__law_unique f fd) (hm : mg "_law_unique" = some (.ref f)) (b : Binds K fd ["some"] []) : Cal P w K mg base 1 "_law_unique" (spD 1 P__law_unique) :=
  have nd := sc__law_unique.nd
  cal_mk F hm b sc__law_unique fun cdv A outer s H E hr => ⟨_, q__law_unique, (dss_cons (ds_set nd d_dK)
  (dss_cons (ds_for PassesOwn.never rfl (di_list (d_var 0)) (dg_name nd)
   (dss_one (ds_dput 1 hr (d_var 2) d_bl)))
  (dss_one (ds_ret (d_sortI M.sorted_ (b_lcK 1 (own := [("one", 2)]) rfl nd (blkOk_by (by kernel_rfl)) (fun _ _ _ _ _ => (dg_name nd)) (fun _ _ _ _ _ => dts_nil) (fun _ _ _ _ _ => (d_var 2)))))))), pure__law_unique⟩

abbrev s__law_pool : Stmt := topS 15
abbrev N__law_pool : List Str := ["cell", "count", "found", "draws", "k", "word"]
theorem sc__law_pool : FnScope N__law_pool ["cell", "count"] (defScope s__law_pool) := ⟨rfl, rfl, rfl, by decide +kernel, rfl, by decide +kernel, by decide +kernel⟩
theorem cal__law_pool {f : Addr} {fd : FuncData} (M : Mg mg) (c__law_letters : Cal P w K mg base 1 "_law_letters" (spD 2 P__law_letters)) (c__law_numbers : Cal P w K mg base 1 "_law_numbers" (spD 3 P__law_numbers)) (F : L2.Fun K "_law_pool" "_law_pool" s__law_pool f fd) (hm : mg "_law_pool" = some (.ref f)) (b : Binds K fd ["cell", "count"] []) : Cal P w K mg base 2 "_law_pool" (spD 2 P__law_pool) :=
  have nd := sc__law_pool.nd
  cal_mk F hm b sc__law_pool fun cdv A outer s H E hr => ⟨_, q__law_pool, (dss_cons (ds_set nd (d_lst da_nil))
  (dss_cons (ds_set nd (d_call c__law_numbers hr (da_cons (d_var 0) (da_cons (d_mul d_int (d_var 1)) (da_cons d_int da_nil)))))
  (dss_frz 3 (dss_cons (ds_for PassesOwn.never rfl (di_range1 M.range_ (da_cons (d_mul d_int (d_var 1)) da_nil)) (dg_name nd)
   (dss_cons (ds_set nd (d_call c__law_letters hr (da_cons (d_sub_ix (d_var 3) (d_var 4)) (da_cons (d_add d_int (d_mod (d_fdiv (d_sub_ix (d_var 3) (d_var 4)) d_int) d_int)) da_nil))))
   (dss_cons (ds_if (d_tcmp (or_eq hr) os_eq (d_mod (d_sub_ix (d_var 3) (d_var 4)) d_int) d_int)
    (dss_one (ds_set nd (d_sub_ix (d_lst (da_cons d_str (da_cons d_str (da_cons d_str (da_cons d_str (da_cons d_str (da_cons d_str (da_cons d_str (da_cons (d_add (d_var 5) d_str) (da_cons (d_add (d_var 5) d_str) da_nil)))))))))) (d_mod (d_fdiv (d_sub_ix (d_var 3) (d_var 4)) d_int) d_int))))
    dss_nil)
   (dss_one (ds_if (dw_and (d_tcmp (or_notIn hr) os_in (d_var 5) (d_var 2)) (dw_and1 (d_tcmp or_lt os_ord (d_len M.len_ (d_var 2)) (d_var 1)))).dt
    (dss_one (ds_expr (d_append 2 (d_var 5))))
    dss_nil)))))
  (dss_cons (ds_for PassesOwn.never rfl (di_range1 M.range_ (da_cons (d_var 1) da_nil)) (dg_name nd)
   (dss_one (ds_if (d_tcmp or_lt os_ord (d_len M.len_ (d_var 2)) (d_var 1))
    (dss_one (ds_expr (d_append 2 (d_add (d_add d_str (d_sub_ix d_str (d_mod (d_var 4) d_int))) (d_mul d_str (d_add (d_fdiv (d_var 4) d_int) d_int))))))
    dss_nil)))
  (dss_one (ds_ret (d_var 2)))))))), pure__law_pool⟩

abbrev s__law_renaming : Stmt := topS 16
abbrev N__law_renaming : List Str := ["script", "at", "draws", "size", "pool", "olds", "rest", "news", "k"]
theorem sc__law_renaming : FnScope N__law_renaming ["script", "at"] (defScope s__law_renaming) := ⟨rfl, rfl, rfl, by decide +kernel, rfl, by decide +kernel, by decide +kernel⟩
theorem cal__law_renaming {f : Addr} {fd : FuncData} (M : Mg mg) (c__law_cell : Cal P w K mg base 1 "_law_cell" (spD 2 P__law_cell)) (c__law_numbers : Cal P w K mg base 1 "_law_numbers" (spD 3 P__law_numbers)) (c__law_pool : Cal P w K mg base 2 "_law_pool" (spD 2 P__law_pool)) (F : L2.Fun K "_law_renaming" "_law_renaming" s__law_renaming f fd) (hm : mg "_law_renaming" = some (.ref f)) (b : Binds K fd ["script", "at"] []) : Cal P w K mg base 3 "_law_renaming" (spD 2 P__law_renaming) :=
  have nd := sc__law_renaming.nd
  cal_mk F hm b sc__law_renaming fun cdv A outer s H E hr => ⟨_, q__law_renaming, (dss_cons (ds_set nd (d_call c__law_numbers hr (da_cons (d_call c__law_cell hr (da_cons (d_var 0) (da_cons (d_var 1) da_nil))) (da_cons d_int (da_cons d_int da_nil)))))
  (dss_frz 2 (dss_cons (ds_set nd (d_add d_int (d_mod (d_sub_ix (d_var 2) d_int) (d_sub_ix (d_lst (da_cons d_int (da_cons d_int (da_cons d_int da_nil)))) (d_mod (d_sub_ix (d_var 2) d_int) d_int)))))
  (dss_cons (ds_set nd (d_call c__law_pool hr (da_cons (d_call c__law_cell hr (da_cons (d_var 0) (da_cons (d_add (d_var 1) d_int) da_nil))) (da_cons (d_mul d_int (d_var 3)) da_nil))))
  (dss_frz 4 (dss_cons (ds_set nd (d_slice (d_var 4) (do_some d_int) (do_some (d_var 3))))
  (dss_frz 5 (dss_cons (ds_set nd (d_add (d_sub_ix (d_lst (da_cons (d_var 5) (da_cons (d_var 5) (da_cons (d_var 4) da_nil)))) (d_mod (d_sub_ix (d_var 2) d_int) d_int)) (d_lst da_nil)))
  (dss_cons (ds_if (d_tcmp (or_eq hr) os_eq (d_mod (d_sub_ix (d_var 2) d_int) d_int) d_int)
   (dss_one (ds_set nd (d_add (d_slice (d_var 5) (do_some d_int) do_none) (d_slice (d_var 4) (do_some (d_var 3)) (do_some (d_add (d_var 3) d_int))))))
   dss_nil)
  (dss_cons (ds_set nd (d_lst da_nil))
  (dss_cons (ds_for PassesOwn.never rfl (di_range1 M.range_ (da_cons (d_var 3) da_nil)) (dg_name nd)
   (dss_one (ds_if (d_tcmp (or_eq hr) os_eq (d_mod (d_sub_ix (d_var 2) d_int) d_int) d_int)
    (dss_one (ds_expr (d_append 7 (d_sub_ix (d_var 6) (d_var 8)))))
    (dss_one (ds_expr (d_append 7 (d_popAt 6 (d_mod (d_sub_ix (d_var 2) (d_add d_int (d_var 8))) (d_len M.len_ (d_var 6))))))))))
  (dss_one (ds_ret (b_lc (own := [("k", 8)]) rfl nd (di_range1 M.range_ (da_cons (d_var 3) da_nil)) (blkOk_by (by kernel_rfl)) (fun _ _ _ _ _ => (dg_name nd)) (fun _ _ _ _ _ => dts_nil) (fun _ _ _ _ _ => (d_tup (da_cons (d_sub_ix (d_var 5) (d_var 8)) (da_cons (d_sub_ix (d_var 7) (d_var 8)) da_nil)))))))))))))))))), pure__law_renaming⟩

abbrev s__law_movers : Stmt := topS 17
abbrev N__law_movers : List Str := ["renaming", "k"]
theorem sc__law_movers : FnScope N__law_movers ["renaming"] (defScope s__law_movers) := ⟨rfl, rfl, rfl, by decide +kernel, rfl, by decide +kernel, by decide +kernel⟩
theorem cal__law_movers {f : Addr} {fd : FuncData} (M : Mg mg) (F : L2.Fun K "_law_movers" "_law_movers" s__law_movers f fd) (hm : mg "_law_movers" = some (.ref f)) (b : Binds K fd ["renaming"] []) : Cal P w K mg base 1 "_law_movers" (spD 1 P__law_movers) :=
  have nd := sc__law_movers.nd
  cal_mk F hm b sc__law_movers fun cdv A outer s H E hr => ⟨_, q__law_movers, (dss_one (ds_ret (b_lc (own := [("k", 1)]) rfl nd (di_range1 M.range_ (da_cons (d_len M.len_ (d_var 0)) da_nil)) (blkOk_by (by kernel_rfl)) (fun _ _ _ _ _ => (dg_name nd)) (fun _ _ _ _ _ => (dts_one (d_tcmp (or_ne hr) os_ne (d_sub_ix (d_sub_ix (d_var 0) (d_var 1)) d_int) (d_sub_ix (d_sub_ix (d_var 0) (d_var 1)) d_int)))) (fun _ _ _ _ _ => (d_var 1))))), pure__law_movers⟩

abbrev s__law_waits : Stmt := topS 18
abbrev N__law_waits : List Str := ["renaming", "found", "k", "before", "j"]
theorem sc__law_waits : FnScope N__law_waits ["renaming"] (defScope s__law_waits) := ⟨rfl, rfl, rfl, by decide +kernel, rfl, by decide +kernel, by decide +kernel⟩
theorem cal__law_waits {f : Addr} {fd : FuncData} (M : Mg mg) (F : L2.Fun K "_law_waits" "_law_waits" s__law_waits f fd) (hm : mg "_law_waits" = some (.ref f)) (b : Binds K fd ["renaming"] []) : Cal P w K mg base 1 "_law_waits" (spD 1 P__law_waits) :=
  have nd := sc__law_waits.nd
  cal_mk F hm b sc__law_waits fun cdv A outer s H E hr => ⟨_, q__law_waits, (dss_cons (ds_set nd (d_lst da_nil))
  (dss_cons (ds_for PassesOwn.never rfl (di_range1 M.range_ (da_cons (d_len M.len_ (d_var 0)) da_nil)) (dg_name nd)
   (dss_cons (bs_setLc (own := [("j", 4)]) rfl nd (di_range1 M.range_ (da_cons (d_len M.len_ (d_var 0)) da_nil)) (blkOk_by (by kernel_rfl)) (fun _ _ _ _ _ => (dg_name nd)) (fun _ _ _ _ _ => (dts_one (dw_and (d_tcmp (or_ne hr) os_ne (d_var 4) (d_var 2)) (dw_and1 (d_tcmp (or_eq hr) os_eq (d_sub_ix (d_sub_ix (d_var 0) (d_var 4)) d_int) (d_sub_ix (d_sub_ix (d_var 0) (d_var 2)) d_int)))).dt)) (fun _ _ _ _ _ => (d_var 4)) (sw_true rfl rfl rfl (by decide +kernel)))
   (dss_frz 3 (dss_one (ds_expr (d_append 1 (d_sub_ix (d_add (d_var 3) (d_lst (da_cons d_non da_nil))) d_int)))))))
  (dss_one (ds_ret (d_var 1))))), pure__law_waits⟩

abbrev s__law_rings : Stmt := topS 19
abbrev N__law_rings : List Str := ["renaming", "waits", "found", "k", "chain", "turn", "after"]
theorem sc__law_rings : FnScope N__law_rings ["renaming"] (defScope s__law_rings) := ⟨rfl, rfl, rfl, by decide +kernel, rfl, by decide +kernel, by decide +kernel⟩
theorem cal__law_rings {f : Addr} {fd : FuncData} (M : Mg mg) (c__law_waits : Cal P w K mg base 1 "_law_waits" (spD 1 P__law_waits)) (F : L2.Fun K "_law_rings" "_law_rings" s__law_rings f fd) (hm : mg "_law_rings" = some (.ref f)) (b : Binds K fd ["renaming"] []) : Cal P w K mg base 2 "_law_rings" (spD 1 P__law_rings) :=
  have nd := sc__law_rings.nd
  cal_mk F hm b sc__law_rings fun cdv A outer s H E hr => ⟨_, q__law_rings, (dss_cons (ds_set nd (d_call c__law_waits hr (da_cons (d_var 0) da_nil)))
  (dss_frz 1 (dss_cons (ds_set nd (d_lst da_nil))
  (dss_cons (ds_for PassesOwn.never rfl (di_range1 M.range_ (da_cons (d_len M.len_ (d_var 0)) da_nil)) (dg_name nd)
   (dss_cons (ds_set nd (d_lst (da_cons (d_var 3) da_nil)))
   (dss_cons (ds_for PassesOwn.never rfl (di_range1 M.range_ (da_cons (d_len M.len_ (d_var 0)) da_nil)) (dg_name nd)
    (dss_cons (ds_set nd (d_sub_ix (d_var 1) (d_sub_ix (d_var 4) (d_sub (d_len M.len_ (d_var 4)) d_int))))
    (dss_frz 6 (dss_one (ds_if (dw_and (d_tcmp op_notN os_isNot (d_var 6) d_non) (dw_and1 (d_tcmp (or_notIn hr) os_in (d_var 6) (d_var 4)))).dt
     (dss_one (ds_expr (d_append 4 (d_var 6))))
     dss_nil)))))
   (dss_one (ds_if (dw_and (d_tcmp or_gt os_ord (d_len M.len_ (d_var 4)) d_int) (dw_and (d_tcmp (or_eq hr) os_eq (d_sub_ix (d_var 1) (d_sub_ix (d_var 4) (d_sub (d_len M.len_ (d_var 4)) d_int))) (d_var 3)) (dw_and1 (d_tcmp (or_eq hr) os_eq (d_min rfl M.min_ (d_var 4)) (d_var 3))))).dt
    (dss_one (ds_expr (d_append 2 (d_var 4))))
    dss_nil)))))
  (dss_one (ds_ret (d_var 2))))))), pure__law_rings⟩

abbrev s__law_is_ring : Stmt := topS 20
abbrev N__law_is_ring : List Str := ["renaming", "ring", "waits", "k"]
theorem sc__law_is_ring : FnScope N__law_is_ring ["renaming", "ring"] (defScope s__law_is_ring) := ⟨rfl, rfl, rfl, by decide +kernel, rfl, by decide +kernel, by decide +kernel⟩
theorem cal__law_is_ring {f : Addr} {fd : FuncData} (M : Mg mg) (c__law_unique : Cal P w K mg base 1 "_law_unique" (spD 1 P__law_unique)) (c__law_waits : Cal P w K mg base 1 "_law_waits" (spD 1 P__law_waits)) (F : L2.Fun K "_law_is_ring" "_law_is_ring" s__law_is_ring f fd) (hm : mg "_law_is_ring" = some (.ref f)) (b : Binds K fd ["renaming", "ring"] []) : Cal P w K mg base 2 "_law_is_ring" (spD 2 P__law_is_ring) :=
  have nd := sc__law_is_ring.nd
  cal_mk F hm b sc__law_is_ring fun cdv A outer s H E hr => ⟨_, q__law_is_ring, (dss_cons (ds_set nd (d_call c__law_waits hr (da_cons (d_var 0) da_nil)))
  (dss_frz 2 (dss_cons (ds_if (dw_or (d_tcmp or_lt os_ord (d_len M.len_ (d_var 1)) d_int) (dw_or1 (d_tcmp (or_ne hr) os_ne (d_len M.len_ (d_call c__law_unique hr (da_cons (d_var 1) da_nil))) (d_len M.len_ (d_var 1))))).dt
   (dss_one (ds_ret d_bl))
   dss_nil)
  (dss_cons (ds_for PassesOwn.never rfl (di_range1 M.range_ (da_cons (d_len M.len_ (d_var 1)) da_nil)) (dg_name nd)
   (dss_one (ds_if (dw_or (d_tcmp or_lt os_ord (d_sub_ix (d_var 1) (d_var 3)) d_int) (dw_or (d_tcmp or_ge os_ord (d_sub_ix (d_var 1) (d_var 3)) (d_len M.len_ (d_var 0))) (dw_or1 (d_tcmp (or_ne hr) os_ne (d_sub_ix (d_var 2) (d_sub_ix (d_var 1) (d_var 3))) (d_sub_ix (d_var 1) (d_mod (d_add (d_var 3) d_int) (d_len M.len_ (d_var 1)))))))).dt
    (dss_one (ds_ret d_bl))
    dss_nil)))
  (dss_one (ds_ret d_bl)))))), pure__law_is_ring⟩

abbrev s__law_order : Stmt := topS 21
abbrev N__law_order : List Str := ["renaming", "waits", "left", "order", "turn", "able", "k"]
theorem sc__law_order : FnScope N__law_order ["renaming"] (defScope s__law_order) := ⟨rfl, rfl, rfl, by decide +kernel, rfl, by decide +kernel, by decide +kernel⟩
theorem cal__law_order {f : Addr} {fd : FuncData} (M : Mg mg) (c__law_movers : Cal P w K mg base 1 "_law_movers" (spD 1 P__law_movers)) (c__law_waits : Cal P w K mg base 1 "_law_waits" (spD 1 P__law_waits)) (F : L2.Fun K "_law_order" "_law_order" s__law_order f fd) (hm : mg "_law_order" = some (.ref f)) (b : Binds K fd ["renaming"] []) : Cal P w K mg base 2 "_law_order" (spD 1 P__law_order) :=
  have nd := sc__law_order.nd
  cal_mk F hm b sc__law_order fun cdv A outer s H E hr => ⟨_, q__law_order, (dss_cons (ds_set nd (d_call c__law_waits hr (da_cons (d_var 0) da_nil)))
  (dss_frz 1 (dss_cons (ds_set nd (d_call c__law_movers hr (da_cons (d_var 0) da_nil)))
  (dss_cons (ds_set nd (d_lst da_nil))
  (dss_cons (ds_for PassesOwn.never rfl (di_range1 M.range_ (da_cons (d_len M.len_ (d_var 0)) da_nil)) (dg_name nd)
   (dss_cons (bs_setLcO 2 (own := [("k", 6)]) rfl nd (blkOk_by (by kernel_rfl)) (fun _ _ _ _ _ => (dg_name nd)) (fun _ _ _ _ _ => (dts_one (d_tcmp (or_notIn hr) os_in (d_sub_ix (d_var 1) (d_var 6)) (d_var 2)))) (fun _ _ _ _ _ => (d_var 6)) (sw_true rfl rfl rfl (by decide +kernel)))
   (dss_frz 5 (dss_one (ds_if (d_tcmp or_gt os_ord (d_len M.len_ (d_var 5)) d_int)
    (dss_cons (ds_expr (d_append 3 (d_sub_ix (d_var 5) d_int)))
    (dss_one (ds_expr (d_remI 2 (d_sub_ix (d_var 5) d_int)))))
    dss_nil)))))
  (dss_one (ds_ret (d_var 3)))))))), pure__law_order⟩

abbrev s__law_accepts : Stmt := topS 22
abbrev N__law_accepts : List Str := ["renaming", "verdict", "waits", "k"]
theorem sc__law_accepts : FnScope N__law_accepts ["renaming", "verdict"] (defScope s__law_accepts) := ⟨rfl, rfl, rfl, by decide +kernel, rfl, by decide +kernel, by decide +kernel⟩
theorem cal__law_accepts {f : Addr} {fd : FuncData} (M : Mg mg) (c__law_is_ring : Cal P w K mg base 2 "_law_is_ring" (spD 2 P__law_is_ring)) (c__law_movers : Cal P w K mg base 1 "_law_movers" (spD 1 P__law_movers)) (c__law_waits : Cal P w K mg base 1 "_law_waits" (spD 1 P__law_waits)) (F : L2.Fun K "_law_accepts" "_law_accepts" s__law_accepts f fd) (hm : mg "_law_accepts" = some (.ref f)) (b : Binds K fd ["renaming", "verdict"] []) : Cal P w K mg base 3 "_law_accepts" (spD 2 P__law_accepts) :=
  have nd := sc__law_accepts.nd
  cal_mk F hm b sc__law_accepts fun cdv A outer s H E hr => ⟨_, q__law_accepts, (dss_cons (ds_if (d_tcmp (or_ne hr) os_ne (d_len M.len_ (d_var 1)) d_int)
   (dss_one (ds_ret d_bl))
   dss_nil)
  (dss_cons (ds_if (d_tcmp (or_eq hr) os_eq (d_sub_ix (d_var 1) d_int) d_str)
   (dss_one (ds_ret (d_call c__law_is_ring hr (da_cons (d_var 0) (da_cons (d_sub_ix (d_var 1) d_int) da_nil)))))
   dss_nil)
  (dss_cons (ds_if (dw_or (d_tcmp (or_ne hr) os_ne (d_sub_ix (d_var 1) d_int) d_str) (dw_or1 (d_tcmp (or_ne hr) os_ne (d_sortI M.sorted_ (d_sub_ix (d_var 1) d_int)) (d_call c__law_movers hr (da_cons (d_var 0) da_nil))))).dt
   (dss_one (ds_ret d_bl))
   dss_nil)
  (dss_cons (ds_set nd (d_call c__law_waits hr (da_cons (d_var 0) da_nil)))
  (dss_frz 2 (dss_cons (ds_for PassesOwn.never rfl (di_range1 M.range_ (da_cons (d_len M.len_ (d_sub_ix (d_var 1) d_int)) da_nil)) (dg_name nd)
   (dss_one (ds_if (d_tcmp (or_in hr) os_in (d_sub_ix (d_var 2) (d_sub_ix (d_sub_ix (d_var 1) d_int) (d_var 3))) (d_slice (d_sub_ix (d_var 1) d_int) (do_some (d_add (d_var 3) d_int)) do_none))
    (dss_one (ds_ret d_bl))
    dss_nil)))
  (dss_one (ds_ret d_bl)))))))), pure__law_accepts⟩

abbrev s__law_papers : Stmt := topS 23
abbrev N__law_papers : List Str := ["renaming", "verdict", "draws", "word", "some", "size", "spot", "other", "found", "turned", "ring"]
theorem sc__law_papers : FnScope N__law_papers ["renaming", "verdict", "draws"] (defScope s__law_papers) := ⟨rfl, rfl, rfl, by decide +kernel, rfl, by decide +kernel, by decide +kernel⟩
theorem cal__law_papers {f : Addr} {fd : FuncData} (M : Mg mg) (c__law_order : Cal P w K mg base 2 "_law_order" (spD 1 P__law_order)) (c__law_rings : Cal P w K mg base 2 "_law_rings" (spD 1 P__law_rings)) (F : L2.Fun K "_law_papers" "_law_papers" s__law_papers f fd) (hm : mg "_law_papers" = some (.ref f)) (b : Binds K fd ["renaming", "verdict", "draws"] []) : Cal P w K mg base 3 "_law_papers" (spD 3 P__law_papers) :=
  have nd := sc__law_papers.nd
  cal_mk F hm b sc__law_papers fun cdv A outer s H E hr => ⟨_, q__law_papers, (dss_cons (ds_asg (d_var 1) (dg_tup rfl (dgs_cons (dg_name nd) (dgs_cons (dg_name nd) dgs_nil))))
  (dss_cons (ds_set nd (d_len M.len_ (d_var 0)))
  (dss_cons (ds_set nd (d_mod (d_sub_ix (d_var 2) d_int) (d_max2 rfl M.max_ d_int (d_len M.len_ (d_var 4)))))
  (dss_cons (ds_set nd (d_mod (d_sub_ix (d_var 2) d_int) (d_max2 rfl M.max_ d_int (d_len M.len_ (d_var 4)))))
  (dss_cons (ds_set nd (d_lst (da_cons (d_var 1) (da_cons (d_tup (da_cons (d_var 3) da_nil)) (da_cons (d_tup (da_cons (d_var 3) (da_cons (d_var 4) (da_cons (d_lst da_nil) da_nil)))) (da_cons (d_tup (da_cons d_str (da_cons (d_var 4) da_nil))) (da_cons (d_tup (da_cons d_str (da_cons (d_lst da_nil) da_nil))) (da_cons (d_tup (da_cons d_str (da_cons (d_lst da_nil) da_nil))) (da_cons (d_tup (da_cons d_str (da_cons (d_listR1 rfl M.list_ M.range_ (d_var 5)) da_nil))) (da_cons (d_tup (da_cons d_str (da_cons (d_listR1 rfl M.list_ M.range_ (d_var 5)) da_nil))) da_nil))))))))))
  (dss_cons (ds_set nd (d_add (d_var 8) (d_lst (da_cons (d_tup (da_cons (d_sub_ix (d_lst (da_cons d_str (da_cons d_str da_nil))) (d_int1 M.int_ (d_cmp (or_eq hr) os_eq (d_var 3) d_str))) (da_cons (d_var 4) da_nil))) (da_cons (d_tup (da_cons (d_var 3) (da_cons (d_add (d_slice (d_var 4) (do_some d_int) do_none) (d_slice (d_var 4) (do_some d_int) (do_some d_int))) da_nil))) (da_cons (d_tup (da_cons (d_var 3) (da_cons (d_revL (d_var 4)) da_nil))) (da_cons (d_tup (da_cons (d_var 3) (da_cons (d_add (d_var 4) (d_slice (d_var 4) (do_some d_int) (do_some d_int))) da_nil))) da_nil)))))))
  (dss_cons (ds_set nd (d_add (d_var 8) (d_lst (da_cons (d_tup (da_cons (d_var 3) (da_cons (d_add (d_slice (d_var 4) (do_some d_int) (do_some (d_var 6))) (d_slice (d_var 4) (do_some (d_add (d_var 6) d_int)) do_none)) da_nil))) (da_cons (d_tup (da_cons (d_var 3) (da_cons (d_add (d_var 4) (d_lst (da_cons (d_mod (d_sub_ix (d_var 2) d_int) (d_var 5)) da_nil))) da_nil))) (da_cons (d_tup (da_cons (d_var 3) (da_cons (d_add (d_lst (da_cons (d_var 5) da_nil)) (d_slice (d_var 4) (do_some d_int) do_none)) da_nil))) (da_cons (d_tup (da_cons (d_var 3) (da_cons (d_add (d_lst (da_cons (d_neg d_int) da_nil)) (d_slice (d_var 4) (do_some d_int) do_none)) da_nil))) (da_cons (d_tup (da_cons d_str (da_cons (d_slice (d_var 4) (do_some d_int) (do_some d_int)) da_nil))) da_nil))))))))
  (dss_cons (ds_set nd (d_add (d_var 8) (b_lc (own := [("ring", 10)]) rfl nd (di_list (d_call c__law_rings hr (da_cons (d_var 0) da_nil))) (blkOk_by (by kernel_rfl)) (fun _ _ _ _ _ => (dg_name nd)) (fun _ _ _ _ _ => dts_nil) (fun _ _ _ _ _ => (d_tup (da_cons d_str (da_cons (d_var 10) da_nil)))))))
  (dss_cons (ds_set nd (d_add (d_var 8) (d_lst (da_cons (d_tup (da_cons d_str (da_cons (d_call c__law_order hr (da_cons (d_var 0) da_nil)) da_nil))) (da_cons (d_tup (da_cons d_str (da_cons (d_lst (da_cons (d_mod (d_sub_ix (d_var 2) d_int) (d_var 5)) (da_cons (d_mod (d_sub_ix (d_var 2) d_int) (d_var 5)) da_nil))) da_nil))) da_nil)))))
  (dss_cons (ds_if (d_tcmp or_gt os_ord (d_len M.len_ (d_var 4)) d_int)
   (dss_cons (ds_set nd (d_list1 M.list_ (d_var 4)))
   (dss_cons (ds_setIx 9 (d_var 6) (d_sub_ix (d_var 4) (d_var 7)))
   (dss_cons (ds_setIx 9 (d_var 7) (d_sub_ix (d_var 4) (d_var 6)))
   (dss_one (ds_expr (d_append 8 (d_tup (da_cons (d_var 3) (da_cons (d_var 9) da_nil)))))))))
   dss_nil)
  (dss_one (ds_ret (d_var 8))))))))))))), pure__law_papers⟩

abbrev s_law : Stmt := topS 24
abbrev N_law : List Str := ["script", "draws", "renaming", "third", "handed", "rings", "verdict", "turn", "told", "kinds", "paper", "kept", "answer", "kind"]
theorem sc_law : FnScope N_law ["script"] (defScope s_law) := ⟨rfl, rfl, rfl, by decide +kernel, rfl, by decide +kernel, by decide +kernel⟩
theorem ok_law {f : Addr} {fd : FuncData} (M : Mg mg) (c__law_accepts : Cal P w K mg base 3 "_law_accepts" (spD 2 P__law_accepts)) (c__law_cell : Cal P w K mg base 1 "_law_cell" (spD 2 P__law_cell)) (c__law_numbers : Cal P w K mg base 1 "_law_numbers" (spD 3 P__law_numbers)) (c__law_order : Cal P w K mg base 2 "_law_order" (spD 1 P__law_order)) (c__law_papers : Cal P w K mg base 3 "_law_papers" (spD 3 P__law_papers)) (c__law_renaming : Cal P w K mg base 3 "_law_renaming" (spD 2 P__law_renaming)) (c__law_rings : Cal P w K mg base 2 "_law_rings" (spD 1 P__law_rings)) (c__law_same : Cal P w K mg base 4 "_law_same" (spD 2 P__law_same)) (c_find_order : Cal P w K mg base 3 "find_order" (spD 1 P_find_order)) (c_judge_order : Cal P w K mg base 3 "judge_order" (spD 2 P_judge_order)) (F : L2.Fun K "law" "law" s_law f fd) : FnG P w K mg base CX0 5 f fd ["script"] (spD 1 P_law) :=
  have nd := sc_law.nd
  fng_mk F sc_law fun cdv A outer s H E hr hgu => ⟨_, q_law, (dss_cons (ds_set nd (d_call c__law_numbers hr (da_cons (d_call c__law_cell hr (da_cons (d_var 0) (da_cons d_int da_nil))) (da_cons d_int (da_cons d_int da_nil)))))
  (dss_frz 1 (dss_cons (ds_set nd (d_call c__law_renaming hr (da_cons (d_var 0) (da_cons d_int da_nil))))
  (dss_frz 2 (dss_cons (ds_set nd (d_call c__law_renaming hr (da_cons (d_var 0) (da_cons d_int da_nil))))
  (dss_frz 3 (dss_cons (ds_set nd (d_list1 M.list_ (d_var 2)))
  (dss_frz 4 (dss_cons (ds_set nd (d_call c__law_rings hr (da_cons (d_var 2) da_nil)))
  (dss_frz 5 (dss_cons (ds_set nd (d_tup (da_cons d_str (da_cons (d_call c__law_order hr (da_cons (d_var 2) da_nil)) da_nil))))
  (dss_cons (ds_if (d_tcmp or_gt os_ord (d_len M.len_ (d_var 5)) d_int)
   (dss_one (ds_set nd (d_tup (da_cons d_str (da_cons (d_sub_ix (d_var 5) d_int) da_nil)))))
   dss_nil)
  (dss_cons (ds_for PassesOwn.never rfl (di_range1 M.range_ (da_cons d_int da_nil)) (dg_name nd)
   (dss_cons (ds_set nd (d_callD c_find_order hr (da_cons (d_var 4) da_nil)))
   (dss_cons (ds_if (dt_not (d_tb (d_callB c__law_same hr (dn_cons (dn_cons dn_nil)))))
    (dss_one (ds_ret d_bl))
    dss_nil)
   (dss_one (ds_expr (d_fgt (path_s (c := 1) (path_0 8)) pc_int))))))
  (dss_cons (ds_set nd (d_lst da_nil))
  (dss_cons (ds_for PassesOwn.never rfl (di_list (d_call c__law_papers hr (da_cons (d_var 2) (da_cons (d_var 6) (da_cons (d_var 1) da_nil))))) (dg_name nd)
   (dss_cons (ds_set nd (d_repr hr hgu M.repr_ (d_var 10)))
   (dss_frz 11 (dss_cons (ds_set nd (d_call c_judge_order hr (da_cons (d_var 4) (da_cons (d_var 10) da_nil))))
   (dss_cons (ds_if (dw_or (dt_not (d_tb (d_isi (T := "bool") (by simp) M.isinstance_ M.bool_ (by decide +kernel) (d_var 12)))) (dw_or (d_tcmp (or_ne hr) os_ne (d_var 12) (d_call c__law_accepts hr (da_cons (d_var 2) (da_cons (d_var 10) da_nil)))) (dw_or1 (d_tcmp (or_ne hr) os_ne (d_repr hr hgu M.repr_ (d_var 10)) (d_var 11))))).dt
    (dss_one (ds_ret d_bl))
    dss_nil)
   (dss_cons (ds_if (d_tb (d_var 12))
    (dss_one (ds_expr (d_append 9 (d_sub_ix (d_var 10) d_int))))
    dss_nil)
   (dss_cons (ds_set nd (d_call c_judge_order hr (da_cons (d_list1 M.list_ (d_var 3)) (da_cons (d_var 10) da_nil))))
   (dss_one (ds_if (dw_or (dt_not (d_tb (d_isi (T := "bool") (by simp) M.isinstance_ M.bool_ (by decide +kernel) (d_var 12)))) (dw_or1 (d_tcmp (or_ne hr) os_ne (d_var 12) (d_call c__law_accepts hr (da_cons (d_var 3) (da_cons (d_var 10) da_nil)))))).dt
    (dss_one (ds_ret d_bl))
    dss_nil)))))))))
  (dss_one (ds_ret (d_and (d_cmp (or_eq hr) os_eq (d_var 4) (d_var 2)) (d_one (d_cmp (or_eq hr) os_eq (d_len M.len_ (b_lc (own := [("kind", 13)]) rfl nd (di_list (d_var 9)) (blkOk_by (by kernel_rfl)) (fun _ _ _ _ _ => (dg_name nd)) (fun _ _ _ _ _ => (dts_one (d_tcmp (or_ne hr) os_ne (d_var 13) (d_sub_ix (d_var 6) d_int)))) (fun _ _ _ _ _ => (d_var 13)))) d_int)))))))))))))))))))), pure_law⟩

end
theorem all_mk {l : PySem.W.OpenLaw} {w : World} {K : PySem.W.Frag} {h : Heap} {mg : Str → Option Value} {fa : Addr} (X : K.In h) (G : h.Ns mainGlobals mg) (hfa : mg "law" = some (.ref fa))
    {f0 : Addr} {od0 an0 : Option Addr} {sl0 : Array (Option Value)} {oc0 kV0 dc0 pm0 cd0 ct0 : Value}
    {f1 : Addr} {od1 an1 : Option Addr} {sl1 : Array (Option Value)} {oc1 kV1 dc1 pm1 cd1 ct1 : Value}
    {f2 : Addr} {od2 an2 : Option Addr} {sl2 : Array (Option Value)} {oc2 kV2 dc2 pm2 cd2 ct2 : Value}
    {f3 : Addr} {od3 an3 : Option Addr} {sl3 : Array (Option Value)} {oc3 kV3 dc3 pm3 cd3 ct3 : Value}
    {f4 : Addr} {od4 an4 : Option Addr} {sl4 : Array (Option Value)} {oc4 kV4 dc4 pm4 cd4 ct4 : Value}
    {f5 : Addr} {od5 an5 : Option Addr} {sl5 : Array (Option Value)} {oc5 kV5 dc5 pm5 cd5 ct5 : Value}
    {f6 : Addr} {od6 an6 : Option Addr} {sl6 : Array (Option Value)} {oc6 kV6 dc6 pm6 cd6 ct6 : Value}
    {f7 : Addr} {od7 an7 : Option Addr} {sl7 : Array (Option Value)} {oc7 kV7 dc7 pm7 cd7 ct7 : Value}
    {f8 : Addr} {od8 an8 : Option Addr} {sl8 : Array (Option Value)} {oc8 kV8 dc8 pm8 cd8 ct8 : Value}
    {f9 : Addr} {od9 an9 : Option Addr} {sl9 : Array (Option Value)} {oc9 kV9 dc9 pm9 cd9 ct9 : Value}
    {f10 : Addr} {od10 an10 : Option Addr} {sl10 : Array (Option Value)} {oc10 kV10 dc10 pm10 cd10 ct10 : Value}
    {f11 : Addr} {od11 an11 : Option Addr} {sl11 : Array (Option Value)} {oc11 kV11 dc11 pm11 cd11 ct11 : Value}
    {f12 : Addr} {od12 an12 : Option Addr} {sl12 : Array (Option Value)} {oc12 kV12 dc12 pm12 cd12 ct12 : Value}
    {f13 : Addr} {od13 an13 : Option Addr} {sl13 : Array (Option Value)} {oc13 kV13 dc13 pm13 cd13 ct13 : Value}
    {f14 : Addr} {od14 an14 : Option Addr} {sl14 : Array (Option Value)} {oc14 kV14 dc14 pm14 cd14 ct14 : Value}
    {f15 : Addr} {od15 an15 : Option Addr} {sl15 : Array (Option Value)} {oc15 kV15 dc15 pm15 cd15 ct15 : Value}
    {f16 : Addr} {od16 an16 : Option Addr} {sl16 : Array (Option Value)} {oc16 kV16 dc16 pm16 cd16 ct16 : Value}
    {f17 : Addr} {od17 an17 : Option Addr} {sl17 : Array (Option Value)} {oc17 kV17 dc17 pm17 cd17 ct17 : Value}
    {f18 : Addr} {od18 an18 : Option Addr} {sl18 : Array (Option Value)} {oc18 kV18 dc18 pm18 cd18 ct18 : Value}
    {f19 : Addr} {od19 an19 : Option Addr} {sl19 : Array (Option Value)} {oc19 kV19 dc19 pm19 cd19 ct19 : Value}
    {f20 : Addr} {od20 an20 : Option Addr} {sl20 : Array (Option Value)} {oc20 kV20 dc20 pm20 cd20 ct20 : Value}
    {f21 : Addr} {od21 an21 : Option Addr} {sl21 : Array (Option Value)} {oc21 kV21 dc21 pm21 cd21 ct21 : Value}
    {f22 : Addr} {od22 an22 : Option Addr} {sl22 : Array (Option Value)} {oc22 kV22 dc22 pm22 cd22 ct22 : Value}
    (a0 : PySem.W.nsIn K mainGlobals "movers_of" = some (some (.ref f0))) (l0 : K.lookup f0 = some ⟨oc0, od0, .func (PySem.W.fnOf "movers_of" "movers_of" (defArgs s_movers_of) (defBody s_movers_of) (defScope s_movers_of) .none kV0 dc0 pm0 an0 cd0 ct0), sl0⟩) (c0 : PySem.W.codeIn K cd0 "movers_of" = true) (k0 : PySem.W.keepIn K (.ref f0) = true)
    (a1 : PySem.W.nsIn K mainGlobals "waits_of" = some (some (.ref f1))) (l1 : K.lookup f1 = some ⟨oc1, od1, .func (PySem.W.fnOf "waits_of" "waits_of" (defArgs s_waits_of) (defBody s_waits_of) (defScope s_waits_of) .none kV1 dc1 pm1 an1 cd1 ct1), sl1⟩) (c1 : PySem.W.codeIn K cd1 "waits_of" = true) (k1 : PySem.W.keepIn K (.ref f1) = true)
    (a2 : PySem.W.nsIn K mainGlobals "ring_from" = some (some (.ref f2))) (l2 : K.lookup f2 = some ⟨oc2, od2, .func (PySem.W.fnOf "ring_from" "ring_from" (defArgs s_ring_from) (defBody s_ring_from) (defScope s_ring_from) .none kV2 dc2 pm2 an2 cd2 ct2), sl2⟩) (c2 : PySem.W.codeIn K cd2 "ring_from" = true) (k2 : PySem.W.keepIn K (.ref f2) = true)
    (a3 : PySem.W.nsIn K mainGlobals "rings_of" = some (some (.ref f3))) (l3 : K.lookup f3 = some ⟨oc3, od3, .func (PySem.W.fnOf "rings_of" "rings_of" (defArgs s_rings_of) (defBody s_rings_of) (defScope s_rings_of) .none kV3 dc3 pm3 an3 cd3 ct3), sl3⟩) (c3 : PySem.W.codeIn K cd3 "rings_of" = true) (k3 : PySem.W.keepIn K (.ref f3) = true)
    (a4 : PySem.W.nsIn K mainGlobals "find_order" = some (some (.ref f4))) (l4 : K.lookup f4 = some ⟨oc4, od4, .func (PySem.W.fnOf "find_order" "find_order" (defArgs s_find_order) (defBody s_find_order) (defScope s_find_order) .none kV4 dc4 pm4 an4 cd4 ct4), sl4⟩) (c4 : PySem.W.codeIn K cd4 "find_order" = true) (k4 : PySem.W.keepIn K (.ref f4) = true)
    (a5 : PySem.W.nsIn K mainGlobals "is_ring" = some (some (.ref f5))) (l5 : K.lookup f5 = some ⟨oc5, od5, .func (PySem.W.fnOf "is_ring" "is_ring" (defArgs s_is_ring) (defBody s_is_ring) (defScope s_is_ring) .none kV5 dc5 pm5 an5 cd5 ct5), sl5⟩) (c5 : PySem.W.codeIn K cd5 "is_ring" = true) (k5 : PySem.W.keepIn K (.ref f5) = true)
    (a6 : PySem.W.nsIn K mainGlobals "is_order" = some (some (.ref f6))) (l6 : K.lookup f6 = some ⟨oc6, od6, .func (PySem.W.fnOf "is_order" "is_order" (defArgs s_is_order) (defBody s_is_order) (defScope s_is_order) .none kV6 dc6 pm6 an6 cd6 ct6), sl6⟩) (c6 : PySem.W.codeIn K cd6 "is_order" = true) (k6 : PySem.W.keepIn K (.ref f6) = true)
    (a7 : PySem.W.nsIn K mainGlobals "judge_order" = some (some (.ref f7))) (l7 : K.lookup f7 = some ⟨oc7, od7, .func (PySem.W.fnOf "judge_order" "judge_order" (defArgs s_judge_order) (defBody s_judge_order) (defScope s_judge_order) .none kV7 dc7 pm7 an7 cd7 ct7), sl7⟩) (c7 : PySem.W.codeIn K cd7 "judge_order" = true) (k7 : PySem.W.keepIn K (.ref f7) = true)
    (a8 : PySem.W.nsIn K mainGlobals "_law_cell" = some (some (.ref f8))) (l8 : K.lookup f8 = some ⟨oc8, od8, .func (PySem.W.fnOf "_law_cell" "_law_cell" (defArgs s__law_cell) (defBody s__law_cell) (defScope s__law_cell) .none kV8 dc8 pm8 an8 cd8 ct8), sl8⟩) (c8 : PySem.W.codeIn K cd8 "_law_cell" = true) (k8 : PySem.W.keepIn K (.ref f8) = true)
    (a9 : PySem.W.nsIn K mainGlobals "_law_numbers" = some (some (.ref f9))) (l9 : K.lookup f9 = some ⟨oc9, od9, .func (PySem.W.fnOf "_law_numbers" "_law_numbers" (defArgs s__law_numbers) (defBody s__law_numbers) (defScope s__law_numbers) .none kV9 dc9 pm9 an9 cd9 ct9), sl9⟩) (c9 : PySem.W.codeIn K cd9 "_law_numbers" = true) (k9 : PySem.W.keepIn K (.ref f9) = true)
    (a10 : PySem.W.nsIn K mainGlobals "_law_same" = some (some (.ref f10))) (l10 : K.lookup f10 = some ⟨oc10, od10, .func (PySem.W.fnOf "_law_same" "_law_same" (defArgs s__law_same) (defBody s__law_same) (defScope s__law_same) .none kV10 dc10 pm10 an10 cd10 ct10), sl10⟩) (c10 : PySem.W.codeIn K cd10 "_law_same" = true) (k10 : PySem.W.keepIn K (.ref f10) = true)
    (a11 : PySem.W.nsIn K mainGlobals "_law_letters" = some (some (.ref f11))) (l11 : K.lookup f11 = some ⟨oc11, od11, .func (PySem.W.fnOf "_law_letters" "_law_letters" (defArgs s__law_letters) (defBody s__law_letters) (defScope s__law_letters) .none kV11 dc11 pm11 an11 cd11 ct11), sl11⟩) (c11 : PySem.W.codeIn K cd11 "_law_letters" = true) (k11 : PySem.W.keepIn K (.ref f11) = true)
    (a12 : PySem.W.nsIn K mainGlobals "_law_unique" = some (some (.ref f12))) (l12 : K.lookup f12 = some ⟨oc12, od12, .func (PySem.W.fnOf "_law_unique" "_law_unique" (defArgs s__law_unique) (defBody s__law_unique) (defScope s__law_unique) .none kV12 dc12 pm12 an12 cd12 ct12), sl12⟩) (c12 : PySem.W.codeIn K cd12 "_law_unique" = true) (k12 : PySem.W.keepIn K (.ref f12) = true)
    (a13 : PySem.W.nsIn K mainGlobals "_law_pool" = some (some (.ref f13))) (l13 : K.lookup f13 = some ⟨oc13, od13, .func (PySem.W.fnOf "_law_pool" "_law_pool" (defArgs s__law_pool) (defBody s__law_pool) (defScope s__law_pool) .none kV13 dc13 pm13 an13 cd13 ct13), sl13⟩) (c13 : PySem.W.codeIn K cd13 "_law_pool" = true) (k13 : PySem.W.keepIn K (.ref f13) = true)
    (a14 : PySem.W.nsIn K mainGlobals "_law_renaming" = some (some (.ref f14))) (l14 : K.lookup f14 = some ⟨oc14, od14, .func (PySem.W.fnOf "_law_renaming" "_law_renaming" (defArgs s__law_renaming) (defBody s__law_renaming) (defScope s__law_renaming) .none kV14 dc14 pm14 an14 cd14 ct14), sl14⟩) (c14 : PySem.W.codeIn K cd14 "_law_renaming" = true) (k14 : PySem.W.keepIn K (.ref f14) = true)
    (a15 : PySem.W.nsIn K mainGlobals "_law_movers" = some (some (.ref f15))) (l15 : K.lookup f15 = some ⟨oc15, od15, .func (PySem.W.fnOf "_law_movers" "_law_movers" (defArgs s__law_movers) (defBody s__law_movers) (defScope s__law_movers) .none kV15 dc15 pm15 an15 cd15 ct15), sl15⟩) (c15 : PySem.W.codeIn K cd15 "_law_movers" = true) (k15 : PySem.W.keepIn K (.ref f15) = true)
    (a16 : PySem.W.nsIn K mainGlobals "_law_waits" = some (some (.ref f16))) (l16 : K.lookup f16 = some ⟨oc16, od16, .func (PySem.W.fnOf "_law_waits" "_law_waits" (defArgs s__law_waits) (defBody s__law_waits) (defScope s__law_waits) .none kV16 dc16 pm16 an16 cd16 ct16), sl16⟩) (c16 : PySem.W.codeIn K cd16 "_law_waits" = true) (k16 : PySem.W.keepIn K (.ref f16) = true)
    (a17 : PySem.W.nsIn K mainGlobals "_law_rings" = some (some (.ref f17))) (l17 : K.lookup f17 = some ⟨oc17, od17, .func (PySem.W.fnOf "_law_rings" "_law_rings" (defArgs s__law_rings) (defBody s__law_rings) (defScope s__law_rings) .none kV17 dc17 pm17 an17 cd17 ct17), sl17⟩) (c17 : PySem.W.codeIn K cd17 "_law_rings" = true) (k17 : PySem.W.keepIn K (.ref f17) = true)
    (a18 : PySem.W.nsIn K mainGlobals "_law_is_ring" = some (some (.ref f18))) (l18 : K.lookup f18 = some ⟨oc18, od18, .func (PySem.W.fnOf "_law_is_ring" "_law_is_ring" (defArgs s__law_is_ring) (defBody s__law_is_ring) (defScope s__law_is_ring) .none kV18 dc18 pm18 an18 cd18 ct18), sl18⟩) (c18 : PySem.W.codeIn K cd18 "_law_is_ring" = true) (k18 : PySem.W.keepIn K (.ref f18) = true)
    (a19 : PySem.W.nsIn K mainGlobals "_law_order" = some (some (.ref f19))) (l19 : K.lookup f19 = some ⟨oc19, od19, .func (PySem.W.fnOf "_law_order" "_law_order" (defArgs s__law_order) (defBody s__law_order) (defScope s__law_order) .none kV19 dc19 pm19 an19 cd19 ct19), sl19⟩) (c19 : PySem.W.codeIn K cd19 "_law_order" = true) (k19 : PySem.W.keepIn K (.ref f19) = true)
    (a20 : PySem.W.nsIn K mainGlobals "_law_accepts" = some (some (.ref f20))) (l20 : K.lookup f20 = some ⟨oc20, od20, .func (PySem.W.fnOf "_law_accepts" "_law_accepts" (defArgs s__law_accepts) (defBody s__law_accepts) (defScope s__law_accepts) .none kV20 dc20 pm20 an20 cd20 ct20), sl20⟩) (c20 : PySem.W.codeIn K cd20 "_law_accepts" = true) (k20 : PySem.W.keepIn K (.ref f20) = true)
    (a21 : PySem.W.nsIn K mainGlobals "_law_papers" = some (some (.ref f21))) (l21 : K.lookup f21 = some ⟨oc21, od21, .func (PySem.W.fnOf "_law_papers" "_law_papers" (defArgs s__law_papers) (defBody s__law_papers) (defScope s__law_papers) .none kV21 dc21 pm21 an21 cd21 ct21), sl21⟩) (c21 : PySem.W.codeIn K cd21 "_law_papers" = true) (k21 : PySem.W.keepIn K (.ref f21) = true)
    (a22 : PySem.W.nsIn K mainGlobals "law" = some (some (.ref f22))) (l22 : K.lookup f22 = some ⟨oc22, od22, .func (PySem.W.fnOf "law" "law" (defArgs s_law) (defBody s_law) (defScope s_law) .none kV22 dc22 pm22 an22 cd22 ct22), sl22⟩) (c22 : PySem.W.codeIn K cd22 "law" = true) (k22 : PySem.W.keepIn K (.ref f22) = true)
    (z_all : PySem.W.nsIn K mainGlobals "all" = some none)
    (z_bool : PySem.W.nsIn K mainGlobals "bool" = some none)
    (z_enumerate : PySem.W.nsIn K mainGlobals "enumerate" = some none)
    (z_int : PySem.W.nsIn K mainGlobals "int" = some none)
    (z_isinstance : PySem.W.nsIn K mainGlobals "isinstance" = some none)
    (z_len : PySem.W.nsIn K mainGlobals "len" = some none)
    (z_list : PySem.W.nsIn K mainGlobals "list" = some none)
    (z_max : PySem.W.nsIn K mainGlobals "max" = some none)
    (z_min : PySem.W.nsIn K mainGlobals "min" = some none)
    (z_range : PySem.W.nsIn K mainGlobals "range" = some none)
    (z_repr : PySem.W.nsIn K mainGlobals "repr" = some none)
    (z_sorted : PySem.W.nsIn K mainGlobals "sorted" = some none)
    (z_str : PySem.W.nsIn K mainGlobals "str" = some none)
    (z_tuple : PySem.W.nsIn K mainGlobals "tuple" = some none)
    : ∃ fd : FuncData, (∀ (s : Shared) (v : Value), BindsTo s fd ⟨[v], []⟩ [("script", v)]) ∧ ∀ base : Heap, K.In base → base.Ns mainGlobals mg → FnG l.prog w K mg base CX0 5 fa fd ["script"] (spD 1 P_law) := by
  have e := hfa.symm.trans (PySem.W.mg_of X G a22)
  cases e
  have M : Mg mg := ⟨PySem.W.mg_none_of X G z_all, PySem.W.mg_none_of X G z_bool, PySem.W.mg_none_of X G z_enumerate, PySem.W.mg_none_of X G z_int, PySem.W.mg_none_of X G z_isinstance, PySem.W.mg_none_of X G z_len, PySem.W.mg_none_of X G z_list, PySem.W.mg_none_of X G z_max, PySem.W.mg_none_of X G z_min, PySem.W.mg_none_of X G z_range, PySem.W.mg_none_of X G z_repr, PySem.W.mg_none_of X G z_sorted, PySem.W.mg_none_of X G z_str, PySem.W.mg_none_of X G z_tuple⟩
  have F0 := fun_mk (st := s_movers_of) l0 c0 k0
  have b0 := F0.binds (ps := ["renaming"]) fun _ _ _ _ _ _ us hl => match us, hl with | [_], _ => rfl
  have F1 := fun_mk (st := s_waits_of) l1 c1 k1
  have b1 := F1.binds (ps := ["renaming"]) fun _ _ _ _ _ _ us hl => match us, hl with | [_], _ => rfl
  have F2 := fun_mk (st := s_ring_from) l2 c2 k2
  have b2 := F2.binds (ps := ["waits", "person"]) fun _ _ _ _ _ _ us hl => match us, hl with | [_, _], _ => rfl
  have F3 := fun_mk (st := s_rings_of) l3 c3 k3
  have b3 := F3.binds (ps := ["renaming"]) fun _ _ _ _ _ _ us hl => match us, hl with | [_], _ => rfl
  have F4 := fun_mk (st := s_find_order) l4 c4 k4
  have b4 := F4.binds (ps := ["renaming"]) fun _ _ _ _ _ _ us hl => match us, hl with | [_], _ => rfl
  have F5 := fun_mk (st := s_is_ring) l5 c5 k5
  have b5 := F5.binds (ps := ["renaming", "ring"]) fun _ _ _ _ _ _ us hl => match us, hl with | [_, _], _ => rfl
  have F6 := fun_mk (st := s_is_order) l6 c6 k6
  have b6 := F6.binds (ps := ["renaming", "order"]) fun _ _ _ _ _ _ us hl => match us, hl with | [_, _], _ => rfl
  have F7 := fun_mk (st := s_judge_order) l7 c7 k7
  have b7 := F7.binds (ps := ["renaming", "verdict"]) fun _ _ _ _ _ _ us hl => match us, hl with | [_, _], _ => rfl
  have F8 := fun_mk (st := s__law_cell) l8 c8 k8
  have b8 := F8.binds (ps := ["script", "k"]) fun _ _ _ _ _ _ us hl => match us, hl with | [_, _], _ => rfl
  have F9 := fun_mk (st := s__law_numbers) l9 c9 k9
  have b9 := F9.binds (ps := ["cell", "count", "limit"]) fun _ _ _ _ _ _ us hl => match us, hl with | [_, _, _], _ => rfl
  have F10 := fun_mk (st := s__law_same) l10 c10 k10
  have b10 := F10.binds (ps := ["told", "due"]) fun _ _ _ _ _ _ us hl => match us, hl with | [_, _], _ => rfl
  have F11 := fun_mk (st := s__law_letters) l11 c11 k11
  have b11 := F11.binds (ps := ["draw", "count"]) fun _ _ _ _ _ _ us hl => match us, hl with | [_, _], _ => rfl
  have F12 := fun_mk (st := s__law_unique) l12 c12 k12
  have b12 := F12.binds (ps := ["some"]) fun _ _ _ _ _ _ us hl => match us, hl with | [_], _ => rfl
  have F13 := fun_mk (st := s__law_pool) l13 c13 k13
  have b13 := F13.binds (ps := ["cell", "count"]) fun _ _ _ _ _ _ us hl => match us, hl with | [_, _], _ => rfl
  have F14 := fun_mk (st := s__law_renaming) l14 c14 k14
  have b14 := F14.binds (ps := ["script", "at"]) fun _ _ _ _ _ _ us hl => match us, hl with | [_, _], _ => rfl
  have F15 := fun_mk (st := s__law_movers) l15 c15 k15
  have b15 := F15.binds (ps := ["renaming"]) fun _ _ _ _ _ _ us hl => match us, hl with | [_], _ => rfl
  have F16 := fun_mk (st := s__law_waits) l16 c16 k16
  have b16 := F16.binds (ps := ["renaming"]) fun _ _ _ _ _ _ us hl => match us, hl with | [_], _ => rfl
  have F17 := fun_mk (st := s__law_rings) l17 c17 k17
  have b17 := F17.binds (ps := ["renaming"]) fun _ _ _ _ _ _ us hl => match us, hl with | [_], _ => rfl
  have F18 := fun_mk (st := s__law_is_ring) l18 c18 k18
  have b18 := F18.binds (ps := ["renaming", "ring"]) fun _ _ _ _ _ _ us hl => match us, hl with | [_, _], _ => rfl
  have F19 := fun_mk (st := s__law_order) l19 c19 k19
  have b19 := F19.binds (ps := ["renaming"]) fun _ _ _ _ _ _ us hl => match us, hl with | [_], _ => rfl
  have F20 := fun_mk (st := s__law_accepts) l20 c20 k20
  have b20 := F20.binds (ps := ["renaming", "verdict"]) fun _ _ _ _ _ _ us hl => match us, hl with | [_, _], _ => rfl
  have F21 := fun_mk (st := s__law_papers) l21 c21 k21
  have b21 := F21.binds (ps := ["renaming", "verdict", "draws"]) fun _ _ _ _ _ _ us hl => match us, hl with | [_, _, _], _ => rfl
  have F22 := fun_mk (st := s_law) l22 c22 k22
  refine ⟨PySem.W.fnOf "law" "law" (defArgs s_law) (defBody s_law) (defScope s_law) .none kV22 dc22 pm22 an22 cd22 ct22, fun s v => .of_eq rfl, fun base _ _ => ?_⟩
  have D_movers_of : Cal l.prog w K mg base 1 "movers_of" (spD 1 P_movers_of) := cal_movers_of M F0 (PySem.W.mg_of X G a0) b0
  have D_waits_of : Cal l.prog w K mg base 1 "waits_of" (spD 1 P_waits_of) := cal_waits_of M F1 (PySem.W.mg_of X G a1) b1
  have D_ring_from : Cal l.prog w K mg base 1 "ring_from" (spD 2 P_ring_from) := cal_ring_from M F2 (PySem.W.mg_of X G a2) b2
  have D_rings_of : Cal l.prog w K mg base 2 "rings_of" (spD 1 P_rings_of) := cal_rings_of M D_ring_from D_waits_of F3 (PySem.W.mg_of X G a3) b3
  have D_find_order : Cal l.prog w K mg base 3 "find_order" (spD 1 P_find_order) := cal_find_order M D_movers_of D_rings_of D_waits_of F4 (PySem.W.mg_of X G a4) b4
  have D_is_ring : Cal l.prog w K mg base 2 "is_ring" (spD 2 P_is_ring) := cal_is_ring M D_waits_of F5 (PySem.W.mg_of X G a5) b5
  have D_is_order : Cal l.prog w K mg base 2 "is_order" (spD 2 P_is_order) := cal_is_order M D_movers_of D_waits_of F6 (PySem.W.mg_of X G a6) b6
  have D_judge_order : Cal l.prog w K mg base 3 "judge_order" (spD 2 P_judge_order) := cal_judge_order M D_is_order D_is_ring F7 (PySem.W.mg_of X G a7) b7
  have D__law_cell : Cal l.prog w K mg base 1 "_law_cell" (spD 2 P__law_cell) := cal__law_cell M F8 (PySem.W.mg_of X G a8) b8
  have D__law_numbers : Cal l.prog w K mg base 1 "_law_numbers" (spD 3 P__law_numbers) := cal__law_numbers M F9 (PySem.W.mg_of X G a9) b9
  have D__law_same : Cal l.prog w K mg base 4 "_law_same" (spD 2 P__law_same) := cal__law_same M F10 (PySem.W.mg_of X G a10) b10
  have D__law_letters : Cal l.prog w K mg base 1 "_law_letters" (spD 2 P__law_letters) := cal__law_letters M F11 (PySem.W.mg_of X G a11) b11
  have D__law_unique : Cal l.prog w K mg base 1 "_law_unique" (spD 1 P__law_unique) := cal__law_unique M F12 (PySem.W.mg_of X G a12) b12
  have D__law_pool : Cal l.prog w K mg base 2 "_law_pool" (spD 2 P__law_pool) := cal__law_pool M D__law_letters D__law_numbers F13 (PySem.W.mg_of X G a13) b13
  have D__law_renaming : Cal l.prog w K mg base 3 "_law_renaming" (spD 2 P__law_renaming) := cal__law_renaming M D__law_cell D__law_numbers D__law_pool F14 (PySem.W.mg_of X G a14) b14
  have D__law_movers : Cal l.prog w K mg base 1 "_law_movers" (spD 1 P__law_movers) := cal__law_movers M F15 (PySem.W.mg_of X G a15) b15
  have D__law_waits : Cal l.prog w K mg base 1 "_law_waits" (spD 1 P__law_waits) := cal__law_waits M F16 (PySem.W.mg_of X G a16) b16
  have D__law_rings : Cal l.prog w K mg base 2 "_law_rings" (spD 1 P__law_rings) := cal__law_rings M D__law_waits F17 (PySem.W.mg_of X G a17) b17
  have D__law_is_ring : Cal l.prog w K mg base 2 "_law_is_ring" (spD 2 P__law_is_ring) := cal__law_is_ring M D__law_unique D__law_waits F18 (PySem.W.mg_of X G a18) b18
  have D__law_order : Cal l.prog w K mg base 2 "_law_order" (spD 1 P__law_order) := cal__law_order M D__law_movers D__law_waits F19 (PySem.W.mg_of X G a19) b19
  have D__law_accepts : Cal l.prog w K mg base 3 "_law_accepts" (spD 2 P__law_accepts) := cal__law_accepts M D__law_is_ring D__law_movers D__law_waits F20 (PySem.W.mg_of X G a20) b20
  have D__law_papers : Cal l.prog w K mg base 3 "_law_papers" (spD 3 P__law_papers) := cal__law_papers M D__law_order D__law_rings F21 (PySem.W.mg_of X G a21) b21
  exact ok_law M D__law_accepts D__law_cell D__law_numbers D__law_order D__law_papers D__law_renaming D__law_rings D__law_same D_find_order D_judge_order F22

end PL
open PySem PySem.W PyProof.Rows
set_option maxHeartbeats 0 in
theorem PySem.Challenge.cw_lettersacross_k70_orders_of_renamings_or_holds : PySem.Challenge.rw_lettersacross_k70_orders_of_renamings_or.Holds := by
  w_on; o_law; k_head; (case hw => w_witness2)
  k_fill
  refine PL.walk_ofG (l := PySem.Challenge.rw_lettersacross_k70_orders_of_renamings_or) (n := 63) (k := 5) (x := "script") (sp := fun _ => PL.spD 1 PL.P_law) rfl (by decide) rfl ⟨rfl, by decide, by decide⟩ (fun w h Y => PySem.W.kIn_of Y) ?F ?hsp
  case hsp =>
    intro w H a ns hl hO hS
    refine PL.law_sp ?hk hO hS ⟨ns, rfl, hl, rfl⟩
    (case hk => kernel_rfl)
  case F =>
    intro w mg fa h KX G hmg
    refine' PL.all_mk KX G hmg ?a0 ?l0 ?c0 ?k0 ?a1 ?l1 ?c1 ?k1 ?a2 ?l2 ?c2 ?k2 ?a3 ?l3 ?c3 ?k3 ?a4 ?l4 ?c4 ?k4 ?a5 ?l5 ?c5 ?k5 ?a6 ?l6 ?c6 ?k6 ?a7 ?l7 ?c7 ?k7 ?a8 ?l8 ?c8 ?k8 ?a9 ?l9 ?c9 ?k9 ?a10 ?l10 ?c10 ?k10 ?a11 ?l11 ?c11 ?k11 ?a12 ?l12 ?c12 ?k12 ?a13 ?l13 ?c13 ?k13 ?a14 ?l14 ?c14 ?k14 ?a15 ?l15 ?c15 ?k15 ?a16 ?l16 ?c16 ?k16 ?a17 ?l17 ?c17 ?k17 ?a18 ?l18 ?c18 ?k18 ?a19 ?l19 ?c19 ?k19 ?a20 ?l20 ?c20 ?k20 ?a21 ?l21 ?c21 ?k21 ?a22 ?l22 ?c22 ?k22 ?z_all ?z_bool ?z_enumerate ?z_int ?z_isinstance ?z_len ?z_list ?z_max ?z_min ?z_range ?z_repr ?z_sorted ?z_str ?z_tuple
    (case a0 => k_is)
    (case l0 => k_is)
    (case c0 => k_is)
    (case k0 => k_is)
    (case a1 => k_is)
    (case l1 => k_is)
    (case c1 => k_is)
    (case k1 => k_is)
    (case a2 => k_is)
    (case l2 => k_is)
    (case c2 => k_is)
    (case k2 => k_is)
    (case a3 => k_is)
    (case l3 => k_is)
    (case c3 => k_is)
    (case k3 => k_is)
    (case a4 => k_is)
    (case l4 => k_is)
    (case c4 => k_is)
    (case k4 => k_is)
    (case a5 => k_is)
    (case l5 => k_is)
    (case c5 => k_is)
    (case k5 => k_is)
    (case a6 => k_is)
    (case l6 => k_is)
    (case c6 => k_is)
    (case k6 => k_is)
    (case a7 => k_is)
    (case l7 => k_is)
    (case c7 => k_is)
    (case k7 => k_is)
    (case a8 => k_is)
    (case l8 => k_is)
    (case c8 => k_is)
    (case k8 => k_is)
    (case a9 => k_is)
    (case l9 => k_is)
    (case c9 => k_is)
    (case k9 => k_is)
    (case a10 => k_is)
    (case l10 => k_is)
    (case c10 => k_is)
    (case k10 => k_is)
    (case a11 => k_is)
    (case l11 => k_is)
    (case c11 => k_is)
    (case k11 => k_is)
    (case a12 => k_is)
    (case l12 => k_is)
    (case c12 => k_is)
    (case k12 => k_is)
    (case a13 => k_is)
    (case l13 => k_is)
    (case c13 => k_is)
    (case k13 => k_is)
    (case a14 => k_is)
    (case l14 => k_is)
    (case c14 => k_is)
    (case k14 => k_is)
    (case a15 => k_is)
    (case l15 => k_is)
    (case c15 => k_is)
    (case k15 => k_is)
    (case a16 => k_is)
    (case l16 => k_is)
    (case c16 => k_is)
    (case k16 => k_is)
    (case a17 => k_is)
    (case l17 => k_is)
    (case c17 => k_is)
    (case k17 => k_is)
    (case a18 => k_is)
    (case l18 => k_is)
    (case c18 => k_is)
    (case k18 => k_is)
    (case a19 => k_is)
    (case l19 => k_is)
    (case c19 => k_is)
    (case k19 => k_is)
    (case a20 => k_is)
    (case l20 => k_is)
    (case c20 => k_is)
    (case k20 => k_is)
    (case a21 => k_is)
    (case l21 => k_is)
    (case c21 => k_is)
    (case k21 => k_is)
    (case a22 => k_is)
    (case l22 => k_is)
    (case c22 => k_is)
    (case k22 => k_is)
    (case z_all => k_is)
    (case z_bool => k_is)
    (case z_enumerate => k_is)
    (case z_int => k_is)
    (case z_isinstance => k_is)
    (case z_len => k_is)
    (case z_list => k_is)
    (case z_max => k_is)
    (case z_min => k_is)
    (case z_range => k_is)
    (case z_repr => k_is)
    (case z_sorted => k_is)
    (case z_str => k_is)
    (case z_tuple => k_is)


