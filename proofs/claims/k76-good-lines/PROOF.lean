import PyProof.Rows.All
import Wide.All
import OpenK.AllK
import Wide.FinOn
import HandS.ForMost
import HandS.Deep
import HandS.ForExc
import HandS.Zip
import HandS.DictComp
import HandS.TupAny
import HandS.IsInst
import HandS.Style
import HandS.SortInts
import HandS.Codes
import HandS.TupLen
import HandS.Replace
import HandS.TupMul
import KE.DataMinMax
import HandS.Exc
import HandS.ExcOwn
import HandS.ExcIs
import HandS.TryOnly
import HandS.WordsExc
import KE.DatumIndex
import PyProof.ReprLen
import HandS.Text
import HandS.StrMore
import HandS.Conv
import PyProof.Rows.StrPadFill
import PyProof.Rows.StrCase
import HandS.Iter
import HandS.DictTup
import HandS.RevRange
import HandS.Steps
import KE.KDictDisplayH
import KE.DataEq
import PySem.Challenge.RW_lettersacross_k76_whole_good_lines_count
set_option Elab.async false
set_option linter.all false
set_option maxRecDepth 100000
set_option maxHeartbeats 4000000
/-! PL0: data without a heap: what a value bears (Rp), the environment of a def by slots (Rel), own cells -/
namespace PL
open PySem PySem.Spec PyProof.Rows L2

abbrev D := PyData
/-- by cases, as a goal of two -/
structure Cif (c : Bool) (A B : Prop) : Prop where
  t : c = true → A
  f : c = false → B

def keyD : Key → D
  | .inl i => .int i
  | .inr x => .str x

/-! ### a value bears data, in the frozen heap F -/
mutual
inductive Rp (F : Hp) : V → D → Prop
  | non : Rp F .non .none
  | bl (b : Bool) : Rp F (.bl b) (.bool b)
  | int (i : Int) : Rp F (.int i) (.int i)
  | str (x : Str) (h : PyData.strOk x = true) : Rp F (.str x) (.str x)
  | lst {a : Addr} {xs : List V} {ds : List D} : F a = some (.lst xs) → RpA F xs ds → Rp F (.ref a) (.list ds)
  /-- the script: a list that is known to the object -/
  | fz {a : Addr} {o : Obj} {xs : List V} {ds : List D} : F a = some (.frz o (.lst xs)) → RpA F xs ds → Rp F (.ref a) (.dict [(.none, .list ds)])
  | tup {a : Addr} {xs : List V} {ds : List D} : F a = some (.tup xs) → RpA F xs ds → Rp F (.ref a) (.tuple ds)
  | dk {a : Addr} {kvs : List (Key × V)} {ds : List (D × D)} : F a = some (.dK kvs) → RpK F kvs ds → Rp F (.ref a) (.dict ds)
  | dt {a : Addr} {kvs : List (List Key × V)} {ds : List (D × D)} : F a = some (.dT kvs) → RpT F kvs ds → Rp F (.ref a) (.dict ds)
inductive RpA (F : Hp) : List V → List D → Prop
  | nil : RpA F [] []
  | cons {v : V} {vs : List V} {d : D} {ds : List D} : Rp F v d → RpA F vs ds → RpA F (v :: vs) (d :: ds)
inductive RpK (F : Hp) : List (Key × V) → List (D × D) → Prop
  | nil : RpK F [] []
  | cons {k : Key} {v : V} {r : List (Key × V)} {d : D} {ds : List (D × D)} : Rp F v d → RpK F r ds → RpK F ((k, v) :: r) ((keyD k, d) :: ds)
inductive RpT (F : Hp) : List (List Key × V) → List (D × D) → Prop
  | nil : RpT F [] []
  | cons {k : List Key} {v : V} {r : List (List Key × V)} {d : D} {ds : List (D × D)} : Rp F v d → RpT F r ds → RpT F ((k, v) :: r) ((.tuple (k.map keyD), d) :: ds)
end

theorem rd_same {H H' : Hp} {a : Addr} {u : HO} (e : Same H H') (h : Rd H a u) : Rd H' a u := by
  rcases h with h | ⟨o, h⟩
  · exact Or.inl (e a _ h)
  · exact Or.inr ⟨o, e a _ h⟩

mutual
theorem Rp.mono {F F' : Hp} (e : Same F F') : ∀ {v : V} {d : D}, Rp F v d → Rp F' v d
  | _, _, .non => .non
  | _, _, .bl b => .bl b
  | _, _, .int i => .int i
  | _, _, .str x h => .str x h
  | _, _, .lst h r => .lst (e _ _ h) (RpA.mono e r)
  | _, _, .fz h r => .fz (e _ _ h) (RpA.mono e r)
  | _, _, .tup h r => .tup (e _ _ h) (RpA.mono e r)
  | _, _, .dk h r => .dk (e _ _ h) (RpK.mono e r)
  | _, _, .dt h r => .dt (e _ _ h) (RpT.mono e r)
theorem RpA.mono {F F' : Hp} (e : Same F F') : ∀ {vs : List V} {ds : List D}, RpA F vs ds → RpA F' vs ds
  | _, _, .nil => .nil
  | _, _, .cons h r => .cons (Rp.mono e h) (RpA.mono e r)
theorem RpK.mono {F F' : Hp} (e : Same F F') : ∀ {vs : List (Key × V)} {ds : List (D × D)}, RpK F vs ds → RpK F' vs ds
  | _, _, .nil => .nil
  | _, _, .cons h r => .cons (Rp.mono e h) (RpK.mono e r)
theorem RpT.mono {F F' : Hp} (e : Same F F') : ∀ {vs : List (List Key × V)} {ds : List (D × D)}, RpT F vs ds → RpT F' vs ds
  | _, _, .nil => .nil
  | _, _, .cons h r => .cons (Rp.mono e h) (RpT.mono e r)
end

theorem RpA.length {F : Hp} : ∀ {vs : List V} {ds : List D}, RpA F vs ds → vs.length = ds.length
  | _, _, .nil => rfl
  | _, _, .cons _ r => congrArg (· + 1) (RpA.length r)
theorem RpA.get {F : Hp} : ∀ {vs : List V} {ds : List D} {i : Nat} {d : D}, RpA F vs ds → ds[i]? = some d → ∃ v, vs[i]? = some v ∧ Rp F v d
  | _, _, _, _, .nil, e => by simp at e
  | _, _, 0, _, .cons h _, e => by
    simp at e
    subst e
    exact ⟨_, rfl, h⟩
  | _, _, i + 1, d, .cons _ r, e => by
    obtain ⟨v, h1, h2⟩ := RpA.get (i := i) (d := d) r (by simpa using e)
    exact ⟨v, by simpa using h1, h2⟩
theorem RpA.getV {F : Hp} : ∀ {vs : List V} {ds : List D} {i : Nat} {v : V}, RpA F vs ds → vs[i]? = some v → ∃ d, ds[i]? = some d ∧ Rp F v d
  | _, _, _, _, .nil, e => by simp at e
  | _, _, 0, _, .cons h _, e => by
    simp at e
    subst e
    exact ⟨_, rfl, h⟩
  | _, _, i + 1, v, .cons _ r, e => by
    obtain ⟨d, h1, h2⟩ := RpA.getV (i := i) (v := v) r (by simpa using e)
    exact ⟨d, by simpa using h1, h2⟩
theorem RpA.append {F : Hp} : ∀ {vs us : List V} {ds es : List D}, RpA F vs ds → RpA F us es → RpA F (vs ++ us) (ds ++ es)
  | _, _, _, _, .nil, s => s
  | _, _, _, _, .cons h r, s => .cons h (RpA.append r s)
theorem RpA.take {F : Hp} : ∀ {vs : List V} {ds : List D} (n : Nat), RpA F vs ds → RpA F (vs.take n) (ds.take n)
  | _, _, 0, _ => .nil
  | _, _, _ + 1, .nil => .nil
  | _, _, n + 1, .cons h r => .cons h (RpA.take n r)
theorem RpA.drop {F : Hp} : ∀ {vs : List V} {ds : List D} (n : Nat), RpA F vs ds → RpA F (vs.drop n) (ds.drop n)
  | _, _, 0, r => r
  | _, _, _ + 1, .nil => .nil
  | _, _, n + 1, .cons _ r => RpA.drop n r
theorem RpA.set {F : Hp} {v : V} {d : D} (h0 : Rp F v d) : ∀ {vs : List V} {ds : List D} (n : Nat), RpA F vs ds → RpA F (vs.set n v) (ds.set n d)
  | _, _, _, .nil => .nil
  | _, _, 0, .cons _ r => .cons h0 r
  | _, _, n + 1, .cons h r => .cons h (RpA.set h0 n r)
theorem RpA.rep {F : Hp} {vs : List V} {ds : List D} (h : RpA F vs ds) : ∀ n : Nat, RpA F (List.replicate n vs).flatten (List.replicate n ds).flatten
  | 0 => .nil
  | n + 1 => by
    simp only [List.replicate_succ, List.flatten_cons]
    exact h.append (RpA.rep h n)
theorem RpA.reverse {F : Hp} : ∀ {vs : List V} {ds : List D}, RpA F vs ds → RpA F vs.reverse ds.reverse
  | _, _, .nil => .nil
  | _, _, .cons h r => by
    rw [List.reverse_cons, List.reverse_cons]
    exact (RpA.reverse r).append (.cons h .nil)
theorem RpA.map {F : Hp} {α : Type} (f : α → V) (g : α → D) : ∀ (xs : List α), (∀ x ∈ xs, Rp F (f x) (g x)) → RpA F (xs.map f) (xs.map g)
  | [], _ => .nil
  | x :: xs, h => .cons (h x List.mem_cons_self) (RpA.map f g xs fun y hy => h y (List.mem_cons_of_mem _ hy))

/-! ### data without dicts are the hand layer's -/
mutual
theorem Rp.dp {K : PySem.W.Frag} {F : Hp} : ∀ {v : V} {d : D}, Rp F v d → d.hasDict = false → Dp K F v d
  | _, _, .non, _ => .non
  | _, _, .bl b, _ => .bl b
  | _, _, .int i, _ => .int i
  | _, _, .str x _, _ => .str x
  | _, _, .lst h r, e => .lst (.inl (.inl h)) (RpA.dp r (by simpa [PyData.hasDict] using e))
  | _, _, .tup h r, e => .tup (.inl (.inl h)) (RpA.dp r (by simpa [PyData.hasDict] using e))
  | _, _, .dk _ _, e => by simp [PyData.hasDict] at e
  | _, _, .fz _ _, e => by simp [PyData.hasDict] at e
  | _, _, .dt _ _, e => by simp [PyData.hasDict] at e
theorem RpA.dp {K : PySem.W.Frag} {F : Hp} : ∀ {vs : List V} {ds : List D}, RpA F vs ds → PyData.hasDictAll ds = false → DpAll K F vs ds
  | _, _, .nil, _ => .nil
  | _, _, .cons h r, e => by
    simp only [PyData.hasDictAll, Bool.or_eq_false_iff] at e
    exact .cons (Rp.dp h e.1) (RpA.dp r e.2)
end
mutual
theorem Rp.lay {F : Hp} : ∀ {v : V} {d : D}, Rp F v d → d.hasDict = false → d.canLay0 = true
  | _, _, .non, _ => by simp [PyData.canLay0]
  | _, _, .bl b, _ => by simp [PyData.canLay0]
  | _, _, .int i, _ => by simp [PyData.canLay0]
  | _, _, .str x h, _ => by simp [PyData.canLay0, h]
  | _, _, .lst _ r, e => by
    simp only [PyData.canLay0]
    exact RpA.lay r (by simpa [PyData.hasDict] using e)
  | _, _, .tup _ r, e => by
    simp only [PyData.canLay0]
    exact RpA.lay r (by simpa [PyData.hasDict] using e)
  | _, _, .dk _ _, e => by simp [PyData.hasDict] at e
  | _, _, .fz _ _, e => by simp [PyData.hasDict] at e
  | _, _, .dt _ _, e => by simp [PyData.hasDict] at e
theorem RpA.lay {F : Hp} : ∀ {vs : List V} {ds : List D}, RpA F vs ds → PyData.hasDictAll ds = false → PyData.canLayAll0 ds = true
  | _, _, .nil, _ => by simp [PyData.canLayAll0]
  | _, _, .cons h r, e => by
    simp only [PyData.hasDictAll, Bool.or_eq_false_iff] at e
    simp only [PyData.canLayAll0, Bool.and_eq_true]
    exact ⟨Rp.lay h e.1, RpA.lay r e.2⟩
end
/-- without dicts and not too deep -/
def flat (n : Nat) (d : D) : Bool := !d.hasDict && decide (d.depth ≤ n)
theorem Rp.shaped {F : Hp} {v : V} {d : D} (h : Rp F v d) (e : flat 60 d = true) : SeqAt.shaped d = true := by
  simp only [flat, Bool.and_eq_true, Bool.not_eq_true', decide_eq_true_eq] at e
  show (d.canLay0 && decide (d.depth ≤ 64)) = true
  rw [Bool.and_eq_true]
  exact ⟨h.lay e.1, decide_eq_true (by omega)⟩
theorem Rp.dpf {K : PySem.W.Frag} {F : Hp} {v : V} {d : D} (h : Rp F v d) (e : flat 60 d = true) : Dp K F v d := by
  simp only [flat, Bool.and_eq_true, Bool.not_eq_true'] at e
  exact h.dp e.1

/-! ### own objects: what only a slot (or a value just made) holds -/
inductive O where
  | l (ds : List D)
  /-- a dict whose keys are ints and texts; one whose keys are tuples of such -/
  | k (kvs : List (D × D))
  | t (kvs : List (D × D))
def O.toD : O → D
  | .l ds => .list ds
  | .k kvs => .dict kvs
  | .t kvs => .dict kvs

inductive RO (F H : Hp) : V → O → List Addr → Prop
  | l {a : Addr} {xs : List V} {ds : List D} : H a = some (.lst xs) → RpA F xs ds → RO F H (.ref a) (.l ds) [a]
  | k {a : Addr} {kvs : List (Key × V)} {ds : List (D × D)} : H a = some (.dK kvs) → RpK F kvs ds → RO F H (.ref a) (.k ds) [a]
  | t {a : Addr} {kvs : List (List Key × V)} {ds : List (D × D)} : H a = some (.dT kvs) → RpT F kvs ds → RO F H (.ref a) (.t ds) [a]

theorem RO.mem {F H : Hp} {v : V} {o : O} {f : List Addr} (r : RO F H v o f) : ∀ a ∈ f, H a ≠ none := by
  cases r with
  | l h _ => intro a ha; simp at ha; subst ha; rw [h]; exact fun z => nomatch z
  | k h _ => intro a ha; simp at ha; subst ha; rw [h]; exact fun z => nomatch z
  | t h _ => intro a ha; simp at ha; subst ha; rw [h]; exact fun z => nomatch z
theorem RO.no_tup {F H : Hp} {v : V} {o : O} {f : List Addr} (r : RO F H v o f) : ∀ a ∈ f, ∀ xs, H a ≠ some (.tup xs) := by
  cases r with
  | l h _ => intro a ha xs e; simp at ha; subst ha; rw [h] at e; cases e
  | k h _ => intro a ha xs e; simp at ha; subst ha; rw [h] at e; cases e
  | t h _ => intro a ha xs e; simp at ha; subst ha; rw [h] at e; cases e
/-- the cells stay, the frozen heap grows -/
theorem RO.mono {F F' H H' : Hp} {v : V} {o : O} {f : List Addr} (r : RO F H v o f) (e : Same F F') (hc : ∀ a ∈ f, H' a = H a) : RO F' H' v o f := by
  cases r with
  | l h r => exact .l (by rw [hc _ (by simp)]; exact h) (r.mono e)
  | k h r => exact .k (by rw [hc _ (by simp)]; exact h) (r.mono e)
  | t h r => exact .t (by rw [hc _ (by simp)]; exact h) (r.mono e)
/-- read in the heap that is -/
theorem RO.rp {F H : Hp} {v : V} {o : O} {f : List Addr} (r : RO F H v o f) (e : Same F H) : Rp H v o.toD := by
  cases r with
  | l h r => exact .lst h (r.mono e)
  | k h r => exact .dk h (r.mono e)
  | t h r => exact .dt h (r.mono e)

/-! ### slots, values -/
inductive Sl where
  | un
  | sh (d : D)
  | ow (o : O)
  /-- an exception that a clause names -/
  | ex (a : Addr)
abbrev Ev := List Sl
theorem ex_ne {Γ : Ev} {i j : Nat} {a : Addr} {s : Sl} (hs : ∀ a, s ≠ Sl.ex a) (q : (Γ.set i s)[j]? = some (.ex a)) : i ≠ j ∧ Γ[j]? = some (.ex a) := by
  by_cases hj : i = j
  · subst hj
    rw [List.getElem?_set] at q
    split at q
    · split at q
      · cases q
        exact absurd rfl (hs a)
      · cases q
    · rename_i hn
      exact absurd rfl hn
  · rw [List.getElem?_set_ne hj] at q
    exact ⟨hj, q⟩
inductive Wv where
  | sh (d : D)
  | ow (o : O)
  | at (i : Nat)

structure Ext (B F F' : Hp) : Prop where
  same : Same F F'
  new : ∀ a, F' a ≠ none → F a = none → B a = none ∨ ∃ xs, F' a = some (.tup xs)
theorem Ext.refl {B F : Hp} : Ext B F F := ⟨Same.refl F, fun _ h e => absurd e h⟩
theorem Ext.trans {B F F1 F2 : Hp} (a : Ext B F F1) (b : Ext B F1 F2) : Ext B F F2 := ⟨a.same.trans b.same, fun x h e => by
  cases q : F1 x with
  | none => exact b.new x h q
  | some o => exact (a.new x (by rw [q]; exact fun z => nomatch z) e).imp id fun ⟨xs, z⟩ => ⟨xs, b.same x _ z⟩⟩

structure Rel (B F : Hp) (Γ : Ev) (σ : L2.St) (H : Hp) (fp : Nat → List Addr) : Prop where
  bx : Same B H
  fx : Same F H
  len : Γ.length = σ.length
  sh : ∀ (i : Nat) (d : D), Γ[i]? = some (Sl.sh d) → ∃ v, σ[i]? = some (some v) ∧ Rp F v d
  ow : ∀ (i : Nat) (o : O), Γ[i]? = some (Sl.ow o) → ∃ v, σ[i]? = some (some v) ∧ RO F H v o (fp i)
  nb : ∀ i a, a ∈ fp i → B a = none ∧ F a = none ∧ H a ≠ none
  dj : ∀ i j a, a ∈ fp i → a ∈ fp j → i = j
  ex : ∀ (i : Nat) (a : Addr), Γ[i]? = some (Sl.ex a) → σ[i]? = some (some (.ref a))

inductive RW (B F : Hp) (Γ : Ev) (σ : L2.St) (H : Hp) (fp : Nat → List Addr) (v : V) : Wv → Prop
  | sh {d : D} : Rp F v d → RW B F Γ σ H fp v (.sh d)
  | ow {o : O} {f : List Addr} : RO F H v o f → (∀ a ∈ f, B a = none ∧ F a = none ∧ ∀ i, a ∉ fp i) → RW B F Γ σ H fp v (.ow o)
  | at {i : Nat} : σ[i]? = some (some v) → RW B F Γ σ H fp v (.at i)

/-- the frozen heap with some cells of H -/
def frz (F H : Hp) (f : List Addr) : Hp := fun a => if a ∈ f then H a else F a
theorem frz_same {F H : Hp} {f : List Addr} (h : ∀ a ∈ f, F a = none) : Same F (frz F H f) := fun a o e => by
  unfold frz
  split
  · rename_i hm
    rw [h a hm] at e
    cases e
  · exact e
theorem frz_sub {F H : Hp} {f : List Addr} (e : Same F H) : Same (frz F H f) H := fun a o h => by
  unfold frz at h
  split at h
  · exact h
  · exact e a o h
theorem frz_ext {B F H : Hp} {f : List Addr} (h : ∀ a ∈ f, F a = none) (hb : ∀ a ∈ f, B a = none) : Ext B F (frz F H f) := ⟨frz_same h, fun a q e => by
  unfold frz at q
  split at q
  · rename_i hm
    exact .inl (hb a hm)
  · exact absurd e q⟩
theorem frz_ro {F H : Hp} {v : V} {o : O} {f : List Addr} (r : RO F H v o f) (h : ∀ a ∈ f, F a = none) : Rp (frz F H f) v o.toD := by
  have s := frz_same (H := H) h
  have at_ : ∀ a, a ∈ f → frz F H f a = H a := fun a ha => if_pos ha
  cases r with
  | l e r => exact .lst (by rw [at_ _ (by simp)]; exact e) (r.mono s)
  | k e r => exact .dk (by rw [at_ _ (by simp)]; exact e) (r.mono s)
  | t e r => exact .dt (by rw [at_ _ (by simp)]; exact e) (r.mono s)

section
variable {B F : Hp} {Γ : Ev} {σ : L2.St} {H : Hp} {fp : Nat → List Addr} {v : V} {w : Wv}

/-- a freed place of the own cells -/
def dropF (fp : Nat → List Addr) (i : Nat) : Nat → List Addr := fun j => if j = i then [] else fp j
def putF (fp : Nat → List Addr) (i : Nat) (f : List Addr) : Nat → List Addr := fun j => if j = i then f else fp j
theorem mem_dropF {i j : Nat} {a : Addr} (h : a ∈ dropF fp i j) : j ≠ i ∧ a ∈ fp j := by
  unfold dropF at h
  split at h
  · simp at h
  · rename_i q
    exact ⟨q, h⟩
theorem dropF_ne {i j : Nat} (h : j ≠ i) : dropF fp i j = fp j := if_neg h
theorem putF_same {i : Nat} {f : List Addr} : putF fp i f i = f := if_pos rfl
theorem putF_ne {i j : Nat} {f : List Addr} (h : j ≠ i) : putF fp i f j = fp j := if_neg h

/-- cells become frozen that no slot holds -/
theorem Rel.freeze (r : Rel B F Γ σ H fp) {f : List Addr} (h : ∀ a ∈ f, F a = none ∧ ∀ i, a ∉ fp i) : Rel B (frz F H f) Γ σ H fp := by
  have s := frz_same (H := H) fun a ha => (h a ha).1
  refine ⟨r.bx, frz_sub r.fx, r.len, fun i d e => ?_, fun i o e => ?_, fun i a ha => ?_, r.dj, r.ex⟩
  · obtain ⟨v, h1, h2⟩ := r.sh i d e
    exact ⟨v, h1, h2.mono s⟩
  · obtain ⟨v, h1, h2⟩ := r.ow i o e
    exact ⟨v, h1, h2.mono s fun _ _ => rfl⟩
  · obtain ⟨b, c, d⟩ := r.nb i a ha
    refine ⟨b, ?_, d⟩
    unfold frz
    split
    · rename_i hm
      exact absurd ha ((h a hm).2 i)
    · exact c
/-- slot i's own object is frozen -/
theorem Rel.freezeAt (r : Rel B F Γ σ H fp) {i : Nat} {o : O} (e : Γ[i]? = some (Sl.ow o)) :
    ∃ v, σ[i]? = some (some v) ∧ Ext B F (frz F H (fp i)) ∧ Rel B (frz F H (fp i)) (Γ.set i (.sh o.toD)) σ H (dropF fp i) ∧ Rp (frz F H (fp i)) v o.toD := by
  obtain ⟨v, h1, h2⟩ := r.ow i o e
  have nF : ∀ a ∈ fp i, F a = none := fun a ha => (r.nb i a ha).2.1
  have s := frz_same (H := H) nF
  have il : i < Γ.length := (List.getElem?_eq_some_iff.mp e).1
  refine ⟨v, h1, frz_ext nF fun a ha => (r.nb i a ha).1, ⟨r.bx, frz_sub r.fx, by rw [List.length_set]; exact r.len, fun j d q => ?_, fun j u q => ?_, fun j a ha => ?_, fun j k a ha hb => ?_, fun j a q => ?_⟩, frz_ro h2 nF⟩
  · by_cases hj : i = j
    · subst hj
      rw [List.getElem?_set_self il] at q
      cases q
      exact ⟨v, h1, frz_ro h2 nF⟩
    · rw [List.getElem?_set_ne hj] at q
      obtain ⟨u, g1, g2⟩ := r.sh j d q
      exact ⟨u, g1, g2.mono s⟩
  · by_cases hj : i = j
    · subst hj
      rw [List.getElem?_set_self il] at q
      cases q
    · rw [List.getElem?_set_ne hj] at q
      obtain ⟨u, g1, g2⟩ := r.ow j _ q
      refine ⟨u, g1, ?_⟩
      rw [dropF_ne (Ne.symm hj)]
      exact g2.mono s fun _ _ => rfl
  · obtain ⟨hj, ha⟩ := mem_dropF ha
    obtain ⟨b, c, d⟩ := r.nb j a ha
    refine ⟨b, ?_, d⟩
    unfold frz
    split
    · rename_i hm
      exact absurd (r.dj j i a ha hm) hj
    · exact c
  · exact r.dj j k a (mem_dropF ha).2 (mem_dropF hb).2
  · exact r.ex j a (ex_ne (fun _ => Sl.noConfusion) q).2

/-- a value taken for good: what is own becomes frozen -/
def shr (w : Wv) (Γ : Ev) (k : D → Ev → Prop) : Prop :=
  match w with
  | .sh d => k d Γ
  | .ow o => k o.toD Γ
  | .at i => match Γ[i]? with
    | some (.sh d) => k d Γ
    | some (.ow o) => k o.toD (Γ.set i (.sh o.toD))
    | _ => False
theorem shr_ok {k : D → Ev → Prop} (r : Rel B F Γ σ H fp) (h : RW B F Γ σ H fp v w) (q : shr w Γ k) : ∃ d Γ' F' fp', Ext B F F' ∧ Rel B F' Γ' σ H fp' ∧ Rp F' v d ∧ k d Γ' := by
  cases h with
  | sh h => exact ⟨_, Γ, F, fp, .refl, r, h, q⟩
  | @ow o f h hf =>
    have nF : ∀ a ∈ f, F a = none := fun a ha => (hf a ha).2.1
    exact ⟨_, Γ, _, fp, frz_ext nF fun a ha => (hf a ha).1, r.freeze fun a ha => ⟨(hf a ha).2.1, (hf a ha).2.2⟩, frz_ro h nF, q⟩
  | @«at» i h =>
    unfold shr at q
    simp only at q
    split at q
    · rename_i d e
      obtain ⟨u, h1, h2⟩ := r.sh i d e
      rw [h] at h1
      cases h1
      exact ⟨d, Γ, F, fp, .refl, r, h2, q⟩
    · rename_i o e
      obtain ⟨u, h1, x, r', h2⟩ := r.freezeAt e
      rw [h] at h1
      cases h1
      exact ⟨_, _, _, _, x, r', h2, q⟩
    · exact q.elim

/-- the data of a value that is looked at -/
def bor (w : Wv) (Γ : Ev) (k : D → Prop) : Prop :=
  match w with
  | .sh d => k d
  | .ow o => k o.toD
  | .at i => match Γ[i]? with
    | some (.sh d) => k d
    | some (.ow o) => k o.toD
    | _ => False
theorem bor_ok {k : D → Prop} (r : Rel B F Γ σ H fp) (h : RW B F Γ σ H fp v w) (q : bor w Γ k) : ∃ d, Rp H v d ∧ k d := by
  cases h with
  | sh h => exact ⟨_, h.mono r.fx, q⟩
  | ow h hf => exact ⟨_, h.rp r.fx, q⟩
  | @«at» i h =>
    unfold bor at q
    simp only at q
    split at q
    · rename_i d e
      obtain ⟨u, h1, h2⟩ := r.sh i d e
      rw [h] at h1
      cases h1
      exact ⟨d, h2.mono r.fx, q⟩
    · rename_i o e
      obtain ⟨u, h1, h2⟩ := r.ow i o e
      rw [h] at h1
      cases h1
      exact ⟨_, h2.rp r.fx, q⟩
    · exact q.elim
end
end PL

namespace PL
open PySem PySem.Spec PyProof.Rows L2

/-! ### looked at: the top in H, what is within in F -/
inductive Rb (F H : Hp) : V → D → Prop
  | non : Rb F H .non .none
  | bl (b : Bool) : Rb F H (.bl b) (.bool b)
  | int (i : Int) : Rb F H (.int i) (.int i)
  | str (x : Str) (h : PyData.strOk x = true) : Rb F H (.str x) (.str x)
  | lst {a : Addr} {xs : List V} {ds : List D} : H a = some (.lst xs) → RpA F xs ds → Rb F H (.ref a) (.list ds)
  | fz {a : Addr} {o : Obj} {xs : List V} {ds : List D} : H a = some (.frz o (.lst xs)) → RpA F xs ds → Rb F H (.ref a) (.dict [(.none, .list ds)])
  | tup {a : Addr} {xs : List V} {ds : List D} : F a = some (.tup xs) → H a = some (.tup xs) → RpA F xs ds → Rb F H (.ref a) (.tuple ds)
  | dk {a : Addr} {kvs : List (Key × V)} {ds : List (D × D)} : H a = some (.dK kvs) → RpK F kvs ds → Rb F H (.ref a) (.dict ds)
  | dt {a : Addr} {kvs : List (List Key × V)} {ds : List (D × D)} : H a = some (.dT kvs) → RpT F kvs ds → Rb F H (.ref a) (.dict ds)
theorem Rp.rb {F H : Hp} {v : V} {d : D} (h : Rp F v d) (e : Same F H) : Rb F H v d := by
  cases h with
  | non => exact .non
  | bl b => exact .bl b
  | int i => exact .int i
  | str x h => exact .str x h
  | lst h r => exact .lst (e _ _ h) r
  | fz h r => exact .fz (e _ _ h) r
  | tup h r => exact .tup h (e _ _ h) r
  | dk h r => exact .dk (e _ _ h) r
  | dt h r => exact .dt (e _ _ h) r
theorem RO.rb {F H : Hp} {v : V} {o : O} {f : List Addr} (r : RO F H v o f) : Rb F H v o.toD := by
  cases r with
  | l h r => exact .lst h r
  | k h r => exact .dk h r
  | t h r => exact .dt h r
theorem Rb.rp {F H : Hp} {v : V} {d : D} (h : Rb F H v d) (e : Same F H) : Rp H v d := by
  cases h with
  | non => exact .non
  | bl b => exact .bl b
  | int i => exact .int i
  | str x h => exact .str x h
  | lst h r => exact .lst h (r.mono e)
  | fz h r => exact .fz h (r.mono e)
  | tup _ h r => exact .tup h (r.mono e)
  | dk h r => exact .dk h (r.mono e)
  | dt h r => exact .dt h (r.mono e)

section
variable {B F : Hp} {Γ : Ev} {σ : L2.St} {H : Hp} {fp : Nat → List Addr} {v : V} {w : Wv}
theorem bor_rb {k : D → Prop} (r : Rel B F Γ σ H fp) (h : RW B F Γ σ H fp v w) (q : bor w Γ k) : ∃ d, Rb F H v d ∧ k d := by
  cases h with
  | sh h => exact ⟨_, h.rb r.fx, q⟩
  | ow h hf => exact ⟨_, h.rb, q⟩
  | @«at» i h =>
    unfold bor at q
    simp only at q
    split at q
    · rename_i d e
      obtain ⟨u, h1, h2⟩ := r.sh i d e
      rw [h] at h1
      cases h1
      exact ⟨d, h2.rb r.fx, q⟩
    · rename_i o e
      obtain ⟨u, h1, h2⟩ := r.ow i o e
      rw [h] at h1
      cases h1
      exact ⟨_, h2.rb, q⟩
    · exact q.elim
/-- a new cell -/
theorem Rel.new {p : Addr} {o : HO} (r : Rel B F Γ σ H fp) (hp : H p = none) : Rel B F Γ σ (upd H p o) fp :=
  ⟨fun a u e => by
    rw [upd_ne (ne_of_none (r.bx a u e) hp)]
    exact r.bx a u e, fun a u e => by
    rw [upd_ne (ne_of_none (r.fx a u e) hp)]
    exact r.fx a u e, r.len, r.sh, fun i o e => by
    obtain ⟨v, h1, h2⟩ := r.ow i o e
    refine ⟨v, h1, h2.mono (Same.refl F) fun a ha => upd_ne fun z => h2.mem a ha ?_⟩
    rw [z]
    exact hp, fun i a ha => by
    obtain ⟨b, c, d⟩ := r.nb i a ha
    refine ⟨b, c, ?_⟩
    rw [upd_ne fun z => d (by rw [z]; exact hp)]
    exact d, r.dj, r.ex⟩
theorem free_of {p : Addr} (r : Rel B F Γ σ H fp) (hp : H p = none) : B p = none ∧ F p = none ∧ ∀ i, p ∉ fp i := by
  refine ⟨r.bx.free hp, r.fx.free hp, fun i h => (r.nb i p h).2.2 hp⟩
/-- a new cell, frozen at once -/
theorem Rel.newF {p : Addr} {o : HO} (r : Rel B F Γ σ H fp) (hp : H p = none) : Ext B F (upd F p o) ∧ Rel B (upd F p o) Γ σ (upd H p o) fp := by
  obtain ⟨b, c, d⟩ := free_of r hp
  have r' : Rel B F Γ σ (upd H p o) fp := r.new hp
  have e : frz F (upd H p o) [p] = upd F p o := by
    funext a
    unfold frz upd
    by_cases h : a = p
    · simp [h]
    · simp [h]
  have x := r'.freeze (f := [p]) fun a ha => by
    simp only [List.mem_singleton] at ha
    subst ha
    exact ⟨c, d⟩
  have y : Ext B F (frz F (upd H p o) [p]) := frz_ext (fun a ha => by
    simp only [List.mem_singleton] at ha
    subst ha
    exact c) fun a ha => by
    simp only [List.mem_singleton] at ha
    subst ha
    exact b
  rw [e] at x y
  exact ⟨y, x⟩
/-- a value is held while something else is worked out -/
theorem Rel.guard (r : Rel B F Γ σ H fp) (h : RW B F Γ σ H fp v w) :
    ∃ B', Rel B' F Γ σ H fp ∧ ∀ F2 Γ2 H2 fp2, Ext B' F F2 → Rel B' F2 Γ2 σ H2 fp2 → Ext B F F2 ∧ Rel B F2 Γ2 σ H2 fp2 ∧ RW B F2 Γ2 σ H2 fp2 v w ∧ ∀ v2 w2, RW B' F2 Γ2 σ H2 fp2 v2 w2 → RW B F2 Γ2 σ H2 fp2 v2 w2 := by
  cases h with
  | sh h => exact ⟨B, r, fun F2 Γ2 H2 fp2 x r2 => ⟨x, r2, .sh (h.mono x.same), fun _ _ q => q⟩⟩
  | «at» h => exact ⟨B, r, fun F2 Γ2 H2 fp2 x r2 => ⟨x, r2, .at h, fun _ _ q => q⟩⟩
  | @ow o f h hf =>
    have nB : ∀ a ∈ f, B a = none := fun a ha => (hf a ha).1
    have bb : Same B (frz B H f) := frz_same nB
    have bn : ∀ a, frz B H f a = none → a ∉ f ∧ B a = none := fun a e => by
      have nf : a ∉ f := fun z => by
        unfold frz at e
        rw [if_pos z] at e
        exact h.mem a z e
      refine ⟨nf, ?_⟩
      unfold frz at e
      rw [if_neg nf] at e
      exact e
    refine ⟨frz B H f, ⟨frz_sub r.bx, r.fx, r.len, r.sh, r.ow, fun i a ha => ?_, r.dj, r.ex⟩, fun F2 Γ2 H2 fp2 x r2 => ⟨⟨x.same, fun a q e => (x.new a q e).imp (fun z => (bn a z).2) id⟩, ⟨bb.trans r2.bx, r2.fx, r2.len, r2.sh, r2.ow, fun i a ha => ?_, r2.dj, r2.ex⟩, ?_, fun v2 w2 q => ?_⟩⟩
    · obtain ⟨b, c, d⟩ := r.nb i a ha
      refine ⟨?_, c, d⟩
      unfold frz
      rw [if_neg fun z => (hf a z).2.2 i ha]
      exact b
    · obtain ⟨b, c, d⟩ := r2.nb i a ha
      exact ⟨(bn a b).2, c, d⟩
    · refine .ow (f := f) (h.mono x.same fun a ha => ?_) fun a ha => ⟨nB a ha, ?_, fun i hi => ?_⟩
      · cases q : H a with
        | none => exact absurd q (h.mem a ha)
        | some u => exact r2.bx a u (by unfold frz; rw [if_pos ha]; exact q)
      · cases q : F2 a with
        | none => rfl
        | some u =>
          rcases x.new a (by rw [q]; exact fun z => nomatch z) (hf a ha).2.1 with z | ⟨xs, z⟩
          · exact absurd ha (bn a z).1
          · cases q2 : H a with
            | none => exact absurd q2 (h.mem a ha)
            | some u2 =>
              have e1 := r2.bx a u2 (by unfold frz; rw [if_pos ha]; exact q2)
              rw [r2.fx a _ z] at e1
              cases e1
              exact absurd q2 (h.no_tup a ha xs)
      · exact (bn a (r2.nb i a hi).1).1 ha
    · cases q with
      | sh q => exact .sh q
      | «at» q => exact .at q
      | ow q hq => exact .ow q fun a ha => ⟨(bn a (hq a ha).1).2, (hq a ha).2⟩
end

/-! ### transformers of pure environments -/
abbrev EXP := Value → Ev → Prop
abbrev QE := Ev → (Wv → Ev → Prop) → EXP → Prop
abbrev QT := Ev → (Bool → Ev → Prop) → EXP → Prop
abbrev QA := Ev → (List D → Ev → Prop) → EXP → Prop
structure PEnds where
  nx : Ev → Prop
  rt : Wv → Ev → Prop
  bk : Ev → Prop
  ct : Ev → Prop
  ex : EXP
abbrev QS := PEnds → Ev → Prop

def AfE (W : WX) (B F : Hp) (σ : L2.St) (EX : EXP) : Prop := ∀ c Γ' F' H' fp', Ext B F F' → Rel B F' Γ' σ H' fp' → EX c Γ' → W c none σ H'
theorem AfE.mono {W : WX} {B F F1 : Hp} {σ : L2.St} {EX : EXP} (a : AfE W B F σ EX) (x : Ext B F F1) : AfE W B F1 σ EX := fun c Γ' F' H' fp' y r q => a c Γ' F' H' fp' (x.trans y) r q
def SE (W : WX) (te : TE) (p : QE) : Prop := ∀ {B F : Hp} {Γ : Ev} {σ : L2.St} {H : Hp} {fp : Nat → List Addr} (R : Wv → Ev → Prop) (EX : EXP) (Q : VK), Rel B F Γ σ H fp → p Γ R EX →
  (∀ w Γ' v F' H' fp', Ext B F F' → Rel B F' Γ' σ H' fp' → RW B F' Γ' σ H' fp' v w → R w Γ' → Q v H') → AfE W B F σ EX → te σ H Q
def ST (W : WX) (tt : TT) (p : QT) : Prop := ∀ {B F : Hp} {Γ : Ev} {σ : L2.St} {H : Hp} {fp : Nat → List Addr} (R : Bool → Ev → Prop) (EX : EXP) (Q : Bool → Hp → Prop), Rel B F Γ σ H fp → p Γ R EX →
  (∀ b Γ' F' H' fp', Ext B F F' → Rel B F' Γ' σ H' fp' → R b Γ' → Q b H') → AfE W B F σ EX → tt σ H Q
def SA (W : WX) (ta : TA) (p : QA) : Prop := ∀ {B F : Hp} {Γ : Ev} {σ : L2.St} {H : Hp} {fp : Nat → List Addr} (R : List D → Ev → Prop) (EX : EXP) (Q : List V → Hp → Prop), Rel B F Γ σ H fp → p Γ R EX →
  (∀ ds Γ' vs F' H' fp', Ext B F F' → Rel B F' Γ' σ H' fp' → RpA F' vs ds → R ds Γ' → Q vs H') → AfE W B F σ EX → ta σ H Q
structure AfS (W : WX) (B F : Hp) (P : PEnds) (D : Ends) : Prop where
  nx : ∀ Γ' F' σ' H' fp', Ext B F F' → Rel B F' Γ' σ' H' fp' → P.nx Γ' → D.nx σ' H'
  rt : ∀ w Γ' v F' σ' H' fp', Ext B F F' → Rel B F' Γ' σ' H' fp' → RW B F' Γ' σ' H' fp' v w → P.rt w Γ' → D.rt v H'
  bk : ∀ Γ' F' σ' H' fp', Ext B F F' → Rel B F' Γ' σ' H' fp' → P.bk Γ' → D.bk σ' H'
  ct : ∀ Γ' F' σ' H' fp', Ext B F F' → Rel B F' Γ' σ' H' fp' → P.ct Γ' → D.ct σ' H'
  ex : ∀ c Γ' F' σ' H' fp', Ext B F F' → Rel B F' Γ' σ' H' fp' → P.ex c Γ' → W c none σ' H'
theorem AfS.mono {W : WX} {B F F1 : Hp} {P : PEnds} {D : Ends} (a : AfS W B F P D) (x : Ext B F F1) : AfS W B F1 P D :=
  ⟨fun Γ' F' σ' H' fp' y => a.nx Γ' F' σ' H' fp' (x.trans y), fun w Γ' v F' σ' H' fp' y => a.rt w Γ' v F' σ' H' fp' (x.trans y), fun Γ' F' σ' H' fp' y => a.bk Γ' F' σ' H' fp' (x.trans y), fun Γ' F' σ' H' fp' y => a.ct Γ' F' σ' H' fp' (x.trans y), fun c Γ' F' σ' H' fp' y => a.ex c Γ' F' σ' H' fp' (x.trans y)⟩
theorem AfS.afe {W : WX} {B F : Hp} {P : PEnds} {D : Ends} {σ : L2.St} (a : AfS W B F P D) : AfE W B F σ P.ex := fun c Γ' F' H' fp' x r q => a.ex c Γ' F' σ H' fp' x r q
def SS (W : WX) (ts : TS) (p : QS) : Prop := ∀ {B F : Hp} {Γ : Ev} {σ : L2.St} {H : Hp} {fp : Nat → List Addr} (P : PEnds) (D : Ends), Rel B F Γ σ H fp → p P Γ → AfS W B F P D → ts D σ H

structure DE (X : Cx) (W : WX) (e : Expr) (te : TE) (p : QE) : Prop where
  pe : PE X e te
  se : SE W te p
structure DT (X : Cx) (W : WX) (e : Expr) (tt : TT) (p : QT) : Prop where
  pt : PT X e tt
  st : ST W tt p
structure DA (X : Cx) (W : WX) (es : List Expr) (ta : TA) (p : QA) : Prop where
  pa : PA X es ta
  sa : SA W ta p
structure DS (X : Cx) (W : WX) (s : Stmt) (ts : TS) (p : QS) : Prop where
  ps : PS X s ts
  ss : SS W ts p
structure DSs (X : Cx) (W : WX) (s : List Stmt) (ts : TS) (p : QS) : Prop where
  ps : PSs X s ts
  ss : SS W ts p

section
variable {X : Cx} {W : WX} {pos : Pos} {a b c : Expr} {ta tb tc : TE} {pa pb pc : QE}

/-! ### names, constants -/
def qVar (i : Nat) : QE := fun Γ R _ => match Γ[i]? with
  | some (.sh d) => R (.sh d) Γ
  | some (.ow _) => R (.at i) Γ
  | _ => False
theorem se_var {i : Nat} : SE W (tVar i) (qVar i) := fun {B F Γ σ H fp} R EX Q r h k _ => by
  unfold qVar at h
  split at h
  · rename_i d e
    obtain ⟨v, h1, h2⟩ := r.sh i d e
    exact ⟨v, h1, k _ _ _ _ _ _ .refl r (.sh h2) h⟩
  · rename_i o e
    obtain ⟨v, h1, h2⟩ := r.ow i o e
    exact ⟨v, h1, k _ _ _ _ _ _ .refl r (.at h1) h⟩
  · exact h.elim
theorem d_var (i : Nat) {x : Str} (hN : X.N[i]? = some x := by rfl) (hv : Vis X.env.scope x := by first | exact Or.inl rfl | exact Or.inr (Or.inl rfl) | exact Or.inr (Or.inr rfl)) (hd : (x == ("__debug__" : Str)) = false := by decide)
    (hcd : (x == ("__classdict__" : Str)) = false := by decide) : DE X W (.Name x pos) (tVar i) (qVar i) := ⟨pe_var hN hv hd hcd, se_var⟩
def qC (d : D) : QE := fun Γ R _ => R (.sh d) Γ
theorem se_c {v : V} {d : D} (h : ∀ F, Rp F v d) : SE W (tC v) (qC d) := fun {B F Γ σ H fp} R EX Q r q k _ => k _ _ _ _ _ _ .refl r (.sh (h F)) q
theorem d_int {i j} : DE X W (.Constant (.int i) j pos) (tC (.int i)) (qC (.int i)) := ⟨pe_int, se_c fun _ => .int i⟩
theorem d_bl {i j} : DE X W (.Constant (.bool i) j pos) (tC (.bl i)) (qC (.bool i)) := ⟨pe_bl, se_c fun _ => .bl i⟩
theorem d_non {j} : DE X W (.Constant .none j pos) (tC .non) (qC .none) := ⟨pe_non, se_c fun _ => .non⟩
theorem d_str {x j} (h : PyData.strOk x = true := by decide +kernel) : DE X W (.Constant (.str x) j pos) (tC (.str x)) (qC (.str x)) := ⟨pe_str, se_c fun _ => .str x h⟩
/-- a constant of the module: a text, an int -/
theorem d_gs {x y : Str} {t : Tok} (hm : X.mg x = some (.str y t)) (h : PyData.strOk y = true) (hg : Gl X x := by rfl) (hd : (x == ("__debug__" : Str)) = false := by decide) : DE X W (.Name x pos) (tC (.str y)) (qC (.str y)) := ⟨pe_glob hg hm ⟨_, rfl⟩ hd, se_c fun _ => .str y h⟩
theorem d_gi {x : Str} {i : Int} {t : Tok} (hm : X.mg x = some (.int i t)) (hg : Gl X x := by rfl) (hd : (x == ("__debug__" : Str)) = false := by decide) : DE X W (.Name x pos) (tC (.int i)) (qC (.int i)) := ⟨pe_glob hg hm ⟨_, rfl⟩ hd, se_c fun _ => .int i⟩

/-! ### operations on two values that are looked at -/
abbrev OP2 := D → D → (Wv → Prop) → Prop
def OpS (r : R2) (o : OP2) : Prop := ∀ {B F : Hp} {Γ : Ev} {σ : L2.St} {H : Hp} {fp : Nat → List Addr} {x y : V} {d1 d2 : D} (k : Wv → Prop) (Q : VK), Rel B F Γ σ H fp → Rb F H x d1 → Rb F H y d2 → o d1 d2 k →
  (∀ w v F' H', Ext B F F' → Rel B F' Γ σ H' fp → RW B F' Γ σ H' fp v w → k w → Q v H') → r x y H Q
def qOp (o : OP2) (pa pb : QE) : QE := fun Γ R E => pa Γ (fun w1 Γ1 => pb Γ1 (fun w2 Γ2 => bor w1 Γ2 fun d1 => bor w2 Γ2 fun d2 => o d1 d2 fun w => R w Γ2) E) E
theorem se_two (ha : SE W ta pa) (hb : SE W tb pb) {Z : Wv → Wv → Ev → Prop} {EX : EXP} {B F : Hp} {Γ : Ev} {σ : L2.St} {H : Hp} {fp : Nat → List Addr} (r : Rel B F Γ σ H fp)
    (h : pa Γ (fun w1 Γ1 => pb Γ1 (fun w2 Γ2 => Z w1 w2 Γ2) EX) EX) {T : V → V → Hp → Prop}
    (k : ∀ w1 w2 Γ' x y F' H' fp', Ext B F F' → Rel B F' Γ' σ H' fp' → RW B F' Γ' σ H' fp' x w1 → RW B F' Γ' σ H' fp' y w2 → Z w1 w2 Γ' → T x y H') (e : AfE W B F σ EX) : ta σ H fun x H1 => tb σ H1 fun y H2 => T x y H2 := by
  refine ha _ EX _ r h (fun w1 Γ1 x F1 H1 fp1 x1 r1 v1 h1 => ?_) e
  obtain ⟨B', r1', g⟩ := r1.guard v1
  refine hb _ EX _ r1' h1 (fun w2 Γ2 y F2 H2 fp2 x2 r2 v2 h2 => ?_) fun c Γ' F' H' fp' x2 r2 q => ?_
  · obtain ⟨x3, r3, v3, g2⟩ := g F2 Γ2 H2 fp2 x2 r2
    exact k w1 w2 Γ2 x y F2 H2 fp2 (x1.trans x3) r3 v3 (g2 _ _ v2) h2
  · obtain ⟨x3, r3, _, _⟩ := g F' Γ' H' fp' x2 r2
    exact e c Γ' F' H' fp' (x1.trans x3) r3 q
theorem se_op {r : R2} {o : OP2} (hs : OpS r o) (ha : SE W ta pa) (hb : SE W tb pb) : SE W (tOp r ta tb) (qOp o pa pb) := fun {B F Γ σ H fp} R EX Q rr h k e => by
  refine se_two ha hb rr h (Z := fun w1 w2 Γ2 => bor w1 Γ2 fun d1 => bor w2 Γ2 fun d2 => o d1 d2 fun w => R w Γ2) (fun w1 w2 Γ' x y F' H' fp' x1 r1 v1 v2 z => ?_) e
  obtain ⟨d1, b1, z⟩ := bor_rb r1 v1 z
  obtain ⟨d2, b2, z⟩ := bor_rb r1 v2 z
  exact hs _ Q r1 b1 b2 z fun w v F2 H2 x2 r2 q2 kk => k w Γ' v F2 H2 fp' (x1.trans x2) r2 q2 kk
theorem d_op {op : Operator} {r : R2} {o : OP2} (ho : OpR X (binaryOp op) r) (hs : OpS r o) (ha : DE X W a ta pa) (hb : DE X W b tb pb) : DE X W (.BinOp a op b pos) (tOp r ta tb) (qOp o pa pb) := ⟨pe_op ho ha.pe hb.pe, se_op hs ha.se hb.se⟩
theorem d_cmp {op : CmpOp} {r : R2} {o : OP2} (ho : OpR X (compareOp op) r) (hs : OpS r o) (ha : DE X W a ta pa) (hb : DE X W b tb pb) (hm : behindInMarks op b = false := by first | exact nomark _ | with_unfolding_all rfl) :
    DE X W (.Compare a [op] [b] pos) (tOp r ta tb) (qOp o pa pb) := ⟨pe_cmpR ho ha.pe hb.pe hm, se_op hs ha.se hb.se⟩
theorem d_ix {r : R2} {o : OP2} (ho : IxR X r) (hs : OpS r o) (ha : DE X W a ta pa) (hb : DE X W b tb pb) (hx : PlainIx b := by exact fun _ _ => rfl) : DE X W (.Subscript a b pos) (tOp r ta tb) (qOp o pa pb) := ⟨pe_ix ho ha.pe hb.pe hx, se_op hs ha.se hb.se⟩
abbrev OP1 := D → (Wv → Prop) → Prop
def UnS (r : V → Hp → VK → Prop) (o : OP1) : Prop := ∀ {B F : Hp} {Γ : Ev} {σ : L2.St} {H : Hp} {fp : Nat → List Addr} {x : V} {d : D} (k : Wv → Prop) (Q : VK), Rel B F Γ σ H fp → Rb F H x d → o d k →
  (∀ w v F' H', Ext B F F' → Rel B F' Γ σ H' fp → RW B F' Γ σ H' fp v w → k w → Q v H') → r x H Q
def qUn (o : OP1) (pa : QE) : QE := fun Γ R E => pa Γ (fun w1 Γ1 => bor w1 Γ1 fun d => o d fun w => R w Γ1) E
theorem se_un {r : V → Hp → VK → Prop} {o : OP1} (hs : UnS r o) (ha : SE W ta pa) : SE W (tUn r ta) (qUn o pa) := fun {B F Γ σ H fp} R EX Q rr h k e => by
  refine ha _ EX _ rr h (fun w1 Γ1 x F1 H1 fp1 x1 r1 v1 h1 => ?_) e
  obtain ⟨d, b, z⟩ := bor_rb r1 v1 h1
  exact hs _ Q r1 b z fun w v F2 H2 x2 r2 q2 kk => k w Γ1 v F2 H2 fp1 (x1.trans x2) r2 q2 kk
theorem d_un {op : UnaryOp} {r : V → Hp → VK → Prop} {o : OP1} (ho : UnR X (unaryOp op) r) (hs : UnS r o) (ha : DE X W a ta pa) : DE X W (.UnaryOp op a pos) (tUn r ta) (qUn o pa) := ⟨pe_un ho ha.pe, se_un hs ha.se⟩

/-! ### tests -/
/-- a value that is a bool, as a test -/
def qB (p : QE) : QT := fun Γ R E => p Γ (fun w Γ1 => match w with
  | .sh (.bool b) => R b Γ1
  | _ => False) E
theorem st_tt (ha : SE W ta pa) : ST W (tTest ta) (qB pa) := fun {B F Γ σ H fp} R EX Q r h k e => by
  refine ha _ EX _ r h (fun w Γ1 v F1 H1 fp1 x1 r1 v1 h1 => ?_) e
  split at h1
  · rename_i b
    cases v1 with
    | sh q =>
      cases q
      exact ⟨b, rfl, k b Γ1 F1 H1 fp1 x1 r1 h1⟩
  · exact h1.elim
theorem d_tcmp {op : CmpOp} {r : R2} {o : OP2} (ho : OpR X (compareOp op) r) (hs : OpS r o) (ha : DE X W a ta pa) (hb : DE X W b tb pb) (hm : behindInMarks op b = false := by first | exact nomark _ | with_unfolding_all rfl) :
    DT X W (.Compare a [op] [b] pos) (tTest (tOp r ta tb)) (qB (qOp o pa pb)) := ⟨pt_cmpR ho ha.pe hb.pe hm, st_tt (se_op hs ha.se hb.se)⟩
/-- the truth of any value -/
def truD : D → Option Bool
  | .none => some false
  | .bool b => some b
  | .int i => some (i != 0)
  | .str x => some ((x.length : Int) != 0)
  | .list xs => some (!xs.isEmpty)
  | .tuple xs => some (!xs.isEmpty)
  | .dict _ => Option.none
def truOk : D → Prop
  | .str x => x.length ≤ sizeLine
  | _ => True
def qTru (p : QE) : QT := fun Γ R E => p Γ (fun w Γ1 => bor w Γ1 fun d => truOk d ∧ match truD d with
  | some b => R b Γ1
  | none => False) E
theorem tru_rb {K : PySem.W.Frag} {F H : Hp} {v : V} {d : D} {b : Bool} (h : Rb F H v d) (e : truD d = some b) (hs : truOk d) : TruV K v H b := by
  cases h with
  | non => exact (Option.some.inj e).symm
  | bl b => exact (Option.some.inj e).symm
  | int i => exact (Option.some.inj e).symm
  | str x _ => exact ⟨hs, (Option.some.inj e).symm⟩
  | lst h r =>
    refine .inl ⟨_, .inl (.inl h), ?_⟩
    rw [← Option.some.inj e]
    cases r <;> rfl
  | tup _ h r =>
    refine .inr (.inl ⟨_, .inl (.inl h), ?_⟩)
    rw [← Option.some.inj e]
    cases r <;> rfl
  | dk h r => cases e
  | dt h r => cases e
  | fz h r => cases e
theorem st_tru {K : PySem.W.Frag} (ha : SE W ta pa) : ST W (fun σ H Q => ta σ H fun x H' => ∃ k, TruV K x H' k ∧ Q k H') (qTru pa) := fun {B F Γ σ H fp} R EX Q r h k e => by
  refine ha _ EX _ r h (fun w Γ1 v F1 H1 fp1 x1 r1 v1 h1 => ?_) e
  obtain ⟨d, b, hs, h2⟩ := bor_rb r1 v1 h1
  split at h2
  · rename_i c hc
    exact ⟨c, tru_rb b hc hs, k c Γ1 F1 H1 fp1 x1 r1 h2⟩
  · exact h2.elim
theorem d_tru (ha : DE X W a ta pa) (he : ∀ whole, isTrue a X.env whole = (do let v ← whole; standAt a.pos; holding [v] (truthy v)) := by intro _; rfl) :
    DT X W a (fun σ H Q => ta σ H fun x H' => ∃ k, TruV X.K x H' k ∧ Q k H') (qTru pa) := ⟨pt_truth ha.pe he, st_tru ha.se⟩
/-- a call or name that gives a bool -/
theorem d_tb (ha : DE X W a ta pa) (he : ∀ whole, isTrue a X.env whole = (do let v ← whole; standAt a.pos; holding [v] (truthy v)) := by intro _; rfl) : DT X W a (tB ta) (qB pa) := ⟨pt_val ha.pe he, st_tt ha.se⟩

variable {tA tB' : TT} {qa qb : QT} {rest : List Expr}
structure DW (X : Cx) (W : WX) (e : Expr) (tt : TT) (p : QT) : Prop where
  pw : PW X e tt
  st : ST W tt p
def qAnd (p q : QT) : QT := fun Γ R E => p Γ (fun c Γ1 => Cif c (q Γ1 R E) (R false Γ1)) E
def qOr (p q : QT) : QT := fun Γ R E => p Γ (fun c Γ1 => Cif c (R true Γ1) (q Γ1 R E)) E
def qNot (p : QT) : QT := fun Γ R E => p Γ (fun c Γ1 => R (!c) Γ1) E
theorem st_and (ha : ST W tA qa) (hb : ST W tB' qb) : ST W (tAnd tA tB') (qAnd qa qb) := fun {B F Γ σ H fp} R EX Q r h k e => by
  refine ha _ EX _ r h (fun c Γ1 F1 H1 fp1 x1 r1 h1 => ?_) e
  cases c with
  | true => exact hb _ EX _ r1 (h1.t rfl) (fun c Γ2 F2 H2 fp2 x2 r2 h2 => k c Γ2 F2 H2 fp2 (x1.trans x2) r2 h2) (e.mono x1)
  | false => exact k false Γ1 F1 H1 fp1 x1 r1 (h1.f rfl)
theorem st_or (ha : ST W tA qa) (hb : ST W tB' qb) : ST W (tOr tA tB') (qOr qa qb) := fun {B F Γ σ H fp} R EX Q r h k e => by
  refine ha _ EX _ r h (fun c Γ1 F1 H1 fp1 x1 r1 h1 => ?_) e
  cases c with
  | false => exact hb _ EX _ r1 (h1.f rfl) (fun c Γ2 F2 H2 fp2 x2 r2 h2 => k c Γ2 F2 H2 fp2 (x1.trans x2) r2 h2) (e.mono x1)
  | true => exact k true Γ1 F1 H1 fp1 x1 r1 (h1.t rfl)
theorem dw_and1 (ha : DT X W a tA qa) : DW X W (.BoolOp .And [a] pos) tA qa := ⟨pw_and1 ha.pt, ha.st⟩
theorem dw_or1 (ha : DT X W a tA qa) : DW X W (.BoolOp .Or [a] pos) tA qa := ⟨pw_or1 ha.pt, ha.st⟩
theorem dw_and (ha : DT X W a tA qa) (hb : DW X W (.BoolOp .And (b :: rest) pos) tB' qb) : DW X W (.BoolOp .And (a :: b :: rest) pos) (tAnd tA tB') (qAnd qa qb) := ⟨pw_and ha.pt hb.pw, st_and ha.st hb.st⟩
theorem dw_or (ha : DT X W a tA qa) (hb : DW X W (.BoolOp .Or (b :: rest) pos) tB' qb) : DW X W (.BoolOp .Or (a :: b :: rest) pos) (tOr tA tB') (qOr qa qb) := ⟨pw_or ha.pt hb.pw, st_or ha.st hb.st⟩
theorem DW.dt {e : Expr} (h : DW X W e tA qa) : DT X W e tA qa := ⟨h.pw.pt, h.st⟩
theorem dt_not (ha : DT X W a tA qa) : DT X W (.UnaryOp .Not a pos) (tNot tA) (qNot qa) := ⟨pt_not ha.pt, fun {B F Γ σ H fp} R EX Q r h k e => ha.st _ EX _ r h (fun c Γ1 F1 H1 fp1 x1 r1 h1 => k (!c) Γ1 F1 H1 fp1 x1 r1 h1) e⟩
/-- .. as values (bools) -/
def qAndV (p q : QE) : QE := fun Γ R E => p Γ (fun w Γ1 => match w with
  | .sh (.bool c) => Cif c (q Γ1 R E) (R (.sh (.bool false)) Γ1)
  | _ => False) E
def qOrV (p q : QE) : QE := fun Γ R E => p Γ (fun w Γ1 => match w with
  | .sh (.bool c) => Cif c (R (.sh (.bool true)) Γ1) (q Γ1 R E)
  | _ => False) E
def qNotV (p : QE) : QE := fun Γ R E => p Γ (fun w Γ1 => match w with
  | .sh (.bool c) => R (.sh (.bool (!c))) Γ1
  | _ => False) E
theorem d_one {op} (ha : DE X W a ta pa) : DE X W (.BoolOp op [a] pos) ta pa := ⟨pe_one ha.pe, ha.se⟩
theorem d_and (ha : DE X W a ta pa) (hb : DE X W (.BoolOp .And (b :: rest) pos) tb pb) : DE X W (.BoolOp .And (a :: b :: rest) pos) (tAndV ta tb) (qAndV pa pb) := ⟨pe_and ha.pe hb.pe, fun {B F Γ σ H fp} R EX Q r h k e => by
  refine ha.se _ EX _ r h (fun w Γ1 v F1 H1 fp1 x1 r1 v1 h1 => ?_) e
  split at h1
  · rename_i c
    cases v1 with
    | sh q =>
      cases q
      refine ⟨c, rfl, ?_⟩
      cases c with
      | true => exact hb.se _ EX _ r1 (h1.t rfl) (fun w Γ2 v F2 H2 fp2 x2 r2 v2 h2 => k w Γ2 v F2 H2 fp2 (x1.trans x2) r2 v2 h2) (e.mono x1)
      | false => exact k _ Γ1 _ F1 H1 fp1 x1 r1 (.sh (.bl false)) (h1.f rfl)
  · exact h1.elim⟩
theorem d_or (ha : DE X W a ta pa) (hb : DE X W (.BoolOp .Or (b :: rest) pos) tb pb) : DE X W (.BoolOp .Or (a :: b :: rest) pos) (tOrV ta tb) (qOrV pa pb) := ⟨pe_or ha.pe hb.pe, fun {B F Γ σ H fp} R EX Q r h k e => by
  refine ha.se _ EX _ r h (fun w Γ1 v F1 H1 fp1 x1 r1 v1 h1 => ?_) e
  split at h1
  · rename_i c
    cases v1 with
    | sh q =>
      cases q
      refine ⟨c, rfl, ?_⟩
      cases c with
      | false => exact hb.se _ EX _ r1 (h1.f rfl) (fun w Γ2 v F2 H2 fp2 x2 r2 v2 h2 => k w Γ2 v F2 H2 fp2 (x1.trans x2) r2 v2 h2) (e.mono x1)
      | true => exact k _ Γ1 _ F1 H1 fp1 x1 r1 (.sh (.bl true)) (h1.t rfl)
  · exact h1.elim⟩
theorem d_not (ha : DE X W a ta pa) : DE X W (.UnaryOp .Not a pos) (tNotV ta) (qNotV pa) := ⟨pe_not ha.pe, fun {B F Γ σ H fp} R EX Q r h k e => by
  refine ha.se _ EX _ r h (fun w Γ1 v F1 H1 fp1 x1 r1 v1 h1 => ?_) e
  split at h1
  · rename_i c
    cases v1 with
    | sh q =>
      cases q
      exact ⟨c, rfl, k _ Γ1 _ F1 H1 fp1 x1 r1 (.sh (.bl (!c))) h1⟩
  · exact h1.elim⟩
def qIf (t : QT) (p q : QE) : QE := fun Γ R E => t Γ (fun c Γ1 => Cif c (p Γ1 R E) (q Γ1 R E)) E
theorem d_if {cc : Expr} (hc : DT X W cc tA qa) (ha : DE X W a ta pa) (hb : DE X W b tb pb) : DE X W (.IfExp cc a b pos) (tIf tA ta tb) (qIf qa pa pb) := ⟨pe_ifExp hc.pt ha.pe hb.pe, fun {B F Γ σ H fp} R EX Q r h k e => by
  refine hc.st _ EX _ r h (fun c Γ1 F1 H1 fp1 x1 r1 h1 => ?_) e
  cases c with
  | true => exact ha.se _ EX _ r1 (h1.t rfl) (fun w Γ2 v F2 H2 fp2 x2 r2 v2 h2 => k w Γ2 v F2 H2 fp2 (x1.trans x2) r2 v2 h2) (e.mono x1)
  | false => exact hb.se _ EX _ r1 (h1.f rfl) (fun w Γ2 v F2 H2 fp2 x2 r2 v2 h2 => k w Γ2 v F2 H2 fp2 (x1.trans x2) r2 v2 h2) (e.mono x1)⟩
/-- a op1 b op2 c, all looked at -/
def qChain (o o' : OP2) (pa pb pc : QE) : QE := fun Γ R E => pa Γ (fun w1 Γ1 => pb Γ1 (fun w2 Γ2 => bor w1 Γ2 fun d1 => bor w2 Γ2 fun d2 => o d1 d2 fun w => match w with
  | .sh (.bool k) => Cif k (pc Γ2 (fun w3 Γ3 => bor w2 Γ3 fun d2' => bor w3 Γ3 fun d3 => o' d2' d3 fun w => R w Γ3) E) (R (.sh (.bool false)) Γ2)
  | _ => False) E) E
theorem se_chain {r r' : R2} {o o' : OP2} (hs : OpS r o) (hs' : OpS r' o') (ha : SE W ta pa) (hb : SE W tb pb) (hc : SE W tc pc) : SE W (tChain r r' ta tb tc) (qChain o o' pa pb pc) := fun {B F Γ σ H fp} R EX Q rr h k e => by
  refine se_two ha hb rr h (Z := fun w1 w2 Γ2 => bor w1 Γ2 fun d1 => bor w2 Γ2 fun d2 => o d1 d2 fun w => match w with
    | .sh (.bool k) => Cif k (pc Γ2 (fun w3 Γ3 => bor w2 Γ3 fun d2' => bor w3 Γ3 fun d3 => o' d2' d3 fun w => R w Γ3) EX) (R (.sh (.bool false)) Γ2)
    | _ => False) (fun w1 w2 Γ' x y F' H' fp' x1 r1 v1 v2 z => ?_) e
  obtain ⟨B', r1', g⟩ := r1.guard v2
  obtain ⟨d1, b1, z⟩ := bor_rb r1 v1 z
  obtain ⟨d2, b2, z⟩ := bor_rb r1 v2 z
  refine hs _ _ r1' b1 b2 z fun w v F2 H2 x2 r2 q2 kk => ?_
  split at kk
  · rename_i c
    cases q2 with
    | sh q =>
      cases q
      refine ⟨c, rfl, ?_⟩
      obtain ⟨x3, r3, v3, _⟩ := g F2 Γ' H2 fp' x2 r2
      cases c with
      | true =>
        obtain ⟨B'', r3', g'⟩ := r3.guard v3
        refine hc _ EX _ r3' (kk.t rfl) (fun w3 Γ3 y3 F4 H4 fp4 x4 r4 v4 h4 => ?_) fun c Γ' F' H' fp' x2 r2 q => ?_
        · obtain ⟨x5, r5, v5, g5⟩ := g' F4 Γ3 H4 fp4 x4 r4
          obtain ⟨e1, c1, z1⟩ := bor_rb r5 v5 h4
          obtain ⟨e2, c2, z2⟩ := bor_rb r5 (g5 _ _ v4) z1
          exact hs' _ Q r5 c1 c2 z2 fun w v F6 H6 x6 r6 q6 kk => k w Γ3 v F6 H6 fp4 (((x1.trans x3).trans x5).trans x6) r6 q6 kk
        · obtain ⟨x5, r5, _, _⟩ := g' F' Γ' H' fp' x2 r2
          exact e c Γ' F' H' fp' ((x1.trans x3).trans x5) r5 q
      | false => exact k _ Γ' _ F2 H2 fp' (x1.trans x3) r3 (.sh (.bl false)) (kk.f rfl)
  · exact kk.elim
theorem d_chain {op op' : CmpOp} {r r' : R2} {o o' : OP2} (ho : OpR X (compareOp op) r) (ho' : OpR X (compareOp op') r') (hs : OpS r o) (hs' : OpS r' o') (ha : DE X W a ta pa) (hb : DE X W b tb pb) (hc : DE X W c tc pc)
    (hm : lastMarks [op, op'] [b, c] = false := by with_unfolding_all rfl) : DE X W (.Compare a [op, op'] [b, c] pos) (tChain r r' ta tb tc) (qChain o o' pa pb pc) := ⟨pe_chain ho ho' ha.pe hb.pe hc.pe hm, se_chain hs hs' ha.se hb.se hc.se⟩
theorem d_tchain {op op' : CmpOp} {r r' : R2} {o o' : OP2} (ho : OpR X (compareOp op) r) (ho' : OpR X (compareOp op') r') (hs : OpS r o) (hs' : OpS r' o') (ha : DE X W a ta pa) (hb : DE X W b tb pb) (hc : DE X W c tc pc)
    (hm : lastMarks [op, op'] [b, c] = false := by with_unfolding_all rfl) : DT X W (.Compare a [op, op'] [b, c] pos) (tTest (tChain r r' ta tb tc)) (qB (qChain o o' pa pb pc)) := ⟨pt_chain ho ho' ha.pe hb.pe hc.pe hm, st_tt (se_chain hs hs' ha.se hb.se hc.se)⟩

/-! ### argument lists, taken for good; displays -/
variable {es : List Expr} {tr : TA} {pr : QA} {e : Expr}
def qNil : QA := fun Γ R _ => R [] Γ
def qCons (p : QE) (q : QA) : QA := fun Γ R E => p Γ (fun w Γ1 => shr w Γ1 fun d Γ2 => q Γ2 (fun ds Γ3 => R (d :: ds) Γ3) E) E
theorem da_nil : DA X W [] tNil qNil := ⟨pa_nil, fun {B F Γ σ H fp} R EX Q r h k _ => k [] Γ [] F H fp .refl r .nil h⟩
theorem sa_cons (ha : SE W ta pa) (hr : SA W tr pr) : SA W (tCons ta tr) (qCons pa pr) := fun {B F Γ σ H fp} R EX Q r h k e => by
  refine ha _ EX _ r h (fun w Γ1 v F1 H1 fp1 x1 r1 v1 h1 => ?_) e
  obtain ⟨d, Γ2, F2, fp2, x2, r2, b2, h2⟩ := shr_ok r1 v1 h1
  refine hr _ EX _ r2 h2 (fun ds Γ3 vs F3 H3 fp3 x3 r3 b3 h3 => ?_) (e.mono (x1.trans x2))
  exact k _ Γ3 _ F3 H3 fp3 ((x1.trans x2).trans x3) r3 (.cons (b2.mono x3.same) b3) h3
theorem da_cons (ha : DE X W e ta pa) (hr : DA X W es tr pr) (hs : starEach (e :: es) X.env = (false, eval e X.env) :: starEach es X.env := by rfl) : DA X W (e :: es) (tCons ta tr) (qCons pa pr) := ⟨pa_cons ha.pe hr.pa hs, sa_cons ha.se hr.sa⟩
def qTup (p : QA) : QE := fun Γ R E => p Γ (fun ds Γ1 => ds.length ≤ sizeLine ∧ R (.sh (.tuple ds)) Γ1) E
def qLst (p : QA) : QE := fun Γ R E => p Γ (fun ds Γ1 => ds.length ≤ sizeLine ∧ R (.ow (.l ds)) Γ1) E
theorem new_tup {B F : Hp} {Γ : Ev} {σ : L2.St} {H : Hp} {fp : Nat → List Addr} {p : Addr} {vs : List V} {ds : List D} (r : Rel B F Γ σ H fp) (h : RpA F vs ds) (hp : H p = none) :
    Ext B F (upd F p (.tup vs)) ∧ Rel B (upd F p (.tup vs)) Γ σ (upd H p (.tup vs)) fp ∧ RW B (upd F p (.tup vs)) Γ σ (upd H p (.tup vs)) fp (.ref p) (.sh (.tuple ds)) := by
  obtain ⟨x, r'⟩ := r.newF (o := .tup vs) hp
  exact ⟨x, r', .sh (.tup upd_same (h.mono x.same))⟩
theorem new_lst {B F : Hp} {Γ : Ev} {σ : L2.St} {H : Hp} {fp : Nat → List Addr} {p : Addr} {vs : List V} {ds : List D} (r : Rel B F Γ σ H fp) (h : RpA F vs ds) (hp : H p = none) :
    Rel B F Γ σ (upd H p (.lst vs)) fp ∧ RW B F Γ σ (upd H p (.lst vs)) fp (.ref p) (.ow (.l ds)) := by
  refine ⟨r.new hp, .ow (.l upd_same h) fun a ha => ?_⟩
  simp only [List.mem_singleton] at ha
  subst ha
  exact free_of r hp
theorem d_tup {x1} (h : DA X W es tr pr) : DE X W (.Tuple es x1 pos) (tTup tr) (qTup pr) := ⟨pe_tup h.pa, fun {B F Γ σ H fp} R EX Q r q k e => h.sa _ EX _ r q (fun ds Γ1 vs F1 H1 fp1 x1 r1 b1 h1 => ⟨by rw [b1.length]; exact h1.1, fun p hp => by
  obtain ⟨x2, r2, v2⟩ := new_tup r1 b1 hp
  exact k _ Γ1 _ _ _ fp1 (x1.trans x2) r2 v2 h1.2⟩) e⟩
theorem d_lst (h : DA X W es tr pr) : DE X W (.List es pos) (tLst tr) (qLst pr) := ⟨pe_lst h.pa, fun {B F Γ σ H fp} R EX Q r q k e => h.sa _ EX _ r q (fun ds Γ1 vs F1 H1 fp1 x1 r1 b1 h1 => ⟨by rw [b1.length]; exact h1.1, fun p hp => by
  obtain ⟨r2, v2⟩ := new_lst r1 b1 hp
  exact k _ Γ1 _ _ _ fp1 x1 r2 v2 h1.2⟩) e⟩
end
end PL

namespace PL
open PySem PySem.Spec PyProof.Rows L2

section
variable {B F : Hp} {Γ : Ev} {σ : L2.St} {H : Hp} {fp : Nat → List Addr} {v : V} {w : Wv}

/-! ### slots stored -/
/-- slot i holds a datum -/
theorem Rel.setSh (r : Rel B F Γ σ H fp) {d : D} (h : Rp F v d) (i : Nat) : Rel B F (Γ.set i (.sh d)) (σ.set i (some v)) H (dropF fp i) := by
  refine ⟨r.bx, r.fx, by rw [List.length_set, List.length_set]; exact r.len, fun j d' q => ?_, fun j u q => ?_, fun j a ha => r.nb j a (mem_dropF ha).2, fun j k a ha hb => r.dj j k a (mem_dropF ha).2 (mem_dropF hb).2, fun j a q => by
    obtain ⟨hj, q⟩ := ex_ne (fun _ => Sl.noConfusion) q
    rw [List.getElem?_set_ne hj]
    exact r.ex j a q⟩
  · by_cases hj : i = j
    · subst hj
      rw [List.getElem?_set] at q
      split at q
      · split at q
        · rename_i hl
          cases q
          exact ⟨v, by rw [List.getElem?_set_self (by rw [← r.len]; exact hl)], h⟩
        · cases q
      · rename_i hn
        exact absurd rfl hn
    · rw [List.getElem?_set_ne hj] at q
      obtain ⟨u, g1, g2⟩ := r.sh j d' q
      exact ⟨u, by rw [List.getElem?_set_ne hj]; exact g1, g2⟩
  · by_cases hj : i = j
    · subst hj
      rw [List.getElem?_set] at q
      split at q
      · split at q <;> cases q
      · rename_i hn
        exact absurd rfl hn
    · rw [List.getElem?_set_ne hj] at q
      obtain ⟨u, g1, g2⟩ := r.ow j _ q
      refine ⟨u, by rw [List.getElem?_set_ne hj]; exact g1, ?_⟩
      rw [dropF_ne (Ne.symm hj)]
      exact g2
/-- slot i holds an own object that nothing else holds -/
theorem Rel.setOw (r : Rel B F Γ σ H fp) {o : O} {f : List Addr} (h : RO F H v o f) (hf : ∀ a ∈ f, B a = none ∧ F a = none ∧ ∀ j, j ≠ i → a ∉ fp j) (i : Nat) (hi : ∀ a ∈ f, B a = none ∧ F a = none ∧ ∀ j, j ≠ i → a ∉ fp j) :
    Rel B F (Γ.set i (.ow o)) (σ.set i (some v)) H (putF fp i f) := by
  refine ⟨r.bx, r.fx, by rw [List.length_set, List.length_set]; exact r.len, fun j d' q => ?_, fun j u q => ?_, fun j a ha => ?_, fun j k a ha hb => ?_, fun j a q => by
    obtain ⟨hj, q⟩ := ex_ne (fun _ => Sl.noConfusion) q
    rw [List.getElem?_set_ne hj]
    exact r.ex j a q⟩
  · by_cases hj : i = j
    · subst hj
      rw [List.getElem?_set] at q
      split at q
      · split at q <;> cases q
      · rename_i hn
        exact absurd rfl hn
    · rw [List.getElem?_set_ne hj] at q
      obtain ⟨u, g1, g2⟩ := r.sh j d' q
      exact ⟨u, by rw [List.getElem?_set_ne hj]; exact g1, g2⟩
  · by_cases hj : i = j
    · subst hj
      rw [List.getElem?_set] at q
      split at q
      · split at q
        · rename_i hl
          cases q
          refine ⟨v, by rw [List.getElem?_set_self (by rw [← r.len]; exact hl)], ?_⟩
          rw [putF_same]
          exact h
        · cases q
      · rename_i hn
        exact absurd rfl hn
    · rw [List.getElem?_set_ne hj] at q
      obtain ⟨u, g1, g2⟩ := r.ow j _ q
      refine ⟨u, by rw [List.getElem?_set_ne hj]; exact g1, ?_⟩
      rw [putF_ne (Ne.symm hj)]
      exact g2
  · by_cases hj : j = i
    · subst hj
      rw [putF_same] at ha
      exact ⟨(hi a ha).1, (hi a ha).2.1, h.mem a ha⟩
    · rw [putF_ne hj] at ha
      exact r.nb j a ha
  · by_cases hj : j = i
    · subst hj
      by_cases hk : k = j
      · exact hk.symm
      · rw [putF_same] at ha
        rw [putF_ne hk] at hb
        exact absurd hb ((hi a ha).2.2 k hk)
    · by_cases hk : k = i
      · subst hk
        rw [putF_same] at hb
        rw [putF_ne hj] at ha
        exact absurd ha ((hi a hb).2.2 j hj)
      · rw [putF_ne hj] at ha
        rw [putF_ne hk] at hb
        exact r.dj j k a ha hb
def setSl (i : Nat) (w : Wv) (Γ : Ev) (k : Ev → Prop) : Prop :=
  match w with
  | .sh d => k (Γ.set i (.sh d))
  | .ow o => k (Γ.set i (.ow o))
  | .at j => match Γ[j]? with
    | some (.sh d) => k (Γ.set i (.sh d))
    | some (.ow o) => k ((Γ.set j (.sh o.toD)).set i (.sh o.toD))
    | _ => False
theorem setSl_ok {k : Ev → Prop} {i : Nat} (r : Rel B F Γ σ H fp) (h : RW B F Γ σ H fp v w) (q : setSl i w Γ k) : ∃ Γ' F' fp', Ext B F F' ∧ Rel B F' Γ' (σ.set i (some v)) H fp' ∧ k Γ' := by
  cases h with
  | sh h => exact ⟨_, F, _, .refl, r.setSh h i, q⟩
  | @ow o f h hf => exact ⟨_, F, _, .refl, r.setOw (i := i) h (fun a ha => ⟨(hf a ha).1, (hf a ha).2.1, fun j _ => (hf a ha).2.2 j⟩) i fun a ha => ⟨(hf a ha).1, (hf a ha).2.1, fun j _ => (hf a ha).2.2 j⟩, q⟩
  | @«at» j h =>
    unfold setSl at q
    simp only at q
    split at q
    · rename_i d e
      obtain ⟨u, h1, h2⟩ := r.sh j d e
      rw [h] at h1
      cases h1
      exact ⟨_, F, _, .refl, r.setSh h2 i, q⟩
    · rename_i o e
      obtain ⟨u, h1, x, r', h2⟩ := r.freezeAt e
      rw [h] at h1
      cases h1
      exact ⟨_, _, _, x, r'.setSh h2 i, q⟩
    · exact q.elim
end

/-! ### targets -/
/-- only the slots js change -/
def Chg (js : List Nat) (σ σ' : L2.St) : Prop := σ'.length = σ.length ∧ ∀ i, i ∉ js → σ'[i]? = σ[i]?
theorem Chg.trans {js ks : List Nat} {σ σ1 σ2 : L2.St} (a : Chg js σ σ1) (b : Chg ks σ1 σ2) : Chg (js ++ ks) σ σ2 :=
  ⟨b.1.trans a.1, fun i h => (b.2 i fun z => h (List.mem_append_right _ z)).trans (a.2 i fun z => h (List.mem_append_left _ z))⟩
abbrev QG := Wv → Ev → (Ev → Prop) → Prop
abbrev QGs := List D → Ev → (Ev → Prop) → Prop
def SG (g : TG) (q : QG) (js : List Nat) : Prop := ∀ {B F : Hp} {Γ : Ev} {σ : L2.St} {H : Hp} {fp : Nat → List Addr} {v : V} {w : Wv} (k : Ev → Prop) (Q : L2.St → Hp → Prop), Rel B F Γ σ H fp → RW B F Γ σ H fp v w → q w Γ k →
  (∀ Γ' F' σ' fp', Ext B F F' → Rel B F' Γ' σ' H fp' → Chg js σ σ' → k Γ' → Q σ' H) → g v σ H Q
def SGs (g : TGs) (q : QGs) (js : List Nat) : Prop := ∀ {B F : Hp} {Γ : Ev} {σ : L2.St} {H : Hp} {fp : Nat → List Addr} {vs : List V} {ds : List D} (k : Ev → Prop) (Q : L2.St → Hp → Prop), Rel B F Γ σ H fp → RpA F vs ds → q ds Γ k →
  (∀ Γ' F' σ' fp', Ext B F F' → Rel B F' Γ' σ' H fp' → Chg js σ σ' → k Γ' → Q σ' H) → g vs σ H Q
structure DG (X : Cx) (tg : Expr) (g : TG) (q : QG) (js : List Nat) : Prop where
  pg : PG X tg g
  sg : SG g q js
structure DGs (X : Cx) (tgs : List Expr) (g : TGs) (q : QGs) (js : List Nat) : Prop where
  pg : PGs X tgs g
  sg : SGs g q js
section
variable {X : Cx} {pos : Pos}
def qgN (i : Nat) : QG := fun w Γ k => setSl i w Γ k
theorem sg_name {i : Nat} : SG (gName i) (qgN i) [i] := fun {B F Γ σ H fp v w} k Q r h q c => by
  obtain ⟨Γ', F', fp', x, r', z⟩ := setSl_ok r h q
  exact c Γ' F' _ fp' x r' ⟨by rw [List.length_set], fun j hj => List.getElem?_set_ne fun e => hj (by simp [e])⟩ z
theorem dg_name {i : Nat} {x : Str} (hN : X.N.Nodup) (hi : X.N[i]? = some x := by rfl) (hx : Loc X.env.scope x := by first | exact Or.inl rfl | exact Or.inr rfl) (hf : X.fn x = true ∨ X.env.scope.names.lookup x = some .local := by first | exact .inl rfl | exact .inr rfl | assumption) :
    DG X (.Name x pos) (gName i) (qgN i) [i] := ⟨pg_name hN hi hx hf, sg_name⟩
def qgNil : QGs := fun ds Γ k => ds = [] ∧ k Γ
def qgCons (p : QG) (q : QGs) : QGs := fun ds Γ k => match ds with
  | d :: r => p (.sh d) Γ fun Γ' => q r Γ' k
  | [] => False
theorem dgs_nil : DGs X [] gNil qgNil [] := ⟨pgs_nil, fun {B F Γ σ H fp vs ds} k Q r h q c => by
  obtain ⟨rfl, q⟩ := q
  cases h
  exact ⟨rfl, c Γ F σ fp .refl r ⟨rfl, fun _ _ => rfl⟩ q⟩⟩
theorem dgs_cons {e : Expr} {es : List Expr} {g : TG} {u : TGs} {p : QG} {q : QGs} {js ks : List Nat} (h1 : DG X e g p js) (h2 : DGs X es u q ks)
    (hs : (assignEach (e :: es) X.env).map (·.2) = assign e X.env :: (assignEach es X.env).map (·.2) := by rfl) : DGs X (e :: es) (gCons g u) (qgCons p q) (js ++ ks) := ⟨pgs_cons h1.pg h2.pg hs, fun {B F Γ σ H fp vs ds} k Q r h z c => by
  cases h with
  | nil => exact z.elim
  | @cons v vs d ds h t =>
    refine ⟨v, vs, rfl, h1.sg _ _ r (.sh h) z fun Γ1 F1 σ1 fp1 x1 r1 c1 z1 => ?_⟩
    exact h2.sg _ _ r1 (t.mono x1.same) z1 fun Γ2 F2 σ2 fp2 x2 r2 c2 z2 => c Γ2 F2 σ2 fp2 (x1.trans x2) r2 (c1.trans c2) z2⟩
def qgTup (n : Nat) (q : QGs) : QG := fun w Γ k => bor w Γ fun d => match d with
  | .tuple ds => ds.length = n ∧ q ds Γ k
  | _ => False
theorem dg_tup {es : List Expr} {kk : Nat} {g : TGs} {q : QGs} {js : List Nat} {n : Nat} (hc : X.calm = true) (h : DGs X es g q js)
    (hn : (assignEach es X.env).length = n := by rfl) (hst : (assignEach es X.env).findIdx? (·.1) = none := by rfl) : DG X (.Tuple es kk pos) (gTup X.K n g) (qgTup n q) js := ⟨pg_tup hc h.pg hn hst, fun {B F Γ σ H fp v w} k Q r hw z c => by
  obtain ⟨d, b, z⟩ := bor_rb r hw z
  cases b with
  | tup _ e t => exact ⟨_, _, rfl, .inl (.inl e), by rw [t.length]; exact z.1, h.sg _ _ r t z.2 c⟩
  | _ => exact z.elim⟩
/-- a list of that length -/
def qgLst (n : Nat) (q : QGs) : QG := fun w Γ k => bor w Γ fun d => match d with
  | .list ds => ds.length = n ∧ q ds Γ k
  | _ => False
theorem dg_lst {es : List Expr} {kk : Nat} {g : TGs} {q : QGs} {js : List Nat} {n : Nat} (hc : X.calm = true) (h : DGs X es g q js)
    (hn : (assignEach es X.env).length = n := by rfl) (hst : (assignEach es X.env).findIdx? (·.1) = none := by rfl) : DG X (.Tuple es kk pos) (gLst X.K n g) (qgLst n q) js := ⟨pg_lst hc h.pg hn hst, fun {B F Γ σ H fp v w} k Q r hw z c => by
  obtain ⟨d, b, z⟩ := bor_rb r hw z
  cases b with
  | lst e t => exact ⟨_, _, rfl, .inl (.inl e), by rw [t.length]; exact z.1, h.sg _ _ r t z.2 c⟩
  | _ => exact z.elim⟩
end

/-! ### statements -/
section
variable {X : Cx} {W : WX} {pos : Pos} {e : Expr} {te : TE} {p : QE} {st : Stmt} {rest : List Stmt} {ts tu : TS} {ps pu : QS} {tt : TT} {pt : QT}
def qNext : QS := fun P Γ => P.nx Γ
def qSeq (p q : QS) : QS := fun P Γ => p { P with nx := q P } Γ
theorem ss_next : SS W tNext qNext := fun {B F Γ σ H fp} P D r h a => a.nx Γ F σ H fp .refl r h
theorem ss_seq (h1 : SS W ts ps) (h2 : SS W tu pu) : SS W (tSeq ts tu) (qSeq ps pu) := fun {B F Γ σ H fp} P D r h a =>
  h1 { P with nx := pu P } { D with nx := tu D } r h ⟨fun Γ' F' σ' H' fp' x r' q => h2 P D r' q (a.mono x), a.rt, a.bk, a.ct, a.ex⟩
theorem dss_nil : DSs X W [] tNext qNext := ⟨pss_nil, ss_next⟩
theorem dss_cons (h1 : DS X W st ts ps) (h2 : DSs X W rest tu pu) : DSs X W (st :: rest) (tSeq ts tu) (qSeq ps pu) := ⟨pss_cons h1.ps h2.ps, ss_seq h1.ss h2.ss⟩
theorem dss_one (h1 : DS X W st ts ps) : DSs X W [st] ts ps := ⟨pss_one h1.ps, h1.ss⟩
/-- slot i's own object is frozen ahead of a block -/
def qFrz (i : Nat) (p : QS) : QS := fun P Γ => match Γ[i]? with
  | some (.ow o) => p P (Γ.set i (.sh o.toD))
  | _ => p P Γ
theorem dss_frz (i : Nat) (h : DSs X W rest tu pu) : DSs X W rest tu (qFrz i pu) := ⟨h.ps, fun {B F Γ σ H fp} P D r q a => by
  unfold qFrz at q
  split at q
  · rename_i o e
    obtain ⟨v, h1, x, r', h2⟩ := r.freezeAt e
    exact h.ss P D r' q (a.mono x)
  · exact h.ss P D r q a⟩
theorem ds_pass : DS X W (.Pass pos) tNext qNext := ⟨ps_pass, ss_next⟩
def qBreak : QS := fun P Γ => P.bk Γ
def qCont : QS := fun P Γ => P.ct Γ
theorem ds_break : DS X W (.Break pos) tBreak qBreak := ⟨ps_break, fun {B F Γ σ H fp} P D r h a => a.bk Γ F σ H fp .refl r h⟩
theorem ds_continue : DS X W (.Continue pos) tCont qCont := ⟨ps_continue, fun {B F Γ σ H fp} P D r h a => a.ct Γ F σ H fp .refl r h⟩
def qDrop (p : QE) : QS := fun P Γ => p Γ (fun _ Γ1 => P.nx Γ1) P.ex
theorem ss_drop (h : SE W te p) : SS W (tDrop te) (qDrop p) := fun {B F Γ σ H fp} P D r q a => h _ _ _ r q (fun w Γ1 v F1 H1 fp1 x1 r1 _ h1 => a.nx Γ1 F1 σ H1 fp1 x1 r1 h1) a.afe
theorem ds_expr (he : DE X W e te p) (hs : swapsWith e none pos.line X.env = pure false := by rfl) : DS X W (.Expr e pos) (tDrop te) (qDrop p) := ⟨ps_expr he.pe hs, ss_drop he.se⟩
theorem ds_doc {x j pos pos'} : DS X W (.Expr (.Constant (.str x) j pos) pos') tNext qNext := ⟨ps_doc, ss_next⟩
def qRet (p : QE) : QS := fun P Γ => p Γ P.rt P.ex
theorem ds_ret (he : DE X W e te p) : DS X W (.Return (some e) pos) (tRet te) (qRet p) := ⟨ps_ret he.pe, fun {B F Γ σ H fp} P D r q a => he.se _ _ _ r q (fun w Γ1 v F1 H1 fp1 x1 r1 v1 h1 => a.rt w Γ1 v F1 σ H1 fp1 x1 r1 v1 h1) a.afe⟩
def qRetN : QS := fun P Γ => P.rt (.sh .none) Γ
theorem ds_retN : DS X W (.Return none pos) tRetN qRetN := ⟨ps_retN, fun {B F Γ σ H fp} P D r q a => a.rt _ Γ _ F σ H fp .refl r (.sh .non) q⟩
def qIfS (c : QT) (t u : QS) : QS := fun P Γ => c Γ (fun b Γ1 => Cif b (t P Γ1) (u P Γ1)) P.ex
theorem ds_if {c : Expr} {a b : List Stmt} (hc : DT X W c tt pt) (ha : DSs X W a ts ps) (hb : DSs X W b tu pu) : DS X W (.If c a b pos) (tIfS tt ts tu) (qIfS pt ps pu) := ⟨ps_if hc.pt ha.ps hb.ps, fun {B F Γ σ H fp} P D r q a => by
  refine hc.st _ _ _ r q (fun b Γ1 F1 H1 fp1 x1 r1 h1 => ?_) a.afe
  cases b with
  | true => exact ha.ss P D r1 (h1.t rfl) (a.mono x1)
  | false => exact hb.ss P D r1 (h1.f rfl) (a.mono x1)⟩
/-- target = value -/
def qAsg (p : QE) (g : QG) : QS := fun P Γ => p Γ (fun w Γ1 => g w Γ1 P.nx) P.ex
theorem ss_asg {tg : TG} {g : QG} {js : List Nat} (he : SE W te p) (hg : SG tg g js) : SS W (tAsg te tg) (qAsg p g) := fun {B F Γ σ H fp} P D r q a =>
  he _ _ _ r q (fun w Γ1 v F1 H1 fp1 x1 r1 v1 h1 => hg _ _ r1 v1 h1 fun Γ2 F2 σ2 fp2 x2 r2 _ h2 => a.nx Γ2 F2 σ2 H1 fp2 (x1.trans x2) r2 h2) a.afe
theorem ds_asg {tg : Expr} {g : TG} {q : QG} {js : List Nat} (he : DE X W e te p) (hg : DG X tg g q js) (hs : swapsWithSole [tg] e pos.line X.env = pure false := by rfl) (hw : swappedStores [tg] e X.env = pure none := by rfl)
    (h1 : (assignEach [tg] X.env).map (·.2) = [assign tg X.env] := by rfl) : DS X W (.Assign [tg] e pos) (tAsg te g) (qAsg p q) := ⟨ps_asg he.pe hg.pg hs hw h1, ss_asg he.se hg.sg⟩
theorem ds_set {i : Nat} {x : Str} {pos' : Pos} (hN : X.N.Nodup) (he : DE X W e te p) (hi : X.N[i]? = some x := by rfl) (hx : Loc X.env.scope x := by first | exact Or.inl rfl | exact Or.inr rfl) (hs : swapsWith e (some (.Name x pos')) pos.line X.env = pure false := by rfl)
    (hf : X.fn x = true ∨ X.env.scope.names.lookup x = some .local := by first | exact .inl rfl | exact .inr rfl | assumption) : DS X W (.Assign [.Name x pos'] e pos) (tAsg te (gName i)) (qAsg p (qgN i)) := ⟨ps_set hN hi hx he.pe hs hf, ss_asg he.se sg_name⟩
/-- name op= e, the name's value a datum -/
def qAug (i : Nat) (o : OP2) (p : QE) : QS := fun P Γ => match Γ[i]? with
  | some (.sh d1) => p Γ (fun w2 Γ1 => bor w2 Γ1 fun d2 => o d1 d2 fun w => setSl i w Γ1 P.nx) P.ex
  | _ => False
theorem ds_aug {i : Nat} {x : Str} {op : Operator} {r : R2} {o : OP2} {pos' : Pos} (hN : X.N.Nodup) (ho : OpR X (inplaceOp op) r) (hs : OpS r o) (he : DE X W e te p) (hi : X.N[i]? = some x := by rfl) (hx : Loc X.env.scope x := by first | exact Or.inl rfl | exact Or.inr rfl)
    (hf : X.fn x = true ∨ X.env.scope.names.lookup x = some .local := by first | exact .inl rfl | exact .inr rfl | assumption) : DS X W (.AugAssign (.Name x pos') op e pos) (tAug i te r) (qAug i o p) :=
  ⟨ps_aug hN hi hx he.pe (fun pins s σ H x y v u Q I rx ry h => ho pins s σ H x y v u Q I rx ry h) hf, fun {B F Γ σ H fp} P D rr q a => by
  unfold qAug at q
  split at q
  · rename_i d1 e1
    obtain ⟨v, h1, h2⟩ := rr.sh i d1 e1
    refine ⟨v, h1, he.se _ _ _ rr q (fun w2 Γ1 y F1 H1 fp1 x1 r1 v1 h3 => ?_) a.afe⟩
    obtain ⟨d2, b2, z⟩ := bor_rb r1 v1 h3
    refine hs _ _ r1 ((h2.mono x1.same).rb r1.fx) b2 z fun w v F2 H2 x2 r2 q2 kk => ?_
    obtain ⟨Γ3, F3, fp3, x3, r3, z3⟩ := setSl_ok r2 q2 kk
    exact a.nx Γ3 F3 _ H2 fp3 ((x1.trans x2).trans x3) r3 z3
  · exact q.elim⟩
/-- while, by an invariant with a measure -/
def qWhile (c : QT) (t : QS) : QS := fun P Γ => ∃ I : Nat → Ev → Prop, (∃ m, I m Γ) ∧ ∀ m Γ, I m Γ → c Γ (fun b Γ1 => Cif b (t { P with nx := fun Γ' => ∃ m', m' < m ∧ I m' Γ', ct := fun Γ' => ∃ m', m' < m ∧ I m' Γ', bk := P.nx } Γ1) (P.nx Γ1)) P.ex
theorem ds_while {c : Expr} {body : List Stmt} (hp : PassesOwn (model X.prog X.w) X.A X.env X.xe) (hc : DT X W c tt pt) (hb : DSs X W body ts ps) : DS X W (.While c body [] pos) (tWhile tt ts) (qWhile pt ps) := ⟨ps_while hp hc.pt hb.ps, fun {B F Γ σ H fp} P D r q a => by
  obtain ⟨I, ⟨m0, h0⟩, hs⟩ := q
  refine ⟨fun m σ' H' => ∃ Γ' F' fp', Ext B F F' ∧ Rel B F' Γ' σ' H' fp' ∧ I m Γ', ⟨m0, Γ, F, fp, .refl, r, h0⟩, ?_⟩
  rintro m σ' H' ⟨Γ', F', fp', x, r', hi⟩
  refine hc.st _ _ _ r' (hs m Γ' hi) (fun b Γ1 F1 H1 fp1 x1 r1 h1 => ?_) (a.mono x).afe
  cases b with
  | true =>
    refine ⟨fun σ2 H2 => ∃ m', m' < m ∧ ∃ Γ2 F2 fp2, Ext B F F2 ∧ Rel B F2 Γ2 σ2 H2 fp2 ∧ I m' Γ2, fun σ2 H2 h => h, hb.ss _ _ r1 (h1.t rfl) ?_⟩
    have am := a.mono (x.trans x1)
    exact ⟨fun Γ2 F2 σ2 H2 fp2 x2 r2 ⟨m', hm, q⟩ => ⟨m', hm, Γ2, F2, fp2, (x.trans x1).trans x2, r2, q⟩, am.rt, am.nx, fun Γ2 F2 σ2 H2 fp2 x2 r2 ⟨m', hm, q⟩ => ⟨m', hm, Γ2, F2, fp2, (x.trans x1).trans x2, r2, q⟩, am.ex⟩
  | false => exact (a.mono x).nx Γ1 F1 σ' H1 fp1 x1 r1 (h1.f rfl)⟩
end

/-! ### what is walked -/
abbrev QI := QA
/-- the iterator goes through the data ds -/
def ItOk (J : It) (F : Hp) (ds : List D) : Prop := ∀ (B F2 : Hp) (Γ2 : Ev) (σ2 : L2.St) (H2 : Hp) (fp2 : Nat → List Addr), Same F F2 → Rel B F2 Γ2 σ2 H2 fp2 → ∀ i,
  (∀ d, ds[i]? = some d → J.go i H2 ∧ ∀ x H3, J.yld i H2 x H3 → ∃ F3, Ext B F2 F3 ∧ Rel B F3 Γ2 σ2 H3 fp2 ∧ Rp F3 x d) ∧ (ds.length ≤ i → J.stop i H2)
def SI (W : WX) (wi : TI) (p : QI) : Prop := ∀ {B F : Hp} {Γ : Ev} {σ : L2.St} {H : Hp} {fp : Nat → List Addr} (R : List D → Ev → Prop) (EX : EXP) (Q : It → Hp → Prop), Rel B F Γ σ H fp → p Γ R EX →
  (∀ ds Γ' J F' H' fp', Ext B F F' → Rel B F' Γ' σ H' fp' → ItOk J F' ds → R ds Γ' → Q J H') → AfE W B F σ EX → wi σ H Q
structure DI (X : Cx) (W : WX) (tg iter : Expr) (wi : TI) (p : QI) : Prop where
  pi : PI X tg iter wi
  si : SI W wi p
section
variable {X : Cx} {W : WX} {pos : Pos} {e tg : Expr} {te : TE} {p : QE}
/-- over a list (taken for good) -/
def qiL (p : QE) : QI := fun Γ R E => p Γ (fun w Γ1 => shr w Γ1 fun d Γ2 => match d with
  | .list ds => R ds Γ2
  | _ => False) E
def qiT (p : QE) : QI := fun Γ R E => p Γ (fun w Γ1 => shr w Γ1 fun d Γ2 => match d with
  | .tuple ds => R ds Γ2
  | _ => False) E
def signD (c : Nat) : D := .str ⟨#[c]⟩
def qiS (p : QE) : QI := fun Γ R E => p Γ (fun w Γ1 => shr w Γ1 fun d Γ2 => match d with
  | .str x => R (x.cps.toList.map signD) Γ2
  | _ => False) E
theorem di_list (h : DE X W e te p) : DI X W tg e (iList X.K te) (qiL p) := ⟨pi_list h.pe, fun {B F Γ σ H fp} R EX Q r q k a => by
  refine h.se _ _ _ r q (fun w Γ1 v F1 H1 fp1 x1 r1 v1 h1 => ?_) a
  obtain ⟨d, Γ2, F2, fp2, x2, r2, b2, h2⟩ := shr_ok r1 v1 h1
  cases b2 with
  | @lst aa xs ds e2 t =>
    refine ⟨aa, rfl, ⟨xs, .inl (.inl (r2.fx _ _ e2))⟩, k ds Γ2 _ F2 H1 fp2 (x1.trans x2) r2 ?_ h2⟩
    intro B3 F3 Γ3 σ3 H3 fp3 s3 r3 i
    have hl : SqL X.K H3 aa xs := .inl (.inl ((s3.trans r3.fx) _ _ e2))
    refine ⟨fun d hd => ?_, fun hi => ⟨xs, hl, by rw [t.length]; exact hi⟩⟩
    obtain ⟨u, g1, g2⟩ := t.get hd
    exact ⟨⟨xs, u, hl, g1⟩, fun x H4 ⟨e4, f4⟩ => by
      subst e4
      have := f4 xs hl
      rw [g1] at this
      cases this
      exact ⟨F3, .refl, r3, g2.mono s3⟩⟩
  | _ => exact h2.elim⟩
theorem di_tup (h : DE X W e te p) : DI X W tg e (iTup X.K te) (qiT p) := ⟨pi_tup h.pe, fun {B F Γ σ H fp} R EX Q r q k a => by
  refine h.se _ _ _ r q (fun w Γ1 v F1 H1 fp1 x1 r1 v1 h1 => ?_) a
  obtain ⟨d, Γ2, F2, fp2, x2, r2, b2, h2⟩ := shr_ok r1 v1 h1
  cases b2 with
  | @tup aa xs ds e2 t =>
    refine ⟨aa, rfl, ⟨xs, .inl (.inl (r2.fx _ _ e2))⟩, k ds Γ2 _ F2 H1 fp2 (x1.trans x2) r2 ?_ h2⟩
    intro B3 F3 Γ3 σ3 H3 fp3 s3 r3 i
    have hl : SqT X.K H3 aa xs := .inl (.inl ((s3.trans r3.fx) _ _ e2))
    refine ⟨fun d hd => ?_, fun hi => ⟨xs, hl, by rw [t.length]; exact hi⟩⟩
    obtain ⟨u, g1, g2⟩ := t.get hd
    exact ⟨⟨xs, u, hl, g1⟩, fun x H4 ⟨e4, f4⟩ => by
      subst e4
      have := f4 xs hl
      rw [g1] at this
      cases this
      exact ⟨F3, .refl, r3, g2.mono s3⟩⟩
  | _ => exact h2.elim⟩
theorem strOk_sign {x : Str} (h : PyData.strOk x = true) {i c : Nat} (e : x.cps[i]? = some c) : PyData.strOk ⟨#[c]⟩ = true := by
  have h' : x.cps.all (· < 0x110000) = true := h
  rw [Array.all_eq_true] at h'
  obtain ⟨hi, he⟩ := Array.getElem?_eq_some_iff.mp e
  have := h' i hi
  rw [he] at this
  show (#[c] : Array Nat).all (· < 0x110000) = true
  simpa using this
theorem di_str (h : DE X W e te p) : DI X W tg e (iStr te) (qiS p) := ⟨pi_str h.pe, fun {B F Γ σ H fp} R EX Q r q k a => by
  refine h.se _ _ _ r q (fun w Γ1 v F1 H1 fp1 x1 r1 v1 h1 => ?_) a
  obtain ⟨d, Γ2, F2, fp2, x2, r2, b2, h2⟩ := shr_ok r1 v1 h1
  cases b2 with
  | str x ok =>
    refine ⟨x, rfl, k _ Γ2 _ F2 H1 fp2 (x1.trans x2) r2 ?_ h2⟩
    intro B3 F3 Γ3 σ3 H3 fp3 s3 r3 i
    refine ⟨fun d hd => ?_, fun hi => ?_⟩
    · rw [List.getElem?_map] at hd
      have hi : i < x.cps.size := by
        cases z : x.cps.toList[i]? with
        | none =>
          rw [z] at hd
          cases hd
        | some c =>
          have := (List.getElem?_eq_some_iff.mp z).1
          simpa using this
      refine ⟨hi, fun y H4 ⟨e4, c, hc, ey⟩ => ?_⟩
      subst e4 ey
      have hc' : x.cps.toList[i]? = some c := by rw [Array.getElem?_toList]; exact hc
      rw [hc'] at hd
      cases hd
      exact ⟨F3, .refl, r3, .str _ (strOk_sign ok hc)⟩
    · show x.cps.size ≤ i
      simpa using hi
  | _ => exact h2.elim⟩
/-- range(n), range(a, b) -/
def qiR1 (p : QA) : QI := fun Γ R E => p Γ (fun ds Γ1 => match ds with
  | [.int n] => -(2 ^ 62) ≤ n ∧ n < 2 ^ 62 ∧ R ((List.range n.toNat).map fun (i : Nat) => .int (i : Int)) Γ1
  | _ => False) E
def qiR2 (p : QA) : QI := fun Γ R E => p Γ (fun ds Γ1 => match ds with
  | [.int m, .int n] => (-(2 ^ 62) ≤ m ∧ m < 2 ^ 62 ∧ -(2 ^ 62) ≤ n ∧ n < 2 ^ 62) ∧ R ((List.range (n - m).toNat).map fun (i : Nat) => .int (m + (i : Int))) Γ1
  | _ => False) E
theorem it_range {F : Hp} (lo : Int) (n : Nat) (f : Nat → D) (hf : ∀ i, f i = .int (lo + (i : Int))) : ItOk (Itr lo n) F ((List.range n).map f) := fun B3 F3 Γ3 σ3 H3 fp3 s3 r3 i => by
  refine ⟨fun d hd => ?_, fun hi => show n ≤ i by simpa using hi⟩
  rw [List.getElem?_map] at hd
  have hi : i < n := by
    cases z : (List.range n)[i]? with
    | none =>
      rw [z] at hd
      cases hd
    | some c => simpa using (List.getElem?_eq_some_iff.mp z).1
  rw [List.getElem?_range hi] at hd
  refine ⟨hi, fun y H4 ⟨e4, ey⟩ => ?_⟩
  subst e4 ey
  have hd' : f i = d := Option.some.inj hd
  rw [← hd', hf]
  exact ⟨F3, .refl, r3, .int _⟩
theorem di_range1 {a : Expr} {ta : TA} {pa : QA} {p : Pos} (hm : X.mg "range" = none) (ha : DA X W [a] ta pa) (hg : Gl X "range" := by rfl) (hs : starEach [a] X.env = [(false, eval a X.env)] := by rfl) :
    DI X W tg (.Call (.Name "range" p) [a] [] pos) (iRng1 ta) (qiR1 pa) := ⟨pi_range1 hg hm ha.pa hs, fun {B F Γ σ H fp} R EX Q r q k e => by
  refine ha.sa _ _ _ r q (fun ds Γ1 vs F1 H1 fp1 x1 r1 b1 h1 => ?_) e
  split at h1
  · rename_i n
    cases b1 with
    | cons h t =>
      cases t
      cases h
      refine ⟨n, rfl, h1.1, h1.2.1, k _ Γ1 _ F1 H1 fp1 x1 r1 (it_range 0 _ _ fun i => by simp) h1.2.2⟩
  · exact h1.elim⟩
theorem di_range2 {a b : Expr} {ta : TA} {pa : QA} {p : Pos} (hm : X.mg "range" = none) (ha : DA X W [a, b] ta pa) (hg : Gl X "range" := by rfl) (hs : starEach [a, b] X.env = [(false, eval a X.env), (false, eval b X.env)] := by rfl) (hs2 : starEach [b] X.env = [(false, eval b X.env)] := by rfl) :
    DI X W tg (.Call (.Name "range" p) [a, b] [] pos) (iRng2 ta) (qiR2 pa) := ⟨pi_range2 hg hm ha.pa hs hs2, fun {B F Γ σ H fp} R EX Q r q k e => by
  refine ha.sa _ _ _ r q (fun ds Γ1 vs F1 H1 fp1 x1 r1 b1 h1 => ?_) e
  split at h1
  · rename_i m n
    cases b1 with
    | cons h t =>
      cases t with
      | cons h' t' =>
        cases t'
        cases h
        cases h'
        exact ⟨m, n, rfl, h1.1, k _ Γ1 _ F1 H1 fp1 x1 r1 (it_range m _ _ fun _ => rfl) h1.2⟩
  · exact h1.elim⟩
/-- enumerate(list) -/
def enumD (n : Nat) : List D → List D
  | [] => []
  | d :: r => .tuple [.int n, d] :: enumD (n + 1) r
theorem enumD_get : ∀ (ds : List D) (n i : Nat), (enumD n ds)[i]? = ds[i]?.map fun d => .tuple [.int ((n + i : Nat) : Int), d]
  | [], n, i => by simp [enumD]
  | d :: r, n, 0 => by simp [enumD]
  | d :: r, n, i + 1 => by
    simp only [enumD, List.getElem?_cons_succ]
    rw [enumD_get r (n + 1) i]
    have e : n + 1 + i = n + (i + 1) := by omega
    rw [e]
theorem enumD_length : ∀ (ds : List D) (n : Nat), (enumD n ds).length = ds.length
  | [], _ => rfl
  | _ :: r, n => congrArg (· + 1) (enumD_length r (n + 1))
def qiE (p : QA) : QI := fun Γ R E => p Γ (fun ds Γ1 => match ds with
  | [.list xs] => R (enumD 0 xs) Γ1
  | _ => False) E
theorem di_enum {ta : TA} {pa : QA} {p tpos : Pos} {elts : List Expr} {kk : Nat} (hm : X.mg "enumerate" = none) (ha : DA X W [e] ta pa) (hg : Gl X "enumerate" := by rfl) (hs : starEach [e] X.env = [(false, eval e X.env)] := by rfl) :
    DI X W (.Tuple elts kk tpos) (.Call (.Name "enumerate" p) [e] [] pos) (iEnum X.K ta) (qiE pa) := ⟨pi_enum hg hm ha.pa hs, fun {B F Γ σ H fp} R EX Q r q k e => by
  refine ha.sa _ _ _ r q (fun ds Γ1 vs F1 H1 fp1 x1 r1 b1 h1 => ?_) e
  split at h1
  · rename_i xs
    cases b1 with
    | cons h t =>
      cases t
      cases h with
      | @lst aa vs ds e2 t =>
        refine ⟨aa, vs, rfl, .inl (.inl (r1.fx _ _ e2)), k _ Γ1 _ F1 H1 fp1 x1 r1 ?_ h1⟩
        intro B3 F3 Γ3 σ3 H3 fp3 s3 r3 i
        have hl : SqL X.K H3 aa vs := .inl (.inl ((s3.trans r3.fx) _ _ e2))
        refine ⟨fun d hd => ?_, fun hi => ⟨vs, hl, by rw [t.length, ← enumD_length xs 0]; exact hi⟩⟩
        rw [enumD_get] at hd
        cases z : xs[i]? with
        | none =>
          rw [z] at hd
          cases hd
        | some c =>
          rw [z] at hd
          obtain ⟨u, g1, g2⟩ := t.get z
          refine ⟨⟨vs, u, hl, g1⟩, fun y H4 ⟨T, x, ey, nT, e4, f4⟩ => ?_⟩
          have := f4 vs hl
          rw [g1] at this
          cases this
          subst ey e4
          obtain ⟨x5, r5⟩ := r3.newF (o := .tup [.int (i : Nat), u]) nT
          have hd' : PyData.tuple [.int ((0 + i : Nat) : Int), c] = d := Option.some.inj hd
          rw [← hd', Nat.zero_add]
          exact ⟨_, x5, r5, .tup upd_same (.cons (.int _) (.cons ((g2.mono s3).mono x5.same) .nil))⟩
  · exact h1.elim⟩
/-- zip(list, list) -/
def zipD : List D → List D → List D
  | a :: r, b :: s => .tuple [a, b] :: zipD r s
  | _, _ => []
theorem zipD_get : ∀ (xs ys : List D) (i : Nat), (zipD xs ys)[i]? = (xs[i]?.bind fun a => ys[i]?.map fun b => .tuple [a, b])
  | [], ys, i => by simp [zipD]
  | a :: r, [], i => by simp [zipD]
  | a :: r, b :: s, 0 => by simp [zipD]
  | a :: r, b :: s, i + 1 => by
    simp only [zipD, List.getElem?_cons_succ]
    exact zipD_get r s i
theorem zipD_length : ∀ (xs ys : List D), (zipD xs ys).length = min xs.length ys.length
  | [], ys => by simp [zipD]
  | a :: r, [] => by simp [zipD]
  | a :: r, b :: s => by
    simp only [zipD, List.length_cons, zipD_length r s]
    omega
def qiZ (p : QA) : QI := fun Γ R E => p Γ (fun ds Γ1 => match ds with
  | [.list xs, .list ys] => R (zipD xs ys) Γ1
  | [.tuple xs, .tuple ys] => R (zipD xs ys) Γ1
  | _ => False) E
theorem di_zip {e2 : Expr} {ta : TA} {pa : QA} {p tpos : Pos} {elts : List Expr} {kk : Nat} (hm : X.mg "zip" = none) (ha : DA X W [e, e2] ta pa) (hg : Gl X "zip" := by rfl)
    (hs : starEach [e, e2] X.env = (false, eval e X.env) :: starEach [e2] X.env := by rfl) (hpl : (backTo pos (starEach [e2] X.env)).any (·.1) = false := by rfl) :
    DI X W (.Tuple elts kk tpos) (.Call (.Name "zip" p) [e, e2] [] pos) (RZ.iZipA X.K ta) (qiZ pa) := ⟨RZ.pi_zipA hg hm ha.pa hs hpl, fun {B F Γ σ H fp} R EX Q r q k e => by
  refine ha.sa _ _ _ r q (fun ds Γ1 vs F1 H1 fp1 x1 r1 b1 h1 => ?_) e
  split at h1
  · rename_i xs ys
    cases b1 with
    | cons h t =>
      cases t with
      | cons h' t' =>
        cases t'
        cases h with
        | @lst aa vs ds e2 t =>
          cases h' with
          | @lst ba ws ds' e3 t3 =>
            refine ⟨aa, ba, vs, ws, rfl, .inl ⟨.inl (.inl (r1.fx _ _ e2)), .inl (.inl (r1.fx _ _ e3)), k _ Γ1 _ F1 H1 fp1 x1 r1 ?_ h1⟩⟩
            intro B3 F3 Γ3 σ3 H3 fp3 s3 r3 i
            have hl : SqL X.K H3 aa vs := .inl (.inl ((s3.trans r3.fx) _ _ e2))
            have hl2 : SqL X.K H3 ba ws := .inl (.inl ((s3.trans r3.fx) _ _ e3))
            refine ⟨fun d hd => ?_, fun hi => ⟨vs, ws, hl, hl2, by rw [zipD_length] at hi; rw [t.length, t3.length]; omega⟩⟩
            rw [zipD_get] at hd
            cases z : xs[i]? with
            | none =>
              rw [z] at hd
              cases hd
            | some c =>
              rw [z] at hd
              cases z2 : ys[i]? with
              | none =>
                rw [z2] at hd
                cases hd
              | some c2 =>
                rw [z2] at hd
                obtain ⟨u, g1, g2⟩ := t.get z
                obtain ⟨u2, g3, g4⟩ := t3.get z2
                refine ⟨⟨vs, ws, u, u2, hl, hl2, g1, g3⟩, fun y H4 ⟨T, x, x', ey, nT, e4, f4, f5⟩ => ?_⟩
                have := f4 vs hl
                rw [g1] at this
                cases this
                have := f5 ws hl2
                rw [g3] at this
                cases this
                subst ey e4
                obtain ⟨x5, r5⟩ := r3.newF (o := .tup [u, u2]) nT
                have hd' : PyData.tuple [c, c2] = d := Option.some.inj hd
                rw [← hd']
                exact ⟨_, x5, r5, .tup upd_same (.cons ((g2.mono s3).mono x5.same) (.cons ((g4.mono s3).mono x5.same) .nil))⟩
  · rename_i xs ys
    cases b1 with
    | cons h t =>
      cases t with
      | cons h' t' =>
        cases t'
        cases h with
        | @tup aa vs ds e2 t =>
          cases h' with
          | @tup ba ws ds' e3 t3 =>
            refine ⟨aa, ba, vs, ws, rfl, .inr ⟨.inl (.inl (r1.fx _ _ e2)), .inl (.inl (r1.fx _ _ e3)), k _ Γ1 _ F1 H1 fp1 x1 r1 ?_ h1⟩⟩
            intro B3 F3 Γ3 σ3 H3 fp3 s3 r3 i
            have hl : SqT X.K H3 aa vs := .inl (.inl ((s3.trans r3.fx) _ _ e2))
            have hl2 : SqT X.K H3 ba ws := .inl (.inl ((s3.trans r3.fx) _ _ e3))
            refine ⟨fun d hd => ?_, fun hi => ⟨vs, ws, hl, hl2, by rw [zipD_length] at hi; rw [t.length, t3.length]; omega⟩⟩
            rw [zipD_get] at hd
            cases z : xs[i]? with
            | none =>
              rw [z] at hd
              cases hd
            | some c =>
              rw [z] at hd
              cases z2 : ys[i]? with
              | none =>
                rw [z2] at hd
                cases hd
              | some c2 =>
                rw [z2] at hd
                obtain ⟨u, g1, g2⟩ := t.get z
                obtain ⟨u2, g3, g4⟩ := t3.get z2
                refine ⟨⟨vs, ws, u, u2, hl, hl2, g1, g3⟩, fun y H4 ⟨T, x, x', ey, nT, e4, f4, f5⟩ => ?_⟩
                have := f4 vs hl
                rw [g1] at this
                cases this
                have := f5 ws hl2
                rw [g3] at this
                cases this
                subst ey e4
                obtain ⟨x5, r5⟩ := r3.newF (o := .tup [u, u2]) nT
                have hd' : PyData.tuple [c, c2] = d := Option.some.inj hd
                rw [← hd']
                exact ⟨_, x5, r5, .tup upd_same (.cons ((g2.mono s3).mono x5.same) (.cons ((g4.mono s3).mono x5.same) .nil))⟩
  · exact h1.elim⟩
end

/-! ### for -/
def forGo (g : QG) (t : QS) (P : PEnds) : List D → Ev → Prop
  | [], Γ => P.nx Γ
  | d :: r, Γ => g (.sh d) Γ fun Γ1 => t { P with nx := forGo g t P r, ct := forGo g t P r, bk := P.nx } Γ1
def qFor (i : QI) (g : QG) (t : QS) : QS := fun P Γ => i Γ (fun ds Γ1 => forGo g t P ds Γ1) P.ex
section
variable {X : Cx} {W : WX} {pos : Pos} {ts : TS} {ps : QS}
theorem ds_for {tg iter : Expr} {body : List Stmt} {wi : TI} {qi : QI} {g : TG} {qg : QG} {js : List Nat} (hp : PassesOwn (model X.prog X.w) X.A X.env X.xe) (hc : X.calm = true) (hi : DI X W tg iter wi qi) (hg : DG X tg g qg js) (hb : DSs X W body ts ps)
    (hs : ∀ x, foldedSetIterable iter X.env x = pure x := by intro _; rfl) : DS X W (.For tg iter body [] pos) (tFor wi g ts) (qFor qi qg ps) := ⟨ps_for hp hc hi.pi hg.pg hb.ps hs, fun {B F Γ σ H fp} P D r q a => by
  refine hi.si _ _ _ r q (fun ds Γ1 J F1 H1 fp1 x1 r1 ok h1 => ?_) a.afe
  refine ⟨fun i m σ' H' => m + i = ds.length ∧ ∃ Γ' F' fp', Ext B F1 F' ∧ Rel B F' Γ' σ' H' fp' ∧ forGo qg ps P (ds.drop i) Γ', ⟨ds.length, rfl, Γ1, F1, fp1, .refl, r1, h1⟩, ?_⟩
  rintro i m σ' H' ⟨hm, Γ', F', fp', x, r', hf⟩
  obtain ⟨o1, o2⟩ := ok B F' Γ' σ' H' fp' x.same r' i
  by_cases hlt : i < ds.length
  · obtain ⟨go, yld⟩ := o1 ds[i] (List.getElem?_eq_getElem hlt)
    refine .inr ⟨go, fun σ2 H2 => ∃ m', m' < m ∧ (m' + (i + 1) = ds.length ∧ ∃ Γ' F' fp', Ext B F1 F' ∧ Rel B F' Γ' σ2 H2 fp' ∧ forGo qg ps P (ds.drop (i + 1)) Γ'), fun σ2 H2 h => h, fun y H2 hy => ?_⟩
    obtain ⟨F2, x2, r2, b2⟩ := yld y H2 hy
    rw [List.drop_eq_getElem_cons hlt] at hf
    refine hg.sg _ _ r2 (.sh b2) hf fun Γ3 F3 σ3 fp3 x3 r3 _ h3 => ?_
    have xx := (x.trans x2).trans x3
    have am := a.mono (x1.trans xx)
    refine hb.ss _ _ r3 h3 ⟨fun Γ4 F4 σ4 H4 fp4 x4 r4 h4 => ⟨m - 1, by omega, by omega, Γ4, F4, fp4, xx.trans x4, r4, h4⟩, am.rt, am.nx, fun Γ4 F4 σ4 H4 fp4 x4 r4 h4 => ⟨m - 1, by omega, by omega, Γ4, F4, fp4, xx.trans x4, r4, h4⟩, am.ex⟩
  · refine .inl ⟨o2 (by omega), ?_⟩
    rw [List.drop_of_length_le (by omega)] at hf
    exact a.nx Γ' F' σ' H' fp' (x1.trans x) r' hf⟩
end
end PL

namespace PL
open PySem PySem.Spec PyProof.Rows L2

/-! ### comprehensions -/
/-- the slots vs forgotten; put back as they were in Γ0 -/
def wipEv (vs : List Nat) : Ev → Ev := fun Γ => vs.foldr (fun i Γ => Γ.set i .un) Γ
def backEv (Γ0 : Ev) (vs : List Nat) : Ev → Ev := fun Γ => vs.foldr (fun i Γ => Γ.set i ((Γ0[i]?).getD .un)) Γ
def isOw : Option Sl → Bool
  | some (.ow _) => true
  | _ => false
def noOw (Γ : Ev) (vs : List Nat) : Bool := vs.all fun i => !isOw Γ[i]?
theorem wipEv_length (Γ : Ev) : ∀ vs : List Nat, (wipEv vs Γ).length = Γ.length
  | [] => rfl
  | v :: vs => by
    show ((wipEv vs Γ).set v .un).length = _
    rw [List.length_set, wipEv_length Γ vs]
theorem backEv_length (Γ0 Γ : Ev) : ∀ vs : List Nat, (backEv Γ0 vs Γ).length = Γ.length
  | [] => rfl
  | v :: vs => by
    show ((backEv Γ0 vs Γ).set v _).length = _
    rw [List.length_set, backEv_length Γ0 Γ vs]
theorem wipEv_get (Γ : Ev) : ∀ (vs : List Nat) (i : Nat), (i ∈ vs ∧ ((wipEv vs Γ)[i]? = some .un ∨ (wipEv vs Γ)[i]? = none)) ∨ (i ∉ vs ∧ (wipEv vs Γ)[i]? = Γ[i]?)
  | [], i => .inr ⟨by simp, rfl⟩
  | v :: vs, i => by
    show (i ∈ v :: vs ∧ (((wipEv vs Γ).set v .un)[i]? = some .un ∨ ((wipEv vs Γ).set v .un)[i]? = none)) ∨ (i ∉ v :: vs ∧ ((wipEv vs Γ).set v .un)[i]? = Γ[i]?)
    by_cases e : v = i
    · subst e
      refine .inl ⟨List.mem_cons_self, ?_⟩
      rw [List.getElem?_set]
      simp only [if_true]
      split
      · exact .inl rfl
      · exact .inr rfl
    · rw [List.getElem?_set_ne e]
      rcases wipEv_get Γ vs i with ⟨h, q⟩ | ⟨h, q⟩
      · exact .inl ⟨List.mem_cons_of_mem _ h, q⟩
      · exact .inr ⟨fun z => by
          rcases List.mem_cons.mp z with z | z
          · exact e z.symm
          · exact h z, q⟩
theorem backEv_get (Γ0 Γ : Ev) (hl : Γ0.length = Γ.length) : ∀ (vs : List Nat) (i : Nat), (i ∈ vs ∧ (backEv Γ0 vs Γ)[i]? = Γ0[i]?) ∨ (i ∉ vs ∧ (backEv Γ0 vs Γ)[i]? = Γ[i]?)
  | [], i => .inr ⟨by simp, rfl⟩
  | v :: vs, i => by
    show (i ∈ v :: vs ∧ ((backEv Γ0 vs Γ).set v ((Γ0[v]?).getD .un))[i]? = Γ0[i]?) ∨ (i ∉ v :: vs ∧ ((backEv Γ0 vs Γ).set v ((Γ0[v]?).getD .un))[i]? = Γ[i]?)
    by_cases e : v = i
    · subst e
      refine .inl ⟨List.mem_cons_self, ?_⟩
      rw [List.getElem?_set]
      simp only [if_true]
      rw [backEv_length]
      split
      · rename_i h
        rw [← hl] at h
        rw [List.getElem?_eq_getElem h]
        rfl
      · rename_i h
        rw [← hl] at h
        rw [List.getElem?_eq_none (by omega)]
    · rw [List.getElem?_set_ne e]
      rcases backEv_get Γ0 Γ hl vs i with ⟨h, q⟩ | ⟨h, q⟩
      · exact .inl ⟨List.mem_cons_of_mem _ h, q⟩
      · exact .inr ⟨fun z => by
          rcases List.mem_cons.mp z with z | z
          · exact e z.symm
          · exact h z, q⟩
theorem wipe_get (σ : L2.St) : ∀ (vs : List Nat) (i : Nat), (i ∈ vs ∧ ((wipe σ vs)[i]? = some none ∨ (wipe σ vs)[i]? = none)) ∨ (i ∉ vs ∧ (wipe σ vs)[i]? = σ[i]?)
  | [], i => .inr ⟨by simp, rfl⟩
  | v :: vs, i => by
    show (i ∈ v :: vs ∧ (((wipe σ vs).set v none)[i]? = some none ∨ ((wipe σ vs).set v none)[i]? = none)) ∨ (i ∉ v :: vs ∧ ((wipe σ vs).set v none)[i]? = σ[i]?)
    by_cases e : v = i
    · subst e
      refine .inl ⟨List.mem_cons_self, ?_⟩
      rw [List.getElem?_set]
      simp only [if_true]
      split
      · exact .inl rfl
      · exact .inr rfl
    · rw [List.getElem?_set_ne e]
      rcases wipe_get σ vs i with ⟨h, q⟩ | ⟨h, q⟩
      · exact .inl ⟨List.mem_cons_of_mem _ h, q⟩
      · exact .inr ⟨fun z => by
          rcases List.mem_cons.mp z with z | z
          · exact e z.symm
          · exact h z, q⟩
/-- what the block's targets do is forgotten by wiping -/
theorem wipe_chg {σ σ2 : L2.St} {js vs : List Nat} (c : Chg js (wipe σ vs) σ2) (hj : ∀ j ∈ js, j ∈ vs) : wipe σ2 vs = wipe σ vs := by
  apply List.ext_getElem?
  intro i
  have hl : σ2.length = σ.length := by rw [c.1, wipe_length]
  rcases wipe_get σ2 vs i with ⟨h, q⟩ | ⟨h, q⟩
  · rcases wipe_get σ vs i with ⟨h', q'⟩ | ⟨h', q'⟩
    · by_cases hi : i < σ.length
      · have e1 : (wipe σ2 vs)[i]? ≠ none := by
          rw [List.getElem?_eq_getElem (by rw [wipe_length]; omega)]
          exact fun z => nomatch z
        have e2 : (wipe σ vs)[i]? ≠ none := by
          rw [List.getElem?_eq_getElem (by rw [wipe_length]; omega)]
          exact fun z => nomatch z
        rcases q with q | q
        · rcases q' with q' | q'
          · rw [q, q']
          · exact absurd q' e2
        · exact absurd q e1
      · rw [List.getElem?_eq_none (by rw [wipe_length]; omega), List.getElem?_eq_none (by rw [wipe_length]; omega)]
    · exact absurd h h'
  · rw [q]
    exact c.2 i fun z => h (hj i z)
section
variable {B F : Hp} {Γ Γ' : Ev} {σ σ' : L2.St} {H : Hp} {fp : Nat → List Addr}
/-- fewer slots are known -/
theorem Rel.sub (r : Rel B F Γ σ H fp) (hl : Γ'.length = σ'.length) (h : ∀ (i : Nat) (s : Sl), Γ'[i]? = some s → s = .un ∨ (Γ[i]? = some s ∧ σ'[i]? = σ[i]?)) : Rel B F Γ' σ' H fp := by
  refine ⟨r.bx, r.fx, hl, fun i d e => ?_, fun i o e => ?_, r.nb, r.dj, fun i a e => ?_⟩
  · rcases h i _ e with q | ⟨q, z⟩
    · cases q
    · rw [z]
      exact r.sh i d q
  · rcases h i _ e with q | ⟨q, z⟩
    · cases q
    · rw [z]
      exact r.ow i o q
  · rcases h i _ e with q | ⟨q, z⟩
    · cases q
    · rw [z]
      exact r.ex i a q
theorem Rel.wip (r : Rel B F Γ σ H fp) (vs : List Nat) : Rel B F (wipEv vs Γ) (wipe σ vs) H fp := by
  refine r.sub (by rw [wipEv_length, wipe_length]; exact r.len) fun i s e => ?_
  rcases wipEv_get Γ vs i with ⟨h, q⟩ | ⟨h, q⟩
  · rcases q with q | q
    · rw [q] at e
      exact .inl (Option.some.inj e).symm
    · rw [q] at e
      cases e
  · rw [q] at e
    rcases wipe_get σ vs i with ⟨h', _⟩ | ⟨_, q'⟩
    · exact absurd h' h
    · exact .inr ⟨e, q'⟩
/-- behind the block: its slots as they were -/
theorem Rel.back {Γ2 : Ev} {F2 H2 : Hp} {fp2 : Nat → List Addr} {vs : List Nat} (r : Rel B F Γ σ H fp) (ho : noOw Γ vs = true) (x : Same F F2) (r2 : Rel B F2 Γ2 (wipe σ vs) H2 fp2) : Rel B F2 (backEv Γ vs Γ2) σ H2 fp2 := by
  have hl : Γ.length = Γ2.length := by rw [r.len, r2.len, wipe_length]
  refine ⟨r2.bx, r2.fx, by rw [backEv_length, r2.len, wipe_length], fun i d e => ?_, fun i o e => ?_, r2.nb, r2.dj, fun i a e => ?_⟩
  · rcases backEv_get Γ Γ2 hl vs i with ⟨h, q⟩ | ⟨h, q⟩
    · rw [q] at e
      obtain ⟨v, h1, h2⟩ := r.sh i d e
      exact ⟨v, h1, h2.mono x⟩
    · rw [q] at e
      obtain ⟨v, h1, h2⟩ := r2.sh i d e
      rcases wipe_get σ vs i with ⟨h', _⟩ | ⟨_, q'⟩
      · exact absurd h' h
      · exact ⟨v, by rw [← q']; exact h1, h2⟩
  · rcases backEv_get Γ Γ2 hl vs i with ⟨h, q⟩ | ⟨h, q⟩
    · rw [q] at e
      unfold noOw at ho
      rw [List.all_eq_true] at ho
      have := ho i h
      rw [e] at this
      cases this
    · rw [q] at e
      obtain ⟨v, h1, h2⟩ := r2.ow i o e
      rcases wipe_get σ vs i with ⟨h', _⟩ | ⟨_, q'⟩
      · exact absurd h' h
      · exact ⟨v, by rw [← q']; exact h1, h2⟩
  · rcases backEv_get Γ Γ2 hl vs i with ⟨h, q⟩ | ⟨h, q⟩
    · rw [q] at e
      exact r.ex i a e
    · rw [q] at e
      have h1 := r2.ex i a e
      rcases wipe_get σ vs i with ⟨h', _⟩ | ⟨_, q'⟩
      · exact absurd h' h
      · rw [← q']
        exact h1
/-- an own object that no slot holds -/
def OwnV (B F H : Hp) (fp : Nat → List Addr) (v : V) (o : O) : Prop := ∃ f, RO F H v o f ∧ ∀ a ∈ f, B a = none ∧ F a = none ∧ ∀ i, a ∉ fp i
theorem OwnV.rw {v : V} {o : O} (h : OwnV B F H fp v o) : RW B F Γ σ H fp v (.ow o) := by
  obtain ⟨f, h1, h2⟩ := h
  exact .ow h1 h2
theorem RW.own {v : V} {o : O} (h : RW B F Γ σ H fp v (.ow o)) : OwnV B F H fp v o := by
  cases h with
  | ow h1 h2 => exact ⟨_, h1, h2⟩
/-- it is held while something else is worked out -/
theorem Rel.hold {v : V} {o : O} (r : Rel B F Γ σ H fp) (h : OwnV B F H fp v o) :
    ∃ B', Rel B' F Γ σ H fp ∧ ∀ F2 Γ2 σ2 H2 fp2, Ext B' F F2 → Rel B' F2 Γ2 σ2 H2 fp2 → Ext B F F2 ∧ Rel B F2 Γ2 σ2 H2 fp2 ∧ OwnV B F2 H2 fp2 v o := by
  obtain ⟨f, h, hf⟩ := h
  have nB : ∀ a ∈ f, B a = none := fun a ha => (hf a ha).1
  have bb : Same B (frz B H f) := frz_same nB
  have bn : ∀ a, frz B H f a = none → a ∉ f ∧ B a = none := fun a e => by
    have nf : a ∉ f := fun z => by
      unfold frz at e
      rw [if_pos z] at e
      exact h.mem a z e
    refine ⟨nf, ?_⟩
    unfold frz at e
    rw [if_neg nf] at e
    exact e
  refine ⟨frz B H f, ⟨frz_sub r.bx, r.fx, r.len, r.sh, r.ow, fun i a ha => ?_, r.dj, r.ex⟩, fun F2 Γ2 σ2 H2 fp2 x r2 => ⟨⟨x.same, fun a q e => (x.new a q e).imp (fun z => (bn a z).2) id⟩, ⟨bb.trans r2.bx, r2.fx, r2.len, r2.sh, r2.ow, fun i a ha => ?_, r2.dj, r2.ex⟩, f, ?_, fun a ha => ⟨nB a ha, ?_, fun i hi => ?_⟩⟩⟩
  · obtain ⟨b, c, d⟩ := r.nb i a ha
    refine ⟨?_, c, d⟩
    unfold frz
    rw [if_neg fun z => (hf a z).2.2 i ha]
    exact b
  · obtain ⟨b, c, d⟩ := r2.nb i a ha
    exact ⟨(bn a b).2, c, d⟩
  · refine h.mono x.same fun a ha => ?_
    cases q : H a with
    | none => exact absurd q (h.mem a ha)
    | some u => exact r2.bx a u (by unfold frz; rw [if_pos ha]; exact q)
  · cases q : F2 a with
    | none => rfl
    | some u =>
      rcases x.new a (by rw [q]; exact fun z => nomatch z) (hf a ha).2.1 with z | ⟨xs, z⟩
      · exact absurd ha (bn a z).1
      · cases q2 : H a with
        | none => exact absurd q2 (h.mem a ha)
        | some u2 =>
          have e1 := r2.bx a u2 (by unfold frz; rw [if_pos ha]; exact q2)
          rw [r2.fx a _ z] at e1
          cases e1
          exact absurd q2 (h.no_tup a ha xs)
  · exact (bn a (r2.nb i a hi).1).1 ha
/-- an item appended to a list that only this value holds -/
theorem own_app {Dl : Addr} {acc : List D} {y : V} {d : D} (r : Rel B F Γ σ H fp) (h : OwnV B F H fp (.ref Dl) (.l acc)) (hy : Rp F y d) :
    ∃ xs, H Dl = some (.lst xs) ∧ xs.length = acc.length ∧ Rel B F Γ σ (upd H Dl (.lst (xs ++ [y]))) fp ∧ OwnV B F (upd H Dl (.lst (xs ++ [y]))) fp (.ref Dl) (.l (acc ++ [d])) := by
  obtain ⟨f, h, hf⟩ := h
  cases h with
  | @l a xs ds e t =>
    obtain ⟨b1, b2, b3⟩ := hf Dl (by simp)
    refine ⟨xs, e, t.length, ⟨fun a u q => ?_, fun a u q => ?_, r.len, r.sh, fun i o q => ?_, fun i a ha => ?_, r.dj, r.ex⟩, [Dl], .l upd_same (t.append (.cons hy .nil)), hf⟩
    · rw [upd_ne fun z => by subst z; rw [b1] at q; cases q]
      exact r.bx a u q
    · rw [upd_ne fun z => by subst z; rw [b2] at q; cases q]
      exact r.fx a u q
    · obtain ⟨v, h1, h2⟩ := r.ow i o q
      exact ⟨v, h1, h2.mono (Same.refl F) fun a ha => upd_ne fun z => b3 i (by rw [← z]; exact ha)⟩
    · obtain ⟨c1, c2, c3⟩ := r.nb i a ha
      refine ⟨c1, c2, ?_⟩
      rw [upd_ne fun z => b3 i (by rw [← z]; exact ha)]
      exact c3
end

def noEX : EXP := fun _ _ => False
/-- the turns of a list comprehension -/
def lcGo (vs : List Nat) (g : QG) (t : QT) (p : QE) (k : List D → Ev → Prop) : List D → List D → Ev → Prop
  | [], acc, Γ => k acc Γ
  | d :: r, acc, Γ => g (.sh d) Γ fun Γ1 => t Γ1 (fun b Γ2 => Cif b (p Γ2 (fun w Γ3 => shr w Γ3 fun y Γ4 => acc.length < sizeLine ∧ lcGo vs g t p k r (acc ++ [y]) (wipEv vs Γ4)) noEX) (lcGo vs g t p k r acc (wipEv vs Γ2))) noEX
def qLc (vs : List Nat) (i : QI) (g : QG) (t : QT) (p : QE) : QE := fun Γ R E => i Γ (fun ds Γ1 => noOw Γ1 vs = true ∧ lcGo vs g t p (fun acc Γ2 => R (.ow (.l acc)) (backEv Γ1 vs Γ2)) ds [] (wipEv vs Γ1)) E
section
variable {W : WX} {wi : TI} {qi : QI} {g : TG} {qg : QG} {js : List Nat} {tt : TT} {qt : QT} {te : TE} {qe : QE} {vs : List Nat}
theorem afe_no {W : WX} {B F : Hp} {σ : L2.St} : AfE W B F σ noEX := fun _ _ _ _ _ _ _ h => h.elim
theorem se_lc (hi : SI W wi qi) (hg : SG g qg js) (ht : ST (fun _ _ _ _ => False) tt qt) (he : SE (fun _ _ _ _ => False) te qe) (hj : ∀ j ∈ js, j ∈ vs) : SE W (tLc wi g tt te vs) (qLc vs qi qg qt qe) := fun {B F Γ σ H fp} R EX Q r q k e => by
  refine hi _ _ _ r q (fun ds Γ1 J F1 H1 fp1 x1 r1 ok h1 => ?_) e
  obtain ⟨ho, h1⟩ := h1
  intro Dl hD
  have r2 : Rel B F1 (wipEv vs Γ1) (wipe σ vs) H1 fp1 := r1.wip vs
  obtain ⟨r3, v3⟩ := new_lst r2 (.nil) hD
  refine ⟨fun i m H' => m + i = ds.length ∧ ∃ Γ' F' fp' acc, Ext B F1 F' ∧ Rel B F' Γ' (wipe σ vs) H' fp' ∧ OwnV B F' H' fp' (.ref Dl) (.l acc) ∧
    lcGo vs qg qt qe (fun acc Γ2 => R (.ow (.l acc)) (backEv Γ1 vs Γ2)) (ds.drop i) acc Γ', ⟨ds.length, rfl, _, F1, fp1, [], .refl, r3, v3.own, h1⟩, ?_⟩
  rintro i m H' ⟨hm, Γ', F', fp', acc, x, r', v', hf⟩
  obtain ⟨o1, o2⟩ := ok B F' Γ' _ H' fp' x.same r' i
  by_cases hlt : i < ds.length
  · obtain ⟨B', rB, gd⟩ := r'.hold v'
    obtain ⟨go, yld⟩ := (ok B' F' Γ' _ H' fp' x.same rB i).1 ds[i] (List.getElem?_eq_getElem hlt)
    refine .inr ⟨go, fun H2 => ∃ m', m' < m ∧ (m' + (i + 1) = ds.length ∧ ∃ Γ' F' fp' acc, Ext B F1 F' ∧ Rel B F' Γ' (wipe σ vs) H2 fp' ∧ OwnV B F' H2 fp' (.ref Dl) (.l acc) ∧
      lcGo vs qg qt qe (fun acc Γ2 => R (.ow (.l acc)) (backEv Γ1 vs Γ2)) (ds.drop (i + 1)) acc Γ'), fun H2 h => h, fun y H2 hy => ?_⟩
    obtain ⟨F2, x2, r2, b2⟩ := yld y H2 hy
    rw [List.drop_eq_getElem_cons hlt] at hf
    refine hg _ _ r2 (.sh b2) hf fun Γ3 F3 σ3 fp3 x3 r3 c3 h3 => ?_
    have hw : wipe σ3 vs = wipe σ vs := wipe_chg c3 hj
    refine ⟨hw, ht _ noEX _ r3 h3 (fun b Γ4 F4 H4 fp4 x4 r4 h4 => ?_) afe_no⟩
    have x24 := (x2.trans x3).trans x4
    cases b with
    | true =>
      refine he _ noEX _ r4 (h4.t rfl) (fun w5 Γ5 z F5 H5 fp5 x5 r5 v5 h5 => ?_) afe_no
      obtain ⟨d6, Γ6, F6, fp6, x6, r6, b6, hsz, h6⟩ := shr_ok r5 v5 h5
      have r7 := r6.wip vs
      rw [hw] at r7
      obtain ⟨y8, r8, v8⟩ := gd F6 _ _ H5 fp6 ((x24.trans x5).trans x6) r7
      obtain ⟨xs, e9, l9, r9, v9⟩ := own_app r8 v8 b6
      exact ⟨xs, e9, by rw [l9]; exact hsz, m - 1, by omega, by omega, _, F6, fp6, _, x.trans y8, r9, v9, h6⟩
    | false =>
      have r7 := r4.wip vs
      rw [hw] at r7
      obtain ⟨y8, r8, v8⟩ := gd F4 _ _ H4 fp4 x24 r7
      exact ⟨m - 1, by omega, by omega, _, F4, fp4, acc, x.trans y8, r8, v8, h4.f rfl⟩
  · refine .inl ⟨o2 (by omega), ?_⟩
    rw [List.drop_of_length_le (by omega)] at hf
    exact k _ _ _ F' H' fp' (x1.trans x) (r1.back ho x.same r') v'.rw hf
end

section
variable {X : Cx} {W : WX} {pos : Pos} {e tg iter elt : Expr} {wi : TI} {qi : QI} {g : TG} {qg : QG} {js : List Nat} {tt : TT} {qt : QT} {te : TE} {qe : QE} {ifs : List Expr} {scope : Scope} {own : List (Str × Nat)}
abbrev W0 : WX := fun _ _ _ _ => False
structure DTs (X : Cx) (W : WX) (ifs : List Expr) (tt : TT) (p : QT) : Prop where
  pt : PTs X ifs tt
  st : ST W tt p
def qYes : QT := fun Γ R _ => R true Γ
theorem dts_nil : DTs X W [] tYes qYes := ⟨pts_nil, fun {B F Γ σ H fp} R EX Q r h k _ => k true Γ F H fp .refl r h⟩
theorem dts_one {c : Expr} (h : DT X W c tt qt) : DTs X W [c] tt qt := ⟨pts_one h.pt, h.st⟩
theorem d_lc (hc : X.calm = true) (hN : X.N.Nodup) (hi : DI X W tg iter wi qi) (ok : BlkOk X.N X.env.scope scope own)
    (hg : ∀ (s : Shared) (H : Hp) (C : Addr) (cl : List (Str × Addr)) (fp : List Addr), DG (X.blk s H scope (compEnvC scope cl C X.env) fp) tg g qg js)
    (ht : ∀ (s : Shared) (H : Hp) (C : Addr) (cl : List (Str × Addr)) (fp : List Addr), DTs (X.blk s H scope (compEnvC scope cl C X.env) fp) W0 ifs tt qt)
    (he : ∀ (s : Shared) (H : Hp) (C : Addr) (cl : List (Str × Addr)) (fp : List Addr), DE (X.blk s H scope (compEnvC scope cl C X.env) fp) W0 elt te qe) (hj : (∀ j ∈ js, j ∈ own.map (·.2)) := by decide) (hs : ∀ x, foldedSetIterable iter X.env x = pure x := by intro _; rfl) :
    DE X W (.ListComp elt [⟨tg, iter, ifs, 0⟩] scope pos) (tLc wi g tt te (own.map (·.2))) (qLc (own.map (·.2)) qi qg qt qe) :=
  ⟨pe_lc hc hN hi.pi ok (fun s H C cl fp => (hg s H C cl fp).pg) (fun s H C cl fp => (ht s H C cl fp).pt) (fun s H C cl fp => (he s H C cl fp).pe) hs,
   se_lc hi.si (hg ({} : Shared) (fun _ => none) 0 [] []).sg (ht ({} : Shared) (fun _ => none) 0 [] []).st (he ({} : Shared) (fun _ => none) 0 [] []).se hj⟩
/-- name = [..] on one line -/
theorem ds_setLc {i : Nat} {y : Str} {py spos : Pos} (hc : X.calm = true) (hN : X.N.Nodup) (hi : DI X W tg iter wi qi) (ok : BlkOk X.N X.env.scope scope own)
    (hg : ∀ (s : Shared) (H : Hp) (C : Addr) (cl : List (Str × Addr)) (fp : List Addr), DG (X.blk s H scope (compEnvC scope cl C X.env) fp) tg g qg js)
    (ht : ∀ (s : Shared) (H : Hp) (C : Addr) (cl : List (Str × Addr)) (fp : List Addr), DTs (X.blk s H scope (compEnvC scope cl C X.env) fp) W0 ifs tt qt)
    (he : ∀ (s : Shared) (H : Hp) (C : Addr) (cl : List (Str × Addr)) (fp : List Addr), DE (X.blk s H scope (compEnvC scope cl C X.env) fp) W0 elt te qe)
    (hsw : swapsWith (.ListComp elt [⟨tg, iter, ifs, 0⟩] scope pos) (some (.Name y py)) spos.line X.env = pure true)
    (hy : X.N[i]? = some y := by rfl) (hyl : X.env.scope.names.lookup y = some .local := by rfl) (hj : (∀ j ∈ js, j ∈ own.map (·.2)) := by decide) (hs : ∀ x, foldedSetIterable iter X.env x = pure x := by intro _; rfl) :
    DS X W (.Assign [.Name y py] (.ListComp elt [⟨tg, iter, ifs, 0⟩] scope pos) spos) (tAsg (tLc wi g tt te (own.map (·.2))) (gName i)) (qAsg (qLc (own.map (·.2)) qi qg qt qe) (qgN i)) :=
  ⟨ps_setLc hc hN hy hyl hsw hi.pi ok (fun s H C cl fp => (hg s H C cl fp).pg) (fun s H C cl fp => (ht s H C cl fp).pt) (fun s H C cl fp => (he s H C cl fp).pe) hs,
   ss_asg (se_lc hi.si (hg ({} : Shared) (fun _ => none) 0 [] []).sg (ht ({} : Shared) (fun _ => none) 0 [] []).st (he ({} : Shared) (fun _ => none) 0 [] []).se hj) sg_name⟩
end
end PL

namespace PL
open PySem PySem.Spec PyProof.Rows L2

/-! ### a def's promise, over data -/
abbrev PD := List D → (Wv → Prop) → Prop
inductive RR (B F H : Hp) (v : V) : Wv → Prop
  | sh {d : D} : Rp F v d → RR B F H v (.sh d)
  | ow {o : O} {f : List Addr} : RO F H v o f → (∀ a ∈ f, B a = none ∧ F a = none) → RR B F H v (.ow o)
/-- own cells of slots that hold own objects, and no others -/
def normF (Γ : Ev) (fp : Nat → List Addr) : Nat → List Addr := fun i => match Γ[i]? with
  | some (.ow _) => fp i
  | _ => []
theorem normF_ow {Γ : Ev} {fp : Nat → List Addr} {i : Nat} {o : O} (e : Γ[i]? = some (.ow o)) : normF Γ fp i = fp i := by
  unfold normF
  rw [e]
theorem normF_mem {Γ : Ev} {fp : Nat → List Addr} {i : Nat} {a : Addr} (h : a ∈ normF Γ fp i) : a ∈ fp i ∧ ∃ o, Γ[i]? = some (.ow o) := by
  unfold normF at h
  split at h
  · rename_i o e
    exact ⟨h, o, e⟩
  · exact (List.not_mem_nil h).elim
theorem Rel.norm {B F : Hp} {Γ : Ev} {σ : L2.St} {H : Hp} {fp : Nat → List Addr} (r : Rel B F Γ σ H fp) : Rel B F Γ σ H (normF Γ fp) :=
  ⟨r.bx, r.fx, r.len, r.sh, fun i o e => by rw [normF_ow e]; exact r.ow i o e, fun i a ha => r.nb i a (normF_mem ha).1, fun i j a h1 h2 => r.dj i j a (normF_mem h1).1 (normF_mem h2).1, r.ex⟩
theorem Rel.no_tup {B F : Hp} {Γ : Ev} {σ : L2.St} {H : Hp} {fp : Nat → List Addr} (r : Rel B F Γ σ H fp) {i : Nat} {a : Addr} (h : a ∈ normF Γ fp i) : ∀ xs, H a ≠ some (.tup xs) := by
  obtain ⟨h1, o, e⟩ := normF_mem h
  obtain ⟨v, _, g⟩ := r.ow i o e
  exact g.no_tup a h1
def spD (n : Nat) (p : PD) : Sp := fun vs H Q _ => ∃ (F : Hp) (ds : List D) (R : Wv → Prop), Same F H ∧ RpA F vs ds ∧ ds.length = n ∧ p ds R ∧ ∀ w v F' H', Ext H F F' → Same H H' → Same F' H' → RR H F' H' v w → R w → Q v H'
def qCall (n : Nat) (p : PD) (a : QA) : QE := fun Γ R E => a Γ (fun ds Γ1 => ds.length = n ∧ p ds fun w => R w Γ1) E
theorem se_call {W : WX} {ta : TA} {pa : QA} {n : Nat} {p : PD} {E : XK} (ha : SA W ta pa) : SE W (tCall (spD n p) [] E ta) (qCall n p pa) := fun {B F Γ σ H fp} R EX Q r q k e => by
  refine ha _ _ _ r q (fun ds Γ1 vs F1 H1 fp1 x1 r1 b1 h1 => ?_) e
  rw [List.append_nil]
  refine ⟨F1, ds, _, r1.fx, b1, h1.1, h1.2, fun w v F2 H2 x2 s2 f2 rr hw => ?_⟩
  have nf : ∀ i a, a ∈ normF Γ1 fp1 i → F2 a = none := fun i a hi => by
    obtain ⟨_, e, h⟩ := r1.nb i a (normF_mem hi).1
    cases z : F2 a with
    | none => rfl
    | some u =>
      rcases x2.new a (by rw [z]; exact fun z => nomatch z) e with q | ⟨xs, q⟩
      · exact absurd q h
      · cases q2 : H1 a with
        | none => exact absurd q2 h
        | some u2 =>
          have e1 := s2 a u2 q2
          rw [f2 a _ q] at e1
          cases e1
          exact absurd q2 (r1.no_tup hi xs)
  have r1 := r1.norm
  have r2 : Rel B F2 Γ1 σ H2 (normF Γ1 fp1) := ⟨r1.bx.trans s2, f2, r1.len, fun i d e => by
    obtain ⟨v, g1, g2⟩ := r1.sh i d e
    exact ⟨v, g1, g2.mono x2.same⟩, fun i o e => by
    obtain ⟨v, g1, g2⟩ := r1.ow i o e
    refine ⟨v, g1, g2.mono x2.same fun a ha => ?_⟩
    cases z : H1 a with
    | none => exact absurd z (r1.nb i a ha).2.2
    | some u => exact s2 a u z, fun i a ha => by
    obtain ⟨b, c, d⟩ := r1.nb i a ha
    refine ⟨b, nf i a ha, fun z => d (s2.free z)⟩, r1.dj, r1.ex⟩
  have xx : Ext B F1 F2 := ⟨x2.same, fun a h e => (x2.new a h e).imp (fun z => r1.bx.free z) id⟩
  refine k w Γ1 v F2 H2 _ (x1.trans xx) r2 ?_ hw
  cases rr with
  | sh h => exact .sh h
  | @ow o f h hf =>
    refine .ow h fun a ha => ⟨r1.bx.free (hf a ha).1, (hf a ha).2, fun i hi => ?_⟩
    exact (r1.nb i a hi).2.2 (hf a ha).1
/-- a def that may be called by its name -/
structure Cal (P : Program) (w : World) (K : PySem.W.Frag) (mg : Str → Option Value) (base : Heap) (k : Nat) (x : Str) (sp : Sp) : Prop where
  ex : ∃ (f : Addr) (fd : FuncData) (ps : List Str), FnOk P w K mg base CX0 k f fd ps sp ∧ mg x = some (.ref f) ∧ PySem.W.keepIn K (.ref f) = true ∧ Binds K fd ps []
section
variable {X : Cx} {W : WX} {pos p : Pos} {e : Expr} {es : List Expr} {ta : TA} {pa : QA} {n : Nat} {q : PD} {x : Str} {j k : Nat}
theorem d_call (c : Cal X.prog X.w X.K X.mg X.base k x (spD n q)) (hr : Room j X.A) (ha : DA X W (e :: es) ta pa) (hk : k ≤ j := by decide) (hg : Gl X x := by rfl) (hdb : (x == ("__debug__" : Str)) = false := by decide)
    (he : starEach (e :: es) X.env = (false, eval e X.env) :: starEach es X.env := by rfl) (hpl : (backTo pos (starEach es X.env)).any (·.1) = false := by rfl) :
    DE X W (.Call (.Name x p) (e :: es) [] pos) (tCall (spD n q) [] E0 ta) (qCall n q pa) := ⟨by
  obtain ⟨f, fd, ps, F, hm, kp, b⟩ := c.ex
  exact pe_call F (hr.mono hk) hg hm kp b .nil pass0 ha.pa hdb he hpl, se_call ha.sa⟩
theorem d_call0 (c : Cal X.prog X.w X.K X.mg X.base k x (spD n q)) (hr : Room j X.A) (hk : k ≤ j := by decide) (hg : Gl X x := by rfl) (hdb : (x == ("__debug__" : Str)) = false := by decide) :
    DE X W (.Call (.Name x p) [] [] pos) (tCall (spD n q) [] E0 tNil) (qCall n q qNil) := ⟨by
  obtain ⟨f, fd, ps, F, hm, kp, b⟩ := c.ex
  exact pe_call0 F (hr.mono hk) hg hm kp b .nil pass0 hdb, se_call (fun {B F Γ σ H fp} R EX Q r h k _ => k [] Γ [] F H fp .refl r .nil h)⟩
end
/-- the ends of a def -/
def retW (R : Wv → Prop) : Wv → Ev → Prop := fun w Γ => match w with
  | .sh d => R (.sh d)
  | .ow o => R (.ow o)
  | .at i => match Γ[i]? with
    | some (.sh d) => R (.sh d)
    | some (.ow o) => R (.ow o)
    | _ => False
def endsOf (R : Wv → Prop) : PEnds := ⟨fun _ => R (.sh .none), retW R, fun _ => False, fun _ => False, fun _ _ => False⟩
def startEv (n : Nat) (ds : List D) : Ev := ds.map .sh ++ List.replicate (n - ds.length) .un
theorem rel_start {F H : Hp} {N : List Str} {vs : List V} {ds : List D} (f : Same F H) (b : RpA F vs ds) (hl : ds.length ≤ N.length) : Rel H F (startEv N.length ds) (L2.start N vs) H (fun _ => []) := by
  have e := b.length
  refine ⟨Same.refl H, f, by simp [startEv, L2.start, e], fun i d q => ?_, fun i o q => ?_, fun i a h => by simp at h, fun i j a h => by simp at h, fun i a q => ?_⟩
  · unfold startEv at q
    rw [List.getElem?_append] at q
    split at q
    · rename_i hi
      rw [List.getElem?_map] at q
      cases z : ds[i]? with
      | none =>
        rw [z] at q
        cases q
      | some d' =>
        rw [z] at q
        cases q
        obtain ⟨v, g1, g2⟩ := b.get z
        refine ⟨v, ?_, g2⟩
        unfold L2.start
        rw [List.getElem?_append_left (by simpa [e] using hi), List.getElem?_map, g1]
        rfl
    · rw [List.getElem?_replicate] at q
      split at q <;> cases q
  · unfold startEv at q
    rw [List.getElem?_append] at q
    split at q
    · rw [List.getElem?_map] at q
      cases z : ds[i]? with
      | none =>
        rw [z] at q
        cases q
      | some d' =>
        rw [z] at q
        cases q
    · rw [List.getElem?_replicate] at q
      split at q <;> cases q
  · unfold startEv at q
    rw [List.getElem?_append] at q
    split at q
    · rw [List.getElem?_map] at q
      cases z : ds[i]? with
      | none =>
        rw [z] at q
        cases q
      | some d' =>
        rw [z] at q
        cases q
    · rw [List.getElem?_replicate] at q
      split at q <;> cases q
section
variable {P : Program} {w : World} {K : PySem.W.Frag} {mg : Str → Option Value} {base : Heap}
/-- the binding of n positional arguments -/
theorem cal_mk {x : Str} {st : Stmt} {f : Addr} {fd : FuncData} {N ps : List Str} {k : Nat} {q : PD} (F : L2.Fun K x x st f fd) (hm : mg x = some (.ref f)) (b : Binds K fd ps []) (S : L2.FnScope N ps (L2.defScope st))
    (hbody : ∀ (cdv : Value) (A : Around) (outer : List Env) (s : Shared) (H : Hp) (E : XK), Room k (A.deeper (envOfC x (L2.defScope st) s.heap.objs.size f cdv)) →
      ∃ t p', DSs (cxOf CX0 P w K mg base N x (L2.defScope st) f cdv A outer s H E).nox W0 (L2.defBody st) t p' ∧ ∀ ds R, ds.length = ps.length → q ds R → p' (endsOf R) (startEv N.length ds)) :
    Cal P w K mg base (k + 1) x (spD ps.length q) := by
  have hN : ps.length ≤ N.length := by
    have := congrArg List.length S.pre
    rw [List.length_take] at this
    omega
  refine ⟨f, fd, ps, L2.Fun.ok F S (fun vs H Q E h => ?_) fun cdv A outer s H vs Q E hr h => ?_, hm, F.kp, b⟩
  · obtain ⟨F, ds, R, _, b, hl, _⟩ := h
    rw [b.length, hl]
  · obtain ⟨t, p', hd, hq⟩ := hbody cdv A outer s H E hr
    obtain ⟨F0, ds, R, f0, b, hl, h1, h2⟩ := h
    refine ⟨t, hd.ps, hd.ss (endsOf R) _ (rel_start f0 b (by omega)) (hq ds R hl h1) ⟨fun Γ' F' σ' H' fp' x r z => ?_, fun w Γ' v F' σ' H' fp' x r rw z => ?_, fun _ _ _ _ _ _ _ z => z.elim, fun _ _ _ _ _ _ _ z => z.elim, fun _ _ _ _ _ _ _ _ z => z.elim⟩⟩
    · exact h2 _ _ F' H' x r.bx r.fx (.sh .non) z
    · cases rw with
      | sh h => exact h2 _ _ F' H' x r.bx r.fx (.sh h) z
      | ow h hf => exact h2 _ _ F' H' x r.bx r.fx (.ow h fun a ha => ⟨(hf a ha).1, (hf a ha).2.1⟩) z
      | @«at» i h =>
        unfold endsOf retW at z
        simp only at z
        split at z
        · rename_i d e
          obtain ⟨u, g1, g2⟩ := r.sh i d e
          rw [h] at g1
          cases g1
          exact h2 _ _ F' H' x r.bx r.fx (.sh g2) z
        · rename_i o e
          obtain ⟨u, g1, g2⟩ := r.ow i o e
          rw [h] at g1
          cases g1
          exact h2 _ _ F' H' x r.bx r.fx (.ow g2 fun a ha => ⟨(r.nb i a ha).1, (r.nb i a ha).2.1⟩) z
        · exact z.elim
end

/-! ### operators -/
section
variable {X : Cx}
theorem OpS.or {r r' : R2} {o : OP2} (h : OpS r o) : OpS (fun x y H Q => r x y H Q ∨ r' x y H Q) o := fun {B F Γ σ H fp x y d1 d2} k Q rr b1 b2 z c => .inl (h k Q rr b1 b2 z c)
/-- a scalar result -/
theorem op_sc {B F : Hp} {Γ : Ev} {σ : L2.St} {H : Hp} {fp : Nat → List Addr} {k : Wv → Prop} {Q : VK} {v : V} {d : D} (r : Rel B F Γ σ H fp) (h : Rp F v d) (c : ∀ w v F' H', Ext B F F' → Rel B F' Γ σ H' fp → RW B F' Γ σ H' fp v w → k w → Q v H') (z : k (.sh d)) : Q v H :=
  c _ v F H .refl r (.sh h) z

def rAdd : R2 := fun x y H Q => rI0 (fun i j => .int (i + j)) x y H Q ∨ (∃ i j, x = .str i ∧ y = .str j ∧ i.length + j.length ≤ sizeLine ∧ Q (.str (i ++ j)) H) ∨ rCat x y H Q
def rAddT (K : PySem.W.Frag) : R2 := fun x y H Q => rAdd x y H Q ∨ rCatA K x y H Q
theorem or_add : OpR X (binaryOp .Add) (rAddT X.K) := OpR.or (OpR.or op_add (OpR.or op_add_str op_cat)) op_catA
def opAdd : OP2 := fun d1 d2 k => match d1, d2 with
  | .int i, .int j => k (.sh (.int (i + j)))
  | .str a, .str b => a.length + b.length ≤ sizeLine ∧ k (.sh (.str (a ++ b)))
  | .list xs, .list ys => xs.length + ys.length ≤ sizeLine ∧ k (.ow (.l (xs ++ ys)))
  | .tuple xs, .tuple ys => xs.length + ys.length ≤ sizeLine ∧ k (.sh (.tuple (xs ++ ys)))
  | _, _ => False
theorem strOk_app {a b : Str} (h : PyData.strOk a = true) (h' : PyData.strOk b = true) : PyData.strOk (a ++ b) = true := by
  show (a.cps ++ b.cps).all (· < 0x110000) = true
  rw [Array.all_append]
  exact Bool.and_eq_true_iff.mpr ⟨h, h'⟩
theorem os_add {K : PySem.W.Frag} : OpS (rAddT K) opAdd := fun {B F Γ σ H fp x y d1 d2} k Q r b1 b2 z c => by
  cases b1 with
  | int i =>
    cases b2 with
    | int j => exact .inl (.inl ⟨i, j, rfl, rfl, op_sc r (.int _) c z⟩)
    | _ => exact z.elim
  | str a ha =>
    cases b2 with
    | str b hb => exact .inl (.inr (.inl ⟨a, b, rfl, rfl, z.1, op_sc r (.str _ (strOk_app ha hb)) c z.2⟩))
    | _ => exact z.elim
  | @lst a xs ds e t =>
    cases b2 with
    | @lst b ys es e' t' =>
      refine .inl (.inr (.inr ⟨a, b, xs, ys, rfl, rfl, e, e', by rw [t.length, t'.length]; exact z.1, fun p hp => ?_⟩))
      obtain ⟨r', v'⟩ := new_lst r (t.append t') hp
      exact c _ _ F _ .refl r' v' z.2
    | _ => exact z.elim
  | @tup a xs ds e e0 t =>
    cases b2 with
    | @tup b ys es e' e0' t' =>
      refine .inr ⟨a, b, xs, ys, rfl, rfl, .inl (.inl e0), .inl (.inl e0'), by rw [t.length, t'.length]; exact z.1, fun h => ?_, fun h h' => ?_, fun h h' p hp => ?_⟩
      · subst h
        cases t
        exact c _ _ F H .refl r (.sh (.tup e' t')) z.2
      · subst h'
        cases t'
        have z2 := z.2
        rw [List.append_nil] at z2
        exact c _ _ F H .refl r (.sh (.tup e t)) z2
      · obtain ⟨x', r', v'⟩ := new_tup r (t.append t') hp
        exact c _ _ _ _ x' r' v' z.2
    | _ => exact z.elim
  | _ => cases b2 <;> exact z.elim
theorem d_add {W : WX} {pos : Pos} {a b : Expr} {ta tb : TE} {pa pb : QE} (ha : DE X W a ta pa) (hb : DE X W b tb pb) : DE X W (.BinOp a .Add b pos) (tOp (rAddT X.K) ta tb) (qOp opAdd pa pb) := d_op or_add os_add ha hb

/-- two ints -/
def opI2 (C : Int → Int → Prop) (f : Int → Int → D) : OP2 := fun d1 d2 k => match d1, d2 with
  | .int i, .int j => C i j ∧ k (.sh (f i j))
  | _, _ => False
theorem os_I {C : Int → Int → Prop} {g : Int → Int → V} {f : Int → Int → D} (h : ∀ F i j, Rp F (g i j) (f i j)) : OpS (rI C g) (opI2 C f) := fun {B F Γ σ H fp x y d1 d2} k Q r b1 b2 z c => by
  cases b1 with
  | int i =>
    cases b2 with
    | int j => exact ⟨i, j, rfl, rfl, z.1, op_sc r (h F i j) c z.2⟩
    | _ => exact z.elim
  | _ => cases b2 <;> exact z.elim
def opI20 (f : Int → Int → D) : OP2 := fun d1 d2 k => match d1, d2 with
  | .int i, .int j => k (.sh (f i j))
  | _, _ => False
theorem os_I0 {g : Int → Int → V} {f : Int → Int → D} (h : ∀ F i j, Rp F (g i j) (f i j)) : OpS (rI0 g) (opI20 f) := fun {B F Γ σ H fp x y d1 d2} k Q r b1 b2 z c => by
  cases b1 with
  | int i =>
    cases b2 with
    | int j => exact ⟨i, j, rfl, rfl, op_sc r (h F i j) c z⟩
    | _ => exact z.elim
  | _ => cases b2 <;> exact z.elim
variable {W : WX} {pos : Pos} {a b : Expr} {ta tb : TE} {pa pb : QE}
abbrev opSub : OP2 := opI20 fun i j => .int (i - j)
theorem d_sub (ha : DE X W a ta pa) (hb : DE X W b tb pb) : DE X W (.BinOp a .Sub b pos) (tOp (rI0 fun i j => .int (i - j)) ta tb) (qOp opSub pa pb) := d_op op_sub (os_I0 fun _ _ _ => .int _) ha hb
abbrev opMod : OP2 := opI2 (fun _ j => 0 < j) fun i j => .int (i % j)
theorem d_mod (ha : DE X W a ta pa) (hb : DE X W b tb pb) : DE X W (.BinOp a .Mod b pos) (tOp (rI (fun _ j => 0 < j) fun i j => .int (i % j)) ta tb) (qOp opMod pa pb) := d_op op_mod (os_I fun _ _ _ => .int _) ha hb
abbrev opFdiv : OP2 := opI2 CDiv fun i j => .int (i / j)
theorem d_fdiv (ha : DE X W a ta pa) (hb : DE X W b tb pb) : DE X W (.BinOp a .FloorDiv b pos) (tOp (rI CDiv fun i j => .int (i / j)) ta tb) (qOp opFdiv pa pb) := d_op op_fdiv (os_I fun _ _ _ => .int _) ha hb
abbrev opPow : OP2 := opI2 CPow fun i j => .int (i ^ j.toNat)
theorem d_pow (ha : DE X W a ta pa) (hb : DE X W b tb pb) : DE X W (.BinOp a .Pow b pos) (tOp (rI CPow fun i j => .int (i ^ j.toNat)) ta tb) (qOp opPow pa pb) := d_op op_pow (os_I fun _ _ _ => .int _) ha hb
/-- -x -/
def opNeg : OP1 := fun d k => match d with
  | .int i => k (.sh (.int (-i)))
  | _ => False
theorem us_neg : UnS (rU fun i => .int (-i)) opNeg := fun {B F Γ σ H fp x d} k Q r b z c => by
  cases b with
  | int i => exact ⟨i, rfl, op_sc r (.int _) c z⟩
  | _ => exact z.elim
theorem d_neg (ha : DE X W a ta pa) : DE X W (.UnaryOp .USub a pos) (tUn (rU fun i => .int (-i)) ta) (qUn opNeg pa) := d_un un_neg us_neg ha

/-! ### int * int, text * int, list * int -/
def rMulStr : R2 := fun x y H Q => ∃ a n, x = .str a ∧ y = .int n ∧ MulOk a n ∧ Q (.str (Txt.mul a n)) H
theorem op_mulStr : OpR X (binaryOp .Mult) rMulStr := by
  intro pins s σ H x y v u Q I rx ry h
  obtain ⟨a, n, rfl, rfl, ok, q⟩ := h
  obtain ⟨t, rfl⟩ := rx
  obtain ⟨t', rfl⟩ := ry
  exact SB.mul ok fun t2 k => ⟨.str _, H, I.tok _, ⟨_, rfl⟩, q⟩
def rMul : R2 := fun x y H Q => (rI CMul (fun i j => .int (i * j)) x y H Q ∨ rMulStr x y H Q) ∨ rRep x y H Q
theorem or_mul : OpR X (binaryOp .Mult) rMul := OpR.or (OpR.or op_mul op_mulStr) op_rep
def opMul : OP2 := fun d1 d2 k => match d1, d2 with
  | .int i, .int j => CMul i j ∧ k (.sh (.int (i * j)))
  | .str a, .int n => n < 2 ^ 20 ∧ -(2 ^ 20) < n ∧ a.length * n.toNat ≤ 2 ^ 20 ∧ k (.sh (.str (Txt.mul a n)))
  | .list xs, .int n => n < 2 ^ 20 ∧ -(2 ^ 20) < n ∧ xs.length * n.toNat ≤ 2 ^ 20 ∧ k (.ow (.l (List.replicate n.toNat xs).flatten))
  | _, _ => False
theorem mulOk_of {a : Str} {n : Int} (h1 : n < 2 ^ 20) (h2 : -(2 ^ 20) < n) (h3 : a.length * n.toNat ≤ 2 ^ 20) : MulOk a n := by
  refine ⟨?_, fun h _ => ?_, fun h _ => ?_⟩
  · rw [decide_eq_false (by omega), decide_eq_false (by omega)]
    rfl
  · intro z
    have hn : 1 ≤ n := by omega
    have e : (a.length : Int) ≤ 2 ^ 20 := by
      have : a.length * 1 ≤ a.length * n.toNat := Nat.mul_le_mul_left _ (by omega)
      omega
    have e2 : (2 ^ 63 - 1) / n ≥ (2 ^ 63 - 1) / 2 ^ 20 := by
      apply Int.le_ediv_of_mul_le (by omega)
      have : ((2 ^ 63 - 1) / 2 ^ 20 : Int) * n ≤ ((2 ^ 63 - 1) / 2 ^ 20) * 2 ^ 20 := Int.mul_le_mul_of_nonneg_left (by omega) (by decide)
      omega
    omega
  · unfold Builtin.Str.tooLong
    exact decide_eq_false (by
      have : (sizeLine : Nat) = 16777216 := by decide
      omega)
theorem strOk_mul {a : Str} (h : PyData.strOk a = true) (n : Int) : PyData.strOk (Txt.mul a n) = true := by
  unfold Txt.mul
  split
  · decide +kernel
  · split
    · exact h
    · have f : ∀ (m : Nat) (x : Array Nat), x.all (· < 0x110000) = true → ((List.replicate m a.cps).foldl (· ++ ·) x).all (· < 0x110000) = true := by
        intro m
        induction m with
        | zero => intro x hx; exact hx
        | succ m ih =>
          intro x hx
          rw [List.replicate_succ, List.foldl_cons]
          exact ih _ (by rw [Array.all_append]; exact Bool.and_eq_true_iff.mpr ⟨hx, h⟩)
      exact f _ _ (by decide +kernel)
theorem os_mul : OpS rMul opMul := fun {B F Γ σ H fp x y d1 d2} k Q r b1 b2 z c => by
  cases b1 with
  | int i =>
    cases b2 with
    | int j => exact .inl (.inl ⟨i, j, rfl, rfl, z.1, op_sc r (.int _) c z.2⟩)
    | _ => exact z.elim
  | str a ha =>
    cases b2 with
    | int n => exact .inl (.inr ⟨a, n, rfl, rfl, mulOk_of z.1 z.2.1 z.2.2.1, op_sc r (.str _ (strOk_mul ha n)) c z.2.2.2⟩)
    | _ => exact z.elim
  | @lst a xs ds e t =>
    cases b2 with
    | int n =>
      obtain ⟨z1, z2, z3, z4⟩ := z
      refine .inr ⟨a, n, xs, rfl, rfl, e, by omega, by omega, by rw [t.length]; exact Nat.le_trans z3 (by decide), fun p hp => ?_⟩
      obtain ⟨r', v'⟩ := new_lst r (t.rep n.toNat) hp
      exact c _ _ F _ .refl r' v' z4
    | _ => exact z.elim
  | _ => cases b2 <;> exact z.elim
theorem d_mul (ha : DE X W a ta pa) (hb : DE X W b tb pb) : DE X W (.BinOp a .Mult b pos) (tOp rMul ta tb) (qOp opMul pa pb) := d_op or_mul os_mul ha hb

/-! ### comparisons -/
def opEq : OP2 := fun d1 d2 k => (flat 60 d1 && flat 60 d2) = true ∧ k (.sh (.bool (PyData.eqv d1 d2)))
def opNe : OP2 := fun d1 d2 k => (flat 60 d1 && flat 60 d2) = true ∧ k (.sh (.bool (!PyData.eqv d1 d2)))
theorem os_eq {K : PySem.W.Frag} : OpS (rEqD K) opEq := fun {B F Γ σ H fp x y d1 d2} k Q r b1 b2 z c => by
  obtain ⟨f1, f2⟩ := Bool.and_eq_true_iff.mp z.1
  have q1 := b1.rp r.fx
  have q2 := b2.rp r.fx
  exact ⟨d1, d2, q1.dpf f1, q2.dpf f2, q1.shaped f1, q2.shaped f2, op_sc r (.bl _) c z.2⟩
theorem os_ne {K : PySem.W.Frag} : OpS (rNeD K) opNe := fun {B F Γ σ H fp x y d1 d2} k Q r b1 b2 z c => by
  obtain ⟨f1, f2⟩ := Bool.and_eq_true_iff.mp z.1
  have q1 := b1.rp r.fx
  have q2 := b2.rp r.fx
  exact ⟨d1, d2, q1.dpf f1, q2.dpf f2, q1.shaped f1, q2.shaped f2, op_sc r (.bl _) c z.2⟩
theorem or_eq {j : Nat} (hr : Room j X.A) : OpR X (compareOp .Eq) (rEqD X.K) := op_eqD hr.units
theorem or_ne {j : Nat} (hr : Room j X.A) : OpR X (compareOp .NotEq) (rNeD X.K) := op_neD hr.units
/-- orders of ints and of texts -/
def opOrd (f : Int → Int → Bool) (g : Str → Str → Bool) : OP2 := fun d1 d2 k => match d1, d2 with
  | .int i, .int j => k (.sh (.bool (f i j)))
  | .str a, .str b => k (.sh (.bool (g a b)))
  | _, _ => False
def rOrd (f : Int → Int → Bool) (g : Str → Str → Bool) : R2 := fun x y H Q => rI0 (fun i j => .bl (f i j)) x y H Q ∨ ∃ i j, x = .str i ∧ y = .str j ∧ Q (.bl (g i j)) H
theorem os_ord {f : Int → Int → Bool} {g : Str → Str → Bool} : OpS (rOrd f g) (opOrd f g) := fun {B F Γ σ H fp x y d1 d2} k Q r b1 b2 z c => by
  cases b1 with
  | int i =>
    cases b2 with
    | int j => exact .inl ⟨i, j, rfl, rfl, op_sc r (.bl _) c z⟩
    | _ => exact z.elim
  | str a ha =>
    cases b2 with
    | str b hb => exact .inr ⟨a, b, rfl, rfl, op_sc r (.bl _) c z⟩
    | _ => exact z.elim
  | _ => cases b2 <;> exact z.elim
def sLt (a b : Str) : Bool := decide (a.cps.toList < b.cps.toList)
abbrev opLt : OP2 := opOrd (fun i j => decide (i < j)) sLt
abbrev opLe : OP2 := opOrd (fun i j => decide (i ≤ j)) fun a b => !sLt b a
abbrev opGt : OP2 := opOrd (fun i j => decide (j < i)) fun a b => sLt b a
abbrev opGe : OP2 := opOrd (fun i j => decide (j ≤ i)) fun a b => !sLt a b
theorem or_lt : OpR X (compareOp .Lt) (rOrd (fun i j => decide (i < j)) sLt) := OpR.or op_lt op_lt_str
theorem or_le : OpR X (compareOp .LtE) (rOrd (fun i j => decide (i ≤ j)) fun a b => !sLt b a) := OpR.or op_le op_le_str
theorem or_gt : OpR X (compareOp .Gt) (rOrd (fun i j => decide (j < i)) fun a b => sLt b a) := OpR.or op_gt op_gt_str
theorem or_ge : OpR X (compareOp .GtE) (rOrd (fun i j => decide (j ≤ i)) fun a b => !sLt a b) := OpR.or op_ge op_ge_str
/-- is None, is not None -/
def isNone : D → Bool
  | .none => true
  | _ => false
def opIs : OP2 := fun d1 d2 k => match d2 with
  | .none => k (.sh (.bool (isNone d1)))
  | _ => False
def opIsNot : OP2 := fun d1 d2 k => match d2 with
  | .none => k (.sh (.bool (!isNone d1)))
  | _ => False
theorem Rb.isNone {F H : Hp} {v : V} {d : D} (h : Rb F H v d) : decide (v = .non) = PL.isNone d := by cases h <;> first | rfl | simp [PL.isNone]
abbrev rIs : R2 := fun x y H Q => y = .non ∧ Q (.bl (decide (x = .non))) H
abbrev rIsNot : R2 := fun x y H Q => y = .non ∧ Q (.bl (!decide (x = .non))) H
theorem os_is : OpS rIs opIs := fun {B F Γ σ H fp x y d1 d2} k Q r b1 b2 z c => by
  cases b2 with
  | non => exact ⟨rfl, op_sc r (by rw [b1.isNone]; exact .bl _) c z⟩
  | _ => exact z.elim
theorem os_isNot : OpS rIsNot opIsNot := fun {B F Γ σ H fp x y d1 d2} k Q r b1 b2 z c => by
  cases b2 with
  | non => exact ⟨rfl, op_sc r (by rw [b1.isNone]; exact .bl _) c z⟩
  | _ => exact z.elim
end
end PL

namespace PL
open PySem PySem.Spec PyProof.Rows L2

section
variable {X : Cx} {W : WX} {pos p : Pos} {a b e : Expr} {ta tb te : TE} {pa pb pe : QE}

/-! ### in, not in: a list, a text -/
def inD (d : D) (ds : List D) : Bool := ds.any fun z => PyData.eqv z d
def opInW (f : Bool → Bool) : OP2 := fun d1 d2 k => match d2 with
  | .list ds => (flat 60 d1 && flat 60 (.list ds)) = true ∧ k (.sh (.bool (f (inD d1 ds))))
  | .str y => (match d1 with
    | .str x => (match x.cps.toList with
      | [c] => k (.sh (.bool (f (decide (c ∈ y.cps.toList)))))
      | _ => False)
    | _ => False)
  | _ => False
def rInSg (f : Bool → Bool) : R2 := fun x y H Q => ∃ (c : Nat) (z : Str), x = .str ⟨#[c]⟩ ∧ y = .str z ∧ Q (.bl (f (decide (c ∈ z.cps.toList)))) H
def rInDg (K : PySem.W.Frag) (f : Bool → Bool) : R2 := fun x y H Q => ∃ d ds, Dp K H x d ∧ Dp K H y (.list ds) ∧ SeqAt.shaped d = true ∧ SeqAt.shaped (.list ds) = true ∧ Q (.bl (f (ds.any fun z => PyData.eqv z d))) H
def rInW (K : PySem.W.Frag) (f : Bool → Bool) : R2 := fun x y H Q => rInDg K f x y H Q ∨ rInSg f x y H Q
theorem os_in {K : PySem.W.Frag} {f : Bool → Bool} : OpS (rInW K f) (opInW f) := fun {B F Γ σ H fp x y d1 d2} k Q r b1 b2 z c => by
  cases b2 with
  | @lst a xs ds e t =>
    obtain ⟨f1, f2⟩ := Bool.and_eq_true_iff.mp z.1
    have q1 := b1.rp r.fx
    have q2 := (Rb.lst e t).rp r.fx
    exact .inl ⟨d1, ds, q1.dpf f1, q2.dpf f2, q1.shaped f1, q2.shaped f2, op_sc r (.bl _) c z.2⟩
  | str y hy =>
    cases b1 with
    | str x hx =>
      unfold opInW at z
      simp only at z
      split at z
      · rename_i ch hc
        refine .inr ⟨ch, y, ?_, rfl, op_sc r (.bl _) c z⟩
        obtain ⟨⟨l⟩⟩ := x
        simp only at hc
        rw [hc]
      · exact z.elim
    | _ => exact z.elim
  | _ => exact z.elim
theorem or_in {j : Nat} (hr : Room j X.A) : OpR X (compareOp .In) (rInW X.K id) := OpR.or (fun pins s σ H x y v u Q I rx ry h => op_inD (by have := hr.un; omega) pins s σ H x y v u Q I rx ry h) (fun pins s σ H x y v u Q I rx ry h => op_in_sign pins s σ H x y v u Q I rx ry h)
theorem or_notIn {j : Nat} (hr : Room j X.A) : OpR X (compareOp .NotIn) (rInW X.K not) := OpR.or (fun pins s σ H x y v u Q I rx ry h => op_notInD (by have := hr.un; omega) pins s σ H x y v u Q I rx ry h) (fun pins s σ H x y v u Q I rx ry h => op_notIn_sign pins s σ H x y v u Q I rx ry h)

/-! ### subscripts -/
/-- the script's items -/
def scrOf : D → Option (List D)
  | .dict [(.none, .list ds)] => some ds
  | _ => none
theorem Rb.scr {F H : Hp} {v : V} {d : D} {ds : List D} (h : Rb F H v d) (e : scrOf d = some ds) : ∃ a o xs, v = .ref a ∧ H a = some (.frz o (.lst xs)) ∧ RpA F xs ds := by
  cases h with
  | @fz a o xs ds' e' t =>
    cases e
    exact ⟨a, o, xs, rfl, e', t⟩
  | dk e' t =>
    cases t with
    | nil => cases e
    | @cons k _ _ d _ _ r =>
      cases r with
      | nil => cases k <;> cases d <;> cases e
      | cons => cases k <;> cases d <;> cases e
  | dt e' t =>
    cases t with
    | nil => cases e
    | @cons k _ _ d _ _ r =>
      cases r with
      | nil => cases d <;> cases e
      | cons => cases d <;> cases e
  | _ => cases e
/-- an item by its place, from the end too -/
def ixD {α : Type} (ds : List α) : Int → Option α
  | .ofNat n => ds[n]?
  | .negSucc n => if n < ds.length then ds[ds.length - 1 - n]? else none
theorem ixD_eq {α : Type} (ds : List α) (i : Int) : L2.atI ds i = ixD ds i := by
  unfold L2.atI ixN
  cases i with
  | ofNat n =>
    show (if 0 ≤ (n : Int) then (if (n : Int) < ds.length then some ((n : Int)).toNat else none) else _).bind _ = ds[n]?
    rw [if_pos (by omega)]
    by_cases h : n < ds.length
    · rw [if_pos (by omega)]
      simp
    · rw [if_neg (by omega), List.getElem?_eq_none (by omega)]
      rfl
  | negSucc n =>
    rw [if_neg (by omega)]
    show _ = if n < ds.length then ds[ds.length - 1 - n]? else none
    by_cases h : n < ds.length
    · rw [if_pos (by omega), if_pos h]
      show ds[(Int.negSucc n + (ds.length : Int)).toNat]? = _
      congr 1
      omega
    · rw [if_neg (by omega), if_neg h]
      rfl
def opIx : OP2 := fun d1 d2 k => match d2 with
  | .int i => (match d1 with
    | .list ds => (match ixD ds i with
      | some d => k (.sh d)
      | none => False)
    | .tuple ds => (match ixD ds i with
      | some d => k (.sh d)
      | none => False)
    | .str x => x.length ≤ sizeLine ∧ (match ixD x.cps.toList i with
      | some c => k (.sh (signD c))
      | none => False)
    | d => (match scrOf d with
      | some ds => (match ixD ds i with
        | some d => k (.sh d)
        | none => False)
      | none => False))
  | _ => False
theorem RpA.atI {F : Hp} {vs : List V} {ds : List D} {i : Int} {d : D} (h : RpA F vs ds) (e : L2.atI ds i = some d) : ∃ v, L2.atI vs i = some v ∧ Rp F v d := by
  unfold L2.atI at e ⊢
  rw [h.length]
  cases z : ixN ds.length i with
  | none =>
    rw [z] at e
    cases e
  | some j =>
    rw [z] at e
    obtain ⟨v, h1, h2⟩ := h.get (show ds[j]? = some d from e)
    exact ⟨v, h1, h2⟩
theorem RpA.ixD {F : Hp} {vs : List V} {ds : List D} {i : Int} {d : D} (h : RpA F vs ds) (e : PL.ixD ds i = some d) : ∃ v, L2.atI vs i = some v ∧ Rp F v d := h.atI ((ixD_eq ds i).trans e)
theorem ix_scr {K : PySem.W.Frag} {B F : Hp} {Γ : Ev} {σ : L2.St} {H : Hp} {fp : Nat → List Addr} {x : V} {d1 : D} {i : Int} {k : Wv → Prop} {Q : VK} (r : Rel B F Γ σ H fp) (b1 : Rb F H x d1)
    (z : match scrOf d1 with | some ds => (match PL.ixD ds i with | some d => k (.sh d) | none => False) | none => False) (c : ∀ w v F' H', Ext B F F' → Rel B F' Γ σ H' fp → RW B F' Γ σ H' fp v w → k w → Q v H') : rIx K x (.int i) H Q := by
  split at z
  · rename_i ds hs
    obtain ⟨a, o, xs, rfl, e, t⟩ := b1.scr hs
    split at z
    · rename_i d hd
      obtain ⟨v, h1, h2⟩ := t.ixD hd
      exact .inl ⟨a, xs, i, v, rfl, rfl, .inl (.inr ⟨o, e⟩), h1, op_sc r h2 c z⟩
    · exact z.elim
  · exact z.elim
theorem os_ix {K : PySem.W.Frag} : OpS (rIx K) opIx := fun {B F Γ σ H fp x y d1 d2} k Q r b1 b2 z c => by
  cases b2 with
  | int i =>
    cases b1 with
    | @lst a xs ds e t =>
      unfold opIx at z
      simp only at z
      split at z
      · rename_i d hd
        obtain ⟨v, h1, h2⟩ := t.ixD hd
        exact .inl ⟨a, xs, i, v, rfl, rfl, .inl (.inl e), h1, op_sc r h2 c z⟩
      · exact z.elim
    | @tup a xs ds e0 e t =>
      unfold opIx at z
      simp only at z
      split at z
      · rename_i d hd
        obtain ⟨v, h1, h2⟩ := t.ixD hd
        exact .inr (.inl ⟨a, xs, i, v, rfl, rfl, .inl (.inl e), h1, op_sc r h2 c z⟩)
      · exact z.elim
    | str x hx =>
      unfold opIx at z
      simp only at z
      obtain ⟨z1, z⟩ := z
      split at z
      · rename_i ch hd
        refine .inr (.inr ⟨x, i, ch, rfl, rfl, z1, (ixD_eq _ _).trans hd, op_sc r (.str _ ?_) c z⟩)
        rw [← ixD_eq] at hd
        unfold L2.atI at hd
        cases y : ixN x.cps.toList.length i with
        | none =>
          rw [y] at hd
          cases hd
        | some j =>
          rw [y] at hd
          exact strOk_sign hx (i := j) (by rw [← Array.getElem?_toList]; exact hd)
      · exact z.elim
    | fz e t => exact ix_scr r (.fz e t) z c
    | dk e t => exact ix_scr r (.dk e t) z c
    | dt e t => exact ix_scr r (.dt e t) z c
    | _ => exact z.elim
  | _ => exact z.elim
theorem d_sub_ix (ha : DE X W a ta pa) (hb : DE X W b tb pb) (hx : PlainIx b := by exact fun _ _ => rfl) : DE X W (.Subscript a b pos) (tOp (rIx X.K) ta tb) (qOp opIx pa pb) := d_ix ix_seq os_ix ha hb hx

/-! ### slices -/
abbrev QO := Ev → (Option Int → Ev → Prop) → EXP → Prop
def SO (W : WX) (to : TO) (q : QO) : Prop := ∀ {B F : Hp} {Γ : Ev} {σ : L2.St} {H : Hp} {fp : Nat → List Addr} (R : Option Int → Ev → Prop) (EX : EXP) (Q : Option Int → Hp → Prop), Rel B F Γ σ H fp → q Γ R EX →
  (∀ o Γ' F' H' fp', Ext B F F' → Rel B F' Γ' σ H' fp' → R o Γ' → Q o H') → AfE W B F σ EX → to σ H Q
structure DO (X : Cx) (W : WX) (e : Option Expr) (to : TO) (q : QO) : Prop where
  po : PO X e to
  so : SO W to q
def qoN : QO := fun Γ R _ => R none Γ
def qoS (p : QE) : QO := fun Γ R E => p Γ (fun w Γ1 => match w with
  | .sh (.int i) => R (some i) Γ1
  | _ => False) E
theorem do_none : DO X W none tNoPart qoN := ⟨po_none, fun {B F Γ σ H fp} R EX Q r h k _ => k none Γ F H fp .refl r h⟩
theorem do_some (h : DE X W e te pe) : DO X W (some e) (tPart te) (qoS pe) := ⟨po_some h.pe, fun {B F Γ σ H fp} R EX Q r q k a => by
  refine h.se _ _ _ r q (fun w Γ1 v F1 H1 fp1 x1 r1 v1 h1 => ?_) a
  split at h1
  · rename_i i
    cases v1 with
    | sh z =>
      cases z
      exact ⟨i, rfl, k _ Γ1 F1 H1 fp1 x1 r1 h1⟩
  · exact h1.elim⟩
def cutD (xs : List D) (lo hi : Option Int) : List D := (xs.drop (HT.sIx xs.length 0 lo)).take (HT.sIx xs.length xs.length hi - HT.sIx xs.length 0 lo)
theorem RpA.cut {F : Hp} {vs : List V} {ds : List D} (h : RpA F vs ds) (lo hi : Option Int) : RpA F (cutV vs lo hi) (cutD ds lo hi) := by
  unfold cutV cutD
  rw [h.length]
  exact (h.drop _).take _
def opSl (d : D) (lo hi : Option Int) (k : Wv → Prop) : Prop := match d with
  | .list ds => k (.ow (.l (cutD ds lo hi)))
  | .tuple ds => k (.sh (.tuple (cutD ds lo hi)))
  | .str x => x.length ≤ sizeLine ∧ k (.sh (.str (cutS x lo hi)))
  | _ => False
def rSlW (K : PySem.W.Frag) : V → Option Int → Option Int → Hp → VK → Prop := fun x lo hi H Q => (rSlL K x lo hi H Q ∨ rSlA K x lo hi H Q) ∨ rSlS x lo hi H Q
theorem sl_w : SlR X (rSlW X.K) := SlR.or (SlR.or sl_list sl_tupA) sl_str
def qSl (p : QE) (l h : QO) : QE := fun Γ R E => p Γ (fun w Γ1 => l Γ1 (fun lo Γ2 => h Γ2 (fun hi Γ3 => bor w Γ3 fun d => opSl d lo hi fun w => R w Γ3) E) E) E
theorem strOk_of {x y : Str} (h : PyData.strOk x = true) (e : ∀ c ∈ y.cps.toList, c ∈ x.cps.toList) : PyData.strOk y = true := by
  have h' : x.cps.all (· < 0x110000) = true := h
  show y.cps.all (· < 0x110000) = true
  rw [Array.all_eq_true'] at h' ⊢
  intro c hc
  exact h' c (by simpa using e c (by simpa using hc))
theorem strOk_cut {x : Str} (h : PyData.strOk x = true) (lo hi : Option Int) : PyData.strOk (cutS x lo hi) = true := strOk_of h fun c hc => by
  unfold cutS at hc
  simp only at hc
  exact List.mem_of_mem_drop (List.mem_of_mem_take hc)
theorem cutV_full {vs : List V} {lo hi : Option Int} (h : HT.sIx vs.length 0 lo = 0 ∧ HT.sIx vs.length vs.length hi = vs.length) : cutV vs lo hi = vs := by
  unfold cutV
  rw [h.1, h.2]
  simp
theorem d_slice {lo hi : Option Expr} {tl th : TO} {ql qh : QO} {p2 : Pos} (he : DE X W e te pe) (hl : DO X W lo tl ql) (hh : DO X W hi th qh) : DE X W (.Subscript e (.Slice lo hi none p2) pos) (tSl (rSlW X.K) te tl th) (qSl pe ql qh) := ⟨pe_slice sl_w he.pe hl.po hh.po, fun {B F Γ σ H fp} R EX Q r q k a => by
  refine he.se _ EX _ r q (fun w Γ1 v F1 H1 fp1 x1 r1 v1 h1 => ?_) a
  obtain ⟨B', r1', g⟩ := r1.guard v1
  have cv : ∀ {F Γ H fp}, Ext B' F1 F → Rel B' F Γ σ H fp → AfE W B' F σ EX := fun {F2 Γ2 H2 fp2} x2 r2 c Γ' F' H' fp' x3 r3 q => by
    obtain ⟨x4, r4, _, _⟩ := g F' Γ' H' fp' (x2.trans x3) r3
    exact a c Γ' F' H' fp' (x1.trans x4) r4 q
  refine hl.so _ EX _ r1' h1 (fun l Γ2 F2 H2 fp2 x2 r2 h2 => ?_) (cv .refl r1')
  refine hh.so _ EX _ r2 h2 (fun u Γ3 F3 H3 fp3 x3 r3 h3 => ?_) (cv x2 r2)
  obtain ⟨x4, r4, v4, _⟩ := g F3 Γ3 H3 fp3 (x2.trans x3) r3
  obtain ⟨d, b, z⟩ := bor_rb r4 v4 h3
  cases b with
  | @lst a xs ds e t =>
    refine .inl (.inl ⟨a, xs, rfl, .inl (.inl e), fun p hp => ?_⟩)
    obtain ⟨r5, v5⟩ := new_lst r4 (t.cut l u) hp
    exact k _ Γ3 _ F3 _ fp3 (x1.trans x4) r5 v5 z
  | @tup a xs ds e0 e t =>
    refine .inl (.inr ⟨a, xs, rfl, .inl (.inl e), fun h => ?_, fun h p hp => ?_⟩)
    · have e1 : cutD ds l u = ds := by
        have := h
        rw [t.length] at this
        unfold cutD
        rw [this.1, this.2]
        simp
      have z' : R (.sh (.tuple (cutD ds l u))) Γ3 := z
      rw [e1] at z'
      exact k _ Γ3 _ F3 H3 fp3 (x1.trans x4) r4 (.sh (.tup e0 t)) z'
    · obtain ⟨x5, r5, v5⟩ := new_tup r4 (t.cut l u) hp
      exact k _ Γ3 _ _ _ fp3 ((x1.trans x4).trans x5) r5 v5 z
  | str x hx => exact .inr ⟨x, rfl, z.1, k _ Γ3 _ F3 H3 fp3 (x1.trans x4) r4 (.sh (.str _ (strOk_cut hx l u))) z.2⟩
  | _ => exact z.elim⟩
/-- xs[::-1] of a list -/
def opRevL : OP1 := fun d k => match d with
  | .list ds => k (.ow (.l ds.reverse))
  | _ => False
theorem d_revL {k : Nat} {p1 p2 p3 : Pos} (he : DE X W e te pe) : DE X W (.Subscript e (.Slice none none (some (.UnaryOp .USub (.Constant (.int 1) k p1) p2)) p3) pos) (tRevL X.K te) (qUn opRevL pe) := ⟨pe_revL he.pe, fun {B F Γ σ H fp} R EX Q r q c a => by
  refine he.se _ EX _ r q (fun w Γ1 v F1 H1 fp1 x1 r1 v1 h1 => ?_) a
  obtain ⟨d, b, z⟩ := bor_rb r1 v1 h1
  cases b with
  | @lst a xs ds e t =>
    refine ⟨a, xs, rfl, .inl (.inl e), fun p hp => ?_⟩
    obtain ⟨r5, v5⟩ := new_lst r1 t.reverse hp
    exact c _ Γ1 _ F1 _ fp1 x1 r5 v5 z
  | _ => exact z.elim⟩

/-! ### built-in functions of one argument that is looked at -/
theorem se_call1 {r : List V → Hp → VK → Prop} {o : OP1} (hs : UnS (fun x H Q => r [x] H Q) o) (ha : SE W ta pa) : SE W (tCB r (tCons ta tNil)) (qUn o pa) := fun {B F Γ σ H fp} R EX Q rr h k e => by
  refine ha _ _ _ rr h (fun w1 Γ1 x F1 H1 fp1 x1 r1 v1 h1 => ?_) e
  obtain ⟨d, b, z⟩ := bor_rb r1 v1 h1
  exact hs _ Q r1 b z fun w v F2 H2 x2 r2 q2 kk => k w Γ1 v F2 H2 fp1 (x1.trans x2) r2 q2 kk
theorem d_bi1 {id : String} {x : Str} {r : List V → Hp → VK → Prop} {o : OP1} (hc : CallR X (.builtin id) r) (hs : UnS (fun x H Q => r [x] H Q) o) (hm : X.mg x = none) (hv : bootBuiltins x = some (.builtin id)) (ha : DE X W a ta pa) (hg : Gl X x := by rfl)
    (hn : x ≠ "__name__" := by decide) (hdb : (x == ("__debug__" : Str)) = false := by decide) (he : starEach [a] X.env = (false, eval a X.env) :: starEach [] X.env := by rfl) (hpl : (backTo pos (starEach [] X.env)).any (·.1) = false := by rfl) :
    DE X W (.Call (.Name x p) [a] [] pos) (tCB r (tCons ta tNil)) (qUn o pa) := ⟨pe_callB hc hg hm hv (pa_cons ha.pe pa_nil he) hn hdb he hpl, se_call1 hs ha.se⟩
theorem d_ty1 {T : String} {x : Str} {r : List V → Hp → VK → Prop} {o : OP1} (hc : CallR X (.type T) r) (hs : UnS (fun x H Q => r [x] H Q) o) (hm : X.mg x = none) (hv : bootBuiltins x = some (.type T)) (ha : DE X W a ta pa) (hg : Gl X x := by rfl)
    (hn : x ≠ "__name__" := by decide) (hdb : (x == ("__debug__" : Str)) = false := by decide) (he : starEach [a] X.env = (false, eval a X.env) :: starEach [] X.env := by rfl) (hpl : (backTo pos (starEach [] X.env)).any (·.1) = false := by rfl) :
    DE X W (.Call (.Name x p) [a] [] pos) (tCB r (tCons ta tNil)) (qUn o pa) := ⟨pe_callTy hc hg hm hv (pa_cons ha.pe pa_nil he) hn hdb he hpl, se_call1 hs ha.se⟩
/-- len -/
abbrev rLenW (K : PySem.W.Frag) : List V → Hp → VK → Prop := fun xs H Q => ∃ x n, xs = [x] ∧ LenV K x H n ∧ Q (.int n) H
abbrev rIntW : List V → Hp → VK → Prop := fun xs H Q => (∃ i, xs = [.int i] ∧ Q (.int i) H) ∨ ∃ k, xs = [.bl k] ∧ Q (.int (if k then 1 else 0)) H
abbrev rListW (K : PySem.W.Frag) : List V → Hp → VK → Prop := fun xs H Q => ∃ p ys, xs = [.ref p] ∧ (SqL K H p ys ∨ SqT K H p ys) ∧ ∀ l, H l = none → Q (.ref l) (upd H l (.lst ys))
abbrev rTupleW (K : PySem.W.Frag) : List V → Hp → VK → Prop := fun xs H Q => ∃ p ys, xs = [.ref p] ∧ ((SqL K H p ys ∧ ∀ l, H l = none → Q (.ref l) (upd H l (.tup ys))) ∨ (SqT K H p ys ∧ Q (.ref p) H))
def opLen : OP1 := fun d k => match d with
  | .str x => x.length ≤ sizeLine ∧ k (.sh (.int x.length))
  | .list ds => k (.sh (.int ds.length))
  | .tuple ds => k (.sh (.int ds.length))
  | d => (match scrOf d with
    | some ds => k (.sh (.int ds.length))
    | none => False)
theorem len_scr {K : PySem.W.Frag} {B F : Hp} {Γ : Ev} {σ : L2.St} {H : Hp} {fp : Nat → List Addr} {x : V} {d : D} {k : Wv → Prop} {Q : VK} (r : Rel B F Γ σ H fp) (b : Rb F H x d)
    (z : match scrOf d with | some ds => k (.sh (.int ds.length)) | none => False) (c : ∀ w v F' H', Ext B F F' → Rel B F' Γ σ H' fp → RW B F' Γ σ H' fp v w → k w → Q v H') : ∃ y n, [x] = [y] ∧ LenV K y H n ∧ Q (.int n) H := by
  split at z
  · rename_i ds hs
    obtain ⟨a, o, xs, rfl, e, t⟩ := b.scr hs
    exact ⟨_, xs.length, rfl, .inl ⟨xs, .inl (.inr ⟨o, e⟩), rfl⟩, op_sc r (.int _) c (by rw [t.length]; exact z)⟩
  · exact z.elim
theorem us_len {K : PySem.W.Frag} : UnS (fun x H Q => rLenW K [x] H Q) opLen := fun {B F Γ σ H fp x d} k Q r b z c => by
  cases b with
  | str x hx => exact ⟨_, x.length, rfl, ⟨z.1, rfl⟩, op_sc r (.int _) c z.2⟩
  | @lst a xs ds e t => exact ⟨_, xs.length, rfl, .inl ⟨xs, .inl (.inl e), rfl⟩, op_sc r (.int _) c (by rw [t.length]; exact z)⟩
  | @tup a xs ds e0 e t => exact ⟨_, xs.length, rfl, .inr ⟨xs, .inl (.inl e), rfl⟩, op_sc r (.int _) c (by rw [t.length]; exact z)⟩
  | fz e t => exact len_scr r (.fz e t) z c
  | dk e t => exact len_scr r (.dk e t) z c
  | dt e t => exact len_scr r (.dt e t) z c
  | _ => exact z.elim
theorem d_len (hm : X.mg "len" = none) (ha : DE X W a ta pa) (hg : Gl X "len" := by rfl) (he : starEach [a] X.env = (false, eval a X.env) :: starEach [] X.env := by rfl) (hpl : (backTo pos (starEach [] X.env)).any (·.1) = false := by rfl) :
    DE X W (.Call (.Name "len" p) [a] [] pos) (tCB (rLenW X.K) (tCons ta tNil)) (qUn opLen pa) := d_bi1 call_len us_len hm PySem.boot_len ha hg (by decide) (by decide) he hpl
/-- int of an int, of a bool -/
def opInt : OP1 := fun d k => match d with
  | .int i => k (.sh (.int i))
  | .bool b => k (.sh (.int (if b then 1 else 0)))
  | _ => False
theorem us_int : UnS (fun x H Q => rIntW [x] H Q) opInt := fun {B F Γ σ H fp x d} k Q r b z c => by
  cases b with
  | int i => exact .inl ⟨i, rfl, op_sc r (.int _) c z⟩
  | bl i => exact .inr ⟨i, rfl, op_sc r (.int _) c z⟩
  | _ => exact z.elim
theorem d_int1 (hm : X.mg "int" = none) (ha : DE X W a ta pa) (hg : Gl X "int" := by rfl) (he : starEach [a] X.env = (false, eval a X.env) :: starEach [] X.env := by rfl) (hpl : (backTo pos (starEach [] X.env)).any (·.1) = false := by rfl) :
    DE X W (.Call (.Name "int" p) [a] [] pos) (tCB (rIntW) (tCons ta tNil)) (qUn opInt pa) := d_ty1 call_int1 us_int hm (by decide +kernel) ha hg (by decide) (by decide) he hpl
/-- list(xs), tuple(xs) -/
def opList : OP1 := fun d k => match d with
  | .list ds => k (.ow (.l ds))
  | .tuple ds => k (.ow (.l ds))
  | _ => False
theorem us_list {K : PySem.W.Frag} : UnS (fun x H Q => rListW K [x] H Q) opList := fun {B F Γ σ H fp x d} k Q r b z c => by
  cases b with
  | @lst a xs ds e t =>
    refine ⟨a, xs, rfl, .inl (.inl (.inl e)), fun p hp => ?_⟩
    obtain ⟨r5, v5⟩ := new_lst r t hp
    exact c _ _ F _ .refl r5 v5 z
  | @tup a xs ds e0 e t =>
    refine ⟨a, xs, rfl, .inr (.inl (.inl e)), fun p hp => ?_⟩
    obtain ⟨r5, v5⟩ := new_lst r t hp
    exact c _ _ F _ .refl r5 v5 z
  | _ => exact z.elim
theorem d_list1 (hm : X.mg "list" = none) (ha : DE X W a ta pa) (hg : Gl X "list" := by rfl) (he : starEach [a] X.env = (false, eval a X.env) :: starEach [] X.env := by rfl) (hpl : (backTo pos (starEach [] X.env)).any (·.1) = false := by rfl) :
    DE X W (.Call (.Name "list" p) [a] [] pos) (tCB (rListW X.K) (tCons ta tNil)) (qUn opList pa) := d_ty1 call_list_of us_list hm (by decide +kernel) ha hg (by decide) (by decide) he hpl
def opTuple : OP1 := fun d k => match d with
  | .list ds => k (.sh (.tuple ds))
  | .tuple ds => k (.sh (.tuple ds))
  | _ => False
theorem us_tuple {K : PySem.W.Frag} : UnS (fun x H Q => rTupleW K [x] H Q) opTuple := fun {B F Γ σ H fp x d} k Q r b z c => by
  cases b with
  | @lst a xs ds e t =>
    refine ⟨a, xs, rfl, .inl ⟨.inl (.inl e), fun p hp => ?_⟩⟩
    obtain ⟨x5, r5, v5⟩ := new_tup r t hp
    exact c _ _ _ _ x5 r5 v5 z
  | @tup a xs ds e0 e t => exact ⟨a, xs, rfl, .inr ⟨.inl (.inl e), op_sc r (.tup e0 t) c z⟩⟩
  | _ => exact z.elim
theorem d_tuple1 (hm : X.mg "tuple" = none) (ha : DE X W a ta pa) (hg : Gl X "tuple" := by rfl) (he : starEach [a] X.env = (false, eval a X.env) :: starEach [] X.env := by rfl) (hpl : (backTo pos (starEach [] X.env)).any (·.1) = false := by rfl) :
    DE X W (.Call (.Name "tuple" p) [a] [] pos) (tCB (rTupleW X.K) (tCons ta tNil)) (qUn opTuple pa) := d_ty1 call_tuple_of us_tuple hm (by decide +kernel) ha hg (by decide) (by decide) he hpl
/-- ints of a row of data -/
def intsOf : List D → Option (List Int)
  | [] => some []
  | .int i :: r => (intsOf r).map (i :: ·)
  | _ => none
def boolsOf : List D → Option (List Bool)
  | [] => some []
  | .bool i :: r => (boolsOf r).map (i :: ·)
  | _ => none
def strsOf : List D → Option (List Str)
  | [] => some []
  | .str i :: r => (strsOf r).map (i :: ·)
  | _ => none
theorem intsOf_map : ∀ ns : List Int, intsOf (ns.map .int) = some ns
  | [] => rfl
  | n :: r => by simp [intsOf, intsOf_map r]
theorem boolsOf_map : ∀ ns : List Bool, boolsOf (ns.map .bool) = some ns
  | [] => rfl
  | n :: r => by simp [boolsOf, boolsOf_map r]
theorem strsOf_map : ∀ ns : List Str, strsOf (ns.map .str) = some ns
  | [] => rfl
  | n :: r => by simp [strsOf, strsOf_map r]
theorem ints_rp {F : Hp} : ∀ {vs : List V} {ds : List D} {ns : List Int}, RpA F vs ds → intsOf ds = some ns → vs = ns.map V.int
  | _, _, _, .nil, e => by
    cases e
    rfl
  | _, _, ns, .cons (d := d) h r, e => by
    cases h with
    | int i =>
      simp only [intsOf, Option.map_eq_some_iff] at e
      obtain ⟨m, e1, rfl⟩ := e
      rw [ints_rp r e1]
      rfl
    | _ => simp [intsOf] at e
theorem bools_rp {F : Hp} : ∀ {vs : List V} {ds : List D} {ns : List Bool}, RpA F vs ds → boolsOf ds = some ns → vs = ns.map V.bl
  | _, _, _, .nil, e => by
    cases e
    rfl
  | _, _, ns, .cons (d := d) h r, e => by
    cases h with
    | bl i =>
      simp only [boolsOf, Option.map_eq_some_iff] at e
      obtain ⟨m, e1, rfl⟩ := e
      rw [bools_rp r e1]
      rfl
    | _ => simp [boolsOf] at e
theorem strs_rp {F : Hp} : ∀ {vs : List V} {ds : List D} {ns : List Str}, RpA F vs ds → strsOf ds = some ns → vs = ns.map V.str ∧ ∀ x ∈ ns, PyData.strOk x = true
  | _, _, _, .nil, e => by
    cases e
    exact ⟨rfl, fun _ h => by simp at h⟩
  | _, _, ns, .cons (d := d) h r, e => by
    cases h with
    | str i hi =>
      simp only [strsOf, Option.map_eq_some_iff] at e
      obtain ⟨m, e1, rfl⟩ := e
      obtain ⟨e2, e3⟩ := strs_rp r e1
      rw [e2]
      refine ⟨rfl, fun x hx => ?_⟩
      rcases List.mem_cons.mp hx with rfl | hx
      · exact hi
      · exact e3 x hx
    | _ => simp [strsOf] at e
/-- sum, any, all of a list -/
def opSum : OP1 := fun d k => match d with
  | .list ds => (match intsOf ds with
    | some ns => k (.sh (.int ns.sum))
    | none => False)
  | _ => False
theorem us_sum {K : PySem.W.Frag} : UnS (fun x H Q => rSum K [x] H Q) opSum := fun {B F Γ σ H fp x d} k Q r b z c => by
  cases b with
  | @lst a xs ds e t =>
    unfold opSum at z
    simp only at z
    split at z
    · rename_i ns hn
      have := ints_rp t hn
      subst this
      exact ⟨a, ns, rfl, .inl (.inl e), op_sc r (.int _) c z⟩
    · exact z.elim
  | _ => exact z.elim
theorem d_sum (hc : X.calm = true) (hm : X.mg "sum" = none) (ha : DE X W a ta pa) (hg : Gl X "sum" := by rfl) (he : starEach [a] X.env = (false, eval a X.env) :: starEach [] X.env := by rfl) (hpl : (backTo pos (starEach [] X.env)).any (·.1) = false := by rfl) :
    DE X W (.Call (.Name "sum" p) [a] [] pos) (tCB (rSum X.K) (tCons ta tNil)) (qUn opSum pa) := d_bi1 (cr_sum hc) us_sum hm (by decide +kernel) ha hg (by decide) (by decide) he hpl
def opAny : OP1 := fun d k => match d with
  | .list ds => (match boolsOf ds with
    | some bs => k (.sh (.bool (bs.any id)))
    | none => False)
  | _ => False
def opAll : OP1 := fun d k => match d with
  | .list ds => (match boolsOf ds with
    | some bs => k (.sh (.bool (bs.all id)))
    | none => False)
  | _ => False
theorem us_any {K : PySem.W.Frag} : UnS (fun x H Q => rAny K [x] H Q) opAny := fun {B F Γ σ H fp x d} k Q r b z c => by
  cases b with
  | @lst a xs ds e t =>
    unfold opAny at z
    simp only at z
    split at z
    · rename_i ns hn
      have := bools_rp t hn
      subst this
      exact ⟨a, ns, rfl, .inl (.inl e), op_sc r (.bl _) c z⟩
    · exact z.elim
  | _ => exact z.elim
theorem us_all {K : PySem.W.Frag} : UnS (fun x H Q => rAll K [x] H Q) opAll := fun {B F Γ σ H fp x d} k Q r b z c => by
  cases b with
  | @lst a xs ds e t =>
    unfold opAll at z
    simp only at z
    split at z
    · rename_i ns hn
      have := bools_rp t hn
      subst this
      exact ⟨a, ns, rfl, .inl (.inl e), op_sc r (.bl _) c z⟩
    · exact z.elim
  | _ => exact z.elim
theorem d_any (hc : X.calm = true) (hm : X.mg "any" = none) (ha : DE X W a ta pa) (hg : Gl X "any" := by rfl) (he : starEach [a] X.env = (false, eval a X.env) :: starEach [] X.env := by rfl) (hpl : (backTo pos (starEach [] X.env)).any (·.1) = false := by rfl) :
    DE X W (.Call (.Name "any" p) [a] [] pos) (tCB (rAny X.K) (tCons ta tNil)) (qUn opAny pa) := d_bi1 (cr_any hc) us_any hm (by decide +kernel) ha hg (by decide) (by decide) he hpl
theorem d_all (hc : X.calm = true) (hm : X.mg "all" = none) (ha : DE X W a ta pa) (hg : Gl X "all" := by rfl) (he : starEach [a] X.env = (false, eval a X.env) :: starEach [] X.env := by rfl) (hpl : (backTo pos (starEach [] X.env)).any (·.1) = false := by rfl) :
    DE X W (.Call (.Name "all" p) [a] [] pos) (tCB (rAll X.K) (tCons ta tNil)) (qUn opAll pa) := d_bi1 (cr_all hc) us_all hm (by decide +kernel) ha hg (by decide) (by decide) he hpl
/-- isinstance of a built-in class -/
def tyName : D → String
  | .none => "NoneType"
  | .bool _ => "bool"
  | .int _ => "int"
  | .str _ => "str"
  | .list _ => "list"
  | .tuple _ => "tuple"
  | .dict _ => "dict"
def isInst (T : String) (d : D) : Bool := tyName d == T || (tyName d == "bool" && T == "int")
def opIsi (T : String) : OP1 := fun d k => (scrOf d).isNone = true ∧ k (.sh (.bool (isInst T d)))
theorem kit_all : ∀ a ∈ ["NoneType", "bool", "int", "str", "list", "tuple", "dict"], ∀ T ∈ ["bool", "int", "str", "list", "tuple", "dict"], kitB a T = some (a == T || (a == "bool" && T == "int")) := by decide +kernel
theorem Rb.ty {K : PySem.W.Frag} {F H : Hp} {v : V} {d : D} (h : Rb F H v d) (hn : (scrOf d).isNone = true) : TyX K H v (.type (tyName d)) := by
  cases h with
  | non => exact .base .non
  | bl b => exact .base (.bl b)
  | int i => exact .base (.int i)
  | str x _ => exact .base (.str x)
  | lst e t => exact .base (.lst e)
  | tup e0 e t => exact .base (.tup e)
  | dk e t => exact .base (.dK e)
  | dt e t => exact .base (.dT e)
  | fz e t => cases hn
theorem d_isi {T : String} {x2 : Str} {p2 : Pos} (hT : T ∈ ["bool", "int", "str", "list", "tuple", "dict"]) (hm : X.mg "isinstance" = none) (hm2 : X.mg x2 = none) (hv2 : bootBuiltins x2 = some (.type T)) (ha : DE X W a ta pa) (hg : Gl X "isinstance" := by rfl) (hg2 : Gl X x2 := by rfl)
    (hn2 : x2 ≠ "__name__" := by decide) (hd2 : (x2 == ("__debug__" : Str)) = false := by decide) (he : starEach [a, .Name x2 p2] X.env = (false, eval a X.env) :: starEach [.Name x2 p2] X.env := by rfl) (hpl : (backTo pos (starEach [.Name x2 p2] X.env)).any (·.1) = false := by rfl)
    (he2 : starEach [.Name x2 p2] X.env = (false, eval (.Name x2 p2) X.env) :: starEach [] X.env := by rfl) :
    DE X W (.Call (.Name "isinstance" p) [a, .Name x2 p2] [] pos) (tCB (rIsi X.K) (tCons ta (tCons (tC (.ty T)) tNil))) (qUn (opIsi T) pa) :=
  ⟨pe_callB call_isi hg hm (by decide +kernel) (pa_cons ha.pe (pa_cons (pe_bltn hg2 hm2 hv2 rfl hn2 hd2) pa_nil he2) he) (by decide) (by decide) he hpl, fun {B F Γ σ H fp} R EX Q rr h k e => by
  refine ha.se _ _ _ rr h (fun w1 Γ1 x F1 H1 fp1 x1 r1 v1 h1 => ?_) e
  obtain ⟨d, b, z⟩ := bor_rb r1 v1 h1
  have hk : kitB (tyName d) T = some (isInst T d) := kit_all (tyName d) (by cases d <;> simp [tyName]) T hT
  exact ⟨x, .ty T, _, _, isInst T d, rfl, .ty T, b.ty z.1, kit_ty hk, k _ Γ1 _ F1 H1 fp1 x1 r1 (.sh (.bl _)) z.2⟩⟩

/-! ### xs.append(e) as a statement or value -/
theorem Rel.mutL {B F : Hp} {Γ : Ev} {σ : L2.St} {H : Hp} {fp : Nat → List Addr} {i : Nat} {ds ds' : List D} {v : V} {xs' : List V} (r : Rel B F Γ σ H fp) (e : Γ[i]? = some (.ow (.l ds))) (hv : σ[i]? = some (some v)) (t' : RpA F xs' ds') :
    ∃ a xs, v = .ref a ∧ H a = some (.lst xs) ∧ RpA F xs ds ∧ Rel B F (Γ.set i (.ow (.l ds'))) σ (upd H a (.lst xs')) fp := by
  obtain ⟨u, h1, h2⟩ := r.ow i _ e
  rw [hv] at h1
  cases h1
  generalize hf : fp i = f at h2
  cases h2 with
  | @l a xs ds e2 t =>
    have hm : a ∈ fp i := by rw [hf]; simp
    obtain ⟨b1, b2, b3⟩ := r.nb i a hm
    refine ⟨a, xs, rfl, e2, t, fun c o q => ?_, fun c o q => ?_, by rw [List.length_set]; exact r.len, fun j d q => ?_, fun j o q => ?_, fun j c hc => ?_, r.dj, fun j a q => r.ex j a (ex_ne (fun _ => Sl.noConfusion) q).2⟩
    · rw [upd_ne fun z => by subst z; rw [b1] at q; cases q]
      exact r.bx c o q
    · rw [upd_ne fun z => by subst z; rw [b2] at q; cases q]
      exact r.fx c o q
    · by_cases hj : i = j
      · subst hj
        rw [List.getElem?_set_self (List.getElem?_eq_some_iff.mp e).1] at q
        cases q
      · rw [List.getElem?_set_ne hj] at q
        exact r.sh j d q
    · by_cases hj : i = j
      · subst hj
        rw [List.getElem?_set_self (List.getElem?_eq_some_iff.mp e).1] at q
        cases q
        refine ⟨_, hv, ?_⟩
        rw [hf]
        exact .l upd_same t'
      · rw [List.getElem?_set_ne hj] at q
        obtain ⟨w, g1, g2⟩ := r.ow j o q
        exact ⟨w, g1, g2.mono (Same.refl F) fun c hc => upd_ne fun z => hj (r.dj i j c (z ▸ hm) hc)⟩
    · obtain ⟨c1, c2, c3⟩ := r.nb j c hc
      refine ⟨c1, c2, ?_⟩
      unfold upd
      split
      · exact fun z => nomatch z
      · exact c3
def isOwL : Option Sl → Bool
  | some (.ow (.l _)) => true
  | _ => false
def qApp (i : Nat) (p : QE) : QE := fun Γ R E => isOwL Γ[i]? = true ∧ p Γ (fun w Γ1 => shr w Γ1 fun d Γ2 => match Γ2[i]? with
  | some (.ow (.l ds)) => ds.length < sizeLine ∧ R (.sh .none) (Γ2.set i (.ow (.l (ds ++ [d]))))
  | _ => False) E
theorem own_ty {K : PySem.W.Frag} {B F : Hp} {Γ : Ev} {σ : L2.St} {H : Hp} {fp : Nat → List Addr} {i : Nat} (r : Rel B F Γ σ H fp) (h : isOwL Γ[i]? = true) : ∃ v, σ[i]? = some (some v) ∧ tyV K "list" v H := by
  unfold isOwL at h
  split at h
  · rename_i ds e
    obtain ⟨v, h1, h2⟩ := r.ow i _ e
    generalize fp i = f at h2
    cases h2 with
    | @l a xs ds e t => exact ⟨_, h1, .inl ⟨rfl, xs, .inl (.inl e)⟩⟩
  · cases h
theorem se_append {K : PySem.W.Frag} {i : Nat} (ha : SE W ta pa) : SE W (tBM K "list" rAppend (tVar i) (tCons ta tNil)) (qApp i pa) := fun {B F Γ σ H fp} R EX Q r q k e => by
  obtain ⟨v, h1, h2⟩ := own_ty (K := K) r q.1
  refine ⟨v, h1, h2, ha _ _ _ r q.2 (fun w Γ1 y F1 H1 fp1 x1 r1 v1 h3 => ?_) e⟩
  obtain ⟨d, Γ2, F2, fp2, x2, r2, b2, h4⟩ := shr_ok r1 v1 h3
  split at h4
  · rename_i ds hd
    obtain ⟨v', e1, _⟩ := r2.ow i _ hd
    rw [h1] at e1
    cases e1
    obtain ⟨u, z1, z2⟩ := r2.ow i _ hd
    rw [h1] at z1
    cases z1
    generalize hf : fp2 i = f at z2
    cases z2 with
    | @l a xs ds e5 t5 =>
      obtain ⟨a', xs', ea, e6, t6, r6⟩ := r2.mutL hd h1 (t5.append (.cons b2 .nil))
      cases ea
      exact ⟨a, xs, y, rfl, rfl, e5, by rw [t5.length]; exact h4.1, k _ _ _ F2 _ fp2 (x1.trans x2) r6 (.sh .non) h4.2⟩
  · exact h4.elim
theorem d_append (i : Nat) {x : Str} {px apos : Pos} (ha : DE X W a ta pa) (hN : X.N[i]? = some x := by rfl) (hv : Vis X.env.scope x := by first | exact Or.inl rfl | exact Or.inr (Or.inl rfl) | exact Or.inr (Or.inr rfl)) (hd : (x == ("__debug__" : Str)) = false := by decide)
    (hcd : (x == ("__classdict__" : Str)) = false := by decide) (hbase : attributeBase (.Name x px) "append" X.env (eval (.Name x px) X.env) = eval (.Name x px) X.env := by rfl)
    (hfew : ((backTo pos (starEach [a] X.env)).all (fun x => !x.1) && (backToKw pos (keywordEach [] X.env)).all (fun x => x.1.isSome) && decide ([a].length + ([] : List Keyword).length + (if ([] : List Keyword).isEmpty then 0 else 1) < 30)) = true := by rfl)
    (hline : (apos.endLine == pos.line) = true := by rfl) (hs : starEach [a] X.env = (false, eval a X.env) :: starEach [] X.env := by rfl) (hpl : (backTo pos (starEach [] X.env)).any (·.1) = false := by rfl) :
    DE X W (.Call (.Attribute (.Name x px) "append" apos) [a] [] pos) (tBM X.K "list" rAppend (tVar i) (tCons ta tNil)) (qApp i pa) :=
  ⟨pe_bm PySem.F.plainAttrs_list PySem.F.slot_list_append PySem.F.type_list_append mt_append (pe_var hN hv hd hcd) (pa_cons ha.pe pa_nil hs) hbase hfew hline hs hpl, se_append ha.se⟩
/-- xs[i] = e, xs an own list -/
def qgSetL (i : Nat) (pi : QE) : QG := fun w Γ k => shr w Γ fun d Γ1 => pi Γ1 (fun w2 Γ2 => bor w2 Γ2 fun d2 => match d2 with
  | .int j => (match Γ2[i]? with
    | some (.ow (.l ds)) => (match ixN ds.length j with
      | some n => k (Γ2.set i (.ow (.l (ds.set n d))))
      | none => False)
    | _ => False)
  | _ => False) noEX
end
end PL

namespace PL
open PySem PySem.Spec PyProof.Rows L2

/-! ### dicts -/
def lookD (ds : List (D × D)) (k : D) : Option D := (ds.find? fun p => PyData.eqv p.1 k).map (·.2)
def putD (ds : List (D × D)) (k v : D) : List (D × D) := if (ds.any fun p => PyData.eqv p.1 k) = true then ds.map (fun p => if PyData.eqv p.1 k = true then (p.1, v) else p) else ds ++ [(k, v)]
theorem eqv_keyD (k j : Key) : PyData.eqv (keyD k) (keyD j) = decide (k = j) := by
  cases k with
  | inl a =>
    cases j with
    | inl b =>
      show PyData.eqv (.int a) (.int b) = _
      rw [PyData.eqv, key_ll]
    | inr b =>
      show PyData.eqv (.int a) (.str b) = _
      rw [PyData.eqv, key_lr]
  | inr a =>
    cases j with
    | inl b =>
      show PyData.eqv (.str a) (.int b) = _
      rw [PyData.eqv, key_rl]
    | inr b =>
      show PyData.eqv (.str a) (.str b) = _
      rw [PyData.eqv, key_rr, Bool.beq_eq_decide_eq]
theorem eqv_keysD : ∀ k j : List Key, PyData.eqvAll (k.map keyD) (j.map keyD) = decide (k = j)
  | [], [] => by simp [PyData.eqvAll]
  | [], _ :: _ => by simp [PyData.eqvAll]
  | _ :: _, [] => by simp [PyData.eqvAll]
  | a :: k, b :: j => by
    simp only [List.map_cons, PyData.eqvAll, eqv_keyD, eqv_keysD k j]
    by_cases h : a = b
    · by_cases h2 : k = j
      · simp [h, h2]
      · simp [h, h2]
    · simp [h]
theorem eqv_keyT (k j : List Key) : PyData.eqv (.tuple (k.map keyD)) (.tuple (j.map keyD)) = decide (k = j) := by
  rw [PyData.eqv, eqv_keysD]
section
variable {F : Hp}
theorem RpK.look : ∀ {kvs : List (Key × V)} {ds : List (D × D)} (k : Key), RpK F kvs ds → (lookD ds (keyD k) = none ∧ valV kvs k = none) ∨ ∃ v d, lookD ds (keyD k) = some d ∧ valV kvs k = some v ∧ Rp F v d
  | _, _, k, .nil => .inl ⟨rfl, rfl⟩
  | _, _, k, .cons (k := j) (v := v) (d := d) h r => by
    unfold lookD
    rw [List.find?_cons]
    simp only [eqv_keyD]
    by_cases e : j = k
    · rw [decide_eq_true e]
      exact .inr ⟨v, d, rfl, valV_pos e, h⟩
    · rw [decide_eq_false e, valV_neg (p := (j, v)) e]
      exact RpK.look k r
theorem RpT.look : ∀ {kvs : List (List Key × V)} {ds : List (D × D)} (k : List Key), RpT F kvs ds → (lookD ds (.tuple (k.map keyD)) = none ∧ valV kvs k = none) ∨ ∃ v d, lookD ds (.tuple (k.map keyD)) = some d ∧ valV kvs k = some v ∧ Rp F v d
  | _, _, k, .nil => .inl ⟨rfl, rfl⟩
  | _, _, k, .cons (k := j) (v := v) (d := d) h r => by
    unfold lookD
    rw [List.find?_cons]
    simp only [eqv_keyT]
    by_cases e : j = k
    · rw [decide_eq_true e]
      exact .inr ⟨v, d, rfl, valV_pos e, h⟩
    · rw [decide_eq_false e, valV_neg (p := (j, v)) e]
      exact RpT.look k r
theorem RpK.any : ∀ {kvs : List (Key × V)} {ds : List (D × D)} (k : Key), RpK F kvs ds → (ds.any fun p => PyData.eqv p.1 (keyD k)) = kvs.any fun p => decide (p.1 = k)
  | _, _, k, .nil => rfl
  | _, _, k, .cons (k := j) h r => by
    simp only [List.any_cons, eqv_keyD, RpK.any k r]
theorem RpT.any : ∀ {kvs : List (List Key × V)} {ds : List (D × D)} (k : List Key), RpT F kvs ds → (ds.any fun p => PyData.eqv p.1 (.tuple (k.map keyD))) = kvs.any fun p => decide (p.1 = k)
  | _, _, k, .nil => rfl
  | _, _, k, .cons (k := j) h r => by
    simp only [List.any_cons, eqv_keyT, RpT.any k r]
theorem RpK.app : ∀ {kvs : List (Key × V)} {ds : List (D × D)} {k : Key} {v : V} {d : D}, RpK F kvs ds → Rp F v d → RpK F (kvs ++ [(k, v)]) (ds ++ [(keyD k, d)])
  | _, _, _, _, _, .nil, h => .cons h .nil
  | _, _, _, _, _, .cons h r, h' => .cons h (RpK.app r h')
theorem RpT.app : ∀ {kvs : List (List Key × V)} {ds : List (D × D)} {k : List Key} {v : V} {d : D}, RpT F kvs ds → Rp F v d → RpT F (kvs ++ [(k, v)]) (ds ++ [(.tuple (k.map keyD), d)])
  | _, _, _, _, _, .nil, h => .cons h .nil
  | _, _, _, _, _, .cons h r, h' => .cons h (RpT.app r h')
theorem RpK.upd {k : Key} {y : V} {z : D} (hy : Rp F y z) : ∀ {kvs : List (Key × V)} {ds : List (D × D)}, RpK F kvs ds → RpK F (kvs.map fun kv => if kv.1 = k then (kv.1, y) else kv) (ds.map fun p => if PyData.eqv p.1 (keyD k) = true then (p.1, z) else p)
  | _, _, .nil => .nil
  | _, _, .cons (k := j) (v := v) (d := d) h r => by
    simp only [List.map_cons, eqv_keyD]
    by_cases e : j = k
    · rw [if_pos e, if_pos (decide_eq_true e)]
      exact .cons hy (RpK.upd hy r)
    · rw [if_neg e, if_neg (by simp [e])]
      exact .cons h (RpK.upd hy r)
theorem RpT.upd {k : List Key} {y : V} {z : D} (hy : Rp F y z) : ∀ {kvs : List (List Key × V)} {ds : List (D × D)}, RpT F kvs ds → RpT F (kvs.map fun kv => if kv.1 = k then (kv.1, y) else kv) (ds.map fun p => if PyData.eqv p.1 (.tuple (k.map keyD)) = true then (p.1, z) else p)
  | _, _, .nil => .nil
  | _, _, .cons (k := j) (v := v) (d := d) h r => by
    simp only [List.map_cons, eqv_keyT]
    by_cases e : j = k
    · rw [if_pos e, if_pos (decide_eq_true e)]
      exact .cons hy (RpT.upd hy r)
    · rw [if_neg e, if_neg (by simp [e])]
      exact .cons h (RpT.upd hy r)
theorem RpK.put {kvs : List (Key × V)} {ds : List (D × D)} {k : Key} {v : V} {d : D} (r : RpK F kvs ds) (h : Rp F v d) : RpK F (putK kvs k v) (putD ds (keyD k) d) := by
  unfold putK putD
  rw [r.any k]
  split
  · exact r.upd h
  · exact r.app h
theorem RpT.put {kvs : List (List Key × V)} {ds : List (D × D)} {k : List Key} {v : V} {d : D} (r : RpT F kvs ds) (h : Rp F v d) : RpT F (putK kvs k v) (putD ds (.tuple (k.map keyD)) d) := by
  unfold putK putD
  rw [r.any k]
  split
  · exact r.upd h
  · exact r.app h
theorem RpK.length : ∀ {kvs : List (Key × V)} {ds : List (D × D)}, RpK F kvs ds → kvs.length = ds.length
  | _, _, .nil => rfl
  | _, _, .cons _ r => congrArg (· + 1) (RpK.length r)
theorem RpT.length : ∀ {kvs : List (List Key × V)} {ds : List (D × D)}, RpT F kvs ds → kvs.length = ds.length
  | _, _, .nil => rfl
  | _, _, .cons _ r => congrArg (· + 1) (RpT.length r)
end
/-- which kind of keys -/
def keyK : D → Bool
  | .int _ => true
  | .str _ => true
  | _ => false
def keyT : D → Bool
  | .tuple ds => ds.all keyK
  | _ => false
theorem Rp.keyK {F : Hp} {y : V} {d : D} (h : Rp F y d) (e : PL.keyK d = true) : ∃ k : Key, y = kV k ∧ d = keyD k := by
  cases h with
  | int i => exact ⟨.inl i, rfl, rfl⟩
  | str x _ => exact ⟨.inr x, rfl, rfl⟩
  | _ => cases e
theorem RpA.keyK {F : Hp} : ∀ {vs : List V} {ds : List D}, RpA F vs ds → ds.all PL.keyK = true → ∃ ks : List Key, vs = ks.map kV ∧ ds = ks.map keyD
  | _, _, .nil, _ => ⟨[], rfl, rfl⟩
  | _, _, .cons h r, e => by
    simp only [List.all_cons, Bool.and_eq_true] at e
    obtain ⟨k, rfl, rfl⟩ := h.keyK e.1
    obtain ⟨ks, rfl, rfl⟩ := RpA.keyK r e.2
    exact ⟨k :: ks, rfl, rfl⟩
theorem Rp.keyT {F : Hp} {y : V} {d : D} (h : Rp F y d) (e : PL.keyT d = true) : ∃ (q : Addr) (k : List Key), y = .ref q ∧ F q = some (.tup (k.map kV)) ∧ d = .tuple (k.map keyD) := by
  cases h with
  | @tup a xs ds e0 t =>
    obtain ⟨ks, rfl, rfl⟩ := t.keyK e
    exact ⟨a, ks, rfl, e0, rfl⟩
  | _ => cases e
def kindOf : List (D × D) → Option Bool
  | [] => none
  | p :: _ => if keyK p.1 = true then some false else if keyT p.1 = true then some true else none
theorem keyK_D (k : Key) : keyK (keyD k) = true := by cases k <;> rfl
theorem keyT_D (k : List Key) : keyT (.tuple (k.map keyD)) = true := by
  show (k.map keyD).all keyK = true
  rw [List.all_eq_true]
  intro x hx
  obtain ⟨j, _, rfl⟩ := List.mem_map.mp hx
  exact keyK_D j
/-- a dict: has it tuples as keys, its pairs -/
def dic (w : Wv) (Γ : Ev) : Option (Bool × List (D × D)) := match w with
  | .ow (.k ds) => some (false, ds)
  | .ow (.t ds) => some (true, ds)
  | .sh (.dict ds) => (kindOf ds).map (·, ds)
  | .at i => (match Γ[i]? with
    | some (.ow (.k ds)) => some (false, ds)
    | some (.ow (.t ds)) => some (true, ds)
    | some (.sh (.dict ds)) => (kindOf ds).map (·, ds)
    | _ => none)
  | _ => none
def IsDic (F H : Hp) (b : Bool) (a : Addr) (ds : List (D × D)) : Prop := if b = true then ∃ kvs, H a = some (.dT kvs) ∧ RpT F kvs ds else ∃ kvs, H a = some (.dK kvs) ∧ RpK F kvs ds
theorem dic_sh {F H : Hp} {v : V} {b : Bool} {ds ds' : List (D × D)} (h : Rp F v (.dict ds)) (s : Same F H) (e : (kindOf ds).map (·, ds) = some (b, ds')) : ∃ a, v = .ref a ∧ IsDic F H b a ds' := by
  cases h with
  | @dk a kvs ds e1 t =>
    cases t with
    | nil => cases e
    | @cons k v r d ds h r =>
      simp only [kindOf, keyK_D, if_true, Option.map_some, Option.some.injEq, Prod.mk.injEq] at e
      obtain ⟨rfl, rfl⟩ := e
      refine ⟨a, rfl, ?_⟩
      unfold IsDic
      rw [if_neg Bool.false_ne_true]
      exact ⟨_, s _ _ e1, .cons h r⟩
  | @dt a kvs ds e1 t =>
    cases t with
    | nil => cases e
    | @cons k v r d ds h r =>
      have n : keyK (.tuple (k.map keyD)) = false := rfl
      simp only [kindOf, n, keyT_D, Bool.false_eq_true, if_false, if_true, Option.map_some, Option.some.injEq, Prod.mk.injEq] at e
      obtain ⟨rfl, rfl⟩ := e
      refine ⟨a, rfl, ?_⟩
      unfold IsDic
      rw [if_pos rfl]
      exact ⟨_, s _ _ e1, .cons h r⟩
  | fz e1 t => cases e
section
variable {B F : Hp} {Γ : Ev} {σ : L2.St} {H : Hp} {fp : Nat → List Addr} {v : V} {w : Wv} {b : Bool} {ds : List (D × D)}
theorem dic_ro {o : O} {f : List Addr} (h : RO F H v o f) : (∀ ds, o = .k ds → ∃ a, v = .ref a ∧ IsDic F H false a ds) ∧ (∀ ds, o = .t ds → ∃ a, v = .ref a ∧ IsDic F H true a ds) := by
  cases h with
  | l _ _ => exact ⟨(fun _ e => nomatch e), (fun _ e => nomatch e)⟩
  | @k a kvs ds e t => exact ⟨fun _ q => by
      cases q
      exact ⟨a, rfl, by
        unfold IsDic
        rw [if_neg Bool.false_ne_true]
        exact ⟨kvs, e, t⟩⟩, fun _ e => nomatch e⟩
  | @t a kvs ds e t => exact ⟨(fun _ e => nomatch e), fun _ q => by
      cases q
      exact ⟨a, rfl, by
        unfold IsDic
        rw [if_pos rfl]
        exact ⟨kvs, e, t⟩⟩⟩
theorem dic_ok (r : Rel B F Γ σ H fp) (h : RW B F Γ σ H fp v w) (e : dic w Γ = some (b, ds)) : ∃ a, v = .ref a ∧ IsDic F H b a ds := by
  cases h with
  | @sh d h =>
    cases d with
    | dict ds0 => exact dic_sh h r.fx e
    | _ => cases e
  | @ow o f h hf =>
    cases o with
    | l _ => cases e
    | k ds0 =>
      cases e
      exact (dic_ro h).1 _ rfl
    | t ds0 =>
      cases e
      exact (dic_ro h).2 _ rfl
  | @«at» i h =>
    unfold dic at e
    simp only at e
    split at e
    · rename_i ds0 q
      cases e
      obtain ⟨u, h1, h2⟩ := r.ow i _ q
      rw [h] at h1
      cases h1
      exact (dic_ro h2).1 _ rfl
    · rename_i ds0 q
      cases e
      obtain ⟨u, h1, h2⟩ := r.ow i _ q
      rw [h] at h1
      cases h1
      exact (dic_ro h2).2 _ rfl
    · rename_i ds0 q
      obtain ⟨u, h1, h2⟩ := r.sh i _ q
      rw [h] at h1
      cases h1
      exact dic_sh h2 r.fx e
    · cases e
/-- the key y asked of a dict -/
theorem dic_get {a : Addr} {y : V} {k : D} (d : IsDic F H b a ds) (s : Same F H) (hy : Rp H y k) (hk : (if b = true then keyT k else keyK k) = true) :
    ∃ o, DGet H a y o ∧ ((lookD ds k = none ∧ o = none) ∨ ∃ v e, lookD ds k = some e ∧ o = some v ∧ Rp F v e) := by
  cases b with
  | true =>
    obtain ⟨kvs, e, t⟩ := d
    obtain ⟨q, ks, rfl, e2, rfl⟩ := hy.keyT hk
    refine ⟨_, .t e e2, ?_⟩
    rcases t.look ks with ⟨h1, h2⟩ | ⟨v, x, h1, h2, h3⟩
    · exact .inl ⟨h1, h2⟩
    · exact .inr ⟨v, x, h1, h2, h3⟩
  | false =>
    obtain ⟨kvs, e, t⟩ := d
    obtain ⟨ks, rfl, rfl⟩ := hy.keyK hk
    refine ⟨_, .k e, ?_⟩
    rcases t.look ks with ⟨h1, h2⟩ | ⟨v, x, h1, h2, h3⟩
    · exact .inl ⟨h1, h2⟩
    · exact .inr ⟨v, x, h1, h2, h3⟩
theorem dic_isD {a : Addr} (d : IsDic F H b a ds) : IsD H a := by
  cases b with
  | true =>
    obtain ⟨kvs, e, t⟩ := d
    exact .inr ⟨kvs, .inl e⟩
  | false =>
    obtain ⟨kvs, e, t⟩ := d
    exact .inl ⟨kvs, .inl e⟩
/-- slot i's own dict gets a pair -/
theorem Rel.putS {i : Nat} {y z : V} {k e : D} (r : Rel B F Γ σ H fp) (hv : σ[i]? = some (some v)) (hy : Rp F y k) (hz : Rp F z e) (hl : ds.length < sizeLine) :
    (Γ[i]? = some (.ow (.k ds)) → keyK k = true → ∃ a H', v = .ref a ∧ DPut H a y z H' ∧ Rel B F (Γ.set i (.ow (.k (putD ds k e)))) σ H' fp) ∧
    (Γ[i]? = some (.ow (.t ds)) → keyT k = true → ∃ a H', v = .ref a ∧ DPut H a y z H' ∧ Rel B F (Γ.set i (.ow (.t (putD ds k e)))) σ H' fp) := by
  have gen : ∀ {o o' : O} {a : Addr} {u : HO}, Γ[i]? = some (.ow o) → RO F H v o (fp i) → v = .ref a → fp i = [a] → RO F (upd H a u) v o' [a] → Rel B F (Γ.set i (.ow o')) σ (upd H a u) fp := by
    intro o o' a u e h2 ea hf h3
    have hm : a ∈ fp i := by rw [hf]; simp
    obtain ⟨b1, b2, b3⟩ := r.nb i a hm
    refine ⟨fun c o q => ?_, fun c o q => ?_, by rw [List.length_set]; exact r.len, fun j d q => ?_, fun j o q => ?_, fun j c hc => ?_, r.dj, fun j a q => r.ex j a (ex_ne (fun _ => Sl.noConfusion) q).2⟩
    · rw [upd_ne fun z => by subst z; rw [b1] at q; cases q]
      exact r.bx c o q
    · rw [upd_ne fun z => by subst z; rw [b2] at q; cases q]
      exact r.fx c o q
    · by_cases hj : i = j
      · subst hj
        rw [List.getElem?_set_self (List.getElem?_eq_some_iff.mp e).1] at q
        cases q
      · rw [List.getElem?_set_ne hj] at q
        exact r.sh j d q
    · by_cases hj : i = j
      · subst hj
        rw [List.getElem?_set_self (List.getElem?_eq_some_iff.mp e).1] at q
        cases q
        refine ⟨_, hv, ?_⟩
        rw [hf]
        exact h3
      · rw [List.getElem?_set_ne hj] at q
        obtain ⟨w, g1, g2⟩ := r.ow j o q
        exact ⟨w, g1, g2.mono (Same.refl F) fun c hc => upd_ne fun z => hj (r.dj i j c (z ▸ hm) hc)⟩
    · obtain ⟨c1, c2, c3⟩ := r.nb j c hc
      refine ⟨c1, c2, ?_⟩
      unfold upd
      split
      · exact fun z => nomatch z
      · exact c3
  refine ⟨fun q hk => ?_, fun q hk => ?_⟩
  · obtain ⟨u, h1, h2⟩ := r.ow i _ q
    rw [hv] at h1
    cases h1
    generalize hf : fp i = f at h2
    cases h2 with
    | @k a kvs ds e1 t =>
      obtain ⟨ks, rfl, rfl⟩ := hy.keyK hk
      refine ⟨a, _, rfl, .k e1 (by rw [t.length]; exact hl), gen q (hf ▸ .k e1 t) rfl hf (.k upd_same (t.put hz))⟩
  · obtain ⟨u, h1, h2⟩ := r.ow i _ q
    rw [hv] at h1
    cases h1
    generalize hf : fp i = f at h2
    cases h2 with
    | @t a kvs ds e1 t =>
      obtain ⟨q2, ks, rfl, e2, rfl⟩ := hy.keyT hk
      refine ⟨a, _, rfl, .t e1 (r.fx _ _ e2) (by rw [t.length]; exact hl), gen q (hf ▸ .t e1 t) rfl hf (.t upd_same (t.put hz))⟩
end
section
variable {X : Cx} {W : WX} {pos p : Pos} {a b e f : Expr} {ta tb te tf : TE} {pa pb pe pf : QE}
theorem new_k {B F : Hp} {Γ : Ev} {σ : L2.St} {H : Hp} {fp : Nat → List Addr} {p : Addr} (r : Rel B F Γ σ H fp) (hp : H p = none) :
    Rel B F Γ σ (upd H p (.dK [])) fp ∧ RW B F Γ σ (upd H p (.dK [])) fp (.ref p) (.ow (.k [])) := by
  refine ⟨r.new hp, .ow (.k upd_same .nil) fun a ha => ?_⟩
  simp only [List.mem_singleton] at ha
  subst ha
  exact free_of r hp
theorem new_t {B F : Hp} {Γ : Ev} {σ : L2.St} {H : Hp} {fp : Nat → List Addr} {p : Addr} (r : Rel B F Γ σ H fp) (hp : H p = none) :
    Rel B F Γ σ (upd H p (.dT [])) fp ∧ RW B F Γ σ (upd H p (.dT [])) fp (.ref p) (.ow (.t [])) := by
  refine ⟨r.new hp, .ow (.t upd_same .nil) fun a ha => ?_⟩
  simp only [List.mem_singleton] at ha
  subst ha
  exact free_of r hp
def qOwn (o : O) : QE := fun Γ R _ => R (.ow o) Γ
theorem d_dK : DE X W (.Dict [] [] pos) tDNewK (qOwn (.k [])) := ⟨pe_dnewK, fun {B F Γ σ H fp} R EX Q r q k _ p hp => by
  obtain ⟨r', v'⟩ := new_k r hp
  exact k _ Γ _ F _ fp .refl r' v' q⟩
theorem d_dT : DE X W (.Dict [] [] pos) tDNewT (qOwn (.t [])) := ⟨pe_dnewT, fun {B F Γ σ H fp} R EX Q r q k _ p hp => by
  obtain ⟨r', v'⟩ := new_t r hp
  exact k _ Γ _ F _ fp .refl r' v' q⟩
/-- y in d, y not in d -/
def dget (w : Wv) (Γ : Ev) (dk : D) (k : Option D → Prop) : Prop := match dic w Γ with
  | some (b, ds) => (if b = true then keyT dk else keyK dk) = true ∧ k (lookD ds dk)
  | none => False
theorem dget_ok {B F : Hp} {Γ : Ev} {σ : L2.St} {H : Hp} {fp : Nat → List Addr} {v y : V} {w : Wv} {dk : D} {k : Option D → Prop} (r : Rel B F Γ σ H fp) (h : RW B F Γ σ H fp v w) (hy : Rb F H y dk) (q : dget w Γ dk k) :
    ∃ a o, v = .ref a ∧ IsD H a ∧ DGet H a y o ∧ ((o = none ∧ k none) ∨ ∃ u x, o = some u ∧ Rp F u x ∧ k (some x)) := by
  unfold dget at q
  split at q
  · rename_i b ds e
    obtain ⟨a, rfl, d⟩ := dic_ok r h e
    obtain ⟨o, g, z⟩ := dic_get d r.fx (hy.rp r.fx) q.1
    refine ⟨a, o, rfl, dic_isD d, g, ?_⟩
    rcases z with ⟨z1, z2⟩ | ⟨u, x, z1, z2, z3⟩
    · exact .inl ⟨z2, by rw [← z1]; exact q.2⟩
    · exact .inr ⟨u, x, z2, z3, by rw [← z1]; exact q.2⟩
  · exact q.elim
def qDIn (g : Bool → Bool) (py pd : QE) : QE := fun Γ R E => py Γ (fun w1 Γ1 => pd Γ1 (fun w2 Γ2 => bor w1 Γ2 fun dk => dget w2 Γ2 dk fun o => R (.sh (.bool (g o.isSome))) Γ2) E) E
theorem se_din {g : Bool → Bool} (ha : SE W ta pa) (hb : SE W tb pb) : SE W (tOp (fun y x H Q => ∃ a o, x = .ref a ∧ DGet H a y o ∧ Q (.bl (g o.isSome)) H) ta tb) (qDIn g pa pb) := fun {B F Γ σ H fp} R EX Q rr h k e => by
  refine se_two ha hb rr h (Z := fun w1 w2 Γ2 => bor w1 Γ2 fun dk => dget w2 Γ2 dk fun o => R (.sh (.bool (g o.isSome))) Γ2) (fun w1 w2 Γ' x y F' H' fp' x1 r1 v1 v2 z => ?_) e
  obtain ⟨dk, b1, z⟩ := bor_rb r1 v1 z
  obtain ⟨a, o, rfl, _, gg, z⟩ := dget_ok r1 v2 b1 z
  refine ⟨a, o, rfl, gg, ?_⟩
  rcases z with ⟨rfl, z⟩ | ⟨u, x, rfl, _, z⟩
  · exact k _ Γ' _ F' H' fp' x1 r1 (.sh (.bl _)) z
  · exact k _ Γ' _ F' H' fp' x1 r1 (.sh (.bl _)) z
theorem d_din {j : Nat} (hr : Room j X.A) (ha : DE X W a ta pa) (hb : DE X W b tb pb) (hm : behindInMarks .In b = false := by with_unfolding_all rfl) : DE X W (.Compare a [.In] [b] pos) (tDIn ta tb) (qDIn id pa pb) := ⟨pe_cmp (pc_din (hu_of hr) ha.pe hb.pe) hm, se_din (g := id) ha.se hb.se⟩
theorem d_dnotin {j : Nat} (hr : Room j X.A) (ha : DE X W a ta pa) (hb : DE X W b tb pb) (hm : behindInMarks .NotIn b = false := by with_unfolding_all rfl) : DE X W (.Compare a [.NotIn] [b] pos) (tDNotIn ta tb) (qDIn not pa pb) := ⟨pe_cmp (pc_dnotin (hu_of hr) ha.pe hb.pe) hm, se_din (g := not) ha.se hb.se⟩
theorem d_tdin {j : Nat} (hr : Room j X.A) (ha : DE X W a ta pa) (hb : DE X W b tb pb) (hm : behindInMarks .In b = false := by with_unfolding_all rfl) : DT X W (.Compare a [.In] [b] pos) (tB (tDIn ta tb)) (qB (qDIn id pa pb)) := ⟨pt_cmp (pc_din (hu_of hr) ha.pe hb.pe) hm, st_tt (se_din (g := id) ha.se hb.se)⟩
theorem d_tdnotin {j : Nat} (hr : Room j X.A) (ha : DE X W a ta pa) (hb : DE X W b tb pb) (hm : behindInMarks .NotIn b = false := by with_unfolding_all rfl) : DT X W (.Compare a [.NotIn] [b] pos) (tB (tDNotIn ta tb)) (qB (qDIn not pa pb)) := ⟨pt_cmp (pc_dnotin (hu_of hr) ha.pe hb.pe) hm, st_tt (se_din (g := not) ha.se hb.se)⟩
/-- d[k] -/
def qDGet (pd py : QE) : QE := fun Γ R E => pd Γ (fun w1 Γ1 => py Γ1 (fun w2 Γ2 => bor w2 Γ2 fun dk => dget w1 Γ2 dk fun o => match o with
  | some d => R (.sh d) Γ2
  | none => False) E) E
theorem d_dget {j : Nat} (hr : Room j X.A) (ha : DE X W a ta pa) (hb : DE X W b tb pb) (hs : NoSl b := by exact fun _ _ => rfl) : DE X W (.Subscript a b pos) (tDGet ta tb) (qDGet pa pb) := ⟨pe_dget (hu_of hr) ha.pe hb.pe hs, fun {B F Γ σ H fp} R EX Q rr h k e => by
  refine se_two ha.se hb.se rr h (Z := fun w1 w2 Γ2 => bor w2 Γ2 fun dk => dget w1 Γ2 dk fun o => match o with
    | some d => R (.sh d) Γ2
    | none => False) (fun w1 w2 Γ' x y F' H' fp' x1 r1 v1 v2 z => ?_) e
  obtain ⟨dk, b1, z⟩ := bor_rb r1 v2 z
  obtain ⟨a, o, rfl, _, gg, z⟩ := dget_ok r1 v1 b1 z
  rcases z with ⟨rfl, z⟩ | ⟨u, x, rfl, hu, z⟩
  · exact z.elim
  · exact ⟨a, u, rfl, gg, k _ Γ' _ F' H' fp' x1 r1 (.sh hu) z⟩⟩
/-- d[k] = v, d an own dict -/
def isOwD : Option Sl → Bool
  | some (.ow (.k _)) => true
  | some (.ow (.t _)) => true
  | _ => false
def qDPut (i : Nat) (py pv : QE) : QS := fun P Γ => pv Γ (fun w Γ1 => shr w Γ1 fun d Γ2 => isOwD Γ2[i]? = true ∧ py Γ2 (fun w2 Γ3 => shr w2 Γ3 fun dk Γ4 => match Γ4[i]? with
  | some (.ow (.k ds)) => keyK dk = true ∧ ds.length < sizeLine ∧ P.nx (Γ4.set i (.ow (.k (putD ds dk d))))
  | some (.ow (.t ds)) => keyT dk = true ∧ ds.length < sizeLine ∧ P.nx (Γ4.set i (.ow (.t (putD ds dk d))))
  | _ => False) P.ex) P.ex
theorem ds_dput (i : Nat) {j : Nat} {x : Str} {px pos' : Pos} (hr : Room j X.A) (hi : DE X W b tb pb) (hv : DE X W e te pe) (hs : swapsWith e (some (.Subscript (.Name x px) b pos')) pos.line X.env = pure false := by rfl) (hN : X.N[i]? = some x := by rfl)
    (hvis : Vis X.env.scope x := by first | exact Or.inl rfl | exact Or.inr (Or.inl rfl) | exact Or.inr (Or.inr rfl)) (hd : (x == ("__debug__" : Str)) = false := by decide) (hcd : (x == ("__classdict__" : Str)) = false := by decide) :
    DS X W (.Assign [.Subscript (.Name x px) b pos'] e pos) (sDPut (tVar i) tb te) (qDPut i pb pe) := ⟨ps_dput (hu_of hr) (pe_var hN hvis hd hcd) hi.pe hv.pe hs, fun {B F Γ σ H fp} P D r q a => by
  refine hv.se _ _ _ r q (fun w Γ1 v F1 H1 fp1 x1 r1 v1 h1 => ?_) a.afe
  obtain ⟨d, Γ2, F2, fp2, x2, r2, b2, ho, h2⟩ := shr_ok r1 v1 h1
  have hσ : ∃ u, σ[i]? = some (some u) := by
    unfold isOwD at ho
    split at ho
    · rename_i q
      obtain ⟨u, z, _⟩ := r2.ow i _ q
      exact ⟨u, z⟩
    · rename_i q
      obtain ⟨u, z, _⟩ := r2.ow i _ q
      exact ⟨u, z⟩
    · cases ho
  obtain ⟨u, hu⟩ := hσ
  refine ⟨u, hu, hi.se _ _ _ r2 h2 (fun w2 Γ3 y F3 H3 fp3 x3 r3 v3 h3 => ?_) (a.mono (x1.trans x2)).afe⟩
  obtain ⟨dk, Γ4, F4, fp4, x4, r4, b4, h4⟩ := shr_ok r3 v3 h3
  have b2' := (b2.mono x3.same).mono x4.same
  have xx := ((x1.trans x2).trans x3).trans x4
  split at h4
  · rename_i ds q
    obtain ⟨h5, h6, h7⟩ := h4
    obtain ⟨ad, H', ea, g, r5⟩ := (r4.putS (v := u) hu b4 b2' h6).1 q h5
    exact ⟨ad, H', ea, g, a.nx _ F4 σ H' fp4 xx r5 h7⟩
  · rename_i ds q
    obtain ⟨h5, h6, h7⟩ := h4
    obtain ⟨ad, H', ea, g, r5⟩ := (r4.putS (v := u) hu b4 b2' h6).2 q h5
    exact ⟨ad, H', ea, g, a.nx _ F4 σ H' fp4 xx r5 h7⟩
  · exact h4.elim⟩
/-- d.get(k), d.get(k, x) -/
def qGet1 (pd py : QE) : QE := fun Γ R E => pd Γ (fun w1 Γ1 => (dic w1 Γ1).isSome = true ∧ py Γ1 (fun w2 Γ2 => bor w2 Γ2 fun dk => dget w1 Γ2 dk fun o => R (.sh (o.getD .none)) Γ2) E) E
theorem d_get1 {j : Nat} {apos : Pos} (hr : Room j X.A) (ha : DE X W a ta pa) (hb : DE X W b tb pb) (m : M1 X a "get" apos b pos := by exact ⟨rfl, rfl, rfl, rfl⟩) : DE X W (.Call (.Attribute a "get" apos) [b] [] pos) (tDGet1 ta tb) (qGet1 pa pb) := ⟨pe_dget1 (hu_of hr) ha.pe hb.pe m, fun {B F Γ σ H fp} R EX Q rr h k e => by
  refine ha.se _ EX _ rr h (fun w1 Γ1 x F1 H1 fp1 x1 r1 v1 h1 => ?_) e
  obtain ⟨hd, h1⟩ := h1
  obtain ⟨⟨bb, ds⟩, hd⟩ := Option.isSome_iff_exists.mp hd
  obtain ⟨a, rfl, d⟩ := dic_ok r1 v1 hd
  refine ⟨a, rfl, dic_isD d, ?_⟩
  obtain ⟨B', r1', g⟩ := r1.guard v1
  refine hb.se _ EX _ r1' h1 (fun w2 Γ2 y F2 H2 fp2 x2 r2 v2 h2 => ?_) fun c Γ' F' H' fp' x2 r2 q => ?_
  · obtain ⟨x3, r3, v3, g2⟩ := g F2 Γ2 H2 fp2 x2 r2
    obtain ⟨dk, b1, z⟩ := bor_rb r3 (g2 _ _ v2) h2
    obtain ⟨a', o, e', _, gg, z⟩ := dget_ok r3 v3 b1 z
    cases e'
    refine ⟨o, gg, ?_⟩
    rcases z with ⟨rfl, z⟩ | ⟨u, x, rfl, hu, z⟩
    · exact k _ Γ2 _ F2 H2 fp2 (x1.trans x3) r3 (.sh .non) z
    · exact k _ Γ2 _ F2 H2 fp2 (x1.trans x3) r3 (.sh hu) z
  · obtain ⟨x3, r3, _, _⟩ := g F' Γ' H' fp' x2 r2
    exact e c Γ' F' H' fp' (x1.trans x3) r3 q⟩
/-- len of a dict -/
def opLenD (w : Wv) (Γ : Ev) (k : Wv → Prop) : Prop := match dic w Γ with
  | some (_, ds) => k (.sh (.int ds.length))
  | none => False
def qLenD (p : QE) : QE := fun Γ R E => p Γ (fun w Γ1 => opLenD w Γ1 fun w' => R w' Γ1) E
def rLenD2 : List V → Hp → VK → Prop := fun xs H Q => (∃ a kvs, xs = [V.ref a] ∧ H a = some (.dK kvs) ∧ Q (.int kvs.length) H) ∨ ∃ (p : Addr) (kvs : List (List Key × V)), xs = [.ref p] ∧ H p = some (.dT kvs) ∧ Q (.int ((kvs.length : Nat) : Int)) H
theorem d_lenD (hm : X.mg "len" = none) (ha : DE X W a ta pa) (hg : Gl X "len" := by rfl) (he : starEach [a] X.env = (false, eval a X.env) :: starEach [] X.env := by rfl) (hpl : (backTo pos (starEach [] X.env)).any (·.1) = false := by rfl) :
    DE X W (.Call (.Name "len" p) [a] [] pos) (tCB rLenD2 (tCons ta tNil)) (qLenD pa) := ⟨pe_callB (CallR.or call_lenD call_len_dT) hg hm PySem.boot_len (pa_cons ha.pe pa_nil he) (by decide) (by decide) he hpl, fun {B F Γ σ H fp} R EX Q rr h k e => by
  refine ha.se _ EX _ rr h (fun w1 Γ1 x F1 H1 fp1 x1 r1 v1 h1 => ?_) e
  unfold opLenD at h1
  split at h1
  · rename_i b ds hd
    obtain ⟨a, rfl, d⟩ := dic_ok r1 v1 hd
    cases b with
    | true =>
      obtain ⟨kvs, e1, t⟩ := d
      exact .inr ⟨a, kvs, rfl, e1, k _ Γ1 _ F1 H1 fp1 x1 r1 (.sh (.int _)) (by rw [t.length]; exact h1)⟩
    | false =>
      obtain ⟨kvs, e1, t⟩ := d
      exact .inl ⟨a, kvs, rfl, e1, k _ Γ1 _ F1 H1 fp1 x1 r1 (.sh (.int _)) (by rw [t.length]; exact h1)⟩
  · exact h1.elim⟩
end
end PL

namespace PL
open PySem PySem.Spec PyProof.Rows L2

/-! ### comprehensions of two clauses -/
def lc2Go (vs vs1 : List Nat) (g : QG) (t : QT) (i1 : QI) (g1 : QG) (t1 : QT) (p : QE) (k : List D → Ev → Prop) : List D → List D → Ev → Prop
  | [], acc, Γ => k acc Γ
  | d :: r, acc, Γ => g (.sh d) Γ fun Γ1 => t Γ1 (fun b Γ2 => Cif b (i1 Γ2 (fun ds1 Γ3 => lcGo vs1 g1 t1 p (fun acc' Γ4 => lc2Go vs vs1 g t i1 g1 t1 p k r acc' (wipEv vs Γ4)) ds1 acc (wipEv vs1 Γ3)) noEX)
      (lc2Go vs vs1 g t i1 g1 t1 p k r acc (wipEv vs Γ2))) noEX
def qLc2 (vs vs1 : List Nat) (i : QI) (g : QG) (t : QT) (i1 : QI) (g1 : QG) (t1 : QT) (p : QE) : QE := fun Γ R E => i Γ (fun ds Γ1 => noOw Γ1 vs = true ∧ lc2Go vs vs1 g t i1 g1 t1 p (fun acc Γ2 => R (.ow (.l acc)) (backEv Γ1 vs Γ2)) ds [] (wipEv vs Γ1)) E
theorem wipe_wipe {σ : L2.St} {vs vs1 : List Nat} (h : ∀ j ∈ vs1, j ∈ vs) : wipe (wipe σ vs1) vs = wipe σ vs := by
  apply List.ext_getElem?
  intro i
  rcases wipe_get (wipe σ vs1) vs i with ⟨h1, q⟩ | ⟨h1, q⟩
  · rcases wipe_get σ vs i with ⟨h2, q'⟩ | ⟨h2, _⟩
    · by_cases hi : i < σ.length
      · have e1 : (wipe (wipe σ vs1) vs)[i]? ≠ none := by
          rw [List.getElem?_eq_getElem (by rw [wipe_length, wipe_length]; omega)]
          exact fun z => nomatch z
        have e2 : (wipe σ vs)[i]? ≠ none := by
          rw [List.getElem?_eq_getElem (by rw [wipe_length]; omega)]
          exact fun z => nomatch z
        rcases q with q | q
        · rcases q' with q' | q'
          · rw [q, q']
          · exact absurd q' e2
        · exact absurd q e1
      · rw [List.getElem?_eq_none (by rw [wipe_length, wipe_length]; omega), List.getElem?_eq_none (by rw [wipe_length]; omega)]
    · exact absurd h1 h2
  · rcases wipe_get σ vs i with ⟨h2, _⟩ | ⟨_, q'⟩
    · exact absurd h2 h1
    · rw [q, q']
      rcases wipe_get σ vs1 i with ⟨h3, _⟩ | ⟨_, q3⟩
      · exact absurd (h i h3) h1
      · exact q3
section
variable {W : WX} {wi wi1 : TI} {qi qi1 : QI} {g g1 : TG} {qg qg1 : QG} {js js1 : List Nat} {tt tt1 : TT} {qt qt1 : QT} {te : TE} {qe : QE} {vs vs1 : List Nat}
theorem se_lc2 (hi : SI W wi qi) (hg : SG g qg js) (ht : ST W0 tt qt) (hi1 : SI W0 wi1 qi1) (hg1 : SG g1 qg1 js1) (ht1 : ST W0 tt1 qt1) (he : SE W0 te qe) (hj : ∀ j ∈ js, j ∈ vs) (hj1 : ∀ j ∈ js1, j ∈ vs1) (hv : ∀ j ∈ vs1, j ∈ vs) :
    SE W (tLc2 wi g tt wi1 g1 tt1 te vs vs1) (qLc2 vs vs1 qi qg qt qi1 qg1 qt1 qe) := fun {B F Γ σ H fp} R EX Q r q k e => by
  refine hi _ _ _ r q (fun ds Γ1 J F1 H1 fp1 x1 r1 ok h1 => ?_) e
  obtain ⟨ho, h1⟩ := h1
  intro Dl hD
  have r2 : Rel B F1 (wipEv vs Γ1) (wipe σ vs) H1 fp1 := r1.wip vs
  obtain ⟨r3, v3⟩ := new_lst r2 (.nil) hD
  generalize hKK : (fun (acc : List D) (Γ2 : Ev) => R (.ow (.l acc)) (backEv Γ1 vs Γ2)) = KK at h1
  refine ⟨fun i m H' => m + i = ds.length ∧ ∃ Γ' F' fp' acc, Ext B F1 F' ∧ Rel B F' Γ' (wipe σ vs) H' fp' ∧ OwnV B F' H' fp' (.ref Dl) (.l acc) ∧
    lc2Go vs vs1 qg qt qi1 qg1 qt1 qe KK (ds.drop i) acc Γ', ⟨ds.length, rfl, _, F1, fp1, [], .refl, r3, v3.own, h1⟩, ?_⟩
  rintro i m H' ⟨hm, Γ', F', fp', acc, x, r', v', hf⟩
  obtain ⟨o1, o2⟩ := ok B F' Γ' _ H' fp' x.same r' i
  by_cases hlt : i < ds.length
  · obtain ⟨B', rB, gd⟩ := r'.hold v'
    obtain ⟨go, yld⟩ := (ok B' F' Γ' _ H' fp' x.same rB i).1 ds[i] (List.getElem?_eq_getElem hlt)
    refine .inr ⟨go, fun H2 => ∃ m', m' < m ∧ (m' + (i + 1) = ds.length ∧ ∃ Γ' F' fp' acc, Ext B F1 F' ∧ Rel B F' Γ' (wipe σ vs) H2 fp' ∧ OwnV B F' H2 fp' (.ref Dl) (.l acc) ∧
      lc2Go vs vs1 qg qt qi1 qg1 qt1 qe KK (ds.drop (i + 1)) acc Γ'), fun H2 h => h, fun y H2 hy => ?_⟩
    obtain ⟨F2, x2, r2, b2⟩ := yld y H2 hy
    rw [List.drop_eq_getElem_cons hlt] at hf
    refine hg _ _ r2 (.sh b2) hf fun Γ3 F3 σ3 fp3 x3 r3 c3 h3 => ?_
    have hw : wipe σ3 vs = wipe σ vs := wipe_chg c3 hj
    refine ⟨hw, ht _ noEX _ r3 h3 (fun b Γ4 F4 H4 fp4 x4 r4 h4 => ?_) afe_no⟩
    have x24 := (x2.trans x3).trans x4
    cases b with
    | true =>
      refine hi1 _ noEX _ r4 (h4.t rfl) (fun ds1 Γ5 J1 F5 H5 fp5 x5 r5 ok1 h5 => ?_) afe_no
      have r5w := r5.wip vs1
      obtain ⟨y5, r5b, v5⟩ := gd F5 _ _ H5 fp5 (x24.trans x5) r5w
      refine ⟨fun i' m' H' => m' + i' = ds1.length ∧ ∃ Γ' F' fp' acc, Ext B F5 F' ∧ Rel B F' Γ' (wipe σ3 vs1) H' fp' ∧ OwnV B F' H' fp' (.ref Dl) (.l acc) ∧
        lcGo vs1 qg1 qt1 qe (fun acc' Γ4 => lc2Go vs vs1 qg qt qi1 qg1 qt1 qe KK (ds.drop (i + 1)) acc' (wipEv vs Γ4)) (ds1.drop i') acc Γ', ⟨ds1.length, rfl, _, F5, fp5, acc, .refl, r5b, v5, h5⟩, ?_⟩
      rintro i' m' Hi ⟨hm', Γi, Fi, fpi, acci, xi, ri, vi, hfi⟩
      obtain ⟨p1, p2⟩ := ok1 B Fi Γi _ Hi fpi xi.same ri i'
      by_cases hlt' : i' < ds1.length
      · obtain ⟨Bi, rBi, gdi⟩ := ri.hold vi
        obtain ⟨goi, yldi⟩ := (ok1 Bi Fi Γi _ Hi fpi xi.same rBi i').1 ds1[i'] (List.getElem?_eq_getElem hlt')
        refine .inr ⟨goi, fun H2 => ∃ m'', m'' < m' ∧ (m'' + (i' + 1) = ds1.length ∧ ∃ Γ' F' fp' acc, Ext B F5 F' ∧ Rel B F' Γ' (wipe σ3 vs1) H2 fp' ∧ OwnV B F' H2 fp' (.ref Dl) (.l acc) ∧
          lcGo vs1 qg1 qt1 qe (fun acc' Γ4 => lc2Go vs vs1 qg qt qi1 qg1 qt1 qe KK (ds.drop (i + 1)) acc' (wipEv vs Γ4)) (ds1.drop (i' + 1)) acc Γ'), fun H2 h => h, fun y H6 hy => ?_⟩
        obtain ⟨F6, x6, r6, b6⟩ := yldi y H6 hy
        rw [List.drop_eq_getElem_cons hlt'] at hfi
        refine hg1 _ _ r6 (.sh b6) hfi fun Γ7 F7 σ7 fp7 x7 r7 c7 h7 => ?_
        have hw1 : wipe σ7 vs1 = wipe σ3 vs1 := wipe_chg c7 hj1
        refine ⟨hw1, ht1 _ noEX _ r7 h7 (fun b Γ8 F8 H8 fp8 x8 r8 h8 => ?_) afe_no⟩
        have x68 := (x6.trans x7).trans x8
        cases b with
        | true =>
          refine he _ noEX _ r8 (h8.t rfl) (fun w9 Γ9 z F9 H9 fp9 x9 r9 v9 h9 => ?_) afe_no
          obtain ⟨d0, Γ0, F0, fp0, x0, r0, b0, hsz, h0⟩ := shr_ok r9 v9 h9
          have r1w := r0.wip vs1
          rw [hw1] at r1w
          obtain ⟨ya, ra, va⟩ := gdi F0 _ _ H9 fp0 ((x68.trans x9).trans x0) r1w
          obtain ⟨xs, e9, l9, rb, vb⟩ := own_app ra va b0
          exact ⟨xs, e9, by rw [l9]; exact hsz, m' - 1, by omega, by omega, _, F0, fp0, _, xi.trans ya, rb, vb, h0⟩
        | false =>
          have r1w := r8.wip vs1
          rw [hw1] at r1w
          obtain ⟨ya, ra, va⟩ := gdi F8 _ _ H8 fp8 x68 r1w
          exact ⟨m' - 1, by omega, by omega, _, F8, fp8, acci, xi.trans ya, ra, va, h8.f rfl⟩
      · refine .inl ⟨p2 (by omega), ?_⟩
        have e0 : ds1.drop i' = [] := List.drop_of_length_le (by omega)
        rw [e0] at hfi
        have rw2 := ri.wip vs
        rw [wipe_wipe hv, hw] at rw2
        exact ⟨m - 1, by omega, by omega, _, Fi, fpi, acci, (x.trans y5).trans xi, rw2, vi, hfi⟩
    | false =>
      have r7 := r4.wip vs
      rw [hw] at r7
      obtain ⟨y8, r8, v8⟩ := gd F4 _ _ H4 fp4 x24 r7
      exact ⟨m - 1, by omega, by omega, _, F4, fp4, acc, x.trans y8, r8, v8, h4.f rfl⟩
  · refine .inl ⟨o2 (by omega), ?_⟩
    rw [List.drop_of_length_le (by omega)] at hf
    subst hKK
    exact k _ _ _ F' H' fp' (x1.trans x) (r1.back ho x.same r') v'.rw hf
end
section
variable {X : Cx} {W : WX} {pos : Pos} {e tg iter tg1 iter1 elt : Expr} {wi wi1 : TI} {qi qi1 : QI} {g g1 : TG} {qg qg1 : QG} {js js1 : List Nat} {tt tt1 : TT} {qt qt1 : QT} {te : TE} {qe : QE} {ifs ifs1 : List Expr} {scope : Scope} {own : List (Str × Nat)}
theorem d_lc2 (vs1 : List Nat) (hc : X.calm = true) (hN : X.N.Nodup) (hi : DI X W tg iter wi qi) (ok : BlkOk X.N X.env.scope scope own)
    (hg : ∀ (s : Shared) (H : Hp) (C : Addr) (cl : List (Str × Addr)) (fp : List Addr), DG (X.blk s H scope (compEnvC scope cl C X.env) fp) tg g qg js)
    (ht : ∀ (s : Shared) (H : Hp) (C : Addr) (cl : List (Str × Addr)) (fp : List Addr), DTs (X.blk s H scope (compEnvC scope cl C X.env) fp) W0 ifs tt qt)
    (hi1 : ∀ (s : Shared) (H : Hp) (C : Addr) (cl : List (Str × Addr)) (fp : List Addr), DI (X.blk s H scope (compEnvC scope cl C X.env) fp) W0 tg1 iter1 wi1 qi1)
    (hg1 : ∀ (s : Shared) (H : Hp) (C : Addr) (cl : List (Str × Addr)) (fp : List Addr), DG (X.blk s H scope (compEnvC scope cl C X.env) fp) tg1 g1 qg1 js1)
    (ht1 : ∀ (s : Shared) (H : Hp) (C : Addr) (cl : List (Str × Addr)) (fp : List Addr), DTs (X.blk s H scope (compEnvC scope cl C X.env) fp) W0 ifs1 tt1 qt1)
    (he : ∀ (s : Shared) (H : Hp) (C : Addr) (cl : List (Str × Addr)) (fp : List Addr), DE (X.blk s H scope (compEnvC scope cl C X.env) fp) W0 elt te qe)
    (hj : (∀ j ∈ js, j ∈ own.map (·.2)) := by decide) (hj1 : (∀ j ∈ js1, j ∈ vs1) := by decide) (hv : (∀ j ∈ vs1, j ∈ own.map (·.2)) := by decide) (hs : ∀ x, foldedSetIterable iter X.env x = pure x := by intro _; rfl) (hs1 : ∀ env x, foldedSetIterable iter1 env x = pure x := by intro _ _; rfl) :
    DE X W (.ListComp elt [⟨tg, iter, ifs, 0⟩, ⟨tg1, iter1, ifs1, 0⟩] scope pos) (tLc2 wi g tt wi1 g1 tt1 te (own.map (·.2)) vs1) (qLc2 (own.map (·.2)) vs1 qi qg qt qi1 qg1 qt1 qe) :=
  ⟨pe_lc2 hc hN hi.pi ok hv (fun s H C cl fp => (hg s H C cl fp).pg) (fun s H C cl fp => (ht s H C cl fp).pt) (fun s H C cl fp => (hi1 s H C cl fp).pi) (fun s H C cl fp => (hg1 s H C cl fp).pg) (fun s H C cl fp => (ht1 s H C cl fp).pt) (fun s H C cl fp => (he s H C cl fp).pe) hs hs1,
   se_lc2 hi.si (hg ({} : Shared) (fun _ => none) 0 [] []).sg (ht ({} : Shared) (fun _ => none) 0 [] []).st (hi1 ({} : Shared) (fun _ => none) 0 [] []).si (hg1 ({} : Shared) (fun _ => none) 0 [] []).sg (ht1 ({} : Shared) (fun _ => none) 0 [] []).st (he ({} : Shared) (fun _ => none) 0 [] []).se hj hj1 hv⟩
end
end PL

namespace PL
open PySem PySem.Spec PyProof.Rows L2

/-! ### dict comprehensions, the keys of either kind -/
/-- the new dict -/
abbrev dic0 (b : Bool) : HO := if b = true then .dT [] else .dK []
theorem dic0_ok {P : Program} {w : World} {H : Hp} {h : Heap} (b : Bool) (hb : sysModules < h.objs.size) : ObjOk P w H (h.push { cls := .type "dict", data := .dict #[] }) h.objs.size (dic0 b) := by
  cases b with
  | true => exact dt_empty h hb
  | false => exact dk_empty h hb
section
variable {X : Cx} {pins : List (Addr × Obj)} {σ : L2.St} {H : Hp} {s : Shared}
theorem put_ok {E : Value → Shared → Prop} {a : Addr} {y v : V} {H' : Hp} {u r : Value} {Q : Unit → Shared → Prop} (hu : X.A.units + 1 < cLine) (I : Inv X pins σ H s) (g : DPut H a y v H') (ry : RelV y u) (rv : RelV v r)
    (h : ∀ s', Inv X pins σ H' s' → Q () s') : wpAny (model X.prog X.w) X.A (dictSet a u r) Q E s := by
  rcases g with ⟨kvs, k, e, rfl, l, rfl⟩ | ⟨kvs, k, b, e, rfl, eb, l, rfl⟩
  · exact d_dictSet I e l ry rv h
  · cases (show u = Value.ref b from ry)
    obtain ⟨zz, hd, xs, rel, dd⟩ := dt_of I.hok e
    have hlen := length_putK kvs k v
    have hx : xs.length = kvs.length := (Paired.length rel).symm
    refine wpAny_dictSet_heap (hsz := by omega) (show X.A.units < cLine by omega) (key_of I.hok eb) dd fun h' dd' hs => h _ ?_
    obtain ⟨q, es, ep, hq, h2, h3, h4, _, h5⟩ := dd'
    have keep : ∀ c ys, H c = some (.tup ys) → upd H a (.dT (putK kvs k v)) c = some (.tup ys) := fun c ys ec => by
      rw [upd_ne (ne_of ec e (fun z => nomatch z))]
      exact ec
    exact d_write I (by rw [e]; exact True.intro) hs ⟨q, hq⟩ ⟨by omega, hd, _, (rel.put k eb rv).keeps keep, q, es, ep, hq, h2, h3, h4, h5⟩
end
def tDcG (b : Bool) (wi : TI) (g : TG) (tt : TT) (tk tv : TE) (vs : List Nat) : TE := fun σ H Q => wi σ H fun J H1 => ∀ D, H1 D = none → ∃ W : Nat → Nat → Hp → Prop, (∃ m, W 0 m (upd H1 D (dic0 b))) ∧ ∀ i m H, W i m H →
  (J.stop i H ∧ Q (.ref D) H) ∨ (J.go i H ∧ ∃ Nx : Hp → Prop, (∀ H', Nx H' → ∃ m', m' < m ∧ W (i + 1) m' H') ∧ ∀ x H', J.yld i H x H' → g x (wipe σ vs) H' fun σ2 H2 => wipe σ2 vs = wipe σ vs ∧ tt σ2 H2 fun c H3 =>
    if c = true then tk σ2 H3 fun y H4 => tv σ2 H4 fun z H5 => ∃ H6, DPut H5 D y z H6 ∧ Nx H6 else Nx H3)
section
variable {X : Cx}
theorem dcG_core {b : Bool} {pins : List (Addr × Obj)} {s : Shared} {σ : L2.St} {H : Hp} {Q : VK} {kx vx tg iter : Expr} {ifs : List Expr} {scope : Scope} {own : List (Str × Nat)} {pos pos' : Pos} {wi : TI} {g : TG} {tt : TT} {tk tv : TE} {use : Option (Value → Sem Unit)} {Qf : Value → Shared → Prop}
    (hu : X.A.units + 1 < cLine) (hc : X.calm = true) (hN : X.N.Nodup) (I : Inv X pins σ H s) (hi : PI X tg iter wi) (ok : BlkOk X.N X.env.scope scope own)
    (hg : ∀ (s : Shared) (H : Hp) (C : Addr) (cl : List (Str × Addr)) (fp : List Addr), PG (X.blk s H scope (compEnvC scope cl C X.env) fp) tg g)
    (ht : ∀ (s : Shared) (H : Hp) (C : Addr) (cl : List (Str × Addr)) (fp : List Addr), PTs (X.blk s H scope (compEnvC scope cl C X.env) fp) ifs tt)
    (hk : ∀ (s : Shared) (H : Hp) (C : Addr) (cl : List (Str × Addr)) (fp : List Addr), PE (X.blk s H scope (compEnvC scope cl C X.env) fp) kx tk)
    (he : ∀ (s : Shared) (H : Hp) (C : Addr) (cl : List (Str × Addr)) (fp : List Addr), PE (X.blk s H scope (compEnvC scope cl C X.env) fp) vx tv) (hs : ∀ x, foldedSetIterable iter X.env x = pure x)
    (h : tDcG b wi g tt tk tv (own.map (·.2)) σ H Q)
    (hR : ∀ D C s' m H', Inv X pins σ H' s' → Q (.ref D) H' → s'.heap.Ns C m → FpOk X pins H' C → compPost (model X.prog X.w) X.A X.xe use Qf (.ref D) C (.ok .next) s') :
    wpAny (model X.prog X.w) X.A (comprehension (.DictComp kx vx [⟨tg, iter, ifs, 0⟩] scope pos) scope X.env pos' newDict false (eval iter X.env) use) Qf X.xe s := by
  have free : ∀ y ∈ scope.names, y.2 = .free → ∃ c, X.env.cells.lookup y.1 = some c := fun y hy e => (ok.free y hy e).elim (fun k => I.ok.has _ (.inl k)) fun k => I.ok.has _ (.inr k)
  refine wpAny_comprehension_free (use := use) rfl hs (closure_ok free) ok.kind (fun y hy e => by rw [ok.uniq y hy, e])
    (thn (hi.run pins s σ H _ I h) fun _ _ hx => thn hx fun _ s2 ⟨it, fp, tn, J, H2, e, I2, T, st2, f2, q⟩ => ?_)
  subst e
  refine wpAny_newObj_type (newEnv_comp ?_)
  let Da := s2.heap.objs.size
  have nD : H2 Da = none := I2.hok.fresh (Nat.le_refl _)
  obtain ⟨W, ⟨m0, w0⟩, turn⟩ := q Da nD
  let s3 : Shared := { s2 with heap := s2.heap.push { cls := .type "dict", data := .dict #[] } }
  let H3 : Hp := upd H2 Da (dic0 b)
  have I3 : Inv X pins σ H3 s3 := I2.laid (t' := s2.toks) (fun _ _ e => Heap.get?_push_of_some _ e) (Nat.le_refl _) (dic0_ok b I2.big)
  have lt2 : ∀ c ∈ fp, c < s2.heap.objs.size := fun c hc => let ⟨_, e, _⟩ := T.obj _ _ st2 c hc; Heap.lt_size e
  have f3 : ∀ c ∈ fp, FpOk X pins H3 c ∧ c < s3.heap.objs.size := fun c hc => ⟨⟨(upd_ne (Nat.ne_of_lt (lt2 c hc))).trans (f2 c hc).1, (f2 c hc).2⟩, by
    show c < (s2.heap.push _).objs.size
    rw [Heap.size_push]
    exact Nat.lt_succ_of_lt (lt2 c hc)⟩
  have st3 : tn 0 s3.heap := T.keep _ _ _ st2 fun _ _ _ e => Heap.get?_push_of_some _ e
  have I4 := block_start I3 ok hN f3
  let cl := cellsFrom (s3.heap.objs.size + 1) scope.names (cloFrom X.env.cells scope.names [])
  have pg := hg s3 H3 s3.heap.objs.size cl fp
  have pt := ht s3 H3 s3.heap.objs.size cl fp
  have pk := hk s3 H3 s3.heap.objs.size cl fp
  have pe := he s3 H3 s3.heap.objs.size cl fp
  let ce := compEnvC scope cl s3.heap.objs.size X.env
  let s4 : Shared := { s3 with heap := pushCells (s3.heap.push { cls := .type "dict", data := .dict #[] }) scope.names }
  show codeAny _ _ (.compStart (.DictComp kx vx [⟨tg, iter, ifs, 0⟩] scope pos) 0 (.ref it) (.ref Da) ce) (compPost (model X.prog X.w) X.A X.xe use Qf (.ref Da) s3.heap.objs.size) s4
  have st4 : tn 0 s4.heap := T.keep _ _ _ st3 fun _ _ _ e => pushCells_keeps _ _ _ _ (Heap.get?_push_of_some _ e)
  have stat : ∀ {σ' : L2.St} {H' : Hp} {s' : Shared}, Inv (X.blk s3 H3 scope ce fp) [] σ' H' s' → (∀ c ∈ fp, H' c = none) → ∀ c ∈ fp, FpOk (X.blk s3 H3 scope ce fp) [] H' c := fun {σ' H' s'} I' hn c hc =>
    ⟨hn c hc, (I'.ok.exf c hc).1, I'.ok.exfs c hc, .inl hc, fun x d e => (I'.ok.exf c hc).2 x d e, fun p hp => absurd (show p ∈ ([] : List (Addr × Obj)) ++ [] from hp) (by simp)⟩
  have loop : codeAny (model X.prog X.w) X.A (.compLoop (.DictComp kx vx [⟨tg, iter, ifs, 0⟩] scope pos) 0 (.ref it) (.ref Da) ce) (compPost (model X.prog X.w) X.A X.xe use Qf (.ref Da) s3.heap.objs.size) s4 := by
    refine compLoop_anyD (fun n s' => ∃ i H', Inv (X.blk s3 H3 scope ce fp) [] (wipe σ (own.map (·.2))) H' s' ∧ tn i s'.heap ∧ (∀ c ∈ fp, H' c = none) ∧ W i n H') ?_ m0 ⟨0, H3, I4, st4, fun c hc => (f3 c hc).1.1, w0⟩
    rintro n s5 ⟨i, H5, I5, st5, n5, w5⟩
    rcases turn i n H5 w5 with ⟨stop, qq⟩ | ⟨go, Nx, hNx, step⟩
    · refine thnF (T.done (X.blk s3 H3 scope ce fp) rfl rfl rfl hc i [] s5 _ H5 (fun _ _ => False) I5 (stat I5 n5) st5 stop) fun r s6 ⟨hr, I6⟩ => ?_
      subst hr
      obtain ⟨m, hn, _⟩ := I6.loc
      exact hR Da s3.heap.objs.size s6 m H5 (I3.call' (ch := fp) I6.os I6.base I6.hok I6.bare fun c hc => ⟨(f3 c hc).1.2.2.2.1, (f3 c hc).1.2.1, (f3 c hc).1.2.2.2.2.1, (f3 c hc).1.2.2.2.2.2⟩) qq hn (I3.fpOk (Nat.le_refl _) I6.free)
    · refine thnF (T.item (X.blk s3 H3 scope ce fp) rfl rfl rfl hc i [] s5 _ H5 (fun _ _ => False) I5 (stat I5 n5) st5 go) fun r s6 ⟨u, hr, h6⟩ => ?_
      subst hr
      refine thnF h6 fun _ s7 ⟨x, H7, I7, r7, y7, st7, n7⟩ => ?_
      refine thnF (pg.run _ s7 _ H7 x u _ (I7.pinned (stat I7 n7) (T.obj _ _ st7)) r7 (step x H7 y7)) fun _ s8 ⟨σ8, H8, I8, hw8, q8⟩ => ?_
      have fin : ∀ {s' : Shared} {H' : Hp}, Inv (X.blk s3 H3 scope ce fp) ([] ++ pinsAt fp s7.heap) σ8 H' s' → Nx H' → ∃ m, m < n ∧ ∃ i H', Inv (X.blk s3 H3 scope ce fp) [] (wipe σ (own.map (·.2))) H' s' ∧ tn i s'.heap ∧ (∀ c ∈ fp, H' c = none) ∧ W i m H' := fun {s' H'} I' nx => by
        obtain ⟨m', hm, w'⟩ := hNx H' nx
        have pinned : ∀ c ∈ fp, ∀ o, s7.heap.get? c = some o → s'.heap.get? c = some o ∧ H' c = none := fun c hc o e =>
          let z := I'.pin (c, o) (List.mem_append_right _ (List.mem_append_right _ (mem_pinsAt hc e)))
          ⟨z.1, z.2.1⟩
        refine ⟨m', hm, i + 1, H', (I'.unpinned (pins := [])).weak (by rw [← hw8, wipe_length]) (fun j v e => ?_), T.keep _ _ _ st7 fun c hc o e => (pinned c hc o e).1, fun c hc => ?_, w'⟩
        · rw [← hw8] at e
          exact (wipe_some e).1
        · obtain ⟨o, e, _⟩ := T.obj _ _ st7 c hc
          exact (pinned c hc o e).2
      refine thnF (pt.run _ s8 σ8 H8 _ I8 q8) fun c s9 ⟨H9, I9, q9⟩ => ?_
      cases c with
      | false => exact fin I9 q9
      | true =>
        refine thnF (pk.run _ s9 σ8 H9 _ I9 q9) fun _ s10 ⟨yk, H10, I10, r10, q10⟩ => ?_
        refine thnF (pe.run _ s10 σ8 H10 _ I10 q10) fun _ s11 ⟨yv, H11, I11, r11, H12, put, nx⟩ => ?_
        exact put_ok (X := X.blk s3 H3 scope ce fp) hu I11 put r10 r11 fun s12 I12 => fin I12 nx
  exact codeAny_compStart_dict loop (T.self X.A 0 _ _ _ st4 loop)
theorem pe_dcG {b : Bool} {kx vx tg iter : Expr} {ifs : List Expr} {scope : Scope} {own : List (Str × Nat)} {pos : Pos} {wi : TI} {g : TG} {tt : TT} {tk tv : TE} (hu : X.A.units + 1 < cLine) (hc : X.calm = true) (hN : X.N.Nodup) (hi : PI X tg iter wi) (ok : BlkOk X.N X.env.scope scope own)
    (hg : ∀ (s : Shared) (H : Hp) (C : Addr) (cl : List (Str × Addr)) (fp : List Addr), PG (X.blk s H scope (compEnvC scope cl C X.env) fp) tg g)
    (ht : ∀ (s : Shared) (H : Hp) (C : Addr) (cl : List (Str × Addr)) (fp : List Addr), PTs (X.blk s H scope (compEnvC scope cl C X.env) fp) ifs tt)
    (hk : ∀ (s : Shared) (H : Hp) (C : Addr) (cl : List (Str × Addr)) (fp : List Addr), PE (X.blk s H scope (compEnvC scope cl C X.env) fp) kx tk)
    (he : ∀ (s : Shared) (H : Hp) (C : Addr) (cl : List (Str × Addr)) (fp : List Addr), PE (X.blk s H scope (compEnvC scope cl C X.env) fp) vx tv) (hs : ∀ x, foldedSetIterable iter X.env x = pure x := by intro _; rfl) :
    PE X (.DictComp kx vx [⟨tg, iter, ifs, 0⟩] scope pos) (tDcG b wi g tt tk tv (own.map (·.2))) := ⟨fun pins s σ H Q I h => by
  rw [arm_eval_DictComp]
  refine dcG_core hu hc hN I hi ok hg ht hk he hs h fun D C s' m H' I' q hn ⟨f0, f1, f2, f3, f4, f5⟩ => ⟨m, hn, fun h'' sb => ?_⟩
  exact ⟨.ref D, H', I'.turned (t' := s'.toks) (fun b o hb e => (sb.2 b hb).trans e) f0 f1 f3 f4 f5, rfl, q⟩⟩
end

abbrev dicO (b : Bool) (ds : List (D × D)) : O := if b = true then .t ds else .k ds
section
variable {B F : Hp} {Γ : Ev} {σ : L2.St} {H : Hp} {fp : Nat → List Addr}
theorem own_put {b : Bool} {Da : Addr} {acc : List (D × D)} {y z : V} {k v : D} (r : Rel B F Γ σ H fp) (h : OwnV B F H fp (.ref Da) (dicO b acc)) (hy : Rp F y k) (hz : Rp F z v) (hk : (if b = true then keyT k else keyK k) = true) (hl : acc.length < sizeLine) :
    ∃ H', DPut H Da y z H' ∧ Rel B F Γ σ H' fp ∧ OwnV B F H' fp (.ref Da) (dicO b (putD acc k v)) := by
  obtain ⟨f, h, hf⟩ := h
  have gen : ∀ u, Da ∈ f → Rel B F Γ σ (upd H Da u) fp := fun u hm => by
    obtain ⟨b1, b2, b3⟩ := hf Da hm
    refine ⟨fun a o q => ?_, fun a o q => ?_, r.len, r.sh, fun i o q => ?_, fun i a ha => ?_, r.dj, r.ex⟩
    · rw [upd_ne fun z => by subst z; rw [b1] at q; cases q]
      exact r.bx a o q
    · rw [upd_ne fun z => by subst z; rw [b2] at q; cases q]
      exact r.fx a o q
    · obtain ⟨v, h1, h2⟩ := r.ow i o q
      exact ⟨v, h1, h2.mono (Same.refl F) fun a ha => upd_ne fun z => b3 i (by rw [← z]; exact ha)⟩
    · obtain ⟨c1, c2, c3⟩ := r.nb i a ha
      refine ⟨c1, c2, ?_⟩
      rw [upd_ne fun z => b3 i (by rw [← z]; exact ha)]
      exact c3
  cases b with
  | true =>
    cases h with
    | @t a kvs ds e t =>
      obtain ⟨q, ks, rfl, e2, rfl⟩ := hy.keyT hk
      exact ⟨_, .t e (r.fx _ _ e2) (by rw [t.length]; exact hl), gen _ (by simp), [Da], .t upd_same (t.put hz), hf⟩
  | false =>
    cases h with
    | @k a kvs ds e t =>
      obtain ⟨ks, rfl, rfl⟩ := hy.keyK hk
      exact ⟨_, .k e (by rw [t.length]; exact hl), gen _ (by simp), [Da], .k upd_same (t.put hz), hf⟩
theorem new_d (b : Bool) {p : Addr} (r : Rel B F Γ σ H fp) (hp : H p = none) : Rel B F Γ σ (upd H p (dic0 b)) fp ∧ OwnV B F (upd H p (dic0 b)) fp (.ref p) (dicO b []) := by
  cases b with
  | true =>
    obtain ⟨r', v'⟩ := new_t r hp
    exact ⟨r', v'.own⟩
  | false =>
    obtain ⟨r', v'⟩ := new_k r hp
    exact ⟨r', v'.own⟩
end
def dcGo (b : Bool) (vs : List Nat) (g : QG) (t : QT) (pk pv : QE) (k : List (D × D) → Ev → Prop) : List D → List (D × D) → Ev → Prop
  | [], acc, Γ => k acc Γ
  | d :: r, acc, Γ => g (.sh d) Γ fun Γ1 => t Γ1 (fun c Γ2 => Cif c (pk Γ2 (fun w Γ3 => shr w Γ3 fun dk Γ4 => pv Γ4 (fun w Γ5 => shr w Γ5 fun dv Γ6 => (if b = true then keyT dk else keyK dk) = true ∧ acc.length < sizeLine ∧
      dcGo b vs g t pk pv k r (putD acc dk dv) (wipEv vs Γ6)) noEX) noEX) (dcGo b vs g t pk pv k r acc (wipEv vs Γ2))) noEX
def qDc (b : Bool) (vs : List Nat) (i : QI) (g : QG) (t : QT) (pk pv : QE) : QE := fun Γ R E => i Γ (fun ds Γ1 => noOw Γ1 vs = true ∧ dcGo b vs g t pk pv (fun acc Γ2 => R (.ow (dicO b acc)) (backEv Γ1 vs Γ2)) ds [] (wipEv vs Γ1)) E
section
variable {W : WX} {b : Bool} {wi : TI} {qi : QI} {g : TG} {qg : QG} {js : List Nat} {tt : TT} {qt : QT} {tk tv : TE} {qk qv : QE} {vs : List Nat}
theorem se_dc (hi : SI W wi qi) (hg : SG g qg js) (ht : ST W0 tt qt) (hk : SE W0 tk qk) (hv : SE W0 tv qv) (hj : ∀ j ∈ js, j ∈ vs) : SE W (tDcG b wi g tt tk tv vs) (qDc b vs qi qg qt qk qv) := fun {B F Γ σ H fp} R EX Q r q k e => by
  refine hi _ _ _ r q (fun ds Γ1 J F1 H1 fp1 x1 r1 ok h1 => ?_) e
  obtain ⟨ho, h1⟩ := h1
  intro Dl hD
  have r2 : Rel B F1 (wipEv vs Γ1) (wipe σ vs) H1 fp1 := r1.wip vs
  obtain ⟨r3, v3⟩ := new_d b r2 hD
  generalize hKK : (fun (acc : List (D × D)) (Γ2 : Ev) => R (.ow (dicO b acc)) (backEv Γ1 vs Γ2)) = KK at h1
  refine ⟨fun i m H' => m + i = ds.length ∧ ∃ Γ' F' fp' acc, Ext B F1 F' ∧ Rel B F' Γ' (wipe σ vs) H' fp' ∧ OwnV B F' H' fp' (.ref Dl) (dicO b acc) ∧
    dcGo b vs qg qt qk qv KK (ds.drop i) acc Γ', ⟨ds.length, rfl, _, F1, fp1, [], .refl, r3, v3, h1⟩, ?_⟩
  rintro i m H' ⟨hm, Γ', F', fp', acc, x, r', v', hf⟩
  obtain ⟨o1, o2⟩ := ok B F' Γ' _ H' fp' x.same r' i
  by_cases hlt : i < ds.length
  · obtain ⟨B', rB, gd⟩ := r'.hold v'
    obtain ⟨go, yld⟩ := (ok B' F' Γ' _ H' fp' x.same rB i).1 ds[i] (List.getElem?_eq_getElem hlt)
    refine .inr ⟨go, fun H2 => ∃ m', m' < m ∧ (m' + (i + 1) = ds.length ∧ ∃ Γ' F' fp' acc, Ext B F1 F' ∧ Rel B F' Γ' (wipe σ vs) H2 fp' ∧ OwnV B F' H2 fp' (.ref Dl) (dicO b acc) ∧
      dcGo b vs qg qt qk qv KK (ds.drop (i + 1)) acc Γ'), fun H2 h => h, fun y H2 hy => ?_⟩
    obtain ⟨F2, x2, r2, b2⟩ := yld y H2 hy
    rw [List.drop_eq_getElem_cons hlt] at hf
    refine hg _ _ r2 (.sh b2) hf fun Γ3 F3 σ3 fp3 x3 r3 c3 h3 => ?_
    have hw : wipe σ3 vs = wipe σ vs := wipe_chg c3 hj
    refine ⟨hw, ht _ noEX _ r3 h3 (fun c Γ4 F4 H4 fp4 x4 r4 h4 => ?_) afe_no⟩
    have x24 := (x2.trans x3).trans x4
    cases c with
    | true =>
      refine hk _ noEX _ r4 (h4.t rfl) (fun w5 Γ5 zk F5 H5 fp5 x5 r5 v5 h5 => ?_) afe_no
      obtain ⟨d6, Γ6, F6, fp6, x6, r6, b6, h6⟩ := shr_ok r5 v5 h5
      refine hv _ noEX _ r6 h6 (fun w7 Γ7 zv F7 H7 fp7 x7 r7 v7 h7 => ?_) afe_no
      obtain ⟨d8, Γ8, F8, fp8, x8, r8, b8, hkk, hsz, h8⟩ := shr_ok r7 v7 h7
      have rw8 := r8.wip vs
      rw [hw] at rw8
      obtain ⟨y9, r9, v9⟩ := gd F8 _ _ H7 fp8 ((((x24.trans x5).trans x6).trans x7).trans x8) rw8
      obtain ⟨H10, put, r10, v10⟩ := own_put r9 v9 ((b6.mono x7.same).mono x8.same) b8 hkk hsz
      exact ⟨H10, put, m - 1, by omega, by omega, _, F8, fp8, _, x.trans y9, r10, v10, h8⟩
    | false =>
      have r7 := r4.wip vs
      rw [hw] at r7
      obtain ⟨y8, r8, v8⟩ := gd F4 _ _ H4 fp4 x24 r7
      exact ⟨m - 1, by omega, by omega, _, F4, fp4, acc, x.trans y8, r8, v8, h4.f rfl⟩
  · refine .inl ⟨o2 (by omega), ?_⟩
    rw [List.drop_of_length_le (by omega)] at hf
    subst hKK
    exact k _ _ _ F' H' fp' (x1.trans x) (r1.back ho x.same r') v'.rw hf
end
section
variable {X : Cx} {W : WX} {pos : Pos} {kx vx tg iter : Expr} {wi : TI} {qi : QI} {g : TG} {qg : QG} {js : List Nat} {tt : TT} {qt : QT} {tk tv : TE} {qk qv : QE} {ifs : List Expr} {scope : Scope} {own : List (Str × Nat)}
theorem d_dc (b : Bool) {j : Nat} (hr : Room j X.A) (hc : X.calm = true) (hN : X.N.Nodup) (hi : DI X W tg iter wi qi) (ok : BlkOk X.N X.env.scope scope own)
    (hg : ∀ (s : Shared) (H : Hp) (C : Addr) (cl : List (Str × Addr)) (fp : List Addr), DG (X.blk s H scope (compEnvC scope cl C X.env) fp) tg g qg js)
    (ht : ∀ (s : Shared) (H : Hp) (C : Addr) (cl : List (Str × Addr)) (fp : List Addr), DTs (X.blk s H scope (compEnvC scope cl C X.env) fp) W0 ifs tt qt)
    (hk : ∀ (s : Shared) (H : Hp) (C : Addr) (cl : List (Str × Addr)) (fp : List Addr), DE (X.blk s H scope (compEnvC scope cl C X.env) fp) W0 kx tk qk)
    (he : ∀ (s : Shared) (H : Hp) (C : Addr) (cl : List (Str × Addr)) (fp : List Addr), DE (X.blk s H scope (compEnvC scope cl C X.env) fp) W0 vx tv qv) (hj : (∀ j ∈ js, j ∈ own.map (·.2)) := by decide) (hs : ∀ x, foldedSetIterable iter X.env x = pure x := by intro _; rfl) :
    DE X W (.DictComp kx vx [⟨tg, iter, ifs, 0⟩] scope pos) (tDcG b wi g tt tk tv (own.map (·.2))) (qDc b (own.map (·.2)) qi qg qt qk qv) :=
  ⟨pe_dcG (hu_of hr) hc hN hi.pi ok (fun s H C cl fp => (hg s H C cl fp).pg) (fun s H C cl fp => (ht s H C cl fp).pt) (fun s H C cl fp => (hk s H C cl fp).pe) (fun s H C cl fp => (he s H C cl fp).pe) hs,
   se_dc hi.si (hg ({} : Shared) (fun _ => none) 0 [] []).sg (ht ({} : Shared) (fun _ => none) 0 [] []).st (hk ({} : Shared) (fun _ => none) 0 [] []).se (he ({} : Shared) (fun _ => none) 0 [] []).se hj⟩
end
end PL

namespace PL
open PySem PySem.Spec PyProof.Rows L2

/-! ### methods of texts -/
def isStr : D → Prop
  | .str _ => True
  | _ => False
theorem Rb.isStr {F H : Hp} {v : V} {d : D} (h : Rb F H v d) (q : PL.isStr d) : ∃ a, v = .str a := by
  cases h with
  | str x _ => exact ⟨x, rfl⟩
  | _ => exact q.elim
def qM0 (o : OP1) (pa : QE) : QE := fun Γ R E => pa Γ (fun w1 Γ1 => bor w1 Γ1 isStr ∧ bor w1 Γ1 fun d1 => o d1 fun w => R w Γ1) E
def qM1 (o : OP2) (pa pb : QE) : QE := fun Γ R E => pa Γ (fun w1 Γ1 => bor w1 Γ1 isStr ∧ pb Γ1 (fun w2 Γ2 => bor w1 Γ2 fun d1 => bor w2 Γ2 fun d2 => o d1 d2 fun w => R w Γ2) E) E
section
variable {X : Cx} {W : WX} {pos p : Pos} {a b e f : Expr} {ta tb te tf : TE} {pa pb pe pf : QE}
theorem se_m0 {r : V → List V → Hp → VK → Prop} {o : OP1} (hs : UnS (fun x H Q => r x [] H Q) o) (ha : SE W ta pa) : SE W (tM0 r ta) (qM0 o pa) := fun {B F Γ σ H fp} R EX Q rr h k e => by
  refine ha _ EX _ rr h (fun w1 Γ1 x F1 H1 fp1 x1 r1 v1 h1 => ?_) e
  obtain ⟨d, b, z⟩ := bor_rb r1 v1 h1.1
  obtain ⟨d1, b1, z1⟩ := bor_rb r1 v1 h1.2
  exact ⟨b.isStr z, hs _ Q r1 b1 z1 fun w v F2 H2 x2 r2 q2 kk => k w Γ1 v F2 H2 fp1 (x1.trans x2) r2 q2 kk⟩
theorem se_m1 {r : V → List V → Hp → VK → Prop} {o : OP2} (hs : OpS (fun x y H Q => r x [y] H Q) o) (ha : SE W ta pa) (hb : SE W tb pb) : SE W (tM1 r ta tb) (qM1 o pa pb) := fun {B F Γ σ H fp} R EX Q rr h k e => by
  refine ha _ EX _ rr h (fun w1 Γ1 x F1 H1 fp1 x1 r1 v1 h1 => ?_) e
  obtain ⟨d, b, z⟩ := bor_rb r1 v1 h1.1
  obtain ⟨B', r1', g⟩ := r1.guard v1
  refine ⟨b.isStr z, hb _ EX _ r1' h1.2 (fun w2 Γ2 y F2 H2 fp2 x2 r2 v2 h2 => ?_) fun c Γ' F' H' fp' x2 r2 q => ?_⟩
  · obtain ⟨x3, r3, v3, g3⟩ := g F2 Γ2 H2 fp2 x2 r2
    obtain ⟨d1, b1, z1⟩ := bor_rb r3 v3 h2
    obtain ⟨d2, b2, z2⟩ := bor_rb r3 (g3 _ _ v2) z1
    exact hs _ Q r3 b1 b2 z2 fun w v F' H' x' r' q' kk => k w Γ2 v F' H' fp2 ((x1.trans x3).trans x') r' q' kk
  · obtain ⟨x5, r5, _, _⟩ := g F' Γ' H' fp' x2 r2
    exact e c Γ' F' H' fp' (x1.trans x5) r5 q
/-- text.index(sign) -/
def opIndex : OP2 := fun d1 d2 k => match d1, d2 with
  | .str x, .str y => (match y.cps.toList with
    | [c] => (match x.cps.toList.idxOf? c with
      | some i => k (.sh (.int (i : Nat)))
      | none => False)
    | _ => False)
  | _, _ => False
theorem occ_one {x : Str} {c i : Nat} (h : x.cps.toList.idxOf? c = some i) : ∃ r, Builtin.Str.occurrences x ⟨#[c]⟩ 0 x.length 1 = i :: r := by
  rw [List.idxOf?, List.findIdx?_eq_some_iff_getElem] at h
  obtain ⟨hl, hc, hn⟩ := h
  have hi : x.cps.toList[i]? = some c := by
    rw [List.getElem?_eq_getElem hl]
    exact congrArg some (eq_of_beq hc)
  rcases StrLaws.occ_head x ⟨#[c]⟩ 1 (Nat.le_refl 1) with ⟨_, h0⟩ | ⟨j, r, h0, h1, h2⟩
  · exact absurd ((StrLaws.subAt_one x c i).mpr hi) (h0 i)
  · refine ⟨r, ?_⟩
    rw [h0]
    have hj := (StrLaws.subAt_one x c j).mp h1
    have e : j = i := by
      rcases Nat.lt_trichotomy j i with q | q | q
      · have := hn j q
        obtain ⟨hjl, hjc⟩ := List.getElem?_eq_some_iff.mp hj
        rw [hjc] at this
        simp at this
      · exact q
      · exact absurd ((StrLaws.subAt_one x c i).mpr hi) (h2 i q)
    rw [e]
theorem os_index : OpS (fun x y H Q => (fun x xs H Q => ∃ a b i rest, x = V.str a ∧ xs = [V.str b] ∧ Builtin.Str.occurrences a b 0 a.length 1 = i :: rest ∧ Q (.int (i : Nat)) H) x [y] H Q) opIndex := fun {B F Γ σ H fp x y d1 d2} k Q r b1 b2 z c => by
  cases b1 with
  | str a ha =>
    cases b2 with
    | str b hb =>
      unfold opIndex at z
      simp only at z
      split at z
      · rename_i cc hcc
        split at z
        · rename_i i hi
          obtain ⟨rr, ho⟩ := occ_one hi
          have eb : b = ⟨#[cc]⟩ := by
            cases b with
            | mk cps =>
              cases cps with
              | mk l =>
                simp only at hcc
                subst hcc
                rfl
          subst eb
          exact ⟨a, _, i, rr, rfl, rfl, ho, op_sc r (.int _) c z⟩
        · exact z.elim
      · exact z.elim
    | _ => exact z.elim
  | _ => cases b2 <;> exact z.elim
theorem d_index {apos : Pos} (ha : DE X W a ta pa) (hb : DE X W b tb pb) (hs : starEach [b] X.env = [(false, eval b X.env)] := by rfl) (hbase : attributeBase a "index" X.env (eval a X.env) = eval a X.env := by rfl) (hline : (apos.endLine == pos.line) = true := by rfl) :
    DE X W (.Call (.Attribute a "index" apos) [b] [] pos) (tM1 (fun x xs H Q => ∃ a b i rest, x = V.str a ∧ xs = [V.str b] ∧ Builtin.Str.occurrences a b 0 a.length 1 = i :: rest ∧ Q (.int (i : Nat)) H) ta tb) (qM1 opIndex pa pb) :=
  ⟨pe_m1 F.slot_str_index F.type_str_index mt_sindex ha.pe hb.pe hs hbase hline, se_m1 os_index ha.se hb.se⟩
/-- sep.join(texts) -/
def joinOf (x : Str) (ds : List D) (k : Wv → Prop) : Prop := match strsOf ds with
  | some ys => (ys.map (·.length)).sum + ys.length * x.length ≤ 16777216 ∧ k (.sh (.str (Str.join x ys)))
  | none => False
def opJoin : OP2 := fun d1 d2 k => match d1, d2 with
  | .str x, .list ds => joinOf x ds k
  | .str x, .tuple ds => joinOf x ds k
  | _, _ => False
theorem strOk_iff {x : Str} : PyData.strOk x = true ↔ ∀ c ∈ x.cps.toList, c < 0x110000 := by
  unfold PyData.strOk
  rw [Array.all_eq_true']
  simp
theorem strOk_join {x : Str} (hx : PyData.strOk x = true) : ∀ {ys : List Str}, (∀ y ∈ ys, PyData.strOk y = true) → PyData.strOk (Str.join x ys) = true
  | [], _ => by
    show (#[] : Array Nat).all _ = true
    simp
  | [y], h => h y (by simp)
  | y :: z :: r, h => by
    show PyData.strOk (y ++ x ++ Str.join x (z :: r)) = true
    exact strOk_app (strOk_app (h y (by simp)) hx) (strOk_join hx fun w hw => h w (List.mem_cons_of_mem _ hw))
abbrev rJoin (K : PySem.W.Frag) : V → List V → Hp → VK → Prop := fun x xs H Q => ∃ a p, ∃ ys : List Str, x = .str a ∧ xs = [.ref p] ∧ (SqL K H p (ys.map V.str) ∨ SqT K H p (ys.map V.str)) ∧
    (ys.map (·.length)).sum + ys.length * a.length ≤ 16777216 ∧ Q (.str (Txt.join a ys)) H
theorem os_join {K : PySem.W.Frag} : OpS (fun x y H Q => rJoin K x [y] H Q) opJoin := fun {B F Γ σ H fp x y d1 d2} k Q r b1 b2 z c => by
  cases b1 with
  | str a ha =>
    have fin : ∀ {vs : List V} {ds : List D} {q : Addr}, RpA F vs ds → joinOf a ds k → (∀ ys : List Str, vs = ys.map V.str → (SqL K H q (ys.map V.str) ∨ SqT K H q (ys.map V.str))) → rJoin K (.str a) [.ref q] H Q := by
      intro vs ds q t z hq
      unfold joinOf at z
      split at z
      · rename_i ys hy
        obtain ⟨e1, e2⟩ := strs_rp t hy
        refine ⟨a, q, ys, rfl, rfl, hq ys e1, z.1, ?_⟩
        rw [TL.join_eq]
        exact op_sc r (.str _ (strOk_join ha e2)) c z.2
      · exact z.elim
    cases b2 with
    | @lst q xs ds e t => exact fin t z fun ys e1 => .inl (.inl (.inl (by rw [← e1]; exact e)))
    | @tup q xs ds e0 e t => exact fin t z fun ys e1 => .inr (.inl (.inl (by rw [← e1]; exact e)))
    | _ => exact z.elim
  | _ => cases b2 <;> exact z.elim
theorem d_join {apos : Pos} (ha : DE X W a ta pa) (hb : DE X W b tb pb) (hs : starEach [b] X.env = [(false, eval b X.env)] := by rfl) (hbase : attributeBase a "join" X.env (eval a X.env) = eval a X.env := by rfl) (hline : (apos.endLine == pos.line) = true := by rfl) :
    DE X W (.Call (.Attribute a "join" apos) [b] [] pos) (tM1 (rJoin X.K) ta tb) (qM1 opJoin pa pb) :=
  ⟨pe_join ha.pe hb.pe hs hbase hline, se_m1 os_join ha.se hb.se⟩
end

/-! ### xs[i] = e, xs an own list -/
def qSetIx (i : Nat) (pi pe : QE) : QS := fun P Γ => pe Γ (fun w Γ1 => shr w Γ1 fun d Γ2 => isOwL Γ2[i]? = true ∧ pi Γ2 (fun w2 Γ3 => bor w2 Γ3 fun d2 => match d2 with
  | .int j => (match Γ3[i]? with
    | some (.ow (.l ds)) => (match ixN ds.length j with
      | some n => P.nx (Γ3.set i (.ow (.l (ds.set n d))))
      | none => False)
    | _ => False)
  | _ => False) P.ex) P.ex
section
variable {X : Cx} {W : WX} {pos p : Pos} {a b e f : Expr} {ta tb te tf : TE} {pa pb pe pf : QE}
theorem ss_setIx {i : Nat} (ha : SE W ta pa) (he : SE W te pe) : SS W (tAsg te (gSub (tVar i) ta rSetL)) (qSetIx i pa pe) := fun {B F Γ σ H fp} P D r q h => by
  refine he _ _ _ r q (fun w Γ1 y F1 H1 fp1 x1 r1 v1 h1 => ?_) h.afe
  obtain ⟨d, Γ2, F2, fp2, x2, r2, b2, h2, h3⟩ := shr_ok r1 v1 h1
  obtain ⟨v, g1, g2⟩ := own_ty (K := (default : PySem.W.Frag)) r2 h2
  refine ⟨v, g1, ha _ _ _ r2 h3 (fun w2 Γ3 z F3 H3 fp3 x3 r3 v3 h4 => ?_) (h.afe.mono (x1.trans x2))⟩
  obtain ⟨d2, bd, h5⟩ := bor_rb r3 v3 h4
  split at h5
  · rename_i j
    split at h5
    · rename_i ds hd
      split at h5
      · rename_i n hn
        cases bd
        obtain ⟨u, z1, z2⟩ := r3.ow i _ hd
        rw [g1] at z1
        cases z1
        generalize hf : fp3 i = f at z2
        cases z2 with
        | @l a xs ds e5 t5 =>
          obtain ⟨a', xs', ea, e6, t6, r6⟩ := r3.mutL hd g1 (t5.set (b2.mono x3.same) n)
          cases ea
          exact ⟨a, xs, j, n, rfl, rfl, e5, by rw [t5.length]; exact hn, h.nx _ F3 _ _ fp3 ((x1.trans x2).trans x3) r6 h5⟩
      · exact h5.elim
    · exact h5.elim
  · exact h5.elim
theorem ds_setIx (i : Nat) {x : Str} {px pos' : Pos} (ha : DE X W a ta pa) (he : DE X W e te pe) (hN : X.N[i]? = some x := by rfl) (hv : Vis X.env.scope x := by first | exact Or.inl rfl | exact Or.inr (Or.inl rfl) | exact Or.inr (Or.inr rfl)) (hd : (x == ("__debug__" : Str)) = false := by decide)
    (hcd : (x == ("__classdict__" : Str)) = false := by decide)
    (hs : swapsWithSole [.Subscript (.Name x px) a pos'] e pos.line X.env = pure false := by rfl) (hw : swappedStores [.Subscript (.Name x px) a pos'] e X.env = pure none := by rfl)
    (h1 : (assignEach [.Subscript (.Name x px) a pos'] X.env).map (·.2) = [assign (.Subscript (.Name x px) a pos') X.env] := by rfl)
    (hg : ∀ v, assign (.Subscript (.Name x px) a pos') X.env v = (do
      let ov ← holding [v] (eval (.Name x px) X.env)
      let iv ← holding [v, ov] (eval a X.env)
      standAt pos'
      holding [v, ov, iv] (setItem ov iv v)
      release [v, ov, iv] []) := by intro _; rfl) :
    DS X W (.Assign [.Subscript (.Name x px) a pos'] e pos) (tAsg te (gSub (tVar i) ta rSetL)) (qSetIx i pa pe) :=
  ⟨ps_asg he.pe (pg_sub (pe_var hN hv hd hcd) ha.pe set_list hg) hs hw h1, ss_setIx ha.se he.se⟩
end

/-! ### tuple * int -/
theorem tuple_mul1 (l : Addr) (items : Array Value) (n : Nat) (dd : Option Addr) (sl : Array (Option Value)) (u : Tok) :
    Meets (Builtin.«tuple.__mul__» ⟨[.ref l, .int 1 u], []⟩) (fun _ R s => s.heap.get? l = some { cls := .type "tuple", dict := dd, data := .seq items n, slots := sl } ∧ R (.ok (.ret (Value.ref l))) s) :=
  .of_wp fun prog w A R s h => by
    obtain ⟨hp, g, d, tk, os⟩ := s
    obtain ⟨hl, h⟩ := h
    have f1 := AutoSeq1.idx_int
    wp_walk using wpAny_loadPart' hl
    repeat (first
      | (refine wpAny_ite_false (by decide) ?_; wp_walk using wpAny_loadPart' hl)
      | (refine wpAny_ite_true (by simp) ?_; wp_walk using wpAny_loadPart' hl))
    exact ⟨_, rfl, h⟩

def rRepT1 (K : PySem.W.Frag) : R2 := fun x y H Q => ∃ l xs, x = .ref l ∧ y = .int 1 ∧ SqT K H l xs ∧ Q (.ref l) H
section
variable {X : Cx}
theorem op_repT1 : OpR X (binaryOp .Mult) (rRepT1 X.K) := by
  intro pins s σ H x y v u Q I rx ry h
  obtain ⟨l, xs, rfl, rfl, hT, q⟩ := h
  cases rx
  obtain ⟨t, rfl⟩ := ry
  obtain ⟨its, r, ⟨⟨cls, dd, data, sl⟩, ho, hc, n, hd⟩, hs⟩ := I.tuple hT
  simp only at hc hd
  subst hc hd
  refine wpAny_binaryOp_repeat_ref (T := "tuple") (U := "int") (by decide) ⟨_, ho, rfl⟩ (fun s' => typeIs_int s' 1 t) noFill_tuple_mul F.fills_int_mul F.slot_int_rmul repeat_tuple F.slot_int_index.lookup
    (call_meets F.slot_int_rmul (typeIs_int s 1 t) F.entry_int_rmul (F.args_int_rmul_2 _ _) (int_rmul_tuple 1 t l its.toArray n dd sl)
      ⟨ho, rfl, ⟨_, ho, rfl⟩, call_meets F.slot_tuple_mul ⟨_, ho, rfl⟩ F.entry_tuple_mul (F.args_tuple_mul_2 _ _) (tuple_mul1 l its.toArray n dd sl t) ⟨ho, ?_⟩⟩)
  exact ⟨.ref l, H, I, rfl, q⟩
def rMulT (K : PySem.W.Frag) : R2 := fun x y H Q => rRepT1 K x y H Q ∨ rRepT K x y H Q
theorem or_mulT : OpR X (binaryOp .Mult) (rMulT X.K) := OpR.or op_repT1 op_repT
end
/-- a tuple, not empty, some times (not more than 1000) -/
def opMulT : OP2 := fun d1 d2 k => match d1, d2 with
  | .tuple xs, .int n => xs ≠ [] ∧ 1 ≤ n ∧ n ≤ 1000 ∧ xs.length ≤ 1000 ∧ k (.sh (.tuple (List.replicate n.toNat xs).flatten))
  | _, _ => False
theorem os_mulT {K : PySem.W.Frag} : OpS (rMulT K) opMulT := fun {B F Γ σ H fp x y d1 d2} k Q r b1 b2 z c => by
  cases b1 with
  | @tup a xs ds e e0 t =>
    cases b2 with
    | int n =>
      obtain ⟨z1, z2, z3, z4, z5⟩ := z
      by_cases h1 : n = 1
      · subst h1
        have e1 : (List.replicate (1 : Int).toNat ds).flatten = ds := by simp
        rw [e1] at z5
        exact .inl ⟨a, xs, rfl, rfl, .inl (.inl e0), op_sc r (.tup e t) c z5⟩
      · refine .inr ⟨a, n, xs, rfl, rfl, .inl (.inl e0), fun q => z1 ?_, by omega, z3, by rw [t.length]; exact z4, fun p hp => ?_⟩
        · subst q
          cases t
          rfl
        · obtain ⟨x', r', v'⟩ := new_tup r (t.rep n.toNat) hp
          exact c _ _ _ _ x' r' v' z5
    | _ => exact z.elim
  | _ => cases b2 <;> exact z.elim
section
variable {X : Cx} {W : WX} {pos p : Pos} {a b e f : Expr} {ta tb te tf : TE} {pa pb pe pf : QE}
theorem d_mulT (ha : DE X W a ta pa) (hb : DE X W b tb pb) : DE X W (.BinOp a .Mult b pos) (tOp (rMulT X.K) ta tb) (qOp opMulT pa pb) := d_op or_mulT os_mulT ha hb
end

/-! ### max of a list or tuple of ints -/
def maxOf (ds : List D) (k : Wv → Prop) : Prop := match intsOf ds with
  | some (n :: ns) => (n :: ns).length ≤ 1000 ∧ k (.sh (.int (ns.foldl max n)))
  | _ => False
def opMax : OP1 := fun d k => match d with
  | .list ds => maxOf ds k
  | .tuple ds => maxOf ds k
  | _ => False
def rMaxT (K : PySem.W.Frag) : List V → Hp → VK → Prop := fun vs H Q => ∃ a n ns, vs = [V.ref a] ∧ SqT K H a ((n :: ns).map V.int) ∧ (n :: ns).length ≤ 1000 ∧ Q (.int (ns.foldl max n)) H
theorem depthAll_ints : ∀ ns : List Int, PyData.depthAll (ns.map .int) ≤ 1
  | [] => by simp [PyData.depthAll]
  | n :: r => by
    have := depthAll_ints r
    simp only [List.map_cons, PyData.depthAll, PyData.depth]
    omega
section
variable {X : Cx}
theorem cr_maxT {j : Nat} (hr : Room j X.A) (hc : X.calm = true) : CallR X (.builtin "max") (rMaxT X.K) := by
  intro pins s σ H vs us Q I r h
  obtain ⟨a, n, ns, rfl, hs, hl, q⟩ := h
  obtain ⟨its, rv, ht, _⟩ := I.tuple hs
  rw [Vals.ref1 r]
  have hi := rv.ints
  refine PySem.W.max_tuple_data (I.ok.hd hc) ht (by rw [List.toList_toArray]; exact IntsAre.reads s.heap hi) ⟨?_, ?_⟩ ?_ fun i v h' tk bs hv hrd hk => ?_
  · intro x hx y hy
    obtain ⟨i, _, rfl⟩ := List.mem_map.mp (show x ∈ (n :: ns).map PyData.int from hx)
    obtain ⟨j, _, rfl⟩ := List.mem_map.mp (show y ∈ (n :: ns).map PyData.int from hy)
    rfl
  · intro x hx
    obtain ⟨i, _, rfl⟩ := List.mem_map.mp (show x ∈ (n :: ns).map PyData.int from hx)
    exact fun z => nomatch z
  · have := depthAll_ints (n :: ns)
    have := hr.un
    show X.A.units + 1 + PyData.depthAll ((n :: ns).map .int) < cLine
    omega
  · have e := PySem.W.maxD_ints n ns
    rw [e] at hrd
    have : ∃ t, v = .int (ns.foldl max n) t := by
      cases hrd
      exact ⟨_, rfl⟩
    exact ⟨.int _, H, I.kept (t' := tk) hk, this, q⟩
end
theorem foldl_max_ge : ∀ (ns : List Int) (n y : Int), y ≤ n ∨ y ∈ ns → y ≤ ns.foldl max n
  | [], n, y, h => by simpa using h
  | m :: r, n, y, h => by
    refine foldl_max_ge r (max n m) y ?_
    rcases h with h | h
    · exact .inl (by omega)
    · rcases List.mem_cons.mp h with rfl | h
      · exact .inl (by omega)
      · exact .inr h
theorem foldl_max_mem : ∀ (ns : List Int) (n : Int), ns.foldl max n = n ∨ ns.foldl max n ∈ ns
  | [], n => .inl rfl
  | m :: r, n => by
    rcases foldl_max_mem r (max n m) with h | h
    · show r.foldl max (max n m) = n ∨ r.foldl max (max n m) ∈ m :: r
      rw [h]
      by_cases e : m ≤ n
      · exact .inl (by omega)
      · exact .inr (by rw [show max n m = m by omega]; exact List.mem_cons_self)
    · exact .inr (List.mem_cons_of_mem _ h)
theorem max_uniq {n : Int} {ns : List Int} {m : Int} (h1 : m ∈ n :: ns) (h2 : ∀ y, y ∈ n :: ns → y ≤ m) : m = ns.foldl max n := by
  have a : m ≤ ns.foldl max n := foldl_max_ge ns n m (by
    rcases List.mem_cons.mp h1 with rfl | h
    · exact .inl (Int.le_refl _)
    · exact .inr h)
  have b : ns.foldl max n ≤ m := by
    rcases foldl_max_mem ns n with h | h
    · rw [h]
      exact h2 n List.mem_cons_self
    · exact h2 _ (List.mem_cons_of_mem _ h)
  omega
theorem us_max {K : PySem.W.Frag} : UnS (fun x H Q => rMax K [x] H Q ∨ rMaxT K [x] H Q) opMax := fun {B F Γ σ H fp x d} k Q r b z c => by
  cases b with
  | @lst a xs ds e t =>
    unfold opMax maxOf at z
    simp only at z
    split at z
    · rename_i n ns hn
      have := ints_rp t hn
      subst this
      refine .inl ⟨a, n :: ns, rfl, .inl (.inl e), by simp, fun m h1 h2 => ?_⟩
      rw [max_uniq h1 h2]
      exact op_sc r (.int _) c z.2
    · exact z.elim
  | @tup a xs ds e0 e t =>
    unfold opMax maxOf at z
    simp only at z
    split at z
    · rename_i n ns hn
      have := ints_rp t hn
      subst this
      exact .inr ⟨a, n, ns, rfl, .inl (.inl e), z.1, op_sc r (.int _) c z.2⟩
    · exact z.elim
  | _ => exact z.elim
section
variable {X : Cx} {W : WX} {pos p : Pos} {a b e f : Expr} {ta tb te tf : TE} {pa pb pe pf : QE}
theorem d_max {j : Nat} (hr : Room j X.A) (hc : X.calm = true) (hm : X.mg "max" = none) (ha : DE X W a ta pa) (hg : Gl X "max" := by rfl) (he : starEach [a] X.env = (false, eval a X.env) :: starEach [] X.env := by rfl) (hpl : (backTo pos (starEach [] X.env)).any (·.1) = false := by rfl) :
    DE X W (.Call (.Name "max" p) [a] [] pos) (tCB (fun xs H Q => rMax X.K xs H Q ∨ rMaxT X.K xs H Q) (tCons ta tNil)) (qUn opMax pa) := d_bi1 (CallR.or (cr_max hc) (cr_maxT hr hc)) us_max hm (by decide +kernel) ha hg (by decide) (by decide) he hpl
end

/-! ### text[::-1] -/
def revS (x : Str) : Str := ⟨x.cps.toList.reverse.toArray⟩
theorem revS_eq (x : Str) (u : Tok) : Txt.sliceBy x none none (-1, u) = revS x := by
  have h := step_rev_list x u
  generalize Txt.sliceBy x none none (-1, u) = y at h
  unfold revS
  cases y with
  | mk cps =>
    congr 1
    apply Array.toList_inj.mp
    rw [List.toList_toArray, h]
    apply List.ext_getElem
    · simp [Str.length]
    · intro i h1 h2
      simp only [List.getElem_map, List.getElem_range, List.getElem_reverse, Array.length_toList, Array.getElem_toList]
      have : x.cps.size - 1 - i < x.cps.size := by
        simp at h2
        omega
      show x.cps.getD (x.cps.size - 1 - i) 0 = _
      simp [Array.getD, this]
def opRevS : OP1 := fun d k => match d with
  | .str x => x.length ≤ sizeLine ∧ k (.sh (.str (revS x)))
  | _ => False
def tRevS (te : TE) : TE := fun σ H Q => te σ H fun x H1 => ∃ z, x = .str z ∧ z.length ≤ sizeLine ∧ Q (.str (revS z)) H1
theorem strOk_rev {x : Str} (h : PyData.strOk x = true) : PyData.strOk (revS x) = true := by
  rw [strOk_iff] at h ⊢
  intro c hc
  unfold revS at hc
  simp at hc
  exact h c (by simpa using hc)
section
variable {X : Cx} {W : WX} {pos p : Pos} {a b e f : Expr} {ta tb te tf : TE} {pa pb pe pf : QE}
theorem pe_revS {k : Nat} {p1 p2 p3 : Pos} (he : PE X e te) : PE X (.Subscript e (.Slice none none (some (.UnaryOp .USub (.Constant (.int 1) k p1) p2)) p3) pos) (tRevS te) := by
  refine ⟨fun pins s σ H Q I h => ?_⟩
  refine Subscript_ (thn (he.run pins s σ H _ I h) fun v s1 ⟨x, H1, I1, r1, q1⟩ => ?_)
  obtain ⟨z, ex, hz, q⟩ := q1
  subst ex
  obtain ⟨t, rfl⟩ := r1
  have hst : PO X (some (.UnaryOp .USub (.Constant (.int 1) k p1) p2)) (tPart (tUn (rU fun i => .int (-i)) (tC (.int 1)))) := po_some (pe_un un_neg pe_int)
  refine wpAny_Slice (thn (po_none.run pins s1 σ H1 (fun o H2 => o = none ∧ H2 = H1) I1 ⟨rfl, rfl⟩) fun vl s2 ⟨l, H2, I2, pl, el, e2⟩ => ?_)
  subst el e2
  refine thn (po_none.run pins s2 σ H2 (fun o H3 => o = none ∧ H3 = H2) I2 ⟨rfl, rfl⟩) fun vu s3 ⟨u, H3, I3, pu, eu, e3⟩ => ?_
  subst eu e3
  refine thn (hst.run pins s3 σ H3 (fun o H4 => o = some (-1) ∧ H4 = H3) I3 ⟨1, rfl, -1, rfl, rfl, rfl⟩) fun vs s4 ⟨o, H4, I4, ps, eo, e4⟩ => ?_
  subst eo e4
  have I5 : Inv X pins σ H4 { s4 with heap := s4.heap.push { cls := .type "slice", data := .fields #[vl, vu, vs] } } := I4.kept (t' := s4.toks) fun b ob q => Heap.get?_push_of_some _ q
  obtain ⟨l, rfl, hl1⟩ := IsPart.raw pl
  obtain ⟨u, rfl, hu1⟩ := IsPart.raw pu
  obtain ⟨st, rfl, hst1⟩ := IsPart.raw ps
  have el : l = none := by cases l <;> first | rfl | cases hl1
  have eu : u = none := by cases u <;> first | rfl | cases hu1
  obtain ⟨w, es⟩ : ∃ w, st = some ((-1 : Int), w) := by
    cases st with
    | none => cases hst1
    | some q =>
      obtain ⟨i, w⟩ := q
      cases hst1
      exact ⟨w, rfl⟩
  subst el eu es
  show wpAny (model X.prog X.w) X.A (subscriptTail e (.Slice none none (some (.UnaryOp .USub (.Constant (.int 1) k p1) p2)) p3) (.str z t) (.ref s4.heap.objs.size)) (EP X pins σ Q) X.xe { s4 with heap := s4.heap.push { cls := .type "slice", data := .fields #[partValue none, partValue none, partValue (some ((-1 : Int), w))] } }
  refine tail_any (ops := [.str z t, .ref s4.heap.objs.size]) (typeIs_str _ _ _) (F.slot_str_getitem.lookup) ?_ (by with_unfolding_all rfl)
  refine wpAny_getItem_str_slice (l := none) (u := none) (st := some ((-1 : Int), w)) ⟨_, Heap.get?_push_size _ rfl, rfl, rfl⟩ rfl ?_
  have e0 := revS_eq z w
  have nc : ¬ (((((some ((-1 : Int), w)).map (·.1)).getD 1 == 1 && (slicePicked z none none (some ((-1 : Int), w))).length == z.length)) = true) := by
    have : (((some ((-1 : Int), w)).map (·.1)).getD 1 == 1) = false := rfl
    rw [this]
    simp
  unfold Txt.sliceBy at e0
  rw [if_neg nc] at e0
  unfold sliceMade
  rw [if_neg nc, e0]
  have hl : (revS z).length ≤ sizeLine := by
    show z.cps.toList.reverse.toArray.size ≤ sizeLine
    rw [List.size_toArray, List.length_reverse, Array.length_toList]
    exact hz
  exact ⟨hl, .str _, H4, I5.tok _, ⟨_, rfl⟩, q⟩
theorem d_revS {k : Nat} {p1 p2 p3 : Pos} (he : DE X W e te pe) : DE X W (.Subscript e (.Slice none none (some (.UnaryOp .USub (.Constant (.int 1) k p1) p2)) p3) pos) (tRevS te) (qUn opRevS pe) := ⟨pe_revS he.pe, fun {B F Γ σ H fp} R EX Q rr h k e => by
  refine he.se _ EX _ rr h (fun w1 Γ1 x F1 H1 fp1 x1 r1 v1 h1 => ?_) e
  obtain ⟨d, b, z⟩ := bor_rb r1 v1 h1
  cases b with
  | str x hx => exact ⟨x, rfl, z.1, k _ Γ1 _ F1 H1 fp1 x1 r1 (.sh (.str _ (strOk_rev hx))) z.2⟩
  | _ => exact z.elim⟩
end

/-! ### name = {k: v for ..} on one line -/
section
variable {X : Cx} {W : WX} {pos : Pos} {kx vx tg iter : Expr} {wi : TI} {qi : QI} {g : TG} {qg : QG} {js : List Nat} {tt : TT} {qt : QT} {tk tv : TE} {qk qv : QE} {ifs : List Expr} {scope : Scope} {own : List (Str × Nat)}
theorem ps_setDc {b : Bool} {i : Nat} {y : Str} {py spos : Pos} (hu : X.A.units + 1 < cLine) (hc : X.calm = true) (hN : X.N.Nodup) (hy : X.N[i]? = some y) (hyl : X.env.scope.names.lookup y = some .local)
    (hsw : swapsWith (.DictComp kx vx [⟨tg, iter, ifs, 0⟩] scope pos) (some (.Name y py)) spos.line X.env = pure true) (hi : PI X tg iter wi) (ok : BlkOk X.N X.env.scope scope own)
    (hg : ∀ (s : Shared) (H : Hp) (C : Addr) (cl : List (Str × Addr)) (fp : List Addr), PG (X.blk s H scope (compEnvC scope cl C X.env) fp) tg g)
    (ht : ∀ (s : Shared) (H : Hp) (C : Addr) (cl : List (Str × Addr)) (fp : List Addr), PTs (X.blk s H scope (compEnvC scope cl C X.env) fp) ifs tt)
    (hk : ∀ (s : Shared) (H : Hp) (C : Addr) (cl : List (Str × Addr)) (fp : List Addr), PE (X.blk s H scope (compEnvC scope cl C X.env) fp) kx tk)
    (he : ∀ (s : Shared) (H : Hp) (C : Addr) (cl : List (Str × Addr)) (fp : List Addr), PE (X.blk s H scope (compEnvC scope cl C X.env) fp) vx tv) (hs : ∀ x, foldedSetIterable iter X.env x = pure x := by intro _; rfl) :
    PS X (.Assign [.Name y py] (.DictComp kx vx [⟨tg, iter, ifs, 0⟩] scope pos) spos) (tAsg (tDcG b wi g tt tk tv (own.map (·.2))) (gName i)) := by
  refine ⟨fun pins s σ H D I h => ?_⟩
  rw [exec_Assign_Name_used _ _ _ _ hsw]
  refine wpAny_bind (wpAny_standAt (wpAny_bind ?_))
  show wpAny _ X.A (do let _ ← comprehension (.DictComp kx vx [⟨tg, iter, ifs, 0⟩] scope pos) scope X.env (firstIterPos [⟨tg, iter, ifs, 0⟩] pos) newDict false (eval iter X.env) (some (assign (.Name y py) X.env))) _ _ s
  have h : tDcG b wi g tt tk tv (own.map (·.2)) σ H (fun x H1 => gName i x σ H1 D.nx) := h
  refine wpAny_bind (thn (dcG_core (Qf := fun _ s' => SP X pins D .next s') hu hc hN I hi ok hg ht hk he hs h fun L C s' m H' I' q hn f => ?_) fun _ s' hq => wpAny_pure (wpAny_pure hq))
  show wpAny _ _ (assign (.Name y py) X.env (.ref L)) _ _ _
  refine wpAny_assign_Name (store_ok2 (v := V.ref L) I' hN hy (.inl hyl) rfl (fun s2 I2 ⟨a, sb, ha⟩ => ?_) (.inr hyl))
  obtain ⟨f0, f1, f2, f3, f4, f5⟩ := f
  have haC : C ≠ a := by
    rcases ha with z | z
    · rw [z]; exact f1
    · exact fun e => f4 y a z e.symm
  refine ⟨m, hn.sameBut sb haC, fun h3 sb3 => ?_⟩
  exact ⟨_, H', I2.turned (t' := s2.toks) (fun b o hb e => (sb3.2 b hb).trans e) f0 f1 f3 f4 f5, q⟩
theorem swd_true {gs : List Comprehension} {py : Pos} {y : Str} {l : Nat} {env : Env} (hk : env.scope.kind = .function) (hy : env.scope.names.lookup y = some .local) (hl : (py.line == pos.line) = true)
    (ha : (scope.names.any fun (n, k) => n == y && (k == .local || k == .cell)) = false) : swapsWith (.DictComp kx vx gs scope pos) (some (.Name y py)) l env = pure true := by
  have ky : env.kindOf y = some .local := hy
  have hb : env.blockKind = .function := by unfold Env.blockKind; rw [hk]; rfl
  unfold swapsWith
  simp only [hb, ky, ha, Expr.pos, hl]
  rfl
theorem ds_setDc (b : Bool) {i j : Nat} {y : Str} {py spos : Pos} (hr : Room j X.A) (hc : X.calm = true) (hN : X.N.Nodup) (hi : DI X W tg iter wi qi) (ok : BlkOk X.N X.env.scope scope own)
    (hg : ∀ (s : Shared) (H : Hp) (C : Addr) (cl : List (Str × Addr)) (fp : List Addr), DG (X.blk s H scope (compEnvC scope cl C X.env) fp) tg g qg js)
    (ht : ∀ (s : Shared) (H : Hp) (C : Addr) (cl : List (Str × Addr)) (fp : List Addr), DTs (X.blk s H scope (compEnvC scope cl C X.env) fp) W0 ifs tt qt)
    (hk : ∀ (s : Shared) (H : Hp) (C : Addr) (cl : List (Str × Addr)) (fp : List Addr), DE (X.blk s H scope (compEnvC scope cl C X.env) fp) W0 kx tk qk)
    (he : ∀ (s : Shared) (H : Hp) (C : Addr) (cl : List (Str × Addr)) (fp : List Addr), DE (X.blk s H scope (compEnvC scope cl C X.env) fp) W0 vx tv qv)
    (hsw : swapsWith (.DictComp kx vx [⟨tg, iter, ifs, 0⟩] scope pos) (some (.Name y py)) spos.line X.env = pure true)
    (hy : X.N[i]? = some y := by rfl) (hyl : X.env.scope.names.lookup y = some .local := by rfl) (hj : (∀ j ∈ js, j ∈ own.map (·.2)) := by decide) (hs : ∀ x, foldedSetIterable iter X.env x = pure x := by intro _; rfl) :
    DS X W (.Assign [.Name y py] (.DictComp kx vx [⟨tg, iter, ifs, 0⟩] scope pos) spos) (tAsg (tDcG b wi g tt tk tv (own.map (·.2))) (gName i)) (qAsg (qDc b (own.map (·.2)) qi qg qt qk qv) (qgN i)) :=
  ⟨ps_setDc (hu_of hr) hc hN hy hyl hsw hi.pi ok (fun s H C cl fp => (hg s H C cl fp).pg) (fun s H C cl fp => (ht s H C cl fp).pt) (fun s H C cl fp => (hk s H C cl fp).pe) (fun s H C cl fp => (he s H C cl fp).pe) hs,
   ss_asg (se_dc hi.si (hg ({} : Shared) (fun _ => none) 0 [] []).sg (ht ({} : Shared) (fun _ => none) 0 [] []).st (hk ({} : Shared) (fun _ => none) 0 [] []).se (he ({} : Shared) (fun _ => none) 0 [] []).se hj) sg_name⟩
end

end PL

namespace PL
open PySem PySem.Spec PyProof.Rows L2
/-! ### comprehensions whose parts may name the block -/
abbrev BK (α : Type) := Shared → Hp → Addr → List (Str × Addr) → List Addr → α
abbrev bz {α : Type} (f : BK α) : α := f {} (fun _ => none) 0 [] []
section
variable {X : Cx} {W : WX} {pos : Pos} {e tg iter elt tg1 iter1 kx vx : Expr} {wi : TI} {qi qi1 : QI} {wi1 : BK TI} {g g1 : BK TG} {qg qg1 : QG} {js js1 : List Nat} {tt tt1 : BK TT} {qt qt1 : QT} {te tk tv : BK TE} {qe qk qv : QE} {ifs ifs1 : List Expr} {scope : Scope} {own : List (Str × Nat)}
theorem b_lc (hc : X.calm = true) (hN : X.N.Nodup) (hi : DI X W tg iter wi qi) (ok : BlkOk X.N X.env.scope scope own)
    (hg : ∀ (s : Shared) (H : Hp) (C : Addr) (cl : List (Str × Addr)) (fp : List Addr), DG (X.blk s H scope (compEnvC scope cl C X.env) fp) tg (g s H C cl fp) qg js)
    (ht : ∀ (s : Shared) (H : Hp) (C : Addr) (cl : List (Str × Addr)) (fp : List Addr), DTs (X.blk s H scope (compEnvC scope cl C X.env) fp) W0 ifs (tt s H C cl fp) qt)
    (he : ∀ (s : Shared) (H : Hp) (C : Addr) (cl : List (Str × Addr)) (fp : List Addr), DE (X.blk s H scope (compEnvC scope cl C X.env) fp) W0 elt (te s H C cl fp) qe)
    (h1 : ∀ s H C cl fp, g s H C cl fp = bz g := by intros; rfl) (h2 : ∀ s H C cl fp, tt s H C cl fp = bz tt := by intros; rfl) (h3 : ∀ s H C cl fp, te s H C cl fp = bz te := by intros; rfl)
    (hj : (∀ j ∈ js, j ∈ own.map (·.2)) := by decide) (hs : ∀ x, foldedSetIterable iter X.env x = pure x := by intro _; rfl) :
    DE X W (.ListComp elt [⟨tg, iter, ifs, 0⟩] scope pos) (tLc wi (bz g) (bz tt) (bz te) (own.map (·.2))) (qLc (own.map (·.2)) qi qg qt qe) :=
  d_lc hc hN hi ok (fun s H C cl fp => h1 s H C cl fp ▸ hg s H C cl fp) (fun s H C cl fp => h2 s H C cl fp ▸ ht s H C cl fp) (fun s H C cl fp => h3 s H C cl fp ▸ he s H C cl fp) hj hs
theorem bs_setLc {i : Nat} {y : Str} {py spos : Pos} (hc : X.calm = true) (hN : X.N.Nodup) (hi : DI X W tg iter wi qi) (ok : BlkOk X.N X.env.scope scope own)
    (hg : ∀ (s : Shared) (H : Hp) (C : Addr) (cl : List (Str × Addr)) (fp : List Addr), DG (X.blk s H scope (compEnvC scope cl C X.env) fp) tg (g s H C cl fp) qg js)
    (ht : ∀ (s : Shared) (H : Hp) (C : Addr) (cl : List (Str × Addr)) (fp : List Addr), DTs (X.blk s H scope (compEnvC scope cl C X.env) fp) W0 ifs (tt s H C cl fp) qt)
    (he : ∀ (s : Shared) (H : Hp) (C : Addr) (cl : List (Str × Addr)) (fp : List Addr), DE (X.blk s H scope (compEnvC scope cl C X.env) fp) W0 elt (te s H C cl fp) qe)
    (hsw : swapsWith (.ListComp elt [⟨tg, iter, ifs, 0⟩] scope pos) (some (.Name y py)) spos.line X.env = pure true)
    (h1 : ∀ s H C cl fp, g s H C cl fp = bz g := by intros; rfl) (h2 : ∀ s H C cl fp, tt s H C cl fp = bz tt := by intros; rfl) (h3 : ∀ s H C cl fp, te s H C cl fp = bz te := by intros; rfl)
    (hy : X.N[i]? = some y := by rfl) (hyl : X.env.scope.names.lookup y = some .local := by rfl) (hj : (∀ j ∈ js, j ∈ own.map (·.2)) := by decide) (hs : ∀ x, foldedSetIterable iter X.env x = pure x := by intro _; rfl) :
    DS X W (.Assign [.Name y py] (.ListComp elt [⟨tg, iter, ifs, 0⟩] scope pos) spos) (tAsg (tLc wi (bz g) (bz tt) (bz te) (own.map (·.2))) (gName i)) (qAsg (qLc (own.map (·.2)) qi qg qt qe) (qgN i)) :=
  ds_setLc hc hN hi ok (fun s H C cl fp => h1 s H C cl fp ▸ hg s H C cl fp) (fun s H C cl fp => h2 s H C cl fp ▸ ht s H C cl fp) (fun s H C cl fp => h3 s H C cl fp ▸ he s H C cl fp) hsw hy hyl hj hs
theorem b_lc2 (vs1 : List Nat) (hc : X.calm = true) (hN : X.N.Nodup) (hi : DI X W tg iter wi qi) (ok : BlkOk X.N X.env.scope scope own)
    (hg : ∀ (s : Shared) (H : Hp) (C : Addr) (cl : List (Str × Addr)) (fp : List Addr), DG (X.blk s H scope (compEnvC scope cl C X.env) fp) tg (g s H C cl fp) qg js)
    (ht : ∀ (s : Shared) (H : Hp) (C : Addr) (cl : List (Str × Addr)) (fp : List Addr), DTs (X.blk s H scope (compEnvC scope cl C X.env) fp) W0 ifs (tt s H C cl fp) qt)
    (hi1 : ∀ (s : Shared) (H : Hp) (C : Addr) (cl : List (Str × Addr)) (fp : List Addr), DI (X.blk s H scope (compEnvC scope cl C X.env) fp) W0 tg1 iter1 (wi1 s H C cl fp) qi1)
    (hg1 : ∀ (s : Shared) (H : Hp) (C : Addr) (cl : List (Str × Addr)) (fp : List Addr), DG (X.blk s H scope (compEnvC scope cl C X.env) fp) tg1 (g1 s H C cl fp) qg1 js1)
    (ht1 : ∀ (s : Shared) (H : Hp) (C : Addr) (cl : List (Str × Addr)) (fp : List Addr), DTs (X.blk s H scope (compEnvC scope cl C X.env) fp) W0 ifs1 (tt1 s H C cl fp) qt1)
    (he : ∀ (s : Shared) (H : Hp) (C : Addr) (cl : List (Str × Addr)) (fp : List Addr), DE (X.blk s H scope (compEnvC scope cl C X.env) fp) W0 elt (te s H C cl fp) qe)
    (h1 : ∀ s H C cl fp, g s H C cl fp = bz g := by intros; rfl) (h2 : ∀ s H C cl fp, tt s H C cl fp = bz tt := by intros; rfl) (h3 : ∀ s H C cl fp, te s H C cl fp = bz te := by intros; rfl)
    (h4 : ∀ s H C cl fp, wi1 s H C cl fp = bz wi1 := by intros; rfl) (h5 : ∀ s H C cl fp, g1 s H C cl fp = bz g1 := by intros; rfl) (h6 : ∀ s H C cl fp, tt1 s H C cl fp = bz tt1 := by intros; rfl)
    (hj : (∀ j ∈ js, j ∈ own.map (·.2)) := by decide) (hj1 : (∀ j ∈ js1, j ∈ vs1) := by decide) (hv : (∀ j ∈ vs1, j ∈ own.map (·.2)) := by decide) (hs : ∀ x, foldedSetIterable iter X.env x = pure x := by intro _; rfl) (hs1 : ∀ env x, foldedSetIterable iter1 env x = pure x := by intro _ _; rfl) :
    DE X W (.ListComp elt [⟨tg, iter, ifs, 0⟩, ⟨tg1, iter1, ifs1, 0⟩] scope pos) (tLc2 wi (bz g) (bz tt) (bz wi1) (bz g1) (bz tt1) (bz te) (own.map (·.2)) vs1) (qLc2 (own.map (·.2)) vs1 qi qg qt qi1 qg1 qt1 qe) :=
  d_lc2 vs1 hc hN hi ok (fun s H C cl fp => h1 s H C cl fp ▸ hg s H C cl fp) (fun s H C cl fp => h2 s H C cl fp ▸ ht s H C cl fp) (fun s H C cl fp => h4 s H C cl fp ▸ hi1 s H C cl fp) (fun s H C cl fp => h5 s H C cl fp ▸ hg1 s H C cl fp) (fun s H C cl fp => h6 s H C cl fp ▸ ht1 s H C cl fp) (fun s H C cl fp => h3 s H C cl fp ▸ he s H C cl fp) hj hj1 hv hs hs1
theorem b_dc (b : Bool) {j : Nat} (hr : Room j X.A) (hc : X.calm = true) (hN : X.N.Nodup) (hi : DI X W tg iter wi qi) (ok : BlkOk X.N X.env.scope scope own)
    (hg : ∀ (s : Shared) (H : Hp) (C : Addr) (cl : List (Str × Addr)) (fp : List Addr), DG (X.blk s H scope (compEnvC scope cl C X.env) fp) tg (g s H C cl fp) qg js)
    (ht : ∀ (s : Shared) (H : Hp) (C : Addr) (cl : List (Str × Addr)) (fp : List Addr), DTs (X.blk s H scope (compEnvC scope cl C X.env) fp) W0 ifs (tt s H C cl fp) qt)
    (hk : ∀ (s : Shared) (H : Hp) (C : Addr) (cl : List (Str × Addr)) (fp : List Addr), DE (X.blk s H scope (compEnvC scope cl C X.env) fp) W0 kx (tk s H C cl fp) qk)
    (he : ∀ (s : Shared) (H : Hp) (C : Addr) (cl : List (Str × Addr)) (fp : List Addr), DE (X.blk s H scope (compEnvC scope cl C X.env) fp) W0 vx (tv s H C cl fp) qv)
    (h1 : ∀ s H C cl fp, g s H C cl fp = bz g := by intros; rfl) (h2 : ∀ s H C cl fp, tt s H C cl fp = bz tt := by intros; rfl) (h3 : ∀ s H C cl fp, tk s H C cl fp = bz tk := by intros; rfl) (h4 : ∀ s H C cl fp, tv s H C cl fp = bz tv := by intros; rfl)
    (hj : (∀ j ∈ js, j ∈ own.map (·.2)) := by decide) (hs : ∀ x, foldedSetIterable iter X.env x = pure x := by intro _; rfl) :
    DE X W (.DictComp kx vx [⟨tg, iter, ifs, 0⟩] scope pos) (tDcG b wi (bz g) (bz tt) (bz tk) (bz tv) (own.map (·.2))) (qDc b (own.map (·.2)) qi qg qt qk qv) :=
  d_dc b hr hc hN hi ok (fun s H C cl fp => h1 s H C cl fp ▸ hg s H C cl fp) (fun s H C cl fp => h2 s H C cl fp ▸ ht s H C cl fp) (fun s H C cl fp => h3 s H C cl fp ▸ hk s H C cl fp) (fun s H C cl fp => h4 s H C cl fp ▸ he s H C cl fp) hj hs
theorem bs_setDc (b : Bool) {i j : Nat} {y : Str} {py spos : Pos} (hr : Room j X.A) (hc : X.calm = true) (hN : X.N.Nodup) (hi : DI X W tg iter wi qi) (ok : BlkOk X.N X.env.scope scope own)
    (hg : ∀ (s : Shared) (H : Hp) (C : Addr) (cl : List (Str × Addr)) (fp : List Addr), DG (X.blk s H scope (compEnvC scope cl C X.env) fp) tg (g s H C cl fp) qg js)
    (ht : ∀ (s : Shared) (H : Hp) (C : Addr) (cl : List (Str × Addr)) (fp : List Addr), DTs (X.blk s H scope (compEnvC scope cl C X.env) fp) W0 ifs (tt s H C cl fp) qt)
    (hk : ∀ (s : Shared) (H : Hp) (C : Addr) (cl : List (Str × Addr)) (fp : List Addr), DE (X.blk s H scope (compEnvC scope cl C X.env) fp) W0 kx (tk s H C cl fp) qk)
    (he : ∀ (s : Shared) (H : Hp) (C : Addr) (cl : List (Str × Addr)) (fp : List Addr), DE (X.blk s H scope (compEnvC scope cl C X.env) fp) W0 vx (tv s H C cl fp) qv)
    (hsw : swapsWith (.DictComp kx vx [⟨tg, iter, ifs, 0⟩] scope pos) (some (.Name y py)) spos.line X.env = pure true)
    (h1 : ∀ s H C cl fp, g s H C cl fp = bz g := by intros; rfl) (h2 : ∀ s H C cl fp, tt s H C cl fp = bz tt := by intros; rfl) (h3 : ∀ s H C cl fp, tk s H C cl fp = bz tk := by intros; rfl) (h4 : ∀ s H C cl fp, tv s H C cl fp = bz tv := by intros; rfl)
    (hy : X.N[i]? = some y := by rfl) (hyl : X.env.scope.names.lookup y = some .local := by rfl) (hj : (∀ j ∈ js, j ∈ own.map (·.2)) := by decide) (hs : ∀ x, foldedSetIterable iter X.env x = pure x := by intro _; rfl) :
    DS X W (.Assign [.Name y py] (.DictComp kx vx [⟨tg, iter, ifs, 0⟩] scope pos) spos) (tAsg (tDcG b wi (bz g) (bz tt) (bz tk) (bz tv) (own.map (·.2))) (gName i)) (qAsg (qDc b (own.map (·.2)) qi qg qt qk qv) (qgN i)) :=
  ds_setDc b hr hc hN hi ok (fun s H C cl fp => h1 s H C cl fp ▸ hg s H C cl fp) (fun s H C cl fp => h2 s H C cl fp ▸ ht s H C cl fp) (fun s H C cl fp => h3 s H C cl fp ▸ hk s H C cl fp) (fun s H C cl fp => h4 s H C cl fp ▸ he s H C cl fp) hsw hy hyl hj hs
end
end PL

namespace PL
open PySem PySem.Spec PyProof.Rows L2
/-! ### loops in plain Lean -/
theorem Cif.yes {A B : Prop} (h : A) : Cif true A B := ⟨fun _ => h, (fun z => nomatch z)⟩
theorem Cif.no {A B : Prop} (h : B) : Cif false A B := ⟨(fun z => nomatch z), fun _ => h⟩
section
variable {α : Type} {vs : List Nat} {g : QG} {t : QT} {p : QE} {k : List D → Ev → Prop} {Γ : Ev}
theorem lcGo_map (enc : α → D) (f : α → D) : ∀ (xs : List α) (acc : List D),
    (∀ x ∈ xs, ∀ (acc : List D) (K : List D → Ev → Prop), acc.length < sizeLine → K (acc ++ [f x]) Γ → g (.sh (enc x)) Γ fun Γ1 => p Γ1 (fun w Γ3 => shr w Γ3 fun y Γ4 => acc.length < sizeLine ∧ K (acc ++ [y]) (wipEv vs Γ4)) noEX) →
    acc.length + xs.length ≤ sizeLine → k (acc ++ xs.map f) Γ → lcGo vs g qYes p k (xs.map enc) acc Γ
  | [], acc, _, _, hk => by simpa [lcGo] using hk
  | x :: r, acc, hs, hl, hk => by
    have h := hs x List.mem_cons_self acc (fun acc' Γ' => lcGo vs g qYes p k (r.map enc) acc' Γ') (by simp at hl; omega)
      (lcGo_map enc f r (acc ++ [f x]) (fun y hy => hs y (List.mem_cons_of_mem _ hy)) (by simp at hl ⊢; omega) (by simpa using hk))
    have e : (fun Γ1 => p Γ1 (fun w Γ3 => shr w Γ3 fun y Γ4 => acc.length < sizeLine ∧ lcGo vs g qYes p k (r.map enc) (acc ++ [y]) (wipEv vs Γ4)) noEX) =
        fun Γ1 => Cif true (p Γ1 (fun w Γ3 => shr w Γ3 fun y Γ4 => acc.length < sizeLine ∧ lcGo vs g qYes p k (r.map enc) (acc ++ [y]) (wipEv vs Γ4)) noEX) (lcGo vs g qYes p k (r.map enc) acc (wipEv vs Γ1)) := by
      funext Γ1
      exact propext ⟨Cif.yes, fun h => h.t rfl⟩
    rw [e] at h
    exact h
theorem lcGo_fm (enc : α → D) (f : α → Option D) : ∀ (xs : List α) (acc : List D),
    (∀ x ∈ xs, ∀ (acc : List D) (K : List D → Ev → Prop), acc.length < sizeLine → K (acc ++ (f x).toList) Γ → g (.sh (enc x)) Γ fun Γ1 => t Γ1 (fun b Γ2 => Cif b (p Γ2 (fun w Γ3 => shr w Γ3 fun y Γ4 => acc.length < sizeLine ∧ K (acc ++ [y]) (wipEv vs Γ4)) noEX) (K acc (wipEv vs Γ2))) noEX) →
    acc.length + xs.length ≤ sizeLine → k (acc ++ xs.filterMap f) Γ → lcGo vs g t p k (xs.map enc) acc Γ
  | [], acc, _, _, hk => by simpa [lcGo] using hk
  | x :: r, acc, hs, hl, hk => by
    refine hs x List.mem_cons_self acc (fun acc' Γ' => lcGo vs g t p k (r.map enc) acc' Γ') (by simp at hl; omega)
      (lcGo_fm enc f r (acc ++ (f x).toList) (fun y hy => hs y (List.mem_cons_of_mem _ hy)) ?_ ?_)
    · cases f x <;> simp at hl ⊢ <;> omega
    · cases e : f x <;> simpa [e] using hk
/-- [x for x in xs if c x] and such: p gives e x, t gives c x -/
theorem lcGo_fil (enc : α → D) (c : α → Bool) (f : α → D) (xs : List α) (acc : List D)
    (hs : ∀ x ∈ xs, ∀ (acc : List D) (K : List D → Ev → Prop), acc.length < sizeLine → (c x = true → K (acc ++ [f x]) Γ) → (c x = false → K acc Γ) → g (.sh (enc x)) Γ fun Γ1 => t Γ1 (fun b Γ2 => Cif b (p Γ2 (fun w Γ3 => shr w Γ3 fun y Γ4 => acc.length < sizeLine ∧ K (acc ++ [y]) (wipEv vs Γ4)) noEX) (K acc (wipEv vs Γ2))) noEX)
    (hl : acc.length + xs.length ≤ sizeLine) (hk : k (acc ++ (xs.filter c).map f) Γ) : lcGo vs g t p k (xs.map enc) acc Γ := by
  refine lcGo_fm enc (fun x => if c x then some (f x) else none) xs acc (fun x hx acc K ha hK => hs x hx acc K ha (fun h => ?_) fun h => ?_) hl ?_
  · simpa [h] using hK
  · simpa [h] using hK
  · have e : xs.filterMap (fun x => if c x then some (f x) else none) = (xs.filter c).map f := by
      clear hs hl hk
      induction xs with
      | nil => rfl
      | cons x r ih =>
        by_cases h : c x
        · simp [h, ih]
        · simp [h, ih]
    rw [e]
    exact hk
variable {vs1 : List Nat} {i1 : QI} {g1 : QG} {t1 : QT}
theorem lc2Go_app (enc : α → D) (f : α → List D) : ∀ (xs : List α) (acc : List D),
    (∀ x ∈ xs, ∀ (acc : List D) (K : List D → Ev → Prop), acc.length + (f x).length ≤ sizeLine → K (acc ++ f x) Γ → g (.sh (enc x)) Γ fun Γ1 => i1 Γ1 (fun ds1 Γ3 => lcGo vs1 g1 t1 p (fun acc' Γ4 => K acc' (wipEv vs Γ4)) ds1 acc (wipEv vs1 Γ3)) noEX) →
    acc.length + (xs.map fun x => (f x).length).sum ≤ sizeLine → k (acc ++ (xs.map f).flatten) Γ → lc2Go vs vs1 g qYes i1 g1 t1 p k (xs.map enc) acc Γ
  | [], acc, _, _, hk => by simpa [lc2Go] using hk
  | x :: r, acc, hs, hl, hk => by
    simp only [List.map_cons, List.sum_cons] at hl
    have h := hs x List.mem_cons_self acc (fun acc' Γ' => lc2Go vs vs1 g qYes i1 g1 t1 p k (r.map enc) acc' Γ') (by omega)
      (lc2Go_app enc f r (acc ++ f x) (fun y hy => hs y (List.mem_cons_of_mem _ hy)) (by simp; omega) (by simpa using hk))
    have e : (fun Γ1 => i1 Γ1 (fun ds1 Γ3 => lcGo vs1 g1 t1 p (fun acc' Γ4 => lc2Go vs vs1 g qYes i1 g1 t1 p k (r.map enc) acc' (wipEv vs Γ4)) ds1 acc (wipEv vs1 Γ3)) noEX) =
        fun Γ1 => Cif true (i1 Γ1 (fun ds1 Γ3 => lcGo vs1 g1 t1 p (fun acc' Γ4 => lc2Go vs vs1 g qYes i1 g1 t1 p k (r.map enc) acc' (wipEv vs Γ4)) ds1 acc (wipEv vs1 Γ3)) noEX) (lc2Go vs vs1 g qYes i1 g1 t1 p k (r.map enc) acc (wipEv vs Γ1)) := by
      funext Γ1
      exact propext ⟨Cif.yes, fun h => h.t rfl⟩
    rw [e] at h
    exact h
end
section
variable {α : Type} {vs : List Nat} {g : QG} {t : QS} {P : PEnds}
theorem forGo_ok (enc : α → D) (I : List α → Ev → Prop) (h0 : ∀ Γ, I [] Γ → P.nx Γ)
    (hs : ∀ x r Γ (K : Ev → Prop), I (x :: r) Γ → (∀ Γ', I r Γ' → K Γ') → g (.sh (enc x)) Γ fun Γ1 => t { P with nx := K, ct := K, bk := P.nx } Γ1) : ∀ (xs : List α) (Γ : Ev), I xs Γ → forGo g t P (xs.map enc) Γ
  | [], Γ, h => h0 Γ h
  | x :: r, Γ, h => hs x r Γ (forGo g t P (r.map enc)) h fun Γ' h' => forGo_ok enc I h0 hs r Γ' h'
end
section
variable {α : Type} {b : Bool} {vs : List Nat} {g : QG} {pk pv : QE} {k : List (D × D) → Ev → Prop} {Γ : Ev}
theorem dcGo_ok (enc : α → D) (fk fv : α → D) : ∀ (xs : List α) (acc : List (D × D)),
    (∀ x ∈ xs, ∀ (acc : List (D × D)) (K : List (D × D) → Ev → Prop), acc.length < sizeLine → K (putD acc (fk x) (fv x)) Γ → g (.sh (enc x)) Γ fun Γ1 => pk Γ1 (fun w Γ3 => shr w Γ3 fun dk Γ4 => pv Γ4 (fun w Γ5 => shr w Γ5 fun dv Γ6 => (if b = true then keyT dk else keyK dk) = true ∧ acc.length < sizeLine ∧ K (putD acc dk dv) (wipEv vs Γ6)) noEX) noEX) →
    acc.length + xs.length ≤ sizeLine → k (xs.foldl (fun acc x => putD acc (fk x) (fv x)) acc) Γ → dcGo b vs g qYes pk pv k (xs.map enc) acc Γ
  | [], acc, _, _, hk => hk
  | x :: r, acc, hs, hl, hk => by
    have hp : (putD acc (fk x) (fv x)).length ≤ acc.length + 1 := by
      unfold putD
      split
      · simp
      · simp
    have h := hs x List.mem_cons_self acc (fun acc' Γ' => dcGo b vs g qYes pk pv k (r.map enc) acc' Γ') (by simp at hl; omega)
      (dcGo_ok enc fk fv r _ (fun y hy => hs y (List.mem_cons_of_mem _ hy)) (by simp at hl; omega) hk)
    have e : (fun Γ1 => pk Γ1 (fun w Γ3 => shr w Γ3 fun dk Γ4 => pv Γ4 (fun w Γ5 => shr w Γ5 fun dv Γ6 => (if b = true then keyT dk else keyK dk) = true ∧ acc.length < sizeLine ∧ dcGo b vs g qYes pk pv k (r.map enc) (putD acc dk dv) (wipEv vs Γ6)) noEX) noEX) =
        fun Γ1 => Cif true (pk Γ1 (fun w Γ3 => shr w Γ3 fun dk Γ4 => pv Γ4 (fun w Γ5 => shr w Γ5 fun dv Γ6 => (if b = true then keyT dk else keyK dk) = true ∧ acc.length < sizeLine ∧ dcGo b vs g qYes pk pv k (r.map enc) (putD acc dk dv) (wipEv vs Γ6)) noEX) noEX)
          (dcGo b vs g qYes pk pv k (r.map enc) acc (wipEv vs Γ1)) := by
      funext Γ1
      exact propext ⟨Cif.yes, fun h => h.t rfl⟩
    rw [e] at h
    exact h
end

section
variable {α : Type} {vs : List Nat} {g : QG} {t : QT} {p : QE} {k : List D → Ev → Prop} {Γ : Ev}
theorem lc0_map (enc : α → D) (f : α → D) (xs : List α)
    (hs : ∀ x ∈ xs, ∀ (acc : List D) (K : List D → Ev → Prop), acc.length < sizeLine → K (acc ++ [f x]) Γ → g (.sh (enc x)) Γ fun Γ1 => p Γ1 (fun w Γ3 => shr w Γ3 fun y Γ4 => acc.length < sizeLine ∧ K (acc ++ [y]) (wipEv vs Γ4)) noEX)
    (hl : xs.length ≤ sizeLine) (hk : k (xs.map f) Γ) : lcGo vs g qYes p k (xs.map enc) [] Γ := lcGo_map enc f xs [] hs (by simpa using hl) hk
theorem lc0_fil (enc : α → D) (c : α → Bool) (f : α → D) (xs : List α)
    (hs : ∀ x ∈ xs, ∀ (acc : List D) (K : List D → Ev → Prop), acc.length < sizeLine → (c x = true → K (acc ++ [f x]) Γ) → (c x = false → K acc Γ) → g (.sh (enc x)) Γ fun Γ1 => t Γ1 (fun b Γ2 => Cif b (p Γ2 (fun w Γ3 => shr w Γ3 fun y Γ4 => acc.length < sizeLine ∧ K (acc ++ [y]) (wipEv vs Γ4)) noEX) (K acc (wipEv vs Γ2))) noEX)
    (hl : xs.length ≤ sizeLine) (hk : k ((xs.filter c).map f) Γ) : lcGo vs g t p k (xs.map enc) [] Γ := lcGo_fil enc c f xs [] hs (by simpa using hl) hk
variable {vs1 : List Nat} {i1 : QI} {g1 : QG} {t1 : QT}
theorem lc20_app (enc : α → D) (f : α → List D) (xs : List α)
    (hs : ∀ x ∈ xs, ∀ (acc : List D) (K : List D → Ev → Prop), acc.length + (f x).length ≤ sizeLine → K (acc ++ f x) Γ → g (.sh (enc x)) Γ fun Γ1 => i1 Γ1 (fun ds1 Γ3 => lcGo vs1 g1 t1 p (fun acc' Γ4 => K acc' (wipEv vs Γ4)) ds1 acc (wipEv vs1 Γ3)) noEX)
    (hl : (xs.map fun x => (f x).length).sum ≤ sizeLine) (hk : k (xs.map f).flatten Γ) : lc2Go vs vs1 g qYes i1 g1 t1 p k (xs.map enc) [] Γ := lc2Go_app enc f xs [] hs (by simpa using hl) hk
end
theorem cdiv {i j : Int} (h : 0 < j) (h' : j < 1073741824) : CDiv i j := ⟨h, h'⟩
theorem cmulR {i j : Int} (h : -18446744073709551616 < j) (h' : j < 18446744073709551616) : CMul i j := .inr ⟨by omega, by omega⟩
theorem cmulL {i j : Int} (h : -18446744073709551616 < i) (h' : i < 18446744073709551616) : CMul i j := .inl ⟨by omega, by omega⟩
theorem ltsmall {n : Nat} (h : n < 1000000) : n < sizeLine := by rw [sizeLine_eq]; omega
theorem small {n : Nat} (h : n ≤ 1000000) : n ≤ sizeLine := by rw [sizeLine_eq]; omega
/-- a def that promises nothing -/
theorem cal_no {P : Program} {w : World} {K : PySem.W.Frag} {mg : Str → Option Value} {base : Heap} {x : Str} {st : Stmt} {f : Addr} {fd : FuncData} {N ps : List Str} {k n : Nat} (F : L2.Fun K x x st f fd) (hm : mg x = some (.ref f)) (b : Binds K fd ps []) (S : L2.FnScope N ps (L2.defScope st)) :
    Cal P w K mg base (k + 1) x (spD n fun _ _ => False) :=
  ⟨f, fd, ps, L2.Fun.ok F S (fun vs H Q E h => by obtain ⟨_, _, _, _, _, _, h, _⟩ := h; exact h.elim) fun cdv A outer s H vs Q E hr h => by obtain ⟨_, _, _, _, _, _, h, _⟩ := h; exact h.elim, hm, F.kp, b⟩

section
variable {P : Program} {w : World} {K : PySem.W.Frag} {mg : Str → Option Value} {base : Heap}
theorem fnok_mk {x : Str} {st : Stmt} {f : Addr} {fd : FuncData} {N ps : List Str} {k : Nat} {q : PD} (F : L2.Fun K x x st f fd) (S : L2.FnScope N ps (L2.defScope st))
    (hbody : ∀ (cdv : Value) (A : Around) (outer : List Env) (s : Shared) (H : Hp) (E : XK), Room k (A.deeper (envOfC x (L2.defScope st) s.heap.objs.size f cdv)) →
      ∃ t p', DSs (cxOf CX0 P w K mg base N x (L2.defScope st) f cdv A outer s H E).nox W0 (L2.defBody st) t p' ∧ ∀ ds R, ds.length = ps.length → q ds R → p' (endsOf R) (startEv N.length ds)) :
    FnOk P w K mg base CX0 (k + 1) f fd ps (spD ps.length q) := by
  have hN : ps.length ≤ N.length := by
    have := congrArg List.length S.pre
    rw [List.length_take] at this
    omega
  refine L2.Fun.ok F S (fun vs H Q E h => ?_) fun cdv A outer s H vs Q E hr h => ?_
  · obtain ⟨F, ds, R, _, b, hl, _⟩ := h
    rw [b.length, hl]
  · obtain ⟨t, p', hd, hq⟩ := hbody cdv A outer s H E hr
    obtain ⟨F0, ds, R, f0, b, hl, h1, h2⟩ := h
    refine ⟨t, hd.ps, hd.ss (endsOf R) _ (rel_start f0 b (by omega)) (hq ds R hl h1) ⟨fun Γ' F' σ' H' fp' x r z => ?_, fun w Γ' v F' σ' H' fp' x r rw z => ?_, fun _ _ _ _ _ _ _ z => z.elim, fun _ _ _ _ _ _ _ z => z.elim, fun _ _ _ _ _ _ _ _ z => z.elim⟩⟩
    · exact h2 _ _ F' H' x r.bx r.fx (.sh .non) z
    · cases rw with
      | sh h => exact h2 _ _ F' H' x r.bx r.fx (.sh h) z
      | ow h hf => exact h2 _ _ F' H' x r.bx r.fx (.ow h fun a ha => ⟨(hf a ha).1, (hf a ha).2.1⟩) z
      | @«at» i h =>
        unfold endsOf retW at z
        simp only at z
        split at z
        · rename_i d e
          obtain ⟨u, g1, g2⟩ := r.sh i d e
          rw [h] at g1
          cases g1
          exact h2 _ _ F' H' x r.bx r.fx (.sh g2) z
        · rename_i o e
          obtain ⟨u, g1, g2⟩ := r.ow i o e
          rw [h] at g1
          cases g1
          exact h2 _ _ F' H' x r.bx r.fx (.ow g2 fun a ha => ⟨(r.nb i a ha).1, (r.nb i a ha).2.1⟩) z
        · exact z.elim
/-- no list among the written objects -/
def noLists (K : PySem.W.Frag) : Bool := K.all fun p => match p.2.cls with
  | .type n => !(n == "list")
  | _ => true
theorem noLists_at {K : PySem.W.Frag} (h : noLists K = true) {a : Addr} {o : Obj} (e : K.lookup a = some o) : o.cls ≠ .type "list" := by
  intro z
  unfold noLists at h
  rw [List.all_eq_true] at h
  have hm : ∀ (K : List (Addr × Obj)), K.lookup a = some o → ∃ b, (b, o) ∈ K := by
    intro K
    induction K with
    | nil => intro e; cases e
    | cons p r ih =>
      obtain ⟨b, x⟩ := p
      intro e
      simp only [List.lookup] at e
      split at e
      · cases e
        exact ⟨b, by simp⟩
      · obtain ⟨c, hc⟩ := ih e
        exact ⟨c, List.mem_cons_of_mem _ hc⟩
  obtain ⟨b, hb⟩ := hm K e
  have := h _ hb
  simp only [z] at this
  cases this
def scrDat (ns : List Int) : D := .dict [(.none, .list (ns.map .int))]
theorem rpa_ints {F : Hp} : ∀ ns : List Int, RpA F (ns.map V.int) (ns.map .int)
  | [] => .nil
  | n :: r => .cons (.int n) (rpa_ints r)
theorem law_sp {K : PySem.W.Frag} {H : Hp} {a : Addr} {ns : List Int} {p : PD} {E : XK} (hK : noLists K = true) (hO : Only H) (hS : SqL K H a (ns.map V.int)) (hp : p [scrDat ns] fun w => w = .sh (.bool true)) : spD 1 p [.ref a] H (fun v _ => v = .bl true) E := by
  have hf : ∃ o, H a = some (.frz o (.lst (ns.map V.int))) := by
    rcases hS with (h | h) | ⟨o, its, n, h, h1, _⟩
    · rcases hO a with z | ⟨o, xs, z⟩
      · rw [h] at z
        cases z
      · rw [h] at z
        cases z
    · exact h
    · exact absurd h1 (noLists_at hK h)
  obtain ⟨o, e⟩ := hf
  refine ⟨H, [scrDat ns], _, Same.refl H, .cons (.fz e (rpa_ints ns)) .nil, rfl, hp, fun w v F' H' _ _ _ rr hw => ?_⟩
  subst hw
  cases rr with
  | sh h =>
    cases h
    rfl
end
end PL

namespace PL
open PySem PySem.Spec PyProof.Rows L2
/-! ### defs that may raise -/
abbrev PDX := List D → (Wv → Prop) → (Value → Prop) → Prop
def spX (n : Nat) (p : PDX) : Sp := fun vs H Q E => ∃ (F : Hp) (ds : List D) (R : Wv → Prop) (EX : Value → Prop), Same F H ∧ RpA F vs ds ∧ ds.length = n ∧ p ds R EX ∧ (∀ w v F' H', Ext H F F' → Same H H' → Same F' H' → RR H F' H' v w → R w → Q v H') ∧ ∀ c H', Same H H' → EX c → E c none H'
def qCallX (n : Nat) (p : PDX) (a : QA) : QE := fun Γ R E => a Γ (fun ds Γ1 => ds.length = n ∧ p ds (fun w => R w Γ1) (fun c => E c Γ1)) E
theorem Rel.more {B F : Hp} {Γ : Ev} {σ : L2.St} {H H' : Hp} {fp : Nat → List Addr} (r : Rel B F Γ σ H fp) (s : Same H H') : Rel B F Γ σ H' fp :=
  ⟨r.bx.trans s, r.fx.trans s, r.len, r.sh, fun i o e => by
    obtain ⟨v, g1, g2⟩ := r.ow i o e
    refine ⟨v, g1, g2.mono (Same.refl F) fun a ha => ?_⟩
    cases z : H a with
    | none => exact absurd z (r.nb i a ha).2.2
    | some u => exact s a u z, fun i a ha => by
    obtain ⟨b, c, d⟩ := r.nb i a ha
    exact ⟨b, c, fun z => d (s.free z)⟩, r.dj, r.ex⟩
theorem se_callX {W : WX} {ta : TA} {pa : QA} {n : Nat} {p : PDX} (ha : SA W ta pa) : SE W (tCallS (spX n p) (WE W) ta) (qCallX n p pa) := fun {B F Γ σ H fp} R EX Q r q k e => by
  refine ha _ _ _ r q (fun ds Γ1 vs F1 H1 fp1 x1 r1 b1 h1 => ?_) e
  refine ⟨F1, ds, _, _, r1.fx, b1, h1.1, h1.2, fun w v F2 H2 x2 s2 f2 rr hw => ?_, fun c H2 s2 hx => (e.mono x1) c Γ1 F1 H2 fp1 .refl (r1.more s2) hx⟩
  have nf : ∀ i a, a ∈ normF Γ1 fp1 i → F2 a = none := fun i a hi => by
    obtain ⟨_, e, h⟩ := r1.nb i a (normF_mem hi).1
    cases z : F2 a with
    | none => rfl
    | some u =>
      rcases x2.new a (by rw [z]; exact fun z => nomatch z) e with q | ⟨xs, q⟩
      · exact absurd q h
      · cases q2 : H1 a with
        | none => exact absurd q2 h
        | some u2 =>
          have e1 := s2 a u2 q2
          rw [f2 a _ q] at e1
          cases e1
          exact absurd q2 (r1.no_tup hi xs)
  have r1 := r1.norm
  have r2 : Rel B F2 Γ1 σ H2 (normF Γ1 fp1) := ⟨r1.bx.trans s2, f2, r1.len, fun i d e => by
    obtain ⟨v, g1, g2⟩ := r1.sh i d e
    exact ⟨v, g1, g2.mono x2.same⟩, fun i o e => by
    obtain ⟨v, g1, g2⟩ := r1.ow i o e
    refine ⟨v, g1, g2.mono x2.same fun a ha => ?_⟩
    cases z : H1 a with
    | none => exact absurd z (r1.nb i a ha).2.2
    | some u => exact s2 a u z, fun i a ha => by
    obtain ⟨b, c, d⟩ := r1.nb i a ha
    refine ⟨b, nf i a ha, fun z => d (s2.free z)⟩, r1.dj, r1.ex⟩
  have xx : Ext B F1 F2 := ⟨x2.same, fun a h e => (x2.new a h e).imp (fun z => r1.bx.free z) id⟩
  refine k w Γ1 v F2 H2 _ (x1.trans xx) r2 ?_ hw
  cases rr with
  | sh h => exact .sh h
  | @ow o f h hf =>
    refine .ow h fun a ha => ⟨r1.bx.free (hf a ha).1, (hf a ha).2, fun i hi => ?_⟩
    exact (r1.nb i a hi).2.2 (hf a ha).1
structure CalX (P : Program) (w : World) (K : PySem.W.Frag) (mg : Str → Option Value) (base : Heap) (k : Nat) (x : Str) (sp : Sp) : Prop where
  ex : ∃ (f : Addr) (fd : FuncData) (ps : List Str), FnOk P w K mg base (L2.CX P w) k f fd ps sp ∧ mg x = some (.ref f) ∧ PySem.W.keepIn K (.ref f) = true ∧ Binds K fd ps []
section
variable {X : Cx} {W : WX} {pos p : Pos} {e : Expr} {es : List Expr} {ta : TA} {pa : QA} {n : Nat} {q : PDX} {x : Str} {j k : Nat}
theorem d_callX (c : CalX X.prog X.w X.K X.mg X.base k x (spX n q)) (hr : Room j X.A) (tk : Takes X W) (ha : DA X W (e :: es) ta pa) (hk : k ≤ j := by decide) (hg : Gl X x := by rfl) (hdb : (x == ("__debug__" : Str)) = false := by decide)
    (he : starEach (e :: es) X.env = (false, eval e X.env) :: starEach es X.env := by rfl) (hpl : (backTo pos (starEach es X.env)).any (·.1) = false := by rfl) :
    DE X W (.Call (.Name x p) (e :: es) [] pos) (tCallS (spX n q) (WE W) ta) (qCallX n q pa) := ⟨by
  obtain ⟨f, fd, ps, F, hm, kp, b⟩ := c.ex
  exact pe_callS F (hr.mono hk) hg hm kp b (fun σ => passAt tk σ) ha.pa hdb he hpl, se_callX ha.sa⟩
end
def endsX (R : Wv → Prop) (EX : Value → Prop) : PEnds := { endsOf R with ex := fun c _ => EX c }
section
variable {P : Program} {w : World} {K : PySem.W.Frag} {mg : Str → Option Value} {base : Heap}
theorem calx_mk {x : Str} {st : Stmt} {f : Addr} {fd : FuncData} {N ps : List Str} {k : Nat} {q : PDX} (F : L2.Fun K x x st f fd) (hm : mg x = some (.ref f)) (b : Binds K fd ps []) (S : L2.FnScope N ps (L2.defScope st))
    (hbody : ∀ (cdv : Value) (A : Around) (outer : List Env) (s : Shared) (H : Hp) (E : XK), Room k (A.deeper (envOfC x (L2.defScope st) s.heap.objs.size f cdv)) →
      ∃ t p', DSs (cxOf (L2.CX P w) P w K mg base N x (L2.defScope st) f cdv A outer s H E) (fun c d _ H => E c d H) (L2.defBody st) t p' ∧ ∀ ds R EX, ds.length = ps.length → q ds R EX → p' (endsX R EX) (startEv N.length ds)) :
    CalX P w K mg base (k + 1) x (spX ps.length q) := by
  have hN : ps.length ≤ N.length := by
    have := congrArg List.length S.pre
    rw [List.length_take] at this
    omega
  refine ⟨f, fd, ps, L2.Fun.okX F S (fun vs H Q E h => ?_) fun cdv A outer s H vs Q E hr h => ?_, hm, F.kp, b⟩
  · obtain ⟨F, ds, R, EX, _, b, hl, _⟩ := h
    rw [b.length, hl]
  · obtain ⟨t, p', hd, hq⟩ := hbody cdv A outer s H E hr
    obtain ⟨F0, ds, R, EX, f0, b, hl, h1, h2, h3⟩ := h
    refine ⟨t, hd.ps, hd.ss (endsX R EX) _ (rel_start f0 b (by omega)) (hq ds R EX hl h1) ⟨fun Γ' F' σ' H' fp' x r z => ?_, fun w Γ' v F' σ' H' fp' x r rw z => ?_, fun _ _ _ _ _ _ _ z => z.elim, fun _ _ _ _ _ _ _ z => z.elim, fun c Γ' F' σ' H' fp' x r z => h3 c H' r.bx z⟩⟩
    · exact h2 _ _ F' H' x r.bx r.fx (.sh .non) z
    · cases rw with
      | sh h => exact h2 _ _ F' H' x r.bx r.fx (.sh h) z
      | ow h hf => exact h2 _ _ F' H' x r.bx r.fx (.ow h fun a ha => ⟨(hf a ha).1, (hf a ha).2.1⟩) z
      | @«at» i h =>
        unfold endsX endsOf retW at z
        simp only at z
        split at z
        · rename_i d e
          obtain ⟨u, g1, g2⟩ := r.sh i d e
          rw [h] at g1
          cases g1
          exact h2 _ _ F' H' x r.bx r.fx (.sh g2) z
        · rename_i o e
          obtain ⟨u, g1, g2⟩ := r.ow i o e
          rw [h] at g1
          cases g1
          exact h2 _ _ F' H' x r.bx r.fx (.ow g2 fun a ha => ⟨(r.nb i a ha).1, (r.nb i a ha).2.1⟩) z
        · exact z.elim
end
/-! ### raise -/
def qRaise (c : Value) : QS := fun P Γ => P.ex c Γ
section
variable {X : Cx} {W : WX} {pos : Pos} {e : Expr}
theorem ds_raise {C : Addr} (hc : X.calm = true) (tk : Takes X W) (he : PMk X e (fun _ H Q => Q (.ref C) none H)) : DS X W (.Raise (some e) none pos) (fun _ σ H => W (.ref C) none σ H) (qRaise (.ref C)) :=
  ⟨ps_raise hc tk he, fun {B F Γ σ H fp} P D r q a => a.ex _ Γ F σ H fp .refl r q⟩
end
/-- what is known of an own error's class -/
structure ExcOk (K : PySem.W.Frag) (mg : Str → Option Value) (x : Str) (C : Addr) : Prop where
  mgC : mg x = some (.ref C)
  exI : PySem.W.excIn K C [.type "ValueError", .type "Exception", .type "BaseException", .type "object"] "ValueError.__new__" = true
  kp : PySem.W.keepIn K (.ref C) = true
  sub : PySem.W.subIn K (.ref C) (.type "BaseException") = some true
  ty : PySem.W.typeIn K (.ref C) = some (.type "type")
theorem pmk_of {X : Cx} {x m : Str} {C : Addr} {j : Nat} {p p2 pos : Pos} (c : ExcOk X.K X.mg x C) (hg : Gl X x := by rfl) (hdb : (x == ("__debug__" : Str)) = false := by decide) :
    PMk X (.Call (.Name x p) [.Constant (.str m) j p2] [] pos) (fun _ H Q => Q (.ref C) none H) :=
  pmk_own PySem.F.excBase_ValueError c.exI c.mgC c.kp (raises_own c.sub c.ty) hg hdb
end PL

namespace PL
open PySem PySem.Spec PyProof.Rows L2
section
variable {B F : Hp} {Γ : Ev} {σ : L2.St} {H : Hp} {fp : Nat → List Addr}
theorem set_get {α : Type} {l : List α} {i j : Nat} {x y : α} (h : (l.set i x)[j]? = some y) : (i = j ∧ y = x) ∨ (i ≠ j ∧ l[j]? = some y) := by
  by_cases hj : i = j
  · subst hj
    rw [List.getElem?_set] at h
    split at h
    · split at h
      · cases h
        exact .inl ⟨rfl, rfl⟩
      · cases h
    · rename_i hn
      exact absurd rfl hn
  · rw [List.getElem?_set_ne hj] at h
    exact .inr ⟨hj, h⟩
theorem Rel.setAny (r : Rel B F Γ σ H fp) (i : Nat) {s : Sl} {o : Option V} (hs : s = .un ∨ ∃ a, s = .ex a ∧ o = some (.ref a)) : Rel B F (Γ.set i s) (σ.set i o) H (dropF fp i) := by
  refine ⟨r.bx, r.fx, by rw [List.length_set, List.length_set]; exact r.len, fun j d q => ?_, fun j u q => ?_, fun j a ha => r.nb j a (mem_dropF ha).2, fun j k a ha hb => r.dj j k a (mem_dropF ha).2 (mem_dropF hb).2, fun j a q => ?_⟩
  · rcases set_get q with ⟨_, e⟩ | ⟨hj, q⟩
    · rcases hs with z | ⟨a, z, _⟩ <;> rw [z] at e <;> cases e
    · obtain ⟨v, g1, g2⟩ := r.sh j d q
      exact ⟨v, by rw [List.getElem?_set_ne hj]; exact g1, g2⟩
  · rcases set_get q with ⟨_, e⟩ | ⟨hj, q⟩
    · rcases hs with z | ⟨a, z, _⟩ <;> rw [z] at e <;> cases e
    · obtain ⟨v, g1, g2⟩ := r.ow j _ q
      refine ⟨v, by rw [List.getElem?_set_ne hj]; exact g1, ?_⟩
      rw [dropF_ne (Ne.symm hj)]
      exact g2
  · have hl : j < (Γ.set i s).length := (List.getElem?_eq_some_iff.mp q).1
    rcases set_get q with ⟨rfl, e⟩ | ⟨hj, q⟩
    · rcases hs with z | ⟨a', z, ho⟩
      · rw [z] at e
        cases e
      · rw [z] at e
        cases e
        rw [ho]
        exact List.getElem?_set_self (by rw [← r.len]; simpa using hl)
    · rw [List.getElem?_set_ne hj]
      exact r.ex j a q
end
/-! ### try .. except C as n, of one class that the body may raise -/
def oe0 (D : Addr) : Obj := { cls := .ref D, dict := none, data := .fields #[] }
def qTryAs (i : Nat) (D : Addr) (qb : QS) (qs : Addr → QS) : QS := fun P Γ => qb { P with ex := fun c Γ' => c = .ref D ∧ ∀ a, qs a { nx := fun Γ'' => P.nx (Γ''.set i .un), rt := P.rt, bk := fun Γ'' => P.bk (Γ''.set i .un), ct := fun Γ'' => P.ct (Γ''.set i .un), ex := noEX } (Γ'.set i (.ex a)) } Γ
def qTryOnly (D : Addr) (qb : QS) (qs : Addr → QS) : QS := fun P Γ => qb { P with ex := fun c Γ' => c = .ref D ∧ ∀ a, qs a { nx := P.nx, rt := P.rt, bk := P.bk, ct := P.ct, ex := noEX } Γ' } Γ
/-- a wish under which every exception of the body is taken -/
def xeAll (X : Cx) : Value → Shared → Prop := fun e s₁ => wpAny (model X.prog X.w) X.A (noteFrame e X.env) (fun _ s₂ => wpAny (model X.prog X.w) X.A (setFlight e none) (fun _ _ => True) (fun _ _ => True) s₂) (fun _ _ => True) s₁
theorem takesAll {X : Cx} {W' : WX} {pn : List (Addr × Obj)} (hs : X.stack = X.env :: X.outer) (hf : X.env.frame = some X.env.locals) : Takes (X.tr pn (xeAll X)) W' := fun u s' xx => by
  obtain ⟨a, B, sI, pins', σ', H', cls, d, rfl, J', nb, up, sky, na, os, ag, _⟩ := xx
  have hfr : X.A.frames = some (X.env :: X.outer) := by
    have := J'.ok.frames
    rw [← hs]
    exact this
  have sky' : Sky B (X.env :: X.outer) a (Zc cls d) X.env.locals s'.heap := by rw [← hs]; exact sky
  show wpAny (model X.prog X.w) X.A (noteFrame (.ref a) X.env) _ _ _
  exact Sky.land Zc.steady hfr hf sky' fun _ _ _ => trivial
theorem passAll {X : Cx} : PassesOwn (model X.prog X.w) X.A X.env (xeAll X) := PassesOwn.looking
def tsAt (D : Addr) (ts : Addr → TS) : Addr → Value → Option Addr → TS := fun a cls d D' σ H => cls = .ref D ∧ d = none ∧ ts a D' σ H
section
variable {X : Cx} {W : WX} {x n : Str} {cv : Value} {i : Nat} {D : Addr} {body suite : List Stmt} {b₀ : Stmt} {np pos pos' : Pos} {tb : WX → List (Addr × Obj) → (Value → Shared → Prop) → TS} {ts : Addr → Obj → List (Addr × Obj) → TS} {qb : QS} {qs : Addr → QS}
theorem ds_try_as (D : Addr) (hN : X.N.Nodup) (hc : Names X x cv) (hm : PySem.W.exmOne X.K (.ref D) cv = some true) (tk : Takes X W)
    (hb : ∀ (W' : WX) (pn : List (Addr × Obj)) (xe : Value → Shared → Prop), Takes (X.tr pn xe) W' → PassesOwn (model X.prog X.w) X.A X.env xe → DSs (X.tr pn xe) W' body (tb W' pn xe) qb)
    (hsu : ∀ (a : Addr) (oe : Obj) (pn : List (Addr × Obj)), Zc (.ref D) none oe → (∃ vs, oe.data = .fields vs) → DSs (X.suite a ((a, oe) :: pn)) W0 (b₀ :: suite) (ts a oe pn) (qs a))
    (h1 : ∀ W' pn xe, tb W' pn xe = tb W' [] (fun _ _ => False) := by intros; rfl) (h2 : ∀ a oe pn, ts a oe pn = ts a (oe0 D) [] := by intros; rfl)
    (hs : X.stack = X.env :: X.outer := by rfl) (hf : X.env.frame = some X.env.locals := by rfl) (hi : X.N[i]? = some n := by rfl) (hln : X.env.kindOf n = some .local := by rfl) :
    DS X W (.Try body [.ExceptHandler (some (.Name x np)) (some n) (b₀ :: suite) pos'] [] [] pos) (fun D' σ H => tb (wAs X.K cv i (tsAt D fun a => ts a (oe0 D) []) W D') [] (fun _ _ => False) D' σ H) (qTryAs i D qb qs) := by
  refine ⟨ps_try_as (tb := fun W' => tb W' [] (fun _ _ => False)) (ts := tsAt D fun a => ts a (oe0 D) []) (Wout := W) hs hf hN hi hln hc tk (fun W' pn xe tk' pp => h1 W' pn xe ▸ (hb W' pn xe tk' pp).ps) fun a oe cls d pn hz hfl => ?_, fun {B F Γ σ H fp} P D' r q a => ?_⟩
  · by_cases h : cls = .ref D ∧ d = none
    · obtain ⟨rfl, rfl⟩ := h
      have p := (hsu a oe pn hz hfl).ps
      rw [h2 a oe pn] at p
      exact ⟨fun pins s σ H D' I h => p.run pins s σ H D' I h.2.2⟩
    · exact ⟨fun pins s σ H D' I hh => absurd ⟨hh.1, hh.2.1⟩ h⟩
  · rw [← h1 _ [] (xeAll X)]
    refine (hb (wAs X.K cv i (tsAt D fun a => ts a (oe0 D) []) W D') [] (xeAll X) (takesAll hs hf) passAll).ss _ _ r q ⟨a.nx, a.rt, a.bk, a.ct, fun c Γ' F' σ' H' fp' x1 r1 h => ?_⟩
    obtain ⟨rfl, h⟩ := h
    refine ⟨true, hm, fun _ b nb => ⟨rfl, rfl, ?_⟩, fun z => nomatch z⟩
    have r2 := r1.setAny i (s := .ex b) (o := some (.ref b)) (.inr ⟨b, rfl, rfl⟩)
    have am := a.mono x1
    exact (hsu b (oe0 D) [] ⟨rfl, rfl⟩ ⟨_, rfl⟩).ss _ _ r2 (h b) ⟨fun Γ2 F2 σ2 H2 fp2 x2 r2 q2 => am.nx _ F2 _ H2 _ x2 (r2.setAny i (.inl rfl)) q2, am.rt, fun Γ2 F2 σ2 H2 fp2 x2 r2 q2 => am.bk _ F2 _ H2 _ x2 (r2.setAny i (.inl rfl)) q2,
      fun Γ2 F2 σ2 H2 fp2 x2 r2 q2 => am.ct _ F2 _ H2 _ x2 (r2.setAny i (.inl rfl)) q2, fun _ _ _ _ _ _ _ _ z => z.elim⟩
theorem ds_try_only (D : Addr) (hc : Names X x cv) (hm : PySem.W.exmOne X.K (.ref D) cv = some true) (tk : Takes X W)
    (hb : ∀ (W' : WX) (pn : List (Addr × Obj)) (xe : Value → Shared → Prop), Takes (X.tr pn xe) W' → PassesOwn (model X.prog X.w) X.A X.env xe → DSs (X.tr pn xe) W' body (tb W' pn xe) qb)
    (hsu : ∀ (a : Addr) (oe : Obj) (pn : List (Addr × Obj)), Zc (.ref D) none oe → (∃ vs, oe.data = .fields vs) → DSs (X.suite a ((a, oe) :: pn)) W0 (b₀ :: suite) (ts a oe pn) (qs a))
    (h1 : ∀ W' pn xe, tb W' pn xe = tb W' [] (fun _ _ => False) := by intros; rfl) (h2 : ∀ a oe pn, ts a oe pn = ts a (oe0 D) [] := by intros; rfl)
    (hs : X.stack = X.env :: X.outer := by rfl) (hf : X.env.frame = some X.env.locals := by rfl) :
    DS X W (.Try body [.ExceptHandler (some (.Name x np)) none (b₀ :: suite) pos'] [] [] pos) (fun D' σ H => tb (wOnly X.K cv (tsAt D fun a => ts a (oe0 D) []) W D') [] (fun _ _ => False) D' σ H) (qTryOnly D qb qs) := by
  refine ⟨ps_try_only (tb := fun W' => tb W' [] (fun _ _ => False)) (ts := tsAt D fun a => ts a (oe0 D) []) (Wout := W) hs hf hc tk (fun W' pn xe tk' pp => h1 W' pn xe ▸ (hb W' pn xe tk' pp).ps) fun a oe cls d pn hz hfl => ?_, fun {B F Γ σ H fp} P D' r q a => ?_⟩
  · by_cases h : cls = .ref D ∧ d = none
    · obtain ⟨rfl, rfl⟩ := h
      have p := (hsu a oe pn hz hfl).ps
      rw [h2 a oe pn] at p
      exact ⟨fun pins s σ H D' I h => p.run pins s σ H D' I h.2.2⟩
    · exact ⟨fun pins s σ H D' I hh => absurd ⟨hh.1, hh.2.1⟩ h⟩
  · rw [← h1 _ [] (xeAll X)]
    refine (hb (wOnly X.K cv (tsAt D fun a => ts a (oe0 D) []) W D') [] (xeAll X) (takesAll hs hf) passAll).ss _ _ r q ⟨a.nx, a.rt, a.bk, a.ct, fun c Γ' F' σ' H' fp' x1 r1 h => ?_⟩
    obtain ⟨rfl, h⟩ := h
    refine ⟨true, hm, fun _ b nb => ⟨rfl, rfl, ?_⟩, fun z => nomatch z⟩
    have am := a.mono x1
    exact (hsu b (oe0 D) [] ⟨rfl, rfl⟩ ⟨_, rfl⟩).ss _ _ r1 (h b) ⟨am.nx, am.rt, am.bk, am.ct, fun _ _ _ _ _ _ _ _ z => z.elim⟩
end
/-! ### isinstance(e, C) of the exception that the suite holds -/
def qIsE (i : Nat) (a : Addr) (b : Bool) : QE := fun Γ R _ => Γ[i]? = some (.ex a) ∧ R (.sh (.bool b)) Γ
section
variable {X : Cx} {a D C : Addr} {oe : Obj} {pn : List (Addr × Obj)} {pos p p1 p2 : Pos} {n x2 : Str} {b : Bool}
theorem d_isE (i : Nat) (c : ExcC X.K D) (hz : Zc (.ref D) none oe) (hf : ∃ vs, oe.data = .fields vs) (hm : X.mg "isinstance" = none) (hC : X.mg x2 = some (.ref C)) (hk : PySem.W.kitOne X.K (.ref D) (.ref C) = some b)
    (hg : Gl (X.suite a ((a, oe) :: pn)) "isinstance" := by rfl) (hg2 : Gl (X.suite a ((a, oe) :: pn)) x2 := by rfl) (hd2 : (x2 == ("__debug__" : Str)) = false := by decide)
    (hN : X.N[i]? = some n := by rfl) (hv : Vis X.env.scope n := by first | exact Or.inl rfl | exact Or.inr (Or.inl rfl) | exact Or.inr (Or.inr rfl)) (hd : (n == ("__debug__" : Str)) = false := by decide) (hcd : (n == ("__classdict__" : Str)) = false := by decide)
    (he : starEach [.Name n p1, .Name x2 p2] (X.suite a ((a, oe) :: pn)).env = (false, eval (.Name n p1) (X.suite a ((a, oe) :: pn)).env) :: starEach [.Name x2 p2] (X.suite a ((a, oe) :: pn)).env := by rfl)
    (hpl : (backTo pos (starEach [.Name x2 p2] (X.suite a ((a, oe) :: pn)).env)).any (·.1) = false := by rfl)
    (he2 : starEach [.Name x2 p2] (X.suite a ((a, oe) :: pn)).env = (false, eval (.Name x2 p2) (X.suite a ((a, oe) :: pn)).env) :: starEach [] (X.suite a ((a, oe) :: pn)).env := by rfl) :
    DE (X.suite a ((a, oe) :: pn)) W0 (.Call (.Name "isinstance" p) [.Name n p1, .Name x2 p2] [] pos) (tCB (rIsE X.K D a) (tCons (tVar i) (tCons (tC (.ref C)) tNil))) (qIsE i a b) :=
  ⟨pe_callB (call_isE c hz hf) hg hm (by decide +kernel) (pa_cons (pe_var hN hv hd hcd) (pa_cons (pe_glob hg2 hC rfl hd2) pa_nil he2) he) (by decide) (by decide) he hpl, fun {B F Γ σ H fp} R EX Q r q k e => by
  obtain ⟨q1, q2⟩ := q
  exact ⟨.ref a, r.ex i a q1, .ref C, .ref C, b, rfl, fun u hu => hu, hk, k _ Γ _ F H fp .refl r (.sh (.bl b)) q2⟩⟩
end
end PL

namespace PL
open PySem PySem.Spec PyProof.Rows L2
/-! ### defs that are called with no repr under way (they show values) -/
structure FnG (P : Program) (w : World) (K : PySem.W.Frag) (mg : Str → Option Value) (base : Heap) (CX : CXT) (k : Nat) (f : Addr) (fd : FuncData) (ps : List Str) (sp : Sp) : Prop where
  len : ∀ vs H Q E, sp vs H Q E → vs.length = ps.length
  run : ∀ (A : Around) (outer : List Env) (s : Shared) (H : Hp) (args : Args) (us : List Value) (vs : List V) (Q : VK) (E : XK), Room k A → A.guards = some [] → Env0 P w K mg base A outer s H → BindsTo s fd args (ps.zip us) → Vals vs us → sp vs H Q E →
    codeAny (model P w) A (.call (.ref f) args) (CR CX outer P w H s Q E) s
section
variable {P : Program} {w : World} {K : PySem.W.Frag} {mg : Str → Option Value} {base : Heap}
theorem fng_of {CX : CXT} {k : Nat} {f : Addr} {name qual : Str} {params : Arguments} {body : List Stmt} {scope : Scope} {dV kV doc pm cdv ct oc : Value} {an od : Option Addr}
    {osl : Array (Option Value)} {N ps : List Str} {sp : Sp} (lk : K.lookup f = some ⟨oc, od, .func (PySem.W.fnOf name qual params body scope dV kV doc pm an cdv ct), osl⟩) (hcd : PySem.W.codeIn K cdv qual = true) (S : FnScope N ps scope)
    (len : ∀ vs H Q E, sp vs H Q E → vs.length = ps.length)
    (hbody : ∀ (A : Around) (outer : List Env) (s : Shared) (H : Hp) (vs : List V) (Q : VK) (E : XK), Room k (A.deeper (envOfC qual scope s.heap.objs.size f cdv)) → (A.deeper (envOfC qual scope s.heap.objs.size f cdv)).guards = some [] → sp vs H Q E →
      ∃ t, PSs (cxOf CX P w K mg base N qual scope f cdv A outer s H E) body t ∧ t { nx := fun _ H' => Q .non H', rt := Q } (start N vs) H) :
    FnG P w K mg base CX (k + 1) f (PySem.W.fnOf name qual params body scope dV kV doc pm an cdv ct) ps sp := by
  refine ⟨len, fun A outer s H args us vs Q E hr hgu e0 hb r hsp => ?_⟩
  have hl := len _ _ _ _ hsp
  have KX : K.In s.heap := e0.mod.kin.keeps fun b o e => (e0.bs b o e).1
  have lim : s.heap.NoLimit := e0.mod.nolimit.keeps fun b o e => (e0.bs b o e).1
  have hkind : ∀ y ∈ ps.zip us, scope.names.lookup y.1 = some .local ∨ (scope.names.lookup y.1 = some .cell ∧ ((cellsFrom (s.heap.objs.size + 1) scope.names []).lookup y.1).isSome = true) := fun ⟨n, v⟩ hy => by
    rcases S.par n (List.of_mem_zip hy).1 with q | q
    · exact .inl q
    · exact .inr ⟨q, PySem.W.cellsFrom_some _ _ _ (.inl q)⟩
  refine codeAny_call_function hr.depth (KX _ _ lk) rfl S.co S.gen rfl (PySem.W.codeRec_of KX hcd) (hb _ _ _ _ ?_)
  refine wpAny_newFunctionEnv_cells S.kind hkind fun env he s1 x => ?_
  subst he
  refine ⟨lim.keeps x.toInCall.keep, codeAny_func ?_⟩
  obtain ⟨t, ht, hq⟩ := hbody A outer s H vs Q E (hr.deeper _) hgu hsp
  have I : Inv (cxOf CX P w K mg base N qual scope f cdv A outer s H E) [] (start N vs) H s1 := inv_start S hr.hd e0 hl r x
  refine wpAny_mono (ht.run [] s1 (start N vs) H _ I hq) (fun fl s' hs => ?_) fun e s' hs => hs
  have fin : ∀ {σ' : L2.St} {H' : Hp} {v : V} {u : Value}, Inv (cxOf CX P w K mg base N qual scope f cdv A outer s H E) [] σ' H' s' → RelV v u → Q v H' → CE outer P w H s Q u s' :=
    fun {σ' H' v u} J rv q => ⟨v, H', J.os, J.bare, J.base, J.hok, rv, q⟩
  cases fl with
  | ret u =>
    obtain ⟨v, σ', H', J, rv, q⟩ := hs
    exact fin J rv q
  | next =>
    obtain ⟨σ', H', J, q⟩ := hs
    exact fin (v := V.non) (u := Value.none) J rfl q
  | brk =>
    obtain ⟨_, _, _, q⟩ := hs
    exact False.elim q
  | cont =>
    obtain ⟨_, _, _, q⟩ := hs
    exact False.elim q
/-- a def that may be called by its name where no repr is under way -/
structure CalG (P : Program) (w : World) (K : PySem.W.Frag) (mg : Str → Option Value) (base : Heap) (k : Nat) (x : Str) (sp : Sp) : Prop where
  ex : ∃ (f : Addr) (fd : FuncData) (ps : List Str), FnG P w K mg base CX0 k f fd ps sp ∧ mg x = some (.ref f) ∧ PySem.W.keepIn K (.ref f) = true ∧ Binds K fd ps []
theorem FnG.mono {CX : CXT} {j k : Nat} {f : Addr} {fd : FuncData} {ps : List Str} {sp : Sp} (F : FnG P w K mg base CX j f fd ps sp) (h : j ≤ k) : FnG P w K mg base CX k f fd ps sp :=
  ⟨F.len, fun A outer s H args us vs Q E hr => F.run A outer s H args us vs Q E (hr.mono h)⟩
end
section
variable {X : Cx} {W : WX} {pos p : Pos} {e : Expr} {es : List Expr} {ta : TA} {pa : QA} {n : Nat} {q : PD} {x : Str} {j k : Nat}
theorem run_g {pins : List (Addr × Obj)} {σ : L2.St} {H : Hp} {s : Shared} {Q : VK} {us : List Value} {vs : List V} {f : Addr} {fd : FuncData} {ps : List Str} {sp : Sp} (F : FnG X.prog X.w X.K X.mg X.base CX0 k f fd ps sp) (hr : Room k X.A) (hgu : X.A.guards = some []) (hb : Binds X.K fd ps [])
    (I : L2.Inv X pins σ H s) (r : Vals vs us) (h : sp vs H Q E0) : wpAny (model X.prog X.w) X.A (call (.ref f) us) (EP X pins σ Q) X.xe s := by
  have hl : (us ++ []).length = ps.length := by rw [List.append_nil, ← r.length]; exact F.len _ _ _ _ h
  have b := hb s us I.kIn hl
  rw [List.append_nil] at b
  refine wpAny_call (codeAny_mono (F.run X.A X.stack s H ⟨us, []⟩ us vs Q E0 hr hgu I.env0 b r h) fun r s' hq => ?_)
  cases r with
  | error e => exact (pass0 pins σ H s e s' I hq)
  | ok fl =>
    cases fl with
    | ret u => exact I.after hq
    | next => exact False.elim hq
    | brk => exact False.elim hq
    | cont => exact False.elim hq
theorem d_callG (c : CalG X.prog X.w X.K X.mg X.base k x (spD n q)) (hr : Room j X.A) (hgu : X.A.guards = some []) (ha : DA X W (e :: es) ta pa) (hk : k ≤ j := by decide) (hg : Gl X x := by rfl) (hdb : (x == ("__debug__" : Str)) = false := by decide)
    (he : starEach (e :: es) X.env = (false, eval e X.env) :: starEach es X.env := by rfl) (hpl : (backTo pos (starEach es X.env)).any (·.1) = false := by rfl) :
    DE X W (.Call (.Name x p) (e :: es) [] pos) (tCall (spD n q) [] E0 ta) (qCall n q pa) := ⟨by
  obtain ⟨f, fd, ps, F, hm, kp, b⟩ := c.ex
  refine ⟨fun pins s σ H Q I h => ?_⟩
  refine wpAny_Call_Name_kw (ld_glob I hg hm ?_ hdb)
  refine PySem.W.callWith_K (h₀ := X.base) I.ok.mod.kin kp (thn (ha.pa.run pos pins s σ H _ I h) fun us s1 ⟨vs, H1, I1, r, q⟩ => ⟨I1.kIn, ?_⟩) he hpl
  have q' : spD n _ (vs ++ []) H1 Q E0 := q
  rw [List.append_nil] at q'
  exact run_g (F.mono hk) hr hgu b I1 r q', se_call ha.sa⟩
end

section
variable {P : Program} {w : World} {K : PySem.W.Frag} {mg : Str → Option Value} {base : Heap}
theorem fng_mk {x : Str} {st : Stmt} {f : Addr} {fd : FuncData} {N ps : List Str} {k : Nat} {q : PD} (F : L2.Fun K x x st f fd) (S : L2.FnScope N ps (L2.defScope st))
    (hbody : ∀ (cdv : Value) (A : Around) (outer : List Env) (s : Shared) (H : Hp) (E : XK), Room k (A.deeper (envOfC x (L2.defScope st) s.heap.objs.size f cdv)) → (A.deeper (envOfC x (L2.defScope st) s.heap.objs.size f cdv)).guards = some [] →
      ∃ t p', DSs (cxOf CX0 P w K mg base N x (L2.defScope st) f cdv A outer s H E).nox W0 (L2.defBody st) t p' ∧ ∀ ds R, ds.length = ps.length → q ds R → p' (endsOf R) (startEv N.length ds)) :
    FnG P w K mg base CX0 (k + 1) f fd ps (spD ps.length q) := by
  have hN : ps.length ≤ N.length := by
    have := congrArg List.length S.pre
    rw [List.length_take] at this
    omega
  obtain ⟨oc, od, kV, doc, pm, an, cdv, ct, osl, rfl, lk, hcd⟩ := F.ex
  refine fng_of lk hcd S (fun vs H Q E h => ?_) fun A outer s H vs Q E hr hgu h => ?_
  · obtain ⟨F, ds, R, _, b, hl, _⟩ := h
    rw [b.length, hl]
  · obtain ⟨t, p', hd, hq⟩ := hbody cdv A outer s H E hr hgu
    obtain ⟨F0, ds, R, f0, b, hl, h1, h2⟩ := h
    refine ⟨t, hd.ps.nox, hd.ss (endsOf R) _ (rel_start f0 b (by omega)) (hq ds R hl h1) ⟨fun Γ' F' σ' H' fp' x r z => ?_, fun w Γ' v F' σ' H' fp' x r rw z => ?_, fun _ _ _ _ _ _ _ z => z.elim, fun _ _ _ _ _ _ _ z => z.elim, fun _ _ _ _ _ _ _ _ z => z.elim⟩⟩
    · exact h2 _ _ F' H' x r.bx r.fx (.sh .non) z
    · cases rw with
      | sh h => exact h2 _ _ F' H' x r.bx r.fx (.sh h) z
      | ow h hf => exact h2 _ _ F' H' x r.bx r.fx (.ow h fun a ha => ⟨(hf a ha).1, (hf a ha).2.1⟩) z
      | @«at» i h =>
        unfold endsOf retW at z
        simp only at z
        split at z
        · rename_i d e
          obtain ⟨u, g1, g2⟩ := r.sh i d e
          rw [h] at g1
          cases g1
          exact h2 _ _ F' H' x r.bx r.fx (.sh g2) z
        · rename_i o e
          obtain ⟨u, g1, g2⟩ := r.ow i o e
          rw [h] at g1
          cases g1
          exact h2 _ _ F' H' x r.bx r.fx (.ow g2 fun a ha => ⟨(r.nb i a ha).1, (r.nb i a ha).2.1⟩) z
        · exact z.elim
theorem calg_mk {x : Str} {st : Stmt} {f : Addr} {fd : FuncData} {N ps : List Str} {k : Nat} {q : PD} (F : L2.Fun K x x st f fd) (hm : mg x = some (.ref f)) (b : Binds K fd ps []) (S : L2.FnScope N ps (L2.defScope st))
    (hbody : ∀ (cdv : Value) (A : Around) (outer : List Env) (s : Shared) (H : Hp) (E : XK), Room k (A.deeper (envOfC x (L2.defScope st) s.heap.objs.size f cdv)) → (A.deeper (envOfC x (L2.defScope st) s.heap.objs.size f cdv)).guards = some [] →
      ∃ t p', DSs (cxOf CX0 P w K mg base N x (L2.defScope st) f cdv A outer s H E).nox W0 (L2.defBody st) t p' ∧ ∀ ds R, ds.length = ps.length → q ds R → p' (endsOf R) (startEv N.length ds)) :
    CalG P w K mg base (k + 1) x (spD ps.length q) := ⟨f, fd, ps, fng_mk F S hbody, hm, F.kp, b⟩
end
/-! ### repr of nested data -/
/-- what the pure side is asked: the shown text fits -/
def shOk (d : D) : Prop := d.showable = true ∧ flat 60 d = true ∧ d.shown.length + 64 ≤ sizeLine ∧ PyData.strOk d.shown = true
def opRepr : OP1 := fun d k => shOk d ∧ k (.sh (.str d.shown))
def rReprD (K : PySem.W.Frag) : List V → Hp → VK → Prop := fun xs H Q => ∃ (a : Addr) (d : D), xs = [.ref a] ∧ Dp K H (.ref a) d ∧ d.showable = true ∧ d.hasDict = false ∧ d.depth ≤ 60 ∧ d.shown.length + 64 ≤ sizeLine ∧ Q (.str d.shown) H
section
variable {X : Cx} {W : WX} {pos p : Pos} {a : Expr} {ta : TE} {pa : QE} {j : Nat}
theorem cr_repr (hr : Room j X.A) (hgu : X.A.guards = some []) : CallR X (.builtin "repr") (rReprD X.K) := by
  intro pins s σ H xs us Q I r h
  obtain ⟨a, d, rfl, dp, h1, h2, h3, h4, q⟩ := h
  obtain ⟨u, rfl, ru⟩ := vals1 r
  obtain ⟨as, rd⟩ := Dp.reads I d _ u dp ru
  cases ru
  have hu := hr.un
  exact repr_of_reads' rd h1 (fun z => by rw [h2] at z; cases z) hgu (by omega) (fun _ _ e => e) (fun h' u tk hk => ⟨.str _, H, I.kept (t' := tk) hk, ⟨_, rfl⟩, q⟩) (by omega)
end
end PL

namespace PL
open PySem PySem.Spec PyProof.Rows L2
/-! ### the law's end for a def that shows values -/
/-- the tracked heap of the head: the script alone, if it is no object of the module -/
noncomputable def headH (K : PySem.W.Frag) (a : Addr) (vs : List Value) (ns : List Int) : Hp := fun b =>
  if b = a ∧ K.lookup a = none then some (.frz { cls := .type "list", data := .seq vs.toArray } (.lst (ns.map V.int))) else none
section
variable {P : Program} {w : World} {K : PySem.W.Frag} {mg mb : Str → Option Value} {k : Nat} {fa a : Addr} {fd : FuncData} {x : Str} {sp : Sp} {s₁ : Shared} {vs : List Value} {ns : List Int}
theorem headH_some {b : Addr} {u : HO} (h : headH K a vs ns b = some u) : b = a ∧ K.lookup a = none ∧ u = .frz { cls := .type "list", data := .seq vs.toArray } (.lst (ns.map V.int)) := by
  unfold headH at h
  split at h
  · rename_i q
    cases h
    exact ⟨q.1, q.2, rfl⟩
  · cases h
theorem headH_only : Only (headH K a vs ns) := fun b => by
  cases q : headH K a vs ns b with
  | none => exact .inl rfl
  | some u => exact .inr ⟨_, _, congrArg some (headH_some q).2.2⟩
theorem law_runG (KX : K.In s₁.heap) (hns : s₁.heap.Ns mainGlobals mg) (hb : s₁.heap.Ns builtinsNs mb) (hbb : ∀ x : Str, x ≠ "__name__" → mb x = bootBuiltins x) (hlim : s₁.heap.NoLimit) (hg : s₁.gens = #[])
    (ha : s₁.heap.get? a = some { cls := .type "list", data := .seq vs.toArray }) (hi : IntsAre vs ns) (hl : ns.length ≤ sizeLine) (hr : Room k callerA)
    (F : ∀ base : Heap, K.In base → base.Ns mainGlobals mg → FnG P w K mg base CX0 k fa fd [x] sp) (hbind : ∀ (s : Shared) (u : Value), BindsTo s fd ⟨[u], []⟩ [(x, u)])
    (hsp : ∀ H : Hp, Only H → SqL K H a (ns.map V.int) → sp [.ref a] H (fun v _ => v = .bl true) E0) :
    codeAny (model P w) callerA (.call (.ref fa) ⟨[.ref a], []⟩) (fun r s' => r = .ok (.ret (.bool true)) ∧ OldK s₁.heap s'.heap ∧ s'.os = s₁.os ∧ AllBare s'.gens) s₁ := by
  have rv := vals_ints hi
  have eL := hi.length
  have stay : ∀ {b : Addr} {o : Obj}, s₁.heap.get? b = some o → (b = a → K.lookup a ≠ none) → (hidT s₁.heap (headH K a vs ns)).get? b = some o := fun {b o} e n => hidT_get e (by
    cases q : headH K a vs ns b with
    | none => rfl
    | some u => exact absurd (headH_some q).2.1 (n (headH_some q).1))
  have nsS : ∀ {b : Addr} {m : Str → Option Value}, s₁.heap.Ns b m → (hidT s₁.heap (headH K a vs ns)).Ns b m := fun {b m} ⟨o, es, ep, e, d, r⟩ => ⟨o, es, ep, stay e (fun z => by
    rw [z, ha] at e
    cases e
    cases (show Data.seq vs.toArray _ = Data.dict es ep from d)), d, r⟩
  have kb : K.In (hidT s₁.heap (headH K a vs ns)) := fun b o e => stay (KX b o e) fun z n => by
    rw [z, n] at e
    cases e
  have hok : HOk P w (headH K a vs ns) s₁.heap := fun b u z => by
    obtain ⟨rfl, _, rfl⟩ := headH_some z
    exact ⟨ha, by rw [List.length_map]; exact hl, vs, _, rv, ha⟩
  have sq : SqL K (headH K a vs ns) a (ns.map V.int) := by
    cases q : K.lookup a with
    | none => exact .inl (.inr ⟨_, if_pos ⟨rfl, q⟩⟩)
    | some o =>
      have e := KX a o q
      rw [ha] at e
      cases e
      exact .inr ⟨_, vs.toArray, _, q, rfl, rfl, rfl, by rw [List.size_toArray, eL]; exact hl, by simpa using rv⟩
  have e0 : Env0 P w K mg (hidT s₁.heap (headH K a vs ns)) callerA [] s₁ (headH K a vs ns) :=
    ⟨rfl, ⟨kb, nsS hns, ⟨mb, nsS hb, hbb⟩, hlim.elim fun mc h => ⟨mc, nsS h.1, h.2⟩⟩, fun _ _ e => of_hidT e, Nat.le_of_eq (hidT_size _ _), trivial, fun b hb => (List.not_mem_nil hb).elim, hok, .of_eq hg⟩
  refine codeAny_mono ((F _ kb (nsS hns)).run callerA [] s₁ _ ⟨[.ref a], []⟩ [.ref a] [.ref a] _ _ hr rfl e0 (hbind s₁ (.ref a)) (.cons rfl .nil) (hsp _ headH_only sq)) fun r s' h => ?_
  match r, h with
  | .error e, h => exact False.elim h
  | .ok .next, h => exact False.elim h
  | .ok .brk, h => exact False.elim h
  | .ok .cont, h => exact False.elim h
  | .ok (.ret u), h =>
    obtain ⟨v, H', os, bare, un, hok', r', q⟩ := h
    obtain rfl : v = .bl true := q
    obtain rfl : u = Value.bool true := r'
    refine ⟨rfl, OldK.of_keep fun b o e => ?_, os, bare⟩
    cases q : headH K a vs ns b with
    | none => exact un.keep b o e q (fun z => (List.not_mem_nil z).elim) (by simp)
    | some u =>
      obtain ⟨rfl, _, rfl⟩ := headH_some q
      obtain ⟨e2, _⟩ := hok' _ _ (un.frzs _ _ _ q)
      rw [ha] at e
      cases e
      exact e2
end
theorem walk_ofG {l : PySem.W.OpenLaw} {n k : Nat} {q : Program} {loose : List Str} {XP : (Str → Option Value) → Heap → Prop} {YP : World → Heap → Prop} {d : DefRec} {K : Params → PySem.W.Frag} {sp : World → Sp} {x : Str}
    (hn : l.most = some n) (hn2 : n ≤ sizeLine) (hdf : d.params.defaults = []) (hr : Room k callerA)
    (hY : ∀ (w : World) (h : Heap), YP w h → (K w.params).In h)
    (F : ∀ (w : World) (mg : Str → Option Value) (fa : Addr) (h : Heap), (K w.params).In h → h.Ns mainGlobals mg → mg d.name = some (.ref fa) →
      ∃ fd : FuncData, (∀ (s : Shared) (u : Value), BindsTo s fd ⟨[u], []⟩ [(x, u)]) ∧
        ∀ base : Heap, (K w.params).In base → base.Ns mainGlobals mg → FnG l.prog w (K w.params) mg base CX0 k fa fd [x] (sp w))
    (hsp : ∀ (w : World) (H : Hp) (a : Addr) (ns : List Int), ns.length ≤ n → Only H → SqL (K w.params) H a (ns.map V.int) → sp w [.ref a] H (fun v _ => v = .bl true) E0) :
    PySem.W.WalkO q loose XP YP l.row.toRowW d [] (fun f vs => PySem.call f vs) :=
  Att.attach_call hn hdf fun w s₀ s₁ mg mb fa o pm cd doc a vs ns G Y ho hd hcd hmg hobj hints hlen hg =>
    have KX := hY w _ Y
    (F w mg fa _ KX G.T.g hmg).elim fun fd h => law_runG KX G.T.g G.T.b G.T.builtins G.T.nolimit hg hobj hints (Nat.le_trans hlen hn2) hr h.2 h.1 fun H hO hS => hsp w H a ns hlen hO hS
end PL

namespace PL
open PySem PySem.Spec PyProof.Rows L2
theorem strOk_lit (s : String) : PyData.strOk (s : Str) = true := strOk_iff.mpr fun c hc => by
  have hc' : c ∈ (Str.ofString s).cps.toList := hc
  rw [Str.ofString_eq_toList] at hc'
  simp only [List.mem_map] at hc'
  obtain ⟨x, _, rfl⟩ := hc'
  have := x.valid
  rcases this with h | ⟨_, h⟩
  · exact Nat.lt_trans h (by decide)
  · exact h
theorem reprChar_ok {q c : Nat} (hc : c < 0x110000) : ∀ x ∈ PySem.Builtin.Str.reprChar q c, x < 0x110000 := by
  intro x hx
  have dig : ∀ (w : Nat), ∀ y ∈ (let d := (Nat.toDigits 16 c).map Char.toNat; List.replicate (w - d.length) 48 ++ d), y < 0x110000 := fun w y hy => by
    rcases List.mem_append.mp hy with h | h
    · rw [(List.mem_replicate.mp h).2]; decide
    · obtain ⟨z, _, rfl⟩ := List.mem_map.mp h
      rcases z.valid with h | ⟨_, h⟩
      · exact Nat.lt_trans h (by decide)
      · exact h
  unfold PySem.Builtin.Str.reprChar at hx
  simp only at hx
  split at hx
  · simp at hx; omega
  split at hx
  · simp at hx; omega
  split at hx
  · simp at hx; omega
  split at hx
  · simp at hx; omega
  split at hx
  · simp at hx; omega
  split at hx
  · rcases List.mem_append.mp hx with h | h
    · simp at h; omega
    · exact dig _ _ h
  split at hx
  · rcases List.mem_append.mp hx with h | h
    · simp at h; omega
    · exact dig _ _ h
  · rcases List.mem_append.mp hx with h | h
    · simp at h; omega
    · exact dig _ _ h
theorem foldl_ok {q : Nat} : ∀ (l : List Nat) (acc : Array Nat), (∀ c ∈ l, c < 0x110000) → (∀ c ∈ acc.toList, c < 0x110000) → ∀ c ∈ (l.foldl (fun out c => out ++ (PySem.Builtin.Str.reprChar q c).toArray) acc).toList, c < 0x110000
  | [], acc, _, h => h
  | x :: r, acc, h1, h2 => foldl_ok r _ (fun c hc => h1 c (List.mem_cons_of_mem _ hc)) fun c hc => by
    rw [Array.toList_append] at hc
    rcases List.mem_append.mp hc with h | h
    · exact h2 c h
    · exact reprChar_ok (h1 x (List.mem_cons_self ..)) c h
theorem reprQuote_ok (x : Str) : reprQuote x < 0x110000 := by
  unfold reprQuote
  split <;> decide
theorem strOk_reprText {x : Str} (h : PyData.strOk x = true) : PyData.strOk (reprText x) = true := strOk_iff.mpr fun c hc => by
  unfold reprText at hc
  rw [Array.toList_push, ← Array.foldl_toList] at hc
  rcases List.mem_append.mp hc with h1 | h1
  · exact foldl_ok _ _ (strOk_iff.mp h) (fun c hc => by
      have : c = reprQuote x := by simpa using hc
      rw [this]; exact reprQuote_ok x) c h1
  · have : c = reprQuote x := by simpa using h1
    rw [this]; exact reprQuote_ok x
theorem strOk_textFrom : ∀ (ts : List Str) (k : Nat) (acc : Str), PyData.strOk acc = true → (∀ t ∈ ts, PyData.strOk t = true) → PyData.strOk (textFrom k acc ts) = true
  | [], k, acc, h, _ => h
  | t :: ts, k, acc, h, h2 => by
    unfold textFrom
    exact strOk_textFrom ts _ _ (strOk_app (strOk_app h (strOk_lit _)) (h2 t (List.mem_cons_self ..))) fun u hu => h2 u (List.mem_cons_of_mem _ hu)
mutual
theorem shown_ok : ∀ d : D, d.canLay0 = true → PyData.strOk d.shown = true
  | .none, _ => by simp only [PyData.shown]; exact strOk_lit _
  | .bool b, _ => by simp only [PyData.shown]; cases b <;> exact strOk_lit _
  | .int i, _ => by simp only [PyData.shown]; exact strOk_lit _
  | .str x, h => by simp only [PyData.shown]; exact strOk_reprText (by simpa [PyData.canLay0] using h)
  | .list xs, h => by
    have := shownAll_ok xs (by simpa [PyData.canLay0] using h)
    simp only [PyData.shown]
    exact strOk_app (strOk_textFrom _ _ _ (strOk_lit _) this) (strOk_lit _)
  | .tuple xs, h => by
    have := shownAll_ok xs (by simpa [PyData.canLay0] using h)
    simp only [PyData.shown]
    exact strOk_app (strOk_app (strOk_lit _) (strOk_join (strOk_lit _) this)) (strOk_lit _)
  | .dict _, h => by simp [PyData.canLay0] at h
theorem shownAll_ok : ∀ ds : List D, PyData.canLayAll0 ds = true → ∀ t ∈ PyData.shownAll ds, PyData.strOk t = true
  | [], _, t, ht => by simp [PyData.shownAll] at ht
  | d :: ds, h, t, ht => by
    have h' : d.canLay0 = true ∧ PyData.canLayAll0 ds = true := by simpa [PyData.canLayAll0] using h
    simp only [PyData.shownAll, List.mem_cons] at ht
    rcases ht with rfl | ht
    · exact shown_ok d h'.1
    · exact shownAll_ok ds h'.2 t ht
end
/-- repr of a list or a tuple of nested data -/
def opShow : OP1 := fun d k => (match d with | .list _ => True | .tuple _ => True | _ => False) ∧ d.showable = true ∧ flat 60 d = true ∧ (d.canLay0 = true → d.shown.length + 64 ≤ sizeLine) ∧ k (.sh (.str d.shown))
theorem us_show {K : PySem.W.Frag} : UnS (fun x H Q => rReprD K [x] H Q) opShow := fun {B F Γ σ H fp x d} k Q r b z c => by
  obtain ⟨z0, z1, z2, z3, z4⟩ := z
  have q := b.rp r.fx
  have fl := z2
  simp only [flat, Bool.and_eq_true, Bool.not_eq_true', decide_eq_true_eq] at fl
  have ok : PyData.strOk d.shown = true := shown_ok d (q.lay fl.1)
  cases b with
  | @lst a xs ds e t => exact ⟨a, _, rfl, q.dpf z2, z1, fl.1, fl.2, z3 (q.lay fl.1), op_sc r (.str _ ok) c z4⟩
  | @tup a xs ds e0 e t => exact ⟨a, _, rfl, q.dpf z2, z1, fl.1, fl.2, z3 (q.lay fl.1), op_sc r (.str _ ok) c z4⟩
  | _ => exact z0.elim
section
variable {X : Cx} {W : WX} {pos p : Pos} {a : Expr} {ta : TE} {pa : QE} {j : Nat}
theorem d_repr (hr : Room j X.A) (hgu : X.A.guards = some []) (hm : X.mg "repr" = none) (ha : DE X W a ta pa) (hg : Gl X "repr" := by rfl) (he : starEach [a] X.env = (false, eval a X.env) :: starEach [] X.env := by rfl) (hpl : (backTo pos (starEach [] X.env)).any (·.1) = false := by rfl) :
    DE X W (.Call (.Name "repr" p) [a] [] pos) (tCB (rReprD X.K) (tCons ta tNil)) (qUn opShow pa) := d_bi1 (cr_repr hr hgu) us_show hm (by decide +kernel) ha hg (by decide) (by decide) he hpl
end
end PL

namespace PL
open PySem PySem.Spec PyProof.Rows L2
section
variable {X : Cx} {W : WX} {pos p : Pos} {a b e : Expr} {ta tb te : TE} {pa pb pe : QE}
/-! ### built-in functions of two arguments -/
theorem d_bi2 {id : String} {x : Str} {r : List V → Hp → VK → Prop} {o : OP2} (hc : CallR X (.builtin id) r) (hs : OpS (fun x y H Q => r [x, y] H Q) o) (hm : X.mg x = none) (hv : bootBuiltins x = some (.builtin id)) (ha : DE X W a ta pa) (hb : DE X W b tb pb) (hg : Gl X x := by rfl)
    (hn : x ≠ "__name__" := by decide) (hdb : (x == ("__debug__" : Str)) = false := by decide) (he : starEach [a, b] X.env = (false, eval a X.env) :: starEach [b] X.env := by rfl) (he2 : starEach [b] X.env = (false, eval b X.env) :: starEach [] X.env := by rfl) (hpl : (backTo pos (starEach [b] X.env)).any (·.1) = false := by rfl) :
    DE X W (.Call (.Name x p) [a, b] [] pos) (tCB r (tCons ta (tCons tb tNil))) (qOp o pa pb) := ⟨pe_callB hc hg hm hv (pa_cons ha.pe (pa_cons hb.pe pa_nil he2) he) hn hdb he hpl, fun {B F Γ σ H fp} R EX Q rr h k e =>
  (se_op hs ha.se hb.se : SE W (tOp (fun x y H Q => r [x, y] H Q) ta tb) (qOp o pa pb)) R EX Q rr h k e⟩
def opMin2 : OP2 := fun d1 d2 k => match d1, d2 with
  | .int i, .int j => k (.sh (.int (if j < i then j else i)))
  | _, _ => False
def opMax2 : OP2 := fun d1 d2 k => match d1, d2 with
  | .int i, .int j => k (.sh (.int (if j > i then j else i)))
  | _, _ => False
theorem os_min2 : OpS (fun x y H Q => (fun xs H (Q : VK) => ∃ i j, xs = [V.int i, V.int j] ∧ Q (.int (if j < i then j else i)) H) [x, y] H Q) opMin2 := fun {B F Γ σ H fp x y d1 d2} k Q r b1 b2 z c => by
  cases b1 with
  | int i =>
    cases b2 with
    | int j => exact ⟨i, j, rfl, op_sc r (.int _) c z⟩
    | _ => exact z.elim
  | _ => cases b2 <;> exact z.elim
theorem os_max2 : OpS (fun x y H Q => (fun xs H (Q : VK) => ∃ i j, xs = [V.int i, V.int j] ∧ Q (.int (if j > i then j else i)) H) [x, y] H Q) opMax2 := fun {B F Γ σ H fp x y d1 d2} k Q r b1 b2 z c => by
  cases b1 with
  | int i =>
    cases b2 with
    | int j => exact ⟨i, j, rfl, op_sc r (.int _) c z⟩
    | _ => exact z.elim
  | _ => cases b2 <;> exact z.elim
theorem d_min2 (hc : X.calm = true) (hm : X.mg "min" = none) (ha : DE X W a ta pa) (hb : DE X W b tb pb) (hg : Gl X "min" := by rfl)
    (he : starEach [a, b] X.env = (false, eval a X.env) :: starEach [b] X.env := by rfl) (he2 : starEach [b] X.env = (false, eval b X.env) :: starEach [] X.env := by rfl) (hpl : (backTo pos (starEach [b] X.env)).any (·.1) = false := by rfl) :
    DE X W (.Call (.Name "min" p) [a, b] [] pos) (tCB (fun xs H Q => ∃ i j, xs = [V.int i, V.int j] ∧ Q (.int (if j < i then j else i)) H) (tCons ta (tCons tb tNil))) (qOp opMin2 pa pb) :=
  d_bi2 (X := X) (W := W) (p := p) (pos := pos) (call_min2 hc) os_min2 hm (by decide +kernel) ha hb hg (by decide) (by decide) he he2 hpl
theorem d_max2 (hc : X.calm = true) (hm : X.mg "max" = none) (ha : DE X W a ta pa) (hb : DE X W b tb pb) (hg : Gl X "max" := by rfl)
    (he : starEach [a, b] X.env = (false, eval a X.env) :: starEach [b] X.env := by rfl) (he2 : starEach [b] X.env = (false, eval b X.env) :: starEach [] X.env := by rfl) (hpl : (backTo pos (starEach [b] X.env)).any (·.1) = false := by rfl) :
    DE X W (.Call (.Name "max" p) [a, b] [] pos) (tCB (fun xs H Q => ∃ i j, xs = [V.int i, V.int j] ∧ Q (.int (if j > i then j else i)) H) (tCons ta (tCons tb tNil))) (qOp opMax2 pa pb) :=
  d_bi2 (X := X) (W := W) (p := p) (pos := pos) (call_max2 hc) os_max2 hm (by decide +kernel) ha hb hg (by decide) (by decide) he he2 hpl
end
/-! ### what the walk knows of a module's classes of errors -/
def ec (mg : Str → Option Value) (x : Str) : Addr := match mg x with
  | some (.ref a) => a
  | _ => 0
structure ExcRaw (K : PySem.W.Frag) (C : Addr) : Prop where
  exI : PySem.W.excIn K C [.type "ValueError", .type "Exception", .type "BaseException", .type "object"] "ValueError.__new__" = true
  kp : PySem.W.keepIn K (.ref C) = true
  sub : PySem.W.subIn K (.ref C) (.type "BaseException") = some true
  ty : PySem.W.typeIn K (.ref C) = some (.type "type")
  exm : PySem.W.exmOne K (.ref C) (.ref C) = some true
  ec : ExcC K C
theorem ExcRaw.ok {K : PySem.W.Frag} {mg : Str → Option Value} {x : Str} {C : Addr} (r : ExcRaw K C) (h : mg x = some (.ref C)) : ExcOk K mg x C := ⟨h, r.exI, r.kp, r.sub, r.ty⟩
theorem ec_of {mg : Str → Option Value} {x : Str} {C : Addr} (h : mg x = some (.ref C)) : ec mg x = C := by
  unfold ec
  rw [h]
end PL

namespace PL
open PySem PySem.Spec PyProof.Rows L2
/-! ### more methods of texts -/
def upS (x : Str) : Str := ⟨x.cps.map up1⟩
def loS (x : Str) : Str := ⟨x.cps.map lo1⟩
def asStr (cs : List Nat) : Str := ⟨cs.toArray⟩
def wordsL (cs : List Nat) : List (List Nat) := TL.wfin (cs.foldl TL.wstep ([], []))
def strsD (ws : List (List Nat)) : List D := ws.map fun cs => .str (asStr cs)
theorem strOk_map {x : Str} {f : Nat → Nat} (h : ∀ c ∈ x.cps.toList, f c < 0x110000) : PyData.strOk ⟨x.cps.map f⟩ = true := strOk_iff.mpr fun c hc => by
  rw [Array.toList_map] at hc
  obtain ⟨d, hd, rfl⟩ := List.mem_map.mp hc
  exact h d hd
theorem up1_lt {c : Nat} (h : c < 128) : up1 c < 128 := by
  unfold up1
  split <;> omega
theorem lo1_lt {c : Nat} (h : c < 128) : lo1 c < 128 := by
  unfold lo1
  split <;> omega
def opUpper : OP1 := fun d k => match d with
  | .str x => (∀ c ∈ x.cps.toList, c < 128) ∧ x.length ≤ 5000000 ∧ k (.sh (.str (upS x)))
  | _ => False
def opLower : OP1 := fun d k => match d with
  | .str x => (∀ c ∈ x.cps.toList, c < 128) ∧ x.length ≤ 5000000 ∧ k (.sh (.str (loS x)))
  | _ => False
abbrev rUpper : V → List V → Hp → VK → Prop := fun x xs H Q => ∃ a, x = .str a ∧ xs = [] ∧ a.length ≤ 5592405 ∧ Q (.str (Txt.upper a)) H
abbrev rLower : V → List V → Hp → VK → Prop := fun x xs H Q => ∃ a, x = .str a ∧ xs = [] ∧ a.length ≤ 5592405 ∧ Q (.str (Txt.lower a)) H
theorem us_upper : UnS (fun x H Q => rUpper x [] H Q) opUpper := fun {B F Γ σ H fp x d} k Q r b z c => by
  cases b with
  | str a ha =>
    refine ⟨a, rfl, rfl, by have := z.2.1; omega, ?_⟩
    rw [upper_ascii z.1]
    exact op_sc r (.str _ (strOk_map fun c hc => Nat.lt_trans (up1_lt (z.1 c hc)) (by decide))) c z.2.2
  | _ => exact z.elim
theorem us_lower : UnS (fun x H Q => rLower x [] H Q) opLower := fun {B F Γ σ H fp x d} k Q r b z c => by
  cases b with
  | str a ha =>
    refine ⟨a, rfl, rfl, by have := z.2.1; omega, ?_⟩
    rw [lower_ascii z.1]
    exact op_sc r (.str _ (strOk_map fun c hc => Nat.lt_trans (lo1_lt (z.1 c hc)) (by decide))) c z.2.2
  | _ => exact z.elim
theorem rpa_strs {F : Hp} : ∀ ys : List Str, (∀ y ∈ ys, PyData.strOk y = true) → RpA F (ys.map V.str) (ys.map .str)
  | [], _ => .nil
  | y :: r, h => .cons (.str y (h y (by simp))) (rpa_strs r fun z hz => h z (List.mem_cons_of_mem _ hz))
theorem strs_of_tl {ys : List Str} {ws : List (List Nat)} (h : ys.map (fun x : Str => x.cps.toList) = ws) : ys.map PyData.str = strsD ws := by
  subst h
  unfold strsD
  rw [List.map_map]
  apply List.map_congr_left
  intro y _
  show PyData.str y = PyData.str (asStr y.cps.toList)
  unfold asStr
  simp
/-- a new list of texts -/
theorem new_strs {B F : Hp} {Γ : Ev} {σ : L2.St} {H : Hp} {fp : Nat → List Addr} {k : Wv → Prop} {Q : VK} {ys : List Str} (r : Rel B F Γ σ H fp) (hy : ∀ y ∈ ys, PyData.strOk y = true)
    (c : ∀ w v F' H', Ext B F F' → Rel B F' Γ σ H' fp → RW B F' Γ σ H' fp v w → k w → Q v H') (z : k (.ow (.l (ys.map .str)))) : rNewStrs ys H Q := fun p hp => by
  obtain ⟨r2, v2⟩ := new_lst r (rpa_strs (F := F) ys hy) hp
  exact c _ _ F _ .refl r2 v2 z
theorem wstep_mem : ∀ (cs : List Nat) (st : List (List Nat) × List Nat) (P : Nat → Prop), (∀ w ∈ st.1, ∀ c ∈ w, P c) → (∀ c ∈ st.2, P c) → (∀ c ∈ cs, P c) →
    (∀ w ∈ (cs.foldl TL.wstep st).1, ∀ c ∈ w, P c) ∧ ∀ c ∈ (cs.foldl TL.wstep st).2, P c
  | [], st, P, h1, h2, _ => ⟨h1, h2⟩
  | c :: r, st, P, h1, h2, h3 => by
    refine wstep_mem r (TL.wstep st c) P ?_ ?_ fun d hd => h3 d (List.mem_cons_of_mem _ hd)
    · unfold TL.wstep
      split
      · split
        · exact h1
        · intro w hw
          rcases List.mem_append.mp hw with hw | hw
          · exact h1 w hw
          · have : w = st.2 := by simpa using hw
            subst this
            exact h2
      · exact h1
    · unfold TL.wstep
      split
      · split
        · exact h2
        · intro d hd
          cases hd
      · intro d hd
        rcases List.mem_append.mp hd with hd | hd
        · exact h2 d hd
        · have : d = c := by simpa using hd
          subst this
          exact h3 _ (by simp)
theorem wordsL_mem {cs : List Nat} {P : Nat → Prop} (h : ∀ c ∈ cs, P c) : ∀ w ∈ wordsL cs, ∀ c ∈ w, P c := by
  obtain ⟨h1, h2⟩ := wstep_mem cs ([], []) P (fun w hw => (List.not_mem_nil hw).elim) (fun c hc => (List.not_mem_nil hc).elim) h
  unfold wordsL TL.wfin
  split
  · exact h1
  · intro w hw
    rcases List.mem_append.mp hw with hw | hw
    · exact h1 w hw
    · have : w = (cs.foldl TL.wstep ([], [])).2 := by simpa using hw
      subst this
      exact h2
def opWords : OP1 := fun d k => match d with
  | .str x => x.length + 2 ≤ sizeLine ∧ k (.ow (.l (strsD (wordsL x.cps.toList))))
  | _ => False
abbrev rWords : V → List V → Hp → VK → Prop := fun x xs H Q => ∃ a, x = .str a ∧ xs = [] ∧ a.length + 2 ≤ sizeLine ∧ rNewStrs (Txt.words a) H Q
theorem us_words : UnS (fun x H Q => rWords x [] H Q) opWords := fun {B F Γ σ H fp x d} k Q r b z c => by
  cases b with
  | str a ha =>
    refine ⟨a, rfl, rfl, z.1, new_strs r (fun y hy => ?_) c ?_⟩
    · refine strOk_iff.mpr fun ch hc => ?_
      have e := TL.words_tl a
      have hm : y.cps.toList ∈ wordsL a.cps.toList := by
        show y.cps.toList ∈ TL.wfin (a.cps.toList.foldl TL.wstep ([], []))
        rw [← show (Txt.words a).map (fun x : Str => x.cps.toList) = TL.wfin (a.cps.toList.foldl TL.wstep ([], [])) from e]
        exact List.mem_map.mpr ⟨y, hy, rfl⟩
      exact wordsL_mem (P := fun c => c < 0x110000) (strOk_iff.mp ha) _ hm ch hc
    · rw [strs_of_tl (ws := wordsL a.cps.toList) (TL.words_tl a)]
      exact z.2
  | _ => exact z.elim
/-- the parts between a sign -/
def splL (c : Nat) (cs : List Nat) : List (List Nat) := TL.spl [c] 0 [] cs
theorem spl_mem (S : List Nat) (P : Nat → Prop) : ∀ (cs acc : List Nat) (k : Nat), (∀ c ∈ acc, P c) → (∀ c ∈ cs, P c) → ∀ w ∈ TL.spl S k acc cs, ∀ c ∈ w, P c
  | [], acc, k, h, _, w, hw => by
    have : w = acc := by simpa [TL.spl] using hw
    subst this
    exact h
  | c :: r, acc, 0, h, h2, w, hw => by
    unfold TL.spl at hw
    split at hw
    · rcases List.mem_cons.mp hw with rfl | hw
      · exact h
      · exact spl_mem S P r [] _ (fun d hd => (List.not_mem_nil hd).elim) (fun d hd => h2 d (List.mem_cons_of_mem _ hd)) w hw
    · exact spl_mem S P r (acc ++ [c]) 0 (fun d hd => by
        rcases List.mem_append.mp hd with hd | hd
        · exact h d hd
        · have : d = c := by simpa using hd
          subst this
          exact h2 _ (by simp)) (fun d hd => h2 d (List.mem_cons_of_mem _ hd)) w hw
  | c :: r, acc, k + 1, h, h2, w, hw => by
    unfold TL.spl at hw
    exact spl_mem S P r acc k h (fun d hd => h2 d (List.mem_cons_of_mem _ hd)) w hw
def opSplit : OP2 := fun d1 d2 k => match d1, d2 with
  | .str x, .str y => (match y.cps.toList with
    | [c] => c < 256 ∧ x.length + 2 ≤ sizeLine ∧ k (.ow (.l (strsD (splL c x.cps.toList))))
    | _ => False)
  | _, _ => False
abbrev rSplit : V → List V → Hp → VK → Prop := fun x xs H Q => ∃ a b, x = .str a ∧ xs = [.str b] ∧ (b.length == 0) = false ∧ a.length + 2 ≤ sizeLine ∧ rNewStrs (Txt.split a b) H Q
theorem one_of {y : Str} {c : Nat} (h : y.cps.toList = [c]) : y = ⟨#[c]⟩ := by
  cases y
  congr 1
  exact Array.toList_inj.mp h
theorem kind_one {c : Nat} (h : c < 256) : Builtin.Str.strKind (⟨#[c]⟩ : Str) = 1 := by
  unfold Builtin.Str.strKind
  simp
  omega
theorem os_split : OpS (fun x y H Q => rSplit x [y] H Q) opSplit := fun {B F Γ σ H fp x y d1 d2} k Q r b1 b2 z c => by
  cases b1 with
  | str a ha =>
    cases b2 with
    | str b hb =>
      unfold opSplit at z
      simp only at z
      split at z
      · rename_i ch hc
        have e := one_of hc
        subst e
        obtain ⟨z1, z2, z3⟩ := z
        have hs : (Txt.split a ⟨#[ch]⟩).map (fun x : Str => x.cps.toList) = splL ch a.cps.toList := TL.split_spl a ⟨#[ch]⟩ (fun e => nomatch e) (by
          rw [kind_one z1]
          unfold Builtin.Str.strKind
          repeat (first | split | omega))
        refine ⟨a, _, rfl, rfl, rfl, z2, new_strs r (fun y hy => ?_) c ?_⟩
        · refine strOk_iff.mpr fun d hd => ?_
          have hm : y.cps.toList ∈ splL ch a.cps.toList := by
            rw [← hs]
            exact List.mem_map.mpr ⟨y, hy, rfl⟩
          exact spl_mem [ch] (fun c => c < 0x110000) a.cps.toList [] 0 (fun d hd => (List.not_mem_nil hd).elim) (strOk_iff.mp ha) _ hm d hd
        · rw [strs_of_tl hs]
          exact z3
      · exact z.elim
    | _ => exact z.elim
  | _ => cases b2 <;> exact z.elim
/-- text.rstrip(signs) -/
def opRstrip : OP2 := fun d1 d2 k => match d1, d2 with
  | .str x, .str y => x.length ≤ sizeLine ∧ k (.sh (.str (Txt.rstripChars x y)))
  | _, _ => False
abbrev rRstrip : V → List V → Hp → VK → Prop := fun x xs H Q => ∃ a b, x = .str a ∧ xs = [.str b] ∧ a.length ≤ sizeLine ∧ Q (.str (Txt.rstripChars a b)) H
theorem rstrip_pre (x y : Str) : ∃ j : Nat, j ≤ x.length ∧ (Txt.rstripChars x y).cps.toList = x.cps.toList.take j := by
  obtain ⟨j, hj, e⟩ := rstripChars_is_prefix x y
  refine ⟨j, hj, ?_⟩
  rw [e]
  show (x.cps.extract 0 j).toList = _
  simp
theorem os_rstrip : OpS (fun x y H Q => rRstrip x [y] H Q) opRstrip := fun {B F Γ σ H fp x y d1 d2} k Q r b1 b2 z c => by
  cases b1 with
  | str a ha =>
    cases b2 with
    | str b hb =>
      refine ⟨a, b, rfl, rfl, z.1, op_sc r (.str _ (strOk_of ha fun c hc => ?_)) c z.2⟩
      obtain ⟨j, _, e⟩ := rstrip_pre a b
      rw [e] at hc
      exact List.mem_of_mem_take hc
    | _ => exact z.elim
  | _ => cases b2 <;> exact z.elim
section
variable {X : Cx} {W : WX} {pos p : Pos} {a b e f : Expr} {es : List Expr} {ta tb te tf : TE} {pa pb pe pf : QE} {tr : TA} {pr : QA}
theorem d_upper {apos : Pos} (ha : DE X W a ta pa) (hbase : attributeBase a "upper" X.env (eval a X.env) = eval a X.env := by rfl) (hline : (apos.endLine == pos.line) = true := by rfl) :
    DE X W (.Call (.Attribute a "upper" apos) [] [] pos) (tM0 rUpper ta) (qM0 opUpper pa) := ⟨pe_upper ha.pe hbase hline, se_m0 us_upper ha.se⟩
theorem d_lower {apos : Pos} (ha : DE X W a ta pa) (hbase : attributeBase a "lower" X.env (eval a X.env) = eval a X.env := by rfl) (hline : (apos.endLine == pos.line) = true := by rfl) :
    DE X W (.Call (.Attribute a "lower" apos) [] [] pos) (tM0 rLower ta) (qM0 opLower pa) := ⟨pe_lower ha.pe hbase hline, se_m0 us_lower ha.se⟩
theorem d_words {apos : Pos} (ha : DE X W a ta pa) (hbase : attributeBase a "split" X.env (eval a X.env) = eval a X.env := by rfl) (hline : (apos.endLine == pos.line) = true := by rfl) :
    DE X W (.Call (.Attribute a "split" apos) [] [] pos) (tM0 rWords ta) (qM0 opWords pa) := ⟨pe_words ha.pe hbase hline, se_m0 us_words ha.se⟩
theorem d_split {apos : Pos} (ha : DE X W a ta pa) (hb : DE X W b tb pb) (hs : starEach [b] X.env = [(false, eval b X.env)] := by rfl) (hbase : attributeBase a "split" X.env (eval a X.env) = eval a X.env := by rfl) (hline : (apos.endLine == pos.line) = true := by rfl) :
    DE X W (.Call (.Attribute a "split" apos) [b] [] pos) (tM1 rSplit ta tb) (qM1 opSplit pa pb) := ⟨pe_split ha.pe hb.pe hs hbase hline, se_m1 os_split ha.se hb.se⟩
theorem d_rstrip {apos : Pos} (ha : DE X W a ta pa) (hb : DE X W b tb pb) (hs : starEach [b] X.env = [(false, eval b X.env)] := by rfl) (hbase : attributeBase a "rstrip" X.env (eval a X.env) = eval a X.env := by rfl) (hline : (apos.endLine == pos.line) = true := by rfl) :
    DE X W (.Call (.Attribute a "rstrip" apos) [b] [] pos) (tM1 rRstrip ta tb) (qM1 opRstrip pa pb) := ⟨pe_m1 F.slot_str_rstrip F.type_str_rstrip mt_rstripChars ha.pe hb.pe hs hbase hline, se_m1 os_rstrip ha.se hb.se⟩
/-! ### methods of more arguments -/
abbrev OPN := D → List D → (Wv → Prop) → Prop
def qBM (o : OPN) (pa : QE) (pr : QA) : QE := fun Γ R E => pa Γ (fun w1 Γ1 => bor w1 Γ1 isStr ∧ pr Γ1 (fun ds Γ2 => bor w1 Γ2 fun d1 => o d1 ds fun w => R w Γ2) E) E
def OpN (r : V → List V → Hp → VK → Prop) (o : OPN) : Prop := ∀ {B F : Hp} {Γ : Ev} {σ : L2.St} {H : Hp} {fp : Nat → List Addr} {x : V} {ys : List V} {d1 : D} {ds : List D} (k : Wv → Prop) (Q : VK), Rel B F Γ σ H fp → Rb F H x d1 → RpA F ys ds → o d1 ds k →
  (∀ w v F' H', Ext B F F' → Rel B F' Γ σ H' fp → RW B F' Γ σ H' fp v w → k w → Q v H') → r x ys H Q
theorem se_bm {K : PySem.W.Frag} {r : V → List V → Hp → VK → Prop} {o : OPN} (hs : OpN r o) (ha : SE W ta pa) (hb : SA W tr pr) : SE W (tBM K "str" r ta tr) (qBM o pa pr) := fun {B F Γ σ H fp} R EX Q rr h k e => by
  refine ha _ EX _ rr h (fun w1 Γ1 x F1 H1 fp1 x1 r1 v1 h1 => ?_) e
  obtain ⟨d, b, z⟩ := bor_rb r1 v1 h1.1
  obtain ⟨B', r1', g⟩ := r1.guard v1
  refine ⟨by
    obtain ⟨a, rfl⟩ := b.isStr z
    rfl, hb _ EX _ r1' h1.2 (fun ds Γ2 vs F2 H2 fp2 x2 r2 v2 h2 => ?_) fun c Γ' F' H' fp' x2 r2 q => ?_⟩
  · obtain ⟨x3, r3, v3, g3⟩ := g F2 Γ2 H2 fp2 x2 r2
    obtain ⟨d1, b1, z1⟩ := bor_rb r3 v3 h2
    exact hs _ Q r3 b1 v2 z1 fun w v F' H' x' r' q' kk => k w Γ2 v F' H' fp2 ((x1.trans x3).trans x') r' q' kk
  · obtain ⟨x5, r5, _, _⟩ := g F' Γ' H' fp' x2 r2
    exact e c Γ' F' H' fp' (x1.trans x5) r5 q
/-- text.rjust(n, sign) -/
def opRjust : OPN := fun d1 ds k => match d1, ds with
  | .str x, [.int i, .str f] => PadOk i = true ∧ (match f.cps.toList with
    | [c] => k (.sh (.str (Txt.rjustF x i c)))
    | _ => False)
  | _, _ => False
abbrev rRjust : V → List V → Hp → VK → Prop := fun x xs H Q => ∃ (a : Str) (i : Int) (f : Str), x = .str a ∧ xs = [.int i, .str f] ∧ PadOk i = true ∧ f.length = 1 ∧ Q (.str (Txt.rjustF a i (f.cps.getD 0 0))) H
theorem mt_rjust2 {X : Cx} : MtR X "str.rjust" rRjust := by
  intro pins s σ H x xs v us Q I rx rs h
  obtain ⟨a, i, f, rfl, rfl, hp, hf, h⟩ := h
  obtain ⟨t, rfl⟩ := rx
  cases rs with
  | cons r1 rs =>
    cases rs with
    | cons r2 rs =>
      cases rs
      obtain ⟨u, rfl⟩ := r1
      obtain ⟨z, rfl⟩ := r2
      exact rjust_fill hp hf fun t' k => ⟨V.str (Txt.rjustF a i (f.cps.getD 0 0)), H, I.tok k, ⟨t', rfl⟩, h⟩
theorem os_rjust : OpN rRjust opRjust := fun {B F Γ σ H fp x ys d1 ds} k Q r b1 b2 z c => by
  cases b1 with
  | str a ha =>
    cases b2 with
    | cons h1 b2 =>
      cases b2 with
      | cons h2 b2 =>
        cases b2 with
        | nil =>
          cases h1 with
          | int i =>
            cases h2 with
            | str f hf =>
              obtain ⟨z1, z2⟩ := z
              split at z2
              · rename_i ch hc
                have e := one_of hc
                subst e
                have hch := strOk_iff.mp hf ch (by simp)
                refine ⟨a, i, _, rfl, rfl, z1, rfl, ?_⟩
                refine op_sc r (.str _ (strOk_iff.mpr fun d hd => ?_)) c z2
                rw [rjustF_list] at hd
                rcases List.mem_append.mp hd with hd | hd
                · rw [List.eq_of_mem_replicate hd]
                  exact hch
                · exact strOk_iff.mp ha d hd
              · exact z2.elim
            | _ => exact z.elim
          | _ => cases h2 <;> exact z.elim
        | cons h3 b2 => cases h1 <;> cases h2 <;> exact z.elim
      | nil => cases h1 <;> exact z.elim
    | nil => exact z.elim
  | _ => exact z.elim
theorem d_rjust {apos : Pos} (ha : DE X W a ta pa) (hb : DA X W (e :: es) tr pr)
    (hbase : attributeBase a "rjust" X.env (eval a X.env) = eval a X.env := by rfl)
    (hfew : ((backTo pos (starEach (e :: es) X.env)).all (fun x => !x.1) && (backToKw pos (keywordEach [] X.env)).all (fun x => x.1.isSome)
      && decide ((e :: es).length + ([] : List Keyword).length + (if ([] : List Keyword).isEmpty then 0 else 1) < 30)) = true := by rfl)
    (hline : (apos.endLine == pos.line) = true := by rfl) (hs : starEach (e :: es) X.env = (false, eval e X.env) :: starEach es X.env := by rfl) (hplain : (backTo pos (starEach es X.env)).any (·.1) = false := by rfl) :
    DE X W (.Call (.Attribute a "rjust" apos) (e :: es) [] pos) (tBM X.K "str" rRjust ta tr) (qBM opRjust pa pr) :=
  ⟨pe_bm PySem.F.plainAttrs_str F.slot_str_rjust F.type_str_rjust mt_rjust2 ha.pe hb.pa hbase hfew hline hs hplain, se_bm os_rjust ha.se hb.sa⟩
/-! ### str(n), int(text), list(range(..)), constants -/
def opStr : OP1 := fun d k => match d with
  | .int i => i.natAbs.log2 < 1920 ∧ k (.sh (.str (toString i : String)))
  | _ => False
theorem us_str : UnS (fun x H Q => (fun xs H (Q : VK) => ∃ i, xs = [V.int i] ∧ i.natAbs.log2 < 1920 ∧ Q (.str (toString i : String)) H) [x] H Q) opStr := fun {B F Γ σ H fp x d} k Q r b z c => by
  cases b with
  | int i => exact ⟨i, rfl, z.1, op_sc r (.str _ (strOk_lit _)) c z.2⟩
  | _ => exact z.elim
theorem d_str1 (hm : X.mg "str" = none) (ha : DE X W a ta pa) (hg : Gl X "str" := by rfl) (he : starEach [a] X.env = (false, eval a X.env) :: starEach [] X.env := by rfl) (hpl : (backTo pos (starEach [] X.env)).any (·.1) = false := by rfl) :
    DE X W (.Call (.Name "str" p) [a] [] pos) (tCB (fun xs H Q => ∃ i, xs = [V.int i] ∧ i.natAbs.log2 < 1920 ∧ Q (.str (toString i : String)) H) (tCons ta tNil)) (qUn opStr pa) := d_ty1 call_str_int us_str hm (by decide +kernel) ha hg (by decide) (by decide) he hpl
def opIntS : OP1 := fun d k => match d with
  | .str x => x.length ≤ 640 ∧ (match PySem.intText? x with
    | some n => k (.sh (.int n))
    | none => False)
  | _ => False
theorem us_intS : UnS (fun x H Q => (fun xs H (Q : VK) => ∃ a n, xs = [V.str a] ∧ PySem.intText? a = some n ∧ a.length ≤ 640 ∧ Q (.int n) H) [x] H Q) opIntS := fun {B F Γ σ H fp x d} k Q r b z c => by
  cases b with
  | str a ha =>
    obtain ⟨z1, z2⟩ := z
    split at z2
    · rename_i n hn
      exact ⟨a, n, rfl, hn, z1, op_sc r (.int _) c z2⟩
    · exact z2.elim
  | _ => exact z.elim
theorem d_intS (hm : X.mg "int" = none) (ha : DE X W a ta pa) (hg : Gl X "int" := by rfl) (he : starEach [a] X.env = (false, eval a X.env) :: starEach [] X.env := by rfl) (hpl : (backTo pos (starEach [] X.env)).any (·.1) = false := by rfl) :
    DE X W (.Call (.Name "int" p) [a] [] pos) (tCB (fun xs H Q => ∃ a n, xs = [V.str a] ∧ PySem.intText? a = some n ∧ a.length ≤ 640 ∧ Q (.int n) H) (tCons ta tNil)) (qUn opIntS pa) := d_ty1 call_int_str us_intS hm (by decide +kernel) ha hg (by decide) (by decide) he hpl
def rgD (a b : Int) : List D := (List.range (b - a).toNat).map fun i : Nat => .int (a + (i : Int))
def opRgL (d1 d2 : D) (k : Wv → Prop) : Prop := match d1, d2 with
  | .int i, .int j => (-(2 ^ 62) ≤ i ∧ i < 2 ^ 62 ∧ -(2 ^ 62) ≤ j ∧ j < 2 ^ 62 ∧ (j - i).toNat ≤ 2 ^ 24) ∧ k (.ow (.l (rgD i j)))
  | _, _ => False
theorem rpa_rg {F : Hp} (a b : Int) : RpA F (rgV a b) (rgD a b) := RpA.map _ _ _ fun i _ => .int _
def qRgL2 (pa pb : QE) : QE := qOp opRgL pa pb
def qRgL1 (pa : QE) : QE := qUn (fun d k => opRgL (.int 0) d k) pa
theorem d_listR2 {p2 pos2 : Pos} (hc : X.calm = true) (hm : X.mg "list" = none) (hm2 : X.mg "range" = none) (ha : DE X W a ta pa) (hb : DE X W b tb pb) (hg : Gl X "list" := by rfl) (hg2 : Gl X "range" := by rfl)
    (na : starEach [a, b] X.env = (false, eval a X.env) :: starEach [b] X.env := by rfl) (nb : starEach [b] X.env = (false, eval b X.env) :: starEach [] X.env := by rfl)
    (nc : starEach [.Call (.Name "range" p2) [a, b] [] pos2] X.env = (false, eval (.Call (.Name "range" p2) [a, b] [] pos2) X.env) :: starEach [] X.env := by rfl)
    (np : (backTo pos2 (starEach [b] X.env)).any (·.1) = false := by rfl) :
    DE X W (.Call (.Name "list" p) [.Call (.Name "range" p2) [a, b] [] pos2] [] pos) (tLstRg (tRg2 ta tb)) (qRgL2 pa pb) := ⟨pe_listRg hc hg hm (prg_2 hg2 hm2 ha.pe hb.pe na nb np) nc, fun {B F Γ σ H fp} R EX Q rr h k e => by
  refine se_two ha.se hb.se rr h (Z := fun w1 w2 Γ2 => bor w1 Γ2 fun d1 => bor w2 Γ2 fun d2 => opRgL d1 d2 fun w => R w Γ2) (fun w1 w2 Γ' x y F' H' fp' x1 r1 v1 v2 z => ?_) e
  obtain ⟨d1, b1, z⟩ := bor_rb r1 v1 z
  obtain ⟨d2, b2, z⟩ := bor_rb r1 v2 z
  cases b1 with
  | int i =>
    cases b2 with
    | int j =>
      refine ⟨i, j, rfl, rfl, z.1, fun q hq => ?_⟩
      obtain ⟨r2, v2⟩ := new_lst r1 (rpa_rg (F := F') i j) hq
      exact k _ _ _ _ _ _ x1 r2 v2 z.2
    | _ => exact z.elim
  | _ => cases b2 <;> exact z.elim⟩
theorem d_listR1 {p2 pos2 : Pos} (hc : X.calm = true) (hm : X.mg "list" = none) (hm2 : X.mg "range" = none) (ha : DE X W a ta pa) (hg : Gl X "list" := by rfl) (hg2 : Gl X "range" := by rfl)
    (na : starEach [a] X.env = (false, eval a X.env) :: starEach [] X.env := by rfl)
    (nc : starEach [.Call (.Name "range" p2) [a] [] pos2] X.env = (false, eval (.Call (.Name "range" p2) [a] [] pos2) X.env) :: starEach [] X.env := by rfl) :
    DE X W (.Call (.Name "list" p) [.Call (.Name "range" p2) [a] [] pos2] [] pos) (tLstRg (tRg1 ta)) (qRgL1 pa) := ⟨pe_listRg hc hg hm (prg_1 hg2 hm2 ha.pe na) nc, fun {B F Γ σ H fp} R EX Q rr h k e => by
  refine ha.se _ EX _ rr h (fun w1 Γ1 x F1 H1 fp1 x1 r1 v1 h1 => ?_) e
  obtain ⟨d, b, z⟩ := bor_rb r1 v1 h1
  cases b with
  | int j =>
    refine ⟨j, rfl, z.1, fun q hq => ?_⟩
    obtain ⟨r2, v2⟩ := new_lst r1 (rpa_rg (F := F1) 0 j) hq
    exact k _ _ _ _ _ _ x1 r2 v2 z.2
  | _ => exact z.elim⟩
theorem d_gsx {x y : Str} (hm : ∃ t, X.mg x = some (.str y t)) (h : PyData.strOk y = true := by decide +kernel) (hg : Gl X x := by rfl) (hd : (x == ("__debug__" : Str)) = false := by decide) : DE X W (.Name x pos) (tC (.str y)) (qC (.str y)) := hm.elim fun t e => d_gs e h hg hd
theorem d_gix {x : Str} {i : Int} (hm : ∃ t, X.mg x = some (.int i t)) (hg : Gl X x := by rfl) (hd : (x == ("__debug__" : Str)) = false := by decide) : DE X W (.Name x pos) (tC (.int i)) (qC (.int i)) := hm.elim fun t e => d_gi e hg hd
end
end PL

namespace L2
open PySem PySem.Spec PyProof.Rows
/-! ### for k, v in d.items(), the keys tuples (the dict is locked) -/
def Itit (d : Addr) (o : Obj) (kvs : List (List Key × V)) : It :=
  ⟨fun i H => H d = some (.frz o (.dT kvs)) ∧ i < kvs.length, fun i H x H' => ∃ (T : Addr) (k : List Key) (v : V) (q : Addr), kvs[i]? = some (k, v) ∧ x = .ref T ∧ H T = none ∧ H q = some (.tup (k.map kV)) ∧ H' = upd H T (.tup [.ref q, v]), fun i H => H d = some (.frz o (.dT kvs)) ∧ kvs.length ≤ i⟩
section
variable {X : Cx} {pins : List (Addr × Obj)} {σ : St} {H : Hp} {s : Shared} {d : Addr} {o : Obj}
theorem Inv.frzT2 {kvs : List (List Key × V)} (I : Inv X pins σ H s) (h : H d = some (.frz o (.dT kvs))) :
    (d == sysModules) = false ∧ s.heap.get? d = some o ∧ o.ExactDict ∧ ∃ (es : Array DictEntry) (ep : Nat), o.data = .dict es ep ∧ es.size = kvs.length ∧
      ∀ (i : Nat) (k : List Key) (v : V), kvs[i]? = some (k, v) → ∃ (en : DictEntry) (q : Addr), es[i]? = some en ∧ en.key = .ref q ∧ H q = some (.tup (k.map kV)) ∧ RelV v en.val := by
  obtain ⟨hd, z, hs, xs, pr, o', es, ep, ho, hx, hdt, he, _⟩ := I.hok d _ h
  rw [hd] at ho
  cases ho
  refine ⟨hs, hd, hx, es, ep, hdt, ?_, fun i k v e => ?_⟩
  · have l1 : es.size = xs.length := size_of_entries he
    have l2 : kvs.length = xs.length := Paired.length pr
    omega
  · obtain ⟨b, hb, e1, e2, e3⟩ := paired_get pr e
    have q := entry_at he i
    rw [hb] at q
    exact ⟨_, b.2.1, q, rfl, e2, e3⟩
end
section
variable {P : Program} {w : World} {K : PySem.W.Frag} {d : Addr} {o : Obj} {es : Array DictEntry} {ep : Nat}
theorem turn_itemsT {kvs : List (List Key × V)} {elts : List Expr} {kk : Nat} {tpos : Pos} (it : Addr) (hod : o.data = .dict es ep) :
    Turn P w K (.Tuple elts kk tpos) (Itit d o kvs) [it] it (fun i h => ∃ ok ov, IsItemIter h it d i kvs.length ep ok ov) where
  mem := by simp
  obj := fun i h st b hb => by
    have e : b = it := by simpa using hb
    subst e
    obtain ⟨ok, ov, e⟩ := st
    exact ⟨_, e, fun v z => nomatch z⟩
  keep := fun i h h' st k => let ⟨ok, ov, e⟩ := st; ⟨ok, ov, k it (by simp) _ e⟩
  item := by
    intro X hP hw hK hc i pins s σ H E I hf st hg
    subst hP hw hK
    obtain ⟨hd, hi⟩ := hg
    obtain ⟨hs, hgd, hx, es', ep', hdt, hsz, ent⟩ := I.frzT2 hd
    obtain ⟨rfl, rfl⟩ := dict_ep hod hdt
    obtain ⟨⟨k, v⟩, hkv⟩ : ∃ p, kvs[i]? = some p := ⟨kvs[i], List.getElem?_eq_getElem hi⟩
    obtain ⟨en, q, hen, hkey, hq, hv⟩ := ent i k v hkv
    obtain ⟨ok, ov, he⟩ := st
    rw [← hsz] at he
    have hlt : it < s.heap.objs.size := Heap.lt_size he
    obtain ⟨hie, hee⟩ := Array.getElem?_eq_some_iff.mp hen
    refine DT.nextI he ⟨o, hgd, hx, hdt⟩ hie fun h' ho hT hz hk => ?_
    rw [hee] at ho hT
    refine ⟨_, rfl, wpAny_letOwnedTupleGo_items (s := { s with heap := h' }) ho fun h'' he' sb => ?_⟩
    have hT2 : h''.get? s.heap.objs.size = some { cls := .type "tuple", data := .seq #[en.key, en.val] } := (sb.2 _ (Nat.ne_of_gt hlt)).trans hT
    have new : ObjOk X.prog X.w (upd H s.heap.objs.size (.tup [.ref q, v])) h'' s.heap.objs.size (.tup [.ref q, v]) :=
      ⟨by show 2 ≤ sizeLine; decide, [en.key, en.val], .cons hkey (.cons hv .nil), ⟨_, hT2, rfl, _, rfl⟩⟩
    have I1 : Inv X pins σ (upd H s.heap.objs.size (.tup [.ref q, v])) { s with heap := h'' } :=
      I.turnedNew (t' := s.toks) (ch := [it]) (fun b ob hb e => (sb.2 b (by simpa using hb)).trans (hk b ob (by simpa using hb) e)) hf (Nat.le_refl _) new
    refine ⟨.ref s.heap.objs.size, _, I1, rfl, ⟨_, k, v, q, hkv, rfl, I.hok.fresh (Nat.le_refl _), hq, rfl⟩, ⟨en.key, en.val, ?_⟩, fun b hb => ?_⟩
    · rw [← hsz]; exact he'
    · have e : b = it := by simpa using hb
      rw [e, upd_ne (Nat.ne_of_lt hlt)]
      exact (hf it (by simp)).1
  done := by
    intro X hP hw hK hc i pins s σ H E I hf st hg
    subst hP hw hK
    obtain ⟨hd, hi⟩ := hg
    obtain ⟨f0, f1, f2, f3, f4, f5⟩ := hf it (by simp)
    obtain ⟨hs, hgd, hx, es', ep', hdt, hsz, ent⟩ := I.frzT2 hd
    obtain ⟨rfl, rfl⟩ := dict_ep hod hdt
    obtain ⟨ok, ov, he⟩ := st
    rw [← hsz] at he
    exact DT.endI (I.ok.hd hc) he ⟨o, hgd, hx, hdt⟩ (by omega) fun h' eb => ⟨rfl, I.turned (t' := s.toks) (fun b ob hb e => eb b ob hb e) f0 f1 f3 f4 f5⟩
  self := fun A i s Q E st h => let ⟨_, _, e⟩ := st; PySem.W.kcp_self e h
end
def iItemsT (td : TE) : TI := fun σ H R => td σ H fun x H1 => ∃ d o kvs, x = .ref d ∧ H1 d = some (.frz o (.dT kvs)) ∧ R (Itit d o kvs) H1
section
variable {X : Cx} {tg e : Expr} {td : TE} {apos cpos : Pos}
theorem pi_itemsT {elts : List Expr} {kk : Nat} {tpos : Pos} (he : PE X e td) (hbase : attributeBase e "items" X.env (eval e X.env) = eval e X.env := by rfl) (hline : (apos.endLine == cpos.line) = true := by rfl) :
    PI X (.Tuple elts kk tpos) (.Call (.Attribute e "items" apos) [] [] cpos) (iItemsT td) := by
  refine ⟨fun pins s σ H R I h => ?_⟩
  refine wpAny_Call_method (T := "dict") (id := "dict.items") hbase rfl hline F.plainAttrs_dict F.slot_dict_items F.type_dict_items (thn (he.run pins s σ H _ I h) fun u s1 ⟨x, H1, I1, rx, d, o, kvs, ex, hd, q⟩ => ?_)
  subst ex
  obtain rfl : u = Value.ref d := rx
  obtain ⟨hs, hgd, hx, es, ep, hdt, hsz, ent⟩ := I1.frzT2 hd
  have raw : DT.Raw s1.heap d es ep := ⟨o, hgd, hx, hdt⟩
  refine ⟨raw.typeIs, ?_, ?_⟩
  · exact fun a e => by
      cases e
      exact ⟨o, hgd, hx.2.1⟩
  have I2 : Inv X pins σ H1 { s1 with heap := s1.heap.push { cls := .type "dict_items", data := .fields #[.ref d] } } := I1.kept (t' := s1.toks) fun b ob q => Heap.get?_push_of_some _ q
  have fin : wpAny (model X.prog X.w) X.A (pyIter (.ref s1.heap.objs.size)) (PIE X pins σ (.Tuple elts kk tpos) R) X.xe { s1 with heap := s1.heap.push { cls := .type "dict_items", data := .fields #[.ref d] } } := by
    refine DT.iterI (d := d) ⟨_, Heap.get?_push_size _ rfl, rfl, rfl⟩ (raw.push _) (pi_one (tk := s1.toks) I2 _ (turn_itemsT _ hdt) ⟨.none, .none, ?_⟩ q)
    rw [← hsz]
    exact Heap.get?_push_size _ rfl
  show wpAny _ _ (callWith cpos (.builtin "dict.items") [.ref d] [] []) _ X.xe s1
  exact method_meetsIn F.slot_dict_items F.entry_dict_items rfl (PySem.evalArgs_none ⟨rfl, raw.typeIs, F.args_dict_items_1 _, _, DT.meetsItems (es := es) (ep := ep) hs, raw, fin⟩)
end
end L2
namespace PL
open PySem PySem.Spec PyProof.Rows L2
/-! ### a frozen dict is set aside -/
def rmF (F : Hp) (a : Addr) : Hp := fun b => if b = a then none else F b
theorem rmF_ne {F : Hp} {a b : Addr} (h : b ≠ a) : rmF F a b = F b := if_neg h
theorem rmF_some {F : Hp} {a b : Addr} {o : HO} (h : rmF F a b = some o) : b ≠ a ∧ F b = some o := by
  unfold rmF at h
  split at h
  · cases h
  · rename_i q
    exact ⟨q, h⟩
section
variable {F : Hp} {a0 : Addr} {kv0 : List (List Key × V)} (e0 : F a0 = some (.dT kv0))
mutual
theorem Rp.rm (e0 : F a0 = some (.dT kv0)) : ∀ {v : V} {d : D}, Rp F v d → d.hasDict = false → Rp (rmF F a0) v d
  | _, _, .non, _ => .non
  | _, _, .bl b, _ => .bl b
  | _, _, .int i, _ => .int i
  | _, _, .str x h, _ => .str x h
  | _, _, .lst h r, e => .lst (by rw [rmF_ne fun z => by rw [z, e0] at h; cases h]; exact h) (RpA.rm e0 r (by simpa [PyData.hasDict] using e))
  | _, _, .tup h r, e => .tup (by rw [rmF_ne fun z => by rw [z, e0] at h; cases h]; exact h) (RpA.rm e0 r (by simpa [PyData.hasDict] using e))
  | _, _, .dk _ _, e => by simp [PyData.hasDict] at e
  | _, _, .fz _ _, e => by simp [PyData.hasDict] at e
  | _, _, .dt _ _, e => by simp [PyData.hasDict] at e
theorem RpA.rm (e0 : F a0 = some (.dT kv0)) : ∀ {vs : List V} {ds : List D}, RpA F vs ds → PyData.hasDictAll ds = false → RpA (rmF F a0) vs ds
  | _, _, .nil, _ => .nil
  | _, _, .cons h r, e => by
    simp only [PyData.hasDictAll, Bool.or_eq_false_iff] at e
    exact .cons (Rp.rm e0 h e.1) (RpA.rm e0 r e.2)
end
def noDictV (ds : List (D × D)) : Prop := ∀ p ∈ ds, p.2.hasDict = false
theorem RpK.rm (e0 : F a0 = some (.dT kv0)) : ∀ {kvs : List (Key × V)} {ds : List (D × D)}, RpK F kvs ds → noDictV ds → RpK (rmF F a0) kvs ds
  | _, _, .nil, _ => .nil
  | _, _, .cons h r, e => .cons (h.rm e0 (e _ List.mem_cons_self)) (RpK.rm e0 r fun p hp => e p (List.mem_cons_of_mem _ hp))
theorem RpT.rm (e0 : F a0 = some (.dT kv0)) : ∀ {kvs : List (List Key × V)} {ds : List (D × D)}, RpT F kvs ds → noDictV ds → RpT (rmF F a0) kvs ds
  | _, _, .nil, _ => .nil
  | _, _, .cons h r, e => .cons (h.rm e0 (e _ List.mem_cons_self)) (RpT.rm e0 r fun p hp => e p (List.mem_cons_of_mem _ hp))
end
def oNoD : O → Prop
  | .l ds => PyData.hasDictAll ds = false
  | .k ds => noDictV ds
  | .t ds => noDictV ds
def slNoD : Sl → Prop
  | .sh d => d.hasDict = false
  | .ow o => oNoD o
  | _ => True
def allNoD : Ev → Prop
  | [] => True
  | s :: r => slNoD s ∧ allNoD r
/-- no slot but i holds a dict -/
def maskOk : Nat → Ev → Prop
  | _, [] => True
  | 0, _ :: r => allNoD r
  | i + 1, s :: r => slNoD s ∧ maskOk i r
theorem allNoD_get : ∀ {Γ : Ev} {j : Nat} {s : Sl}, allNoD Γ → Γ[j]? = some s → slNoD s
  | [], _, _, _, e => by simp at e
  | s :: r, 0, _, h, e => by
    simp at e
    subst e
    exact h.1
  | s :: r, j + 1, _, h, e => allNoD_get h.2 (by simpa using e)
theorem maskOk_get : ∀ {Γ : Ev} {i j : Nat} {s : Sl}, maskOk i Γ → j ≠ i → Γ[j]? = some s → slNoD s
  | [], _, _, _, _, _, e => by simp at e
  | s :: r, 0, 0, _, _, n, _ => absurd rfl n
  | s :: r, 0, j + 1, _, h, _, e => allNoD_get (show allNoD r from h) (by simpa using e)
  | s :: r, i + 1, 0, _, h, _, e => by
    simp at e
    subst e
    exact h.1
  | s :: r, i + 1, j + 1, _, h, n, e => maskOk_get (show maskOk i r from h.2) (fun z => n (congrArg (· + 1) z)) (by simpa using e)
/-- the body's environment: the dict at slot i is locked -/
def pairsD (ds : List (D × D)) : List D := ds.map fun p => .tuple [p.1, p.2]
def keyOkD : D → Prop
  | .tuple ks => ∀ k ∈ ks, (match k with
    | .str x => PyData.strOk x = true
    | _ => True)
  | _ => True
def qForIt (i : Nat) (g : QG) (t : QS) : QS := fun P Γ => match Γ[i]? with
  | some (.sh (.dict ds)) => kindOf ds = some true ∧ maskOk i Γ ∧ noDictV ds ∧ (∀ p ∈ ds, keyOkD p.1) ∧ ∀ a : Addr,
      forGo g t { nx := fun Γ' => Γ'[i]? = some (.ex a) ∧ P.nx (Γ'.set i (.sh (.dict ds))), rt := fun _ _ => False, bk := fun _ => False, ct := fun _ => False, ex := noEX } (pairsD ds) (Γ.set i (.ex a))
  | _ => False
section
variable {B F F2 : Hp} {Γ Γ' : Ev} {σ σ' : L2.St} {H H2 : Hp} {fp fp' : Nat → List Addr} {i : Nat} {ad : Addr} {od : Obj} {kvs : List (List Key × V)} {ds : List (D × D)}
theorem upd_some {F : Hp} {a b : Addr} {o u : HO} (h : upd F a o b = some u) : (b = a ∧ u = o) ∨ (b ≠ a ∧ F b = some u) := by
  by_cases e : b = a
  · subst e
    rw [upd_same] at h
    cases h
    exact .inl ⟨rfl, rfl⟩
  · rw [upd_ne e] at h
    exact .inr ⟨e, h⟩
theorem RO.rm {v : V} {o : O} {f : List Addr} {H' : Hp} (e0 : F ad = some (.dT kvs)) (r : RO F H v o f) (n : oNoD o) (hc : ∀ a ∈ f, H' a = H a) : RO (rmF F ad) H' v o f := by
  cases r with
  | l h r => exact .l (by rw [hc _ (by simp)]; exact h) (RpA.rm e0 r n)
  | k h r => exact .k (by rw [hc _ (by simp)]; exact h) (RpK.rm e0 r n)
  | t h r => exact .t (by rw [hc _ (by simp)]; exact h) (RpT.rm e0 r n)
theorem Rel.lockD (r : Rel B F Γ σ H fp) (hv : σ[i]? = some (some (.ref ad))) (e0 : F ad = some (.dT kvs)) (hm : maskOk i Γ) :
    Rel (upd B ad (.frz od (.dT kvs))) (rmF F ad) (Γ.set i (.ex ad)) σ (upd H ad (.frz od (.dT kvs))) fp := by
  have ne : ∀ j a, a ∈ fp j → a ≠ ad := fun j a ha z => by
    have := (r.nb j a ha).2.1
    rw [z, e0] at this
    cases this
  refine ⟨fun c o q => ?_, fun c o q => ?_, by rw [List.length_set]; exact r.len, fun j d q => ?_, fun j o q => ?_, fun j a ha => ?_, r.dj, fun j c q => ?_⟩
  · rcases upd_some q with ⟨rfl, rfl⟩ | ⟨h, q⟩
    · exact upd_same
    · rw [upd_ne h]
      exact r.bx c o q
  · obtain ⟨h, q⟩ := rmF_some q
    rw [upd_ne h]
    exact r.fx c o q
  · rcases set_get q with ⟨_, h⟩ | ⟨h, q⟩
    · cases h
    · obtain ⟨v, g1, g2⟩ := r.sh j d q
      exact ⟨v, g1, g2.rm e0 (maskOk_get hm (fun z => h z.symm) q)⟩
  · rcases set_get q with ⟨_, h⟩ | ⟨h, q⟩
    · cases h
    · obtain ⟨v, g1, g2⟩ := r.ow j o q
      exact ⟨v, g1, g2.rm e0 (maskOk_get hm (fun z => h z.symm) q) fun a ha => upd_ne (ne j a ha)⟩
  · obtain ⟨b, c, d⟩ := r.nb j a ha
    have h := ne j a ha
    exact ⟨by rw [upd_ne h]; exact b, by rw [rmF_ne h]; exact c, by rw [upd_ne h]; exact d⟩
  · rcases set_get q with ⟨rfl, h⟩ | ⟨h, q⟩
    · cases h
      exact hv
    · exact r.ex j c q
theorem Rel.unlockD (r : Rel B F Γ σ H fp) (e0 : F ad = some (.dT kvs)) (t : RpT F kvs ds) (x : Ext (upd B ad (.frz od (.dT kvs))) (rmF F ad) F2)
    (r2 : Rel (upd B ad (.frz od (.dT kvs))) F2 Γ' σ' H2 fp') (e : Γ'[i]? = some (.ex ad)) :
    Ext B F (upd F2 ad (.dT kvs)) ∧ Rel B (upd F2 ad (.dT kvs)) (Γ'.set i (.sh (.dict ds))) σ' (upd H2 ad (.dT kvs)) fp' := by
  have hH : H2 ad = some (.frz od (.dT kvs)) := r2.bx _ _ upd_same
  have hn : F2 ad = none := by
    cases q : F2 ad with
    | none => rfl
    | some u =>
      rcases x.new ad (by rw [q]; exact fun z => nomatch z) (if_pos rfl) with z | ⟨xs, z⟩
      · rw [upd_same] at z
        cases z
      · have := r2.fx _ _ z
        rw [hH] at this
        cases this
  have s2 : Same F2 (upd F2 ad (.dT kvs)) := fun c o q => by
    rw [upd_ne fun z => by rw [z, hn] at q; cases q]
    exact q
  have s0 : Same F (upd F2 ad (.dT kvs)) := fun c o q => by
    by_cases h : c = ad
    · subst h
      rw [e0] at q
      cases q
      exact upd_same
    · exact s2 c o (x.same c o (by rw [rmF_ne h]; exact q))
  have ne : ∀ j a, a ∈ fp' j → a ≠ ad := fun j a ha z => by
    have := (r2.nb j a ha).1
    rw [z, upd_same] at this
    cases this
  refine ⟨⟨s0, fun c q z => ?_⟩, ⟨fun c o q => ?_, fun c o q => ?_, by rw [List.length_set]; exact r2.len, fun j d q => ?_, fun j o q => ?_, fun j a ha => ?_, r2.dj, fun j c q => ?_⟩⟩
  · have h : c ≠ ad := fun h => by rw [h, e0] at z; cases z
    rw [upd_ne h] at q ⊢
    rcases x.new c q (by rw [rmF_ne h]; exact z) with z | z
    · rw [upd_ne h] at z
      exact .inl z
    · exact .inr z
  · by_cases h : c = ad
    · subst h
      have := r.bx _ _ q
      rw [r.fx _ _ e0] at this
      cases this
      exact upd_same
    · rw [upd_ne h]
      exact r2.bx c o (by rw [upd_ne h]; exact q)
  · rcases upd_some q with ⟨rfl, rfl⟩ | ⟨h, q⟩
    · exact upd_same
    · rw [upd_ne h]
      exact r2.fx c o q
  · rcases set_get q with ⟨rfl, h⟩ | ⟨h, q⟩
    · cases h
      exact ⟨_, r2.ex i ad e, .dt upd_same (t.mono s0)⟩
    · obtain ⟨v, g1, g2⟩ := r2.sh j d q
      exact ⟨v, g1, g2.mono s2⟩
  · rcases set_get q with ⟨_, h⟩ | ⟨h, q⟩
    · cases h
    · obtain ⟨v, g1, g2⟩ := r2.ow j o q
      exact ⟨v, g1, g2.mono s2 fun a ha => upd_ne (ne j a ha)⟩
  · obtain ⟨b, c, d⟩ := r2.nb j a ha
    have h := ne j a ha
    rw [upd_ne h] at b
    exact ⟨b, by rw [upd_ne h]; exact c, by rw [upd_ne h]; exact d⟩
  · rcases set_get q with ⟨_, h⟩ | ⟨_, q⟩
    · cases h
    · exact r2.ex j c q
theorem RpT.get {kvs : List (List Key × V)} {ds : List (D × D)} (t : RpT F kvs ds) : ∀ {j : Nat} {k : List Key} {v : V}, kvs[j]? = some (k, v) → ∃ d, ds[j]? = some (.tuple (k.map keyD), d) ∧ Rp F v d := by
  induction kvs generalizing ds with
  | nil => intro j k v e; simp at e
  | cons p r ih =>
    intro j k v e
    cases j with
    | zero =>
      obtain rfl : p = (k, v) := by simpa using e
      cases t with
      | cons h t => exact ⟨_, rfl, h⟩
    | succ j =>
      cases t with
      | cons h t => exact ih t (by simpa using e)
theorem rp_keys {F : Hp} : ∀ (ks : List Key), keyOkD (.tuple (ks.map keyD)) → RpA F (ks.map kV) (ks.map keyD)
  | [], _ => .nil
  | .inl n :: r, h => .cons (.int n) (rp_keys r fun k hk => h k (List.mem_cons_of_mem _ hk))
  | .inr x :: r, h => .cons (.str x (h (.str x) (by simp [keyD]))) (rp_keys r fun k hk => h k (List.mem_cons_of_mem _ hk))
/-- a tuple of the heap becomes frozen -/
theorem Rel.frzTup (r : Rel B F Γ σ H fp) {q : Addr} {xs : List V} (h : H q = some (.tup xs)) : ∃ F' fp', Ext B F F' ∧ Rel B F' Γ σ H fp' ∧ F' q = some (.tup xs) := by
  cases e : F q with
  | some o =>
    have := r.fx _ _ e
    rw [h] at this
    cases this
    exact ⟨F, fp, .refl, r, e⟩
  | none =>
    have hf : ∀ a ∈ [q], F a = none ∧ ∀ i, a ∉ normF Γ fp i := fun a ha => by
      have : a = q := by simpa using ha
      subst this
      exact ⟨e, fun i hi => r.no_tup hi xs h⟩
    refine ⟨frz F H [q], normF Γ fp, ⟨frz_same fun a ha => (hf a ha).1, fun a z z2 => ?_⟩, r.norm.freeze hf, by unfold frz; rw [if_pos (by simp)]; exact h⟩
    unfold frz at z ⊢
    split at z
    · rename_i hm
      have : a = q := by simpa using hm
      subst this
      rw [if_pos hm]
      exact .inr ⟨xs, h⟩
    · exact absurd z2 z
end
section
variable {X : Cx} {W : WX} {pos : Pos} {ts : TS} {ps : QS}
theorem ds_forIt (i : Nat) {x : Str} {px apos cpos tpos : Pos} {elts : List Expr} {kk : Nat} {body : List Stmt} {g : TG} {qg : QG} {js : List Nat} (hp : PassesOwn (model X.prog X.w) X.A X.env X.xe) (hc : X.calm = true)
    (hg : DG X (.Tuple elts kk tpos) g qg js) (hb : DSs X W body ts ps) (hN : X.N[i]? = some x := by rfl) (hvis : Vis X.env.scope x := by first | exact Or.inl rfl | exact Or.inr (Or.inl rfl) | exact Or.inr (Or.inr rfl)) (hd : (x == ("__debug__" : Str)) = false := by decide)
    (hcd : (x == ("__classdict__" : Str)) = false := by decide) (hbase : attributeBase (.Name x px) "items" X.env (eval (.Name x px) X.env) = eval (.Name x px) X.env := by rfl) (hline : (apos.endLine == cpos.line) = true := by rfl)
    (hs : ∀ y, foldedSetIterable (.Call (.Attribute (.Name x px) "items" apos) [] [] cpos) X.env y = pure y := by intro _; rfl) :
    DS X W (.For (.Tuple elts kk tpos) (.Call (.Attribute (.Name x px) "items" apos) [] [] cpos) body [] pos) (tLock (tFor (iItemsT (tVar i)) g ts)) (qForIt i qg ps) :=
  ⟨ps_lock (ps_for hp hc (pi_itemsT (pe_var hN hvis hd hcd) hbase hline) hg.pg hb.ps hs), fun {B F Γ σ H fp} P D r q a => by
  unfold qForIt at q
  split at q
  · rename_i ds e
    obtain ⟨hk, hm, hnd, hok, hq⟩ := q
    obtain ⟨v, hv, hr⟩ := r.sh i _ e
    obtain ⟨ad, kvs, rfl, e0, t⟩ : ∃ ad kvs, v = .ref ad ∧ F ad = some (.dT kvs) ∧ RpT F kvs ds := by
      cases hr with
      | @dk a kvs ds e1 t =>
        cases t with
        | nil => cases hk
        | cons h r =>
          simp only [kindOf, keyK_D, if_true] at hk
          cases hk
      | @dt a kvs ds e1 t => exact ⟨a, kvs, rfl, e1, t⟩
      | fz e1 t => cases hk
    refine ⟨ad, .dT kvs, r.fx _ _ e0, trivial, fun od => ?_⟩
    refine ⟨.ref ad, hv, ad, od, kvs, rfl, upd_same, ?_⟩
    have hq := hq ad
    generalize hPP : ({ nx := fun Γ' => Γ'[i]? = some (.ex ad) ∧ P.nx (Γ'.set i (.sh (.dict ds))), rt := fun _ _ => False, bk := fun _ => False, ct := fun _ => False, ex := noEX } : PEnds) = PP at hq
    have r1 : Rel (upd B ad (.frz od (.dT kvs))) (rmF F ad) (Γ.set i (.ex ad)) σ (upd H ad (.frz od (.dT kvs))) fp := r.lockD hv e0 hm
    have hlen : kvs.length = ds.length := t.length
    refine ⟨fun k m σ' H' => m + k = ds.length ∧ ∃ Γ' F' fp', Ext (upd B ad (.frz od (.dT kvs))) (rmF F ad) F' ∧ Rel (upd B ad (.frz od (.dT kvs))) F' Γ' σ' H' fp' ∧ forGo qg ps PP ((pairsD ds).drop k) Γ', ⟨ds.length, rfl, _, rmF F ad, fp, .refl, r1, hq⟩, ?_⟩
    rintro k m σ' H' ⟨hmk, Γ', F', fp', x, r', hf⟩
    have hd' : H' ad = some (.frz od (.dT kvs)) := r'.bx _ _ upd_same
    by_cases hlt : k < ds.length
    · refine .inr ⟨⟨hd', by omega⟩, fun σ2 H2 => ∃ m', m' < m ∧ (m' + (k + 1) = ds.length ∧ ∃ Γ' F' fp', Ext (upd B ad (.frz od (.dT kvs))) (rmF F ad) F' ∧ Rel (upd B ad (.frz od (.dT kvs))) F' Γ' σ2 H2 fp' ∧ forGo qg ps PP ((pairsD ds).drop (k + 1)) Γ'), fun σ2 H2 h => h, fun y H2 hy => ?_⟩
      obtain ⟨T, ky, v, q, hkv, rfl, hT, hq2, rfl⟩ := hy
      obtain ⟨d, hd2, hv2⟩ := t.get hkv
      obtain ⟨F1, fp1, x1, r1', hF1⟩ := r'.frzTup hq2
      obtain ⟨x2, r2⟩ := r1'.newF (o := .tup [.ref q, v]) hT
      have hmem := List.mem_of_getElem? hd2
      have hv3 : Rp (rmF F ad) v d := hv2.rm e0 (hnd _ hmem)
      have b2 : Rp (upd F1 T (.tup [.ref q, v])) (.ref T) (.tuple [.tuple (ky.map keyD), d]) :=
        .tup upd_same (.cons (.tup (x2.same _ _ hF1) (rp_keys ky (hok _ hmem))) (.cons (((hv3.mono x.same).mono x1.same).mono x2.same) .nil))
      have hlt2 : k < (pairsD ds).length := by simpa [pairsD] using hlt
      have hpk : (pairsD ds)[k] = .tuple [.tuple (ky.map keyD), d] := by
        obtain ⟨l1, l2⟩ := List.getElem?_eq_some_iff.mp hd2
        simp [pairsD, l2]
      rw [List.drop_eq_getElem_cons hlt2, hpk] at hf
      refine hg.sg _ _ r2 (.sh b2) hf fun Γ3 F3 σ3 fp3 x3 r3 _ h3 => ?_
      have xx := ((x.trans x1).trans x2).trans x3
      subst hPP
      refine hb.ss _ _ r3 h3 ⟨fun Γ4 F4 σ4 H4 fp4 x4 r4 h4 => ⟨m - 1, by omega, by omega, Γ4, F4, fp4, xx.trans x4, r4, h4⟩, fun _ _ _ _ _ _ _ _ _ _ z => z.elim, fun Γ4 F4 σ4 H4 fp4 x4 r4 h4 => ?_, fun Γ4 F4 σ4 H4 fp4 x4 r4 h4 => ⟨m - 1, by omega, by omega, Γ4, F4, fp4, xx.trans x4, r4, h4⟩, fun _ _ _ _ _ _ _ _ z => z.elim⟩
      obtain ⟨y3, r5⟩ := r.unlockD e0 t (xx.trans x4) r4 h4.1
      exact ⟨r4.bx _ _ upd_same, a.nx _ _ σ4 _ fp4 y3 r5 h4.2⟩
    · refine .inl ⟨⟨hd', by omega⟩, ?_⟩
      rw [List.drop_of_length_le (by simp [pairsD]; omega)] at hf
      subst hPP
      obtain ⟨y3, r5⟩ := r.unlockD e0 t x r' hf.1
      exact ⟨hd', a.nx _ _ σ' _ fp' y3 r5 hf.2⟩
  · exact q.elim⟩
end
end PL

namespace L2
open PySem PySem.Spec PyProof.Rows
/-! ### {k: v}, the key a tuple -/
def tDispT (tk tv : TE) : TE := fun σ H Q => ∀ p, H p = none → tk σ (upd H p (.dT [])) fun x H1 => tv σ H1 fun y H2 => H2 p = some (.dT []) ∧ ∃ (b : Addr) (ks : List Key), x = .ref b ∧ H2 b = some (.tup (ks.map kV)) ∧ Q (.ref p) (upd H2 p (.dT [(ks, y)]))
theorem wp_disp {prog : Program} {w : World} {K : Type} [DecidableEq K] {knd : HeapKind prog w K} {A : Around} {E : Value → Shared → Prop} {s : Shared} {env : Env} {keys : List (Option Expr)} {values : List Expr} {pos : Pos} {Q : Value → Shared → Prop} (hu : knd.room A)
    (hall : keys.all (·.isSome) = true) (hl : keys.length = values.length) (h0 : keys ≠ []) (hlen : keys.length ≤ 15)
    (h : wpAny (model prog w) A (evalPairs (pairTrees keys values env pos)) (fun vs s₁ => ∃ ps, CarriesH knd s₁.heap vs ps ∧ s₁.heap.DictOfH knd s.heap.objs.size [] ∧
      ∀ h' tk, h'.DictOfH knd s.heap.objs.size (storedAllH [] ps) → Heap.SameBut s.heap.objs.size s₁.heap h' → Q (.ref s.heap.objs.size) { s₁ with heap := h', toks := tk }) E
      { s with heap := s.heap.push { cls := .type "dict", data := .dict #[] } }) :
    wpAny (model prog w) A (eval (.Dict keys values pos) env) Q E s := by
  have hn := pairTrees_length keys values env pos hall hl
  have h1 : pairTrees keys values env pos ≠ [] := fun he => by
    rw [he] at hn
    exact h0 (List.length_eq_zero_iff.mp hn.symm)
  rw [arm_eval_Dict, zip_pairTrees keys values env pos hall hl, dictDisplay_pairs _ h1 (by omega)]
  exact wpAny_bind (wpAny_standAt (wpAny_bind (wpAny_subDictH (knd := knd) (Q := fun d s' => wpAny (model prog w) A (pure (Value.ref d)) Q E s') hu (by omega)
    (wpAny_mono h (fun vs s₁ h₁ => by obtain ⟨ps, hc, hm, hq⟩ := h₁; exact ⟨ps, hc, hm, fun h' tk a b => wpAny_pure (hq h' tk a b)⟩) fun _ _ e => e))))
theorem pe_dispT {X : Cx} {pos : Pos} {k v : Expr} {tk tv : TE} (hu : X.A.units + 1 < cLine) (hk : PE X k tk) (hv : PE X v tv) : PE X (.Dict [some k] [v] pos) (tDispT tk tv) := by
  refine ⟨fun pins s σ H Q I q => ?_⟩
  have hn := I.hok.fresh (Nat.le_refl s.heap.objs.size)
  have I1 := I.laid (a := s.heap.objs.size) (o := .dT []) (h' := s.heap.push { cls := .type "dict", data := .dict #[] }) (t' := s.toks) (fun _ _ q => Heap.get?_push_of_some _ q) (Nat.le_refl _) (dt_empty s.heap I.big)
  have room : (tupleKind (mixKind X.prog X.w)).room X.A := (show X.A.units < cLine from by omega)
  refine wp_disp (knd := tupleKind (mixKind X.prog X.w)) room rfl rfl (fun z => nomatch z) (by decide : 1 ≤ 15) ?_
  refine pairTrees_cons_walk (thn (hk.run pins _ σ _ _ I1 (q _ hn)) fun u s1 ⟨x, H1, I2, rx, q1⟩ => thn (hv.run pins s1 σ H1 _ I2 q1) fun w s2 ⟨y, H2, I3, ry, q2⟩ => pairTrees_nil_walk ?_)
  obtain ⟨e, b, ks, rfl, eb, q3⟩ := q2
  obtain rfl : u = Value.ref b := rx
  obtain ⟨z, hd, xs, r0, dd⟩ := dt_of I3.hok e
  cases r0
  refine ⟨[(ks, b, w)], ⟨rfl, rfl, key_of I3.hok eb, trivial⟩, dd, fun h' tk dd' hs => ⟨.ref s.heap.objs.size, _, ?_, rfl, q3⟩⟩
  obtain ⟨q, es, ep, hq, h2, h3, h4, _, h5⟩ := dd'
  refine d_write I3 (by rw [e]; exact True.intro) hs ⟨q, hq⟩ ⟨by show 1 ≤ sizeLine; decide, hd, [(ks, b, w)], .cons ⟨rfl, ?_, ry⟩ .nil, q, es, ep, hq, h2, h3, h4, h5⟩
  rw [upd_ne (ne_of eb e (fun z => nomatch z))]
  exact eb
end L2
namespace PL
open PySem PySem.Spec PyProof.Rows L2
section
variable {B F : Hp} {Γ : Ev} {σ : L2.St} {H : Hp} {fp : Nat → List Addr}
/-- a cell that nothing else holds is written -/
theorem Rel.free {p : Addr} {o : HO} (r : Rel B F Γ σ H fp) (hb : B p = none) (hF : F p = none) (hf : ∀ i, p ∉ fp i) : Rel B F Γ σ (upd H p o) fp :=
  ⟨fun a u e => by
    rw [upd_ne fun z => by rw [z, hb] at e; cases e]
    exact r.bx a u e, fun a u e => by
    rw [upd_ne fun z => by rw [z, hF] at e; cases e]
    exact r.fx a u e, r.len, r.sh, fun i o' e => by
    obtain ⟨v, h1, h2⟩ := r.ow i o' e
    refine ⟨v, h1, h2.mono (Same.refl F) fun a ha => upd_ne fun z => hf i (z ▸ ha)⟩, fun i a ha => by
    obtain ⟨b, c, d⟩ := r.nb i a ha
    refine ⟨b, c, ?_⟩
    have n : a ≠ p := fun z => hf i (z ▸ ha)
    rw [upd_ne n]
    exact d, r.dj, r.ex⟩
end
section
variable {X : Cx} {W : WX} {pos p : Pos} {a b c e f : Expr} {ta tb tc te tf : TE} {pa pb pc pe pf : QE}
def qDispT (pk pv : QE) : QE := fun Γ R E => pk Γ (fun w1 Γ1 => shr w1 Γ1 fun k Γ2 => keyT k = true ∧ pv Γ2 (fun w2 Γ3 => shr w2 Γ3 fun d Γ4 => R (.ow (.t [(k, d)])) Γ4) E) E
theorem d_dispT {j : Nat} (hr : Room j X.A) (ha : DE X W a ta pa) (hb : DE X W b tb pb) : DE X W (.Dict [some a] [b] pos) (tDispT ta tb) (qDispT pa pb) := ⟨pe_dispT (hu_of hr) ha.pe hb.pe, fun {B F Γ σ H fp} R EX Q r q k0 ex p hp => by
  obtain ⟨r0, v0⟩ := new_t r hp
  obtain ⟨B', r1, g⟩ := r0.guard v0
  refine ha.se _ EX _ r1 q (fun w1 Γ1 x F1 H1 fp1 x1 r1 v1 h1 => ?_) (fun c Γ' F' H' fp' x2 r2 q => ?_)
  · obtain ⟨d, Γ2, F2, fp2, x2, r2, b2, hk, h2⟩ := shr_ok r1 v1 h1
    refine hb.se _ EX _ r2 h2 (fun w2 Γ3 y F3 H3 fp3 x3 r3 v3 h3 => ?_) (fun c Γ' F' H' fp' x3 r3 q => ?_)
    · obtain ⟨d2, Γ4, F4, fp4, x4, r4, b4, h4⟩ := shr_ok r3 v3 h3
      obtain ⟨xx, r5, v5, _⟩ := g F4 Γ4 H3 fp4 (((x1.trans x2).trans x3).trans x4) r4
      cases v5 with
      | @ow o f0 hro hfree =>
        cases hro with
        | @t a kvs ds e1 t =>
          cases t
          obtain ⟨f1, f2, f3⟩ := hfree p (by simp)
          have bk : Rp F4 x d := (b2.mono x3.same).mono x4.same
          have b4' : Rp F4 y d2 := b4
          obtain ⟨bq, ks, rfl, e4, rfl⟩ := bk.keyT hk
          refine ⟨e1, bq, ks, rfl, r5.fx _ _ e4, ?_⟩
          refine k0 _ Γ4 _ F4 _ fp4 xx (r5.free f1 f2 f3) (.ow (f := [p]) (.t upd_same (.cons b4' .nil)) fun a ha => ?_) h4
          simp only [List.mem_singleton] at ha
          subst ha
          exact ⟨f1, f2, f3⟩
    · obtain ⟨xx, r5, _, _⟩ := g F' Γ' H' fp' ((x1.trans x2).trans x3) r3
      exact ex c Γ' F' H' fp' xx r5 q
  · obtain ⟨xx, r5, _, _⟩ := g F' Γ' H' fp' x2 r2
    exact ex c Γ' F' H' fp' xx r5 q⟩
/-- d.get(k, x) -/
def qGet2 (pd py px : QE) : QE := fun Γ R E => pd Γ (fun w1 Γ1 => (dic w1 Γ1).isSome = true ∧ py Γ1 (fun w2 Γ2 => shr w2 Γ2 fun dk Γ3 => px Γ3 (fun w3 Γ4 => shr w3 Γ4 fun dx Γ5 => dget w1 Γ5 dk fun o => R (.sh (o.getD dx)) Γ5) E) E) E
theorem d_get2 {j : Nat} {apos : Pos} (hr : Room j X.A) (ha : DE X W a ta pa) (hb : DE X W b tb pb) (hc : DE X W c tc pc) (m : M2 X a "get" apos b c pos := by exact ⟨rfl, rfl, rfl, rfl⟩) : DE X W (.Call (.Attribute a "get" apos) [b, c] [] pos) (tDGet2 ta tb tc) (qGet2 pa pb pc) := ⟨pe_dget2 (hu_of hr) ha.pe hb.pe hc.pe m, fun {B F Γ σ H fp} R EX Q rr h k e => by
  refine ha.se _ EX _ rr h (fun w1 Γ1 x F1 H1 fp1 x1 r1 v1 h1 => ?_) e
  obtain ⟨hd, h1⟩ := h1
  obtain ⟨⟨bb, ds⟩, hd⟩ := Option.isSome_iff_exists.mp hd
  obtain ⟨a, rfl, d⟩ := dic_ok r1 v1 hd
  refine ⟨a, rfl, dic_isD d, ?_⟩
  obtain ⟨B', r1', g⟩ := r1.guard v1
  refine hb.se _ EX _ r1' h1 (fun w2 Γ2 y F2 H2 fp2 x2 r2 v2 h2 => ?_) fun c Γ' F' H' fp' x2 r2 q => ?_
  · obtain ⟨dk, Γ3, F3, fp3, x3, r3, b3, h3⟩ := shr_ok r2 v2 h2
    refine hc.se _ EX _ r3 h3 (fun w3 Γ4 z F4 H4 fp4 x4 r4 v4 h4 => ?_) fun c Γ' F' H' fp' x4 r4 q => ?_
    · obtain ⟨dx, Γ5, F5, fp5, x5, r5, b5, h5⟩ := shr_ok r4 v4 h4
      obtain ⟨xx, r6, v6, _⟩ := g F5 Γ5 H4 fp5 (((x2.trans x3).trans x4).trans x5) r5
      obtain ⟨a', o, e', _, gg, z'⟩ := dget_ok r6 v6 (((b3.mono x4.same).mono x5.same).rb r6.fx) h5
      cases e'
      refine ⟨o, gg, ?_⟩
      rcases z' with ⟨rfl, z'⟩ | ⟨u, x', rfl, hu, z'⟩
      · exact k _ Γ5 _ F5 H4 fp5 (x1.trans xx) r6 (.sh b5) z'
      · exact k _ Γ5 _ F5 H4 fp5 (x1.trans xx) r6 (.sh hu) z'
    · obtain ⟨xx, r6, _, _⟩ := g F' Γ' H' fp' ((x2.trans x3).trans x4) r4
      exact e c Γ' F' H' fp' (x1.trans xx) r6 q
  · obtain ⟨x3, r3, _, _⟩ := g F' Γ' H' fp' x2 r2
    exact e c Γ' F' H' fp' (x1.trans x3) r3 q⟩
/-- for x in reversed(range(n)) -/
def qiRev (p : QE) : QI := fun Γ R E => p Γ (fun w Γ1 => match w with
  | .sh (.int n) => 0 ≤ n ∧ n < 2 ^ 62 ∧ R ((List.range n.toNat).map fun (i : Nat) => .int (n - 1 - (i : Int))) Γ1
  | _ => False) E
theorem it_rangeC {F : Hp} (lo c : Int) (n : Nat) (f : Nat → D) (hf : ∀ i, f i = .int (lo + (i : Nat) * c)) : ItOk (Itc lo c n) F ((List.range n).map f) := fun B3 F3 Γ3 σ3 H3 fp3 s3 r3 i => by
  refine ⟨fun d hd => ?_, fun hi => show n ≤ i by simpa using hi⟩
  rw [List.getElem?_map] at hd
  have hi : i < n := by
    cases z : (List.range n)[i]? with
    | none =>
      rw [z] at hd
      cases hd
    | some c => simpa using (List.getElem?_eq_some_iff.mp z).1
  rw [List.getElem?_range hi] at hd
  refine ⟨hi, fun y H4 ⟨e4, ey⟩ => ?_⟩
  subst e4 ey
  have hd' : f i = d := Option.some.inj hd
  rw [← hd', hf]
  exact ⟨F3, .refl, r3, .int _⟩
theorem di_revR {tg : Expr} {p p2 pos2 : Pos} (hm : X.mg "reversed" = none) (hm2 : X.mg "range" = none) (ha : DE X W a ta pa) (hg : Gl X "reversed" := by rfl) (hg2 : Gl X "range" := by rfl) (na : starEach [a] X.env = (false, eval a X.env) :: starEach [] X.env := by rfl)
    (hs : starEach [(.Call (.Name "range" p2) [a] [] pos2)] X.env = (false, eval (.Call (.Name "range" p2) [a] [] pos2) X.env) :: starEach [] X.env := by rfl) :
    DI X W tg (.Call (.Name "reversed" p) [.Call (.Name "range" p2) [a] [] pos2] [] pos) (iRevR (tRg1 ta)) (qiRev pa) := ⟨pi_revR hg hm (prg_1 hg2 hm2 ha.pe na) hs, fun {B F Γ σ H fp} R EX Q r q k e => by
  refine ha.se _ _ _ r q (fun w Γ1 v F1 H1 fp1 x1 r1 v1 h1 => ?_) e
  split at h1
  · rename_i n
    obtain ⟨h2, h3, h4⟩ := h1
    cases v1 with
    | sh hv =>
      cases hv
      refine ⟨n, rfl, by omega, by omega, by omega, h3, ?_⟩
      have e1 : (n - 0).toNat = n.toNat := by rw [Int.sub_zero]
      rw [e1]
      refine k _ Γ1 _ F1 H1 fp1 x1 r1 (it_rangeC _ _ _ _ fun i => ?_) h4
      have : ((n.toNat : Nat) : Int) = n := Int.toNat_of_nonneg h2
      rw [this]
      congr 1
      omega
  · exact h1.elim⟩
/-- x += e -/
def rIAdd : R2 := fun x y H Q => L2.rAdd x y H Q ∨ rAddS x y H Q
theorem or_iadd : OpR X (inplaceOp .Add) rIAdd := OpR.or (fun pins s σ H x y v u Q I rx ry h => in_add pins s σ H x y v u Q I rx ry h) fun pins s σ H x y v u Q I rx ry h => in_addS pins s σ H x y v u Q I rx ry h
def opIAdd : OP2 := fun d1 d2 k => match d1, d2 with
  | .int i, .int j => k (.sh (.int (i + j)))
  | .str a, .str b => a.length + b.length ≤ sizeLine ∧ k (.sh (.str (a ++ b)))
  | _, _ => False
theorem os_iadd : OpS rIAdd opIAdd := fun {B F Γ σ H fp x y d1 d2} k Q r b1 b2 z c => by
  cases b1 with
  | int i =>
    cases b2 with
    | int j => exact .inl ⟨i, j, rfl, rfl, op_sc r (.int _) c z⟩
    | _ => exact z.elim
  | str a ha =>
    cases b2 with
    | str b hb => exact .inr ⟨a, b, rfl, rfl, z.1, op_sc r (.str _ (strOk_app ha hb)) c z.2⟩
    | _ => exact z.elim
  | _ => exact z.elim
end
end PL

set_option pp.maxSteps 1500
namespace PL
open PySem PySem.Spec PyProof.Rows L2
local macro_rules | `(tactic| ac_rfl) => `(tactic| ((conv => whnf); repeat ((first | refine Cif.yes ?_ | refine Cif.no ?_ | refine And.intro (by assumption) ?_ | refine And.intro trivial ?_ | refine And.intro rfl ?_); (conv => whnf))))
/-! ### frames -/
abbrev tl (x : Str) : List Nat := x.cps.toList
def rowD (r : List Int) : D := .list (r.map .int)
structure Fr where
  s : Str
  c : List (List Int)
def Fr.enc (f : Fr) : D := .tuple [.str f.s, .list (f.c.map rowD)]
def Fr.m (f : Fr) : Nat := f.s.length
def Fr.n (f : Fr) : Nat := (f.c.headD []).length
structure FrOk (f : Fr) : Prop where
  m2 : 2 ≤ f.m
  m1 : f.m ≤ 40
  nd : (tl f.s).Nodup
  rows : ∀ r ∈ f.c, r.length = f.n
  c1 : 1 ≤ f.c.length
  c2 : f.c.length ≤ 3
  n1 : 1 ≤ f.n
  n2 : f.n ≤ 40
  ws : ∀ r ∈ f.c, ∀ w ∈ r, 0 ≤ w ∧ w < 5040
theorem idxOf?_mem {l : List Nat} {c : Nat} (h : c ∈ l) : l.idxOf? c = some (l.idxOf c) := List.findIdx?_eq_some_iff_findIdx_eq.mpr ⟨List.idxOf_lt_length_iff.mpr h, rfl⟩
theorem str_ext {x y : Str} (h : tl x = tl y) : x = y := by
  cases x
  cases y
  congr 1
  exact Array.toList_inj.mp h
theorem tl_app (x y : Str) : tl (x ++ y) = tl x ++ tl y := by
  show (x.cps ++ y.cps).toList = _
  rw [Array.toList_append]
theorem ixD_map {α : Type} {xs : List α} {p : Nat} {a : α} (f : α → D) (h : xs[p]? = some a) : ixD (xs.map f) (p : Int) = some (f a) := by
  show (xs.map f)[p]? = _
  rw [List.getElem?_map, h]
  rfl
theorem ixD_nat {α : Type} {xs : List α} {p : Nat} {a : α} (h : xs[p]? = some a) : ixD xs (p : Int) = some a := h
theorem tl_len (x : Str) : (tl x).length = x.length := by simp [tl, Str.length]
theorem FrOk.row0 {f : Fr} (ok : FrOk f) : ∃ r cs, f.c = r :: cs ∧ r.length = f.n := by
  cases h : f.c with
  | nil =>
    have := ok.c1
    rw [h] at this
    simp at this
  | cons r cs => exact ⟨r, cs, rfl, by simp [Fr.n, h]⟩
def P_size_of : PD := fun ds R => ∃ f : Fr, ds = [f.enc] ∧ FrOk f ∧ R (.sh (.int f.n))
def idx (f : Fr) (c : Nat) : Nat := (tl f.s).idxOf c
def InL (f : Fr) (x : Str) : Prop := ∀ c ∈ tl x, c ∈ tl f.s
def worths (f : Fr) (x : Str) : List Nat := (tl x).map (idx f)
def natD (n : Nat) : D := .int n
def P_worths_in : PD := fun ds R => ∃ (f : Fr) (x : Str), ds = [f.enc, .str x] ∧ FrOk f ∧ InL f x ∧ x.length ≤ 1000 ∧ R (.ow (.l ((worths f x).map natD)))
-- worths_in(frame, line) slots: 0=frame* 1=line 2=sign
def q_worths_in : QS :=
  (qRet (qLc [2] (qiS (qVar 1)) (qgN 2) qYes (qM1 opIndex (qOp opIx (qVar 0) (qC (.int 0))) (qVar 2))))
theorem pure_worths_in : ∀ ds R, ds.length = 2 → P_worths_in ds R → q_worths_in (endsOf R) (startEv 3 ds) := by
  rintro ds R - ⟨f, x, rfl, ok, hx, hl, h⟩
  ac_rfl
  refine lc0_map (vs := [2]) signD (fun c => natD (idx f c)) _ (fun c hc acc K ha hK => ?_) ?_ ?_
  · ac_rfl
    rw [show List.idxOf? c f.s.cps.toList = some (idx f c) from idxOf?_mem (hx c hc)]
    ac_rfl
    exact hK
  · rw [tl_len]
    exact small (by omega)
  · ac_rfl
    have e : (worths f x).map natD = (tl x).map fun c => natD (idx f c) := by simp [worths]
    rw [e] at h
    exact h
def dotI : List Int → List Nat → Int
  | a :: r, b :: w => a * (b : Int) + dotI r w
  | _, _ => 0
def rem (f : Fr) (x : Str) : List Int := f.c.map fun r => dotI r (worths f x) % (f.m : Int)
def tupI (ns : List Int) : D := .tuple (ns.map .int)
theorem intsOf_map' {α : Type} (g : α → Int) : ∀ xs : List α, intsOf (xs.map fun x => .int (g x)) = some (xs.map g)
  | [] => rfl
  | x :: r => by simp [intsOf, intsOf_map' g r]
theorem zipD_map : ∀ (r : List Int) (w : List Nat), zipD (r.map .int) (w.map natD) = (r.zip w).map fun p => .tuple [.int p.1, natD p.2]
  | [], _ => by simp [zipD]
  | _ :: _, [] => by simp [zipD]
  | a :: r, b :: w => by simp [zipD, zipD_map r w]
theorem dotI_zip : ∀ (r : List Int) (w : List Nat), ((r.zip w).map fun p => p.1 * (p.2 : Int)).sum = dotI r w
  | [], _ => by simp [dotI]
  | _ :: _, [] => by simp [dotI]
  | a :: r, b :: w => by simp [dotI, dotI_zip r w]
def P_remainders : PD := fun ds R => ∃ (f : Fr) (x : Str), ds = [f.enc, .str x] ∧ FrOk f ∧ InL f x ∧ x.length ≤ 1000 ∧ R (.sh (tupI (rem f x)))
-- remainders(frame, line) slots: 0=frame 1=line 2=worths* 3=modulus* 4=weights 5=weight 6=worth
def q_remainders : QS :=
  (qSeq (qAsg (qCall 2 P_worths_in (qCons (qVar 0) (qCons (qVar 1) qNil))) (qgN 2))
  (qFrz 2 (qSeq (qAsg (qUn opLen (qOp opIx (qVar 0) (qC (.int 0)))) (qgN 3))
  (qRet (qUn opTuple (qLc [4] (qiL (qOp opIx (qVar 0) (qC (.int 1)))) (qgN 4) qYes (qOp opMod (qUn opSum (qLc [5, 6] (qiZ (qCons (qVar 4) (qCons (qVar 2) qNil))) (qgTup 2 (qgCons (qgN 5) (qgCons (qgN 6) qgNil))) qYes (qOp opMul (qVar 5) (qVar 6)))) (qVar 3))))))))
theorem pure_remainders : ∀ ds R, ds.length = 2 → P_remainders ds R → q_remainders (endsOf R) (startEv 7 ds) := by
  rintro ds R - ⟨f, x, rfl, ok, hx, hl, h⟩
  ac_rfl
  refine ⟨f, x, rfl, ok, hx, hl, ?_⟩
  ac_rfl
  refine ⟨small (by have := ok.m1; unfold Fr.m at this; omega), ?_⟩
  ac_rfl
  refine lc0_map (vs := [4]) rowD (fun r => .int (dotI r (worths f x) % (f.m : Int))) _ (fun r hr acc K ha hK => ?_) ?_ ?_
  · ac_rfl
    rw [zipD_map]
    refine lc0_map (vs := [5, 6]) (fun p : Int × Nat => .tuple [.int p.1, natD p.2]) (fun p => .int (p.1 * (p.2 : Int))) _ (fun p hp acc2 K2 ha2 hK2 => ?_) ?_ ?_
    · ac_rfl
      refine ⟨?_, ?_⟩
      · have := ok.ws r hr p.1 (List.of_mem_zip hp).1
        exact .inl ⟨by omega, by omega⟩
      · ac_rfl
        exact hK2
    · refine small ?_
      have := ok.rows r hr
      have := ok.n2
      simp only [List.length_zip]
      omega
    · ac_rfl
      rw [← dotI_zip] at hK
      rw [intsOf_map']
      ac_rfl
      refine ⟨by have := ok.m2; unfold Fr.m at this; omega, ?_⟩
      ac_rfl
      exact hK
  · have := ok.c2
    exact small (by omega)
  · ac_rfl
    have e : tupI (rem f x) = .tuple (f.c.map fun r => .int (dotI r (worths f x) % (f.m : Int))) := by simp [tupI, rem]
    rw [e] at h
    exact h
def zerosL (f : Fr) : List Int := List.replicate f.c.length 0
def P_zeros : PD := fun ds R => ∃ f : Fr, ds = [f.enc] ∧ FrOk f ∧ R (.sh (tupI (zerosL f)))
-- zeros(frame) slots: 0=frame
def q_zeros : QS :=
  (qRet (qOp opMulT (qTup (qCons (qC (.int 0)) qNil)) (qUn opLen (qOp opIx (qVar 0) (qC (.int 1))))))
theorem pure_zeros : ∀ ds R, ds.length = 1 → P_zeros ds R → q_zeros (endsOf R) (startEv 1 ds) := by
  rintro ds R - ⟨f, rfl, ok, h⟩
  have := ok.c1
  have := ok.c2
  ac_rfl
  refine ⟨small (by decide), ?_⟩
  ac_rfl
  have e : ((f.c.map rowD).length : Int) = f.c.length := by simp
  refine ⟨(fun z => nomatch z), by omega, by omega, by decide, ?_⟩
  ac_rfl
  have e2 : tupI (zerosL f) = .tuple ((List.replicate ((f.c.map rowD).length : Int).toNat [PyData.int 0]).flatten) := by
    simp [tupI, zerosL]
  rw [e2] at h
  exact h
def mark (f : Fr) (p d : Nat) : List Int := f.c.map fun r => (r[p]?.getD 0 * (d : Int)) % (f.m : Int)
def P_mark : PD := fun ds R => ∃ (f : Fr) (p d : Nat), ds = [f.enc, .int p, .int d] ∧ FrOk f ∧ p < f.n ∧ d ≤ 1000 ∧ R (.sh (tupI (mark f p d)))
-- mark(frame, place, d) slots: 0=frame* 1=place* 2=d* 3=weights
def q_mark : QS :=
  (qRet (qUn opTuple (qLc [3] (qiL (qOp opIx (qVar 0) (qC (.int 1)))) (qgN 3) qYes (qOp opMod (qOp opMul (qOp opIx (qVar 3) (qVar 1)) (qVar 2)) (qUn opLen (qOp opIx (qVar 0) (qC (.int 0))))))))
theorem pure_mark : ∀ ds R, ds.length = 3 → P_mark ds R → q_mark (endsOf R) (startEv 4 ds) := by
  rintro ds R - ⟨f, p, d, rfl, ok, hp, hd, h⟩
  ac_rfl
  refine lc0_map (vs := [3]) rowD (fun r => .int ((r[p]?.getD 0 * (d : Int)) % (f.m : Int))) _ (fun r hr acc K ha hK => ?_) ?_ ?_
  · have hl := ok.rows r hr
    have e : r[p]? = some r[p] := List.getElem?_eq_getElem (by omega)
    rw [e] at hK
    ac_rfl
    rw [ixD_map _ e]
    ac_rfl
    refine ⟨.inr ⟨by omega, by omega⟩, ?_⟩
    ac_rfl
    refine ⟨small (by have := ok.m1; unfold Fr.m at this; omega), ?_⟩
    ac_rfl
    refine ⟨by have := ok.m2; unfold Fr.m at this; omega, ?_⟩
    ac_rfl
    exact hK
  · have := ok.c2
    exact small (by omega)
  · ac_rfl
    have e : tupI (mark f p d) = .tuple (f.c.map fun r => .int ((r[p]?.getD 0 * (d : Int)) % (f.m : Int))) := by simp [tupI, mark]
    rw [e] at h
    exact h
def slips (f : Fr) : List (Nat × Nat) := ((List.range f.n).map fun p => (List.range (f.m - 1)).map fun d => (p, d + 1)).flatten
def slipD (p : Nat × Nat) : D := .tuple [.int p.1, .int p.2]
def P_slips_of : PD := fun ds R => ∃ f : Fr, ds = [f.enc] ∧ FrOk f ∧ R (.ow (.l ((slips f).map slipD)))
def hd0 (f : Fr) : Nat := (tl f.s)[0]?.getD 0
def plain (f : Fr) : Str := Txt.mul ⟨#[hd0 f]⟩ f.n
def P_plain_line : PD := fun ds R => ∃ f : Fr, ds = [f.enc] ∧ FrOk f ∧ R (.sh (.str (plain f)))
def sgn (f : Fr) (w : Nat) : Nat := (tl f.s)[w]?.getD 0
def putS (x : Str) (p c : Nat) : Str := ⟨((tl x).set p c).toArray⟩
theorem putS_eq {x : Str} {p c : Nat} (hp : p < x.length) : (cutS x none (some (p : Int)) ++ ⟨#[c]⟩) ++ cutS x (some ((p : Int) + 1)) none = putS x p c := by
  apply str_ext
  rw [tl_app, tl_app]
  have hl := tl_len x
  have e1 : tl (cutS x none (some (p : Int))) = (tl x).take p := by
    show ((tl x).drop (HT.sIx x.length 0 none)).take (HT.sIx x.length x.length (some (p : Int)) - HT.sIx x.length 0 none) = _
    rw [HT.sIx_none, HT.sIx_nat]
    simp only [List.drop_zero, Nat.sub_zero]
    congr 1
    omega
  have e2 : tl (cutS x (some ((p : Int) + 1)) none) = (tl x).drop (p + 1) := by
    show ((tl x).drop (HT.sIx x.length 0 (some ((p : Int) + 1)))).take (HT.sIx x.length x.length none - HT.sIx x.length 0 (some ((p : Int) + 1))) = _
    rw [HT.sIx_none, show ((p : Int) + 1) = ((p + 1 : Nat) : Int) by omega, HT.sIx_nat, show min (p + 1) x.length = p + 1 by omega]
    rw [List.take_of_length_le (by rw [List.length_drop]; omega)]
  rw [e1, e2]
  show _ = ((tl x).set p c)
  rw [List.set_eq_take_append_cons_drop, if_pos (by omega)]
  simp
  rfl
theorem cutS_le (x : Str) (lo hi : Option Int) : (cutS x lo hi).length ≤ x.length := cutS_length x lo hi
def P_with_sign : PD := fun ds R => ∃ (f : Fr) (x : Str) (p w : Nat), ds = [f.enc, .str x, .int p, .int w] ∧ FrOk f ∧ p < x.length ∧ x.length ≤ 1000 ∧ w < f.m ∧ R (.sh (.str (putS x p (sgn f w))))
theorem app_len (x y : Str) : (x ++ y).length = x.length + y.length := by
  rw [← tl_len, tl_app, List.length_append, tl_len, tl_len]
def V (w : String) (xs : List Str) : D := .tuple ((Str.ofString w :: xs).map .str)
def slipV (f : Fr) : List Str := match (slips f).find? (fun s => mark f s.1 s.2 == zerosL f) with
  | some (p, d) => [Str.ofString "unnoticed", plain f, putS (plain f) p (sgn f d)]
  | none => [Str.ofString "noticed"]
def strT (v : List Str) : D := .tuple (v.map .str)
def P_find_slips : PD := fun ds R => ∃ f : Fr, ds = [f.enc] ∧ FrOk f ∧ R (.sh (strT (slipV f)))
theorem hasDict_keys : ∀ k : List Key, PyData.hasDictAll (k.map keyD) = false
  | [] => by simp [PyData.hasDictAll]
  | .inl i :: r => by simp [PyData.hasDictAll, keyD, PyData.hasDict, hasDict_keys r]
  | .inr i :: r => by simp [PyData.hasDictAll, keyD, PyData.hasDict, hasDict_keys r]
theorem depth_keys : ∀ k : List Key, PyData.depthAll (k.map keyD) ≤ 1
  | [] => by simp [PyData.depthAll]
  | .inl i :: r => by
    have := depth_keys r
    simp only [List.map_cons, keyD, PyData.depthAll, PyData.depth]
    omega
  | .inr i :: r => by
    have := depth_keys r
    simp only [List.map_cons, keyD, PyData.depthAll, PyData.depth]
    omega
theorem flat_keys (k : List Key) : flat 60 (.tuple (k.map keyD)) = true := by
  have := depth_keys k
  have e : (PyData.tuple (k.map keyD)).depth = PyData.depthAll (k.map keyD) + 1 := by simp [PyData.depth]
  simp only [flat, PyData.hasDict, hasDict_keys, e, Bool.not_false, Bool.true_and, decide_eq_true_eq]
  omega
theorem tupI_keys (a : List Int) : tupI a = .tuple ((a.map Sum.inl : List Key).map keyD) := by
  simp [tupI, keyD, Function.comp_def]
theorem strT_keys (a : List Str) : strT a = .tuple ((a.map Sum.inr : List Key).map keyD) := by
  simp [strT, keyD, Function.comp_def]
theorem map_inl_inj {a b : List Int} : (a.map Sum.inl : List Key) = b.map Sum.inl ↔ a = b := List.map_inj_right (fun x y h => Sum.inl.inj h)
theorem map_inr_inj {a b : List Str} : (a.map Sum.inr : List Key) = b.map Sum.inr ↔ a = b := List.map_inj_right (fun x y h => Sum.inr.inj h)
theorem eqv_tupI (a b : List Int) : PyData.eqv (tupI a) (tupI b) = (a == b) := by
  rw [tupI_keys, tupI_keys, eqv_keyT, Bool.beq_eq_decide_eq]
  exact decide_eq_decide.mpr map_inl_inj
theorem flat_tupI (a : List Int) : flat 60 (tupI a) = true := by rw [tupI_keys]; exact flat_keys _
theorem eqv_strT (a b : List Str) : PyData.eqv (strT a) (strT b) = decide (a = b) := by
  rw [strT_keys, strT_keys, eqv_keyT]
  exact decide_eq_decide.mpr map_inr_inj
theorem flat_strT (a : List Str) : flat 60 (strT a) = true := by rw [strT_keys]; exact flat_keys _
theorem keyT_tupI (a : List Int) : keyT (tupI a) = true := by rw [tupI_keys]; exact keyT_D _
theorem mem_slips {f : Fr} {p d : Nat} : (p, d) ∈ slips f ↔ p < f.n ∧ 1 ≤ d ∧ d < f.m := by
  unfold slips
  simp only [List.mem_flatten, List.mem_map, List.mem_range]
  constructor
  · rintro ⟨l, ⟨a, ha, rfl⟩, hx⟩
    obtain ⟨b, hb, e⟩ := List.mem_map.mp hx
    simp at hb
    cases e
    omega
  · rintro ⟨h1, h2, h3⟩
    refine ⟨_, ⟨p, h1, rfl⟩, List.mem_map.mpr ⟨d - 1, by simp; omega, ?_⟩⟩
    congr 1
    omega
theorem plain_len (f : Fr) : (plain f).length = f.n := by
  rw [← tl_len]
  show (Txt.mul ⟨#[hd0 f]⟩ f.n).cps.toList.length = _
  rw [mul_one_list]
  simp
end PL

namespace PL
open PySem PySem.Spec PyProof.Rows L2
local macro_rules | `(tactic| ac_rfl) => `(tactic| ((conv => whnf); repeat ((first | refine Cif.yes ?_ | refine Cif.no ?_ | refine And.intro (by assumption) ?_ | refine And.intro trivial ?_ | refine And.intro rfl ?_); (conv => whnf))))
abbrev txt (x : String) : Str := Str.ofString x
/-- the verdict of slips still to be looked at, some seen -/
def rightR (f : Fr) : List (Nat × Nat) → List (Nat × Nat) → List Str
  | _, [] => [txt "right"]
  | seen, s :: r => if mark f s.1 s.2 == zerosL f then [txt "both", plain f, plain f, putS (plain f) s.1 (sgn f s.2)] else
    match seen.find? (fun t => mark f t.1 t.2 == mark f s.1 s.2) with
    | some t => [txt "both", putS (plain f) s.1 (sgn f s.2), plain f, putS (putS (plain f) s.1 (sgn f s.2)) t.1 (sgn f (f.m - t.2))]
    | none => rightR f (seen ++ [s]) r
def rightV (f : Fr) : List Str := rightR f [] (slips f)
def knownD (f : Fr) (seen : List (Nat × Nat)) : List (D × D) := seen.map fun s => (tupI (mark f s.1 s.2), slipD s)
theorem look_known (f : Fr) (mk : List Int) : ∀ seen : List (Nat × Nat), lookD (knownD f seen) (tupI mk) = (seen.find? fun t => mark f t.1 t.2 == mk).map slipD
  | [] => rfl
  | s :: r => by
    have ih := look_known f mk r
    unfold lookD knownD at ih ⊢
    simp only [List.map_cons, List.find?_cons, eqv_tupI]
    cases h : (mark f s.1 s.2 == mk) with
    | true => rfl
    | false => exact ih
theorem any_known (f : Fr) (mk : List Int) (seen : List (Nat × Nat)) : ((knownD f seen).any fun p => PyData.eqv p.1 (tupI mk)) = (seen.find? fun t => mark f t.1 t.2 == mk).isSome := by
  induction seen with
  | nil => rfl
  | cons s r ih =>
    show (PyData.eqv (tupI (mark f s.1 s.2)) (tupI mk) || (knownD f r).any fun p => PyData.eqv p.1 (tupI mk)) = _
    rw [List.find?_cons, eqv_tupI, ih]
    cases h : (mark f s.1 s.2 == mk) <;> rfl
theorem put_known {f : Fr} {seen : List (Nat × Nat)} {s : Nat × Nat} (h : (seen.find? fun t => mark f t.1 t.2 == mark f s.1 s.2) = none) : putD (knownD f seen) (tupI (mark f s.1 s.2)) (slipD s) = knownD f (seen ++ [s]) := by
  unfold putD
  rw [any_known, h]
  simp [knownD]
theorem putS_len (x : Str) (p c : Nat) : (putS x p c).length = x.length := by
  rw [← tl_len, ← tl_len]
  show ((tl x).set p c).length = _
  rw [List.length_set]
theorem slips_le {f : Fr} (ok : FrOk f) : (slips f).length ≤ 1000000 := by
  have hn := ok.n2
  have hm := ok.m1
  have e : (slips f).length = f.n * (f.m - 1) := by
    unfold slips
    simp only [List.length_flatten, List.map_map]
    show ((List.range f.n).map fun x => ((List.range (f.m - 1)).map fun d => (x, d + 1)).length).sum = _
    simp only [List.length_map, List.length_range, List.map_const', List.sum_replicate_nat]
  rw [e]
  have := Nat.mul_le_mul hn (show f.m - 1 ≤ 1000 by omega)
  omega
def P_find_right : PD := fun ds R => ∃ f : Fr, ds = [f.enc] ∧ FrOk f ∧ R (.sh (strT (rightV f)))
def isLine (f : Fr) (x : Str) : Bool := x.length == f.n && (tl x).all fun c => decide (c ∈ tl f.s)
def P_is_line : PD := fun ds R => ∃ (f : Fr) (x : Str), ds = [f.enc, .str x] ∧ FrOk f ∧ x.length ≤ 2000 ∧ R (.sh (.bool (isLine f x)))
theorem boolsOf_map' {α : Type} (g : α → Bool) : ∀ xs : List α, boolsOf (xs.map fun x => .bool (g x)) = some (xs.map g)
  | [] => rfl
  | x :: r => by simp [boolsOf, boolsOf_map' g r]
theorem flat_int (i : Int) : flat 60 (.int i) = true := rfl
theorem eqv_nat (a b : Nat) : PyData.eqv (.int a) (.int b) = (a == b) := by
  have := eqv_keyD (.inl (a : Int)) (.inl (b : Int))
  show PyData.eqv (keyD (.inl (a : Int))) (keyD (.inl (b : Int))) = _
  rw [this, Bool.beq_eq_decide_eq]
  apply decide_eq_decide.mpr
  simp
  omega
theorem eqv_int (a b : Int) : PyData.eqv (.int a) (.int b) = decide (a = b) := by
  have := eqv_keyD (.inl a) (.inl b)
  show PyData.eqv (keyD (.inl a)) (keyD (.inl b)) = _
  rw [this]
  apply decide_eq_decide.mpr
  simp
theorem isLine_in {f : Fr} {x : Str} (h : isLine f x = true) : x.length = f.n ∧ InL f x := by
  unfold isLine at h
  simp only [Bool.and_eq_true, beq_iff_eq, List.all_eq_true, decide_eq_true_eq] at h
  exact h
def isGood (f : Fr) (x : Str) : Bool := isLine f x && rem f x == zerosL f
def P_is_good : PD := fun ds R => ∃ (f : Fr) (x : Str), ds = [f.enc, .str x] ∧ FrOk f ∧ x.length ≤ 2000 ∧ R (.sh (.bool (isGood f x)))
def apartN (x y : Str) : Nat := ((List.range x.length).filter fun k => (tl x)[k]? != (tl y)[k]?).length
def P_apart : PD := fun ds R => ∃ x y : Str, ds = [.str x, .str y] ∧ x.length = y.length ∧ x.length ≤ 1000 ∧ R (.sh (.int (apartN x y)))
def P__law_differ : PD := P_apart
theorem eqv_str (a b : Str) : PyData.eqv (.str a) (.str b) = decide (a = b) := by
  have := eqv_keyD (.inr a) (.inr b)
  show PyData.eqv (keyD (.inr a)) (keyD (.inr b)) = _
  rw [this]
  apply decide_eq_decide.mpr
  simp
theorem sign_inj (a b : Nat) : decide ((⟨#[a]⟩ : Str) = ⟨#[b]⟩) = decide (a = b) := by
  apply decide_eq_decide.mpr
  simp
end PL

namespace PL
open PySem PySem.Spec PyProof.Rows L2
local macro_rules | `(tactic| ac_rfl) => `(tactic| ((conv => whnf); repeat ((first | refine Cif.yes ?_ | refine Cif.no ?_ | refine And.intro (by assumption) ?_ | refine And.intro trivial ?_ | refine And.intro rfl ?_ | refine And.intro (small (by first | omega | (simp; done))) ?_); (conv => whnf))))
theorem Cif.tt {c : Bool} {A B : Prop} (e : c = true) (h : A) : Cif c A B := by
  subst e
  exact Cif.yes h
theorem Cif.ff {c : Bool} {A B : Prop} (e : c = false) (h : B) : Cif c A B := by
  subst e
  exact Cif.no h
def verOk (v : List Str) : Prop := (∀ x ∈ v, x.length ≤ 2000) ∧ v.length ≤ 10
def hasZero (f : Fr) : Bool := ((slips f).map fun s => mark f s.1 s.2 == zerosL f).any id
def good3 (f : Fr) : List Str → Bool
  | [w, x, y] => decide (w = txt "unnoticed") && (isGood f x && (isGood f y && apartN x y == 1))
  | _ => false
def jSlips (f : Fr) (v : List Str) : Bool := if v = [txt "noticed"] then !hasZero f else good3 f v
def P_judge_slips : PD := fun ds R => ∃ (f : Fr) (v : List Str), ds = [f.enc, strT v] ∧ FrOk f ∧ verOk v ∧ R (.sh (.bool (jSlips f v)))
theorem isGood_in {f : Fr} {x : Str} (h : isGood f x = true) : x.length = f.n ∧ InL f x := by
  unfold isGood at h
  simp only [Bool.and_eq_true] at h
  exact isLine_in h.1
def marks (f : Fr) : List (List Int) := (slips f).map fun s => mark f s.1 s.2
def addK (seen : List (List Int)) (m : List Int) : List (List Int) := if m ∈ seen then seen else seen ++ [m]
def keysOf (ms : List (List Int)) : List (List Int) := ms.foldl addK []
def marked (f : Fr) : Bool := (keysOf (marks f)).length == (slips f).length && !decide (zerosL f ∈ keysOf (marks f))
def kd (ms : List (List Int)) : List (D × D) := ms.map fun m => (tupI m, .bool true)
theorem any_kd (m : List Int) : ∀ ms : List (List Int), ((kd ms).any fun p => PyData.eqv p.1 (tupI m)) = decide (m ∈ ms)
  | [] => rfl
  | x :: r => by
    have ih := any_kd m r
    show (PyData.eqv (tupI x) (tupI m) || (kd r).any fun p => PyData.eqv p.1 (tupI m)) = _
    rw [ih, eqv_tupI]
    by_cases h : x = m
    · subst h
      simp
    · have : m ≠ x := fun e => h e.symm
      simp [h, this]
theorem look_kd (m : List Int) : ∀ ms : List (List Int), (lookD (kd ms) (tupI m)).isSome = decide (m ∈ ms)
  | [] => rfl
  | x :: r => by
    have ih := look_kd m r
    unfold lookD kd at ih ⊢
    simp only [List.map_cons, List.find?_cons, eqv_tupI]
    by_cases h : x = m
    · subst h
      simp
    · have h' : m ≠ x := fun e => h e.symm
      have e : (x == m) = false := by simpa using h
      rw [e]
      simp only [Bool.false_eq_true, if_false, List.mem_cons, h', false_or]
      exact ih
theorem put_kd (m : List Int) (ms : List (List Int)) : putD (kd ms) (tupI m) (.bool true) = kd (addK ms m) := by
  unfold putD addK
  rw [any_kd]
  by_cases h : m ∈ ms
  · rw [if_pos (by simpa using h), if_pos h]
    unfold kd
    rw [List.map_map]
    apply List.map_congr_left
    intro x hx
    show (if PyData.eqv (tupI x) (tupI m) = true then ((tupI x), PyData.bool true) else (tupI x, PyData.bool true)) = _
    split <;> rfl
  · rw [if_neg (by simpa using h), if_neg h]
    simp [kd]
theorem fold_kd (f : Fr) : ∀ (ss : List (Nat × Nat)) (ms : List (List Int)), ss.foldl (fun acc s => putD acc (tupI (mark f s.1 s.2)) (.bool true)) (kd ms) = kd ((ss.map fun s => mark f s.1 s.2).foldl addK ms)
  | [], _ => rfl
  | s :: r, ms => by
    simp only [List.foldl_cons, List.map_cons]
    rw [put_kd, fold_kd f r]
def P_are_all_marked : PD := fun ds R => ∃ f : Fr, ds = [f.enc] ∧ FrOk f ∧ R (.sh (.bool (marked f)))
def good4 (f : Fr) : List Str → Bool
  | [w, l, x, y] => decide (w = txt "both") && (isLine f l && (isGood f x && (isGood f y && (!decide (x = y) && (decide (apartN l x ≤ 1) && decide (apartN l y ≤ 1))))))
  | _ => false
def jRight (f : Fr) (v : List Str) : Bool := if v = [txt "right"] then marked f else good4 f v
def P_judge_right : PD := fun ds R => ∃ (f : Fr) (v : List Str), ds = [f.enc, strT v] ∧ FrOk f ∧ verOk v ∧ R (.sh (.bool (jRight f v)))
end PL

namespace PL
open PySem PySem.Spec PyProof.Rows L2
local macro_rules | `(tactic| ac_rfl) => `(tactic| ((conv => whnf); repeat ((first | refine Cif.yes ?_ | refine Cif.no ?_ | (refine And.intro ?_ ?_; · first | (show _ ≤ (_ : Int); omega) | (show _ < (_ : Int); omega) | assumption | exact trivial | exact rfl | (refine small ?_; first | omega | (simp only [List.length_map, List.length_cons, List.length_nil, List.length_append]; omega)) | (refine ltsmall ?_; first | omega | (simp only [List.length_map, List.length_cons, List.length_nil, List.length_append]; omega)) | (refine cdiv ?_ ?_ <;> omega) | (refine cmulR ?_ ?_ <;> omega) | (refine cmulL ?_ ?_ <;> omega) | (refine ⟨?_, ?_, ?_, ?_⟩ <;> omega))); (conv => whnf))))
local macro_rules | `(tactic| exists $e) => `(tactic| first | exact $e | exact And.right $e | exact And.right (And.right $e) | exact And.right (And.right (And.right $e)))
def intsD (ns : List Int) : D := .list (ns.map .int)
def scrD (ns : List Int) : D := .dict [(.none, intsD ns)]
-- _law_cell(script, k) slots: 0=script 1=k
def q__law_cell : QS :=
  (qSeq (qIfS (qB (qOp opLt (qVar 1) (qUn opLen (qVar 0))))
   (qRet (qUn opInt (qOp opIx (qVar 0) (qVar 1))))
   qNext)
  (qRet (qC (.int 0))))
def P__law_cell : PD := fun ds R => ∃ (ns : List Int) (k : Nat), ds = [scrD ns, .int k] ∧ ns.length ≤ 63 ∧ ∀ i, R (.sh (.int i))
theorem pure__law_cell : ∀ ds R, ds.length = 2 → P__law_cell ds R → q__law_cell (endsOf R) (startEv 2 ds) := by
  rintro ds R - ⟨ns, k, rfl, hl, h⟩
  ac_rfl
  refine ⟨fun hz => ?_, fun hz => ?_⟩
  · have hk : k < ns.length := by
      have := of_decide_eq_true hz
      simp at this
      omega
    ac_rfl
    rw [ixD_map _ (List.getElem?_eq_getElem hk)]
    ac_rfl
    exact h _
  · ac_rfl
    exact h _
-- _law_numbers(cell, count, limit) slots: 0=cell 1=count 2=limit 3=found 4=k 5=mixed
def q__law_numbers : QS :=
  (qSeq (qAsg (qLst qNil) (qgN 3))
  (qSeq (qIfS (qB (qOp opGe (qVar 0) (qOp opPow (qC (.int 10)) (qC (.int 18)))))
   (qSeq (qFor (qiR1 (qCons (qVar 1) qNil)) (qgN 4)
    (qSeq (qDrop (qApp 3 (qOp opMod (qUn opInt (qVar 0)) (qVar 2))))
    (qAsg (qOp opFdiv (qUn opInt (qVar 0)) (qVar 2)) (qgN 0))))
   (qRet (qVar 3)))
   qNext)
  (qSeq (qFor (qiR1 (qCons (qVar 1) qNil)) (qgN 4)
   (qSeq (qAsg (qOp opMod (qUn opInt (qOp opAdd (qOp opAdd (qOp opMul (qVar 0) (qC (.int 48271))) (qOp opMul (qVar 4) (qC (.int 69621)))) (qC (.int 7)))) (qC (.int 2147483647))) (qgN 5))
   (qSeq (qAsg (qOp opMod (qUn opInt (qOp opAdd (qOp opAdd (qOp opAdd (qOp opMul (qVar 5) (qVar 5)) (qOp opMul (qVar 5) (qC (.int 40692)))) (qOp opMul (qVar 4) (qC (.int 16807)))) (qC (.int 11)))) (qC (.int 2147483399))) (qgN 5))
   (qDrop (qApp 3 (qOp opMod (qUn opInt (qOp opFdiv (qVar 5) (qC (.int 32)))) (qVar 2)))))))
  (qRet (qVar 3)))))
def P__law_numbers : PD := fun ds R => ∃ (c : Int) (n : Nat) (l : Int), ds = [.int c, .int n, .int l] ∧ n ≤ 1000 ∧ 0 < l ∧ l < 1073741824 ∧ ∀ ns : List Int, ns.length = n → (∀ x ∈ ns, 0 ≤ x ∧ x < l) → R (.ow (.l (ns.map .int)))
theorem map_snoc (ns : List Int) (x : Int) : ns.map PyData.int ++ [.int x] = (ns ++ [x]).map .int := by simp
theorem app_in {ns : List Int} {l x : Int} (h : ∀ x ∈ ns, 0 ≤ x ∧ x < l) (h0 : 0 ≤ x) (h1 : x < l) : ∀ y ∈ ns ++ [x], 0 ≤ y ∧ y < l := by
  intro y hy
  rcases List.mem_append.mp hy with hy | hy
  · exact h y hy
  · simp at hy
    subst hy
    exact ⟨h0, h1⟩
theorem pure__law_numbers : ∀ ds R, ds.length = 3 → P__law_numbers ds R → q__law_numbers (endsOf R) (startEv 6 ds) := by
  rintro ds R - ⟨c, n, l, rfl, hn, h0, h1, h⟩
  ac_rfl
  refine ⟨⟨by decide, by decide, by decide⟩, ?_⟩
  ac_rfl
  refine ⟨fun hz => ?_, fun hz => ?_⟩
  · clear hz
    ac_rfl
    refine forGo_ok (fun i : Nat => .int (i : Int)) (fun r Γ => ∃ (c : Int) (ns : List Int) (a b : Sl), Γ = [.sh (.int c), .sh (.int n), .sh (.int l), .ow (.l (ns.map .int)), a, b] ∧ ns.length + r.length = n ∧ ∀ x ∈ ns, 0 ≤ x ∧ x < l) ?_ ?_ _ _ ⟨c, [], _, _, rfl, by simp, by simp⟩
    · rintro Γ ⟨c, ns, a, b, rfl, hl, hr⟩
      ac_rfl
      exact h ns (by simpa using hl) hr
    · rintro i r Γ K ⟨c, ns, a, b, rfl, hl, hr⟩ hK
      simp only [List.length_cons] at hl
      ac_rfl
      exact hK _ ⟨_, ns ++ [c % l], _, _, congrArg (fun z => [_, _, _, Sl.ow (.l z), _, _]) (map_snoc ns _), by simp; omega, app_in hr (Int.emod_nonneg _ (by omega)) (Int.emod_lt_of_pos _ h0)⟩
  · clear hz
    ac_rfl
    refine forGo_ok (fun i : Nat => .int (i : Int)) (fun r Γ => ∃ (ns : List Int) (a b : Sl), Γ = [.sh (.int c), .sh (.int n), .sh (.int l), .ow (.l (ns.map .int)), a, b] ∧ ns.length + r.length = n ∧ ∀ x ∈ ns, 0 ≤ x ∧ x < l) ?_ ?_ _ _ ⟨[], _, _, rfl, by simp, by simp⟩
    · rintro Γ ⟨ns, a, b, rfl, hl, hr⟩
      ac_rfl
      exact h ns (by simpa using hl) hr
    · rintro i r Γ K ⟨ns, a, b, rfl, hl, hr⟩ hK
      simp only [List.length_cons] at hl
      ac_rfl
      exact hK _ ⟨ns ++ [_ % l], _, _, congrArg (fun z => [_, _, _, Sl.ow (.l z), _, _]) (map_snoc ns _), by simp; omega, app_in hr (Int.emod_nonneg _ (by omega)) (Int.emod_lt_of_pos _ h0)⟩

/-- nested data without dicts, n levels deep at most -/
def sameOk : Nat → D → Bool
  | 0, _ => false
  | n + 1, d => match d with
    | .list xs => decide (xs.length ≤ 1000000) && xs.all (sameOk n)
    | .tuple xs => decide (xs.length ≤ 1000000) && xs.all (sameOk n)
    | .dict _ => false
    | _ => true
/-- the same of itself -/
def PR__law_same : Nat → PD
  | 0 => fun _ _ => False
  | n + 1 => fun ds R => ∃ d, ds = [d, d] ∧ sameOk (n + 1) d = true ∧ R (.sh (.bool true))
def P__law_same : PD := PR__law_same 2
-- _law_same(told, due) slots: 0=told 1=due 2=k
def q__law_same (PR : PD) : QS :=
  (qSeq (qIfS (qB (qUn (opIsi "list") (qVar 1)))
   (qIfS (qOr (qNot (qB (qUn (opIsi "list") (qVar 0)))) (qB (qOp opNe (qUn opLen (qVar 0)) (qUn opLen (qVar 1)))))
    (qRet (qC (.bool false)))
    qNext)
   (qIfS (qB (qUn (opIsi "tuple") (qVar 1)))
    (qIfS (qOr (qNot (qB (qUn (opIsi "tuple") (qVar 0)))) (qB (qOp opNe (qUn opLen (qVar 0)) (qUn opLen (qVar 1)))))
     (qRet (qC (.bool false)))
     qNext)
    (qIfS (qB (qOp opIs (qVar 1) (qC .none)))
     (qRet (qOp opIs (qVar 0) (qC .none)))
     (qIfS (qB (qUn (opIsi "bool") (qVar 1)))
      (qRet (qAndV (qUn (opIsi "bool") (qVar 0)) (qOp opEq (qVar 0) (qVar 1))))
      (qIfS (qB (qUn (opIsi "int") (qVar 1)))
       (qRet (qAndV (qUn (opIsi "int") (qVar 0)) (qAndV (qNotV (qUn (opIsi "bool") (qVar 0))) (qOp opEq (qVar 0) (qVar 1)))))
       (qRet (qAndV (qUn (opIsi "str") (qVar 0)) (qOp opEq (qVar 0) (qVar 1)))))))))
  (qSeq (qFor (qiR1 (qCons (qUn opLen (qVar 1)) qNil)) (qgN 2)
   (qIfS (qNot (qB (qCall 2 PR (qCons (qOp opIx (qVar 0) (qVar 2)) (qCons (qOp opIx (qVar 1) (qVar 2)) qNil)))))
    (qRet (qC (.bool false)))
    qNext))
  (qRet (qC (.bool true)))))
theorem eqv_bool (a b : Bool) : PyData.eqv (.bool a) (.bool b) = decide (a = b) := by
  cases a <;> cases b <;> rfl
theorem pure__law_same (m : Nat) : ∀ ds R, ds.length = 2 → PR__law_same (m + 1) ds R → q__law_same (PR__law_same m) (endsOf R) (startEv 3 ds) := by
  rintro ds R - ⟨d, rfl, hd, h⟩
  cases d with
  | none =>
    ac_rfl
    exact h
  | bool b =>
    ac_rfl
    rw [eqv_bool]
    have e : decide (b = b) = true := by simp
    rw [e]
    exact h
  | int i =>
    ac_rfl
    rw [eqv_int]
    have e : decide (i = i) = true := by simp
    rw [e]
    exact h
  | str x =>
    ac_rfl
    rw [eqv_str]
    have e : decide (x = x) = true := by simp
    rw [e]
    exact h
  | dict _ => cases hd
  | list v =>
    simp only [sameOk, Bool.and_eq_true, decide_eq_true_eq, List.all_eq_true] at hd
    ac_rfl
    rw [eqv_int]
    refine Cif.ff (by simp) ?_
    ac_rfl
    refine forGo_ok (fun i : Nat => .int (i : Int)) (fun r Γ => ∃ a, Γ = [.sh (.list v), .sh (.list v), a] ∧ ∀ i ∈ r, i < v.length) ?_ ?_ _ _ ⟨_, rfl, by simp⟩
    · rintro Γ ⟨a, rfl, hr⟩
      ac_rfl
      exact h
    · rintro i r Γ K ⟨a, rfl, hr⟩ hK
      have hi := hr i (by simp)
      have e : v[i]? = some v[i] := List.getElem?_eq_getElem hi
      ac_rfl
      rw [ixD_nat e]
      ac_rfl
      rw [ixD_nat e]
      ac_rfl
      have hdi := hd.2 _ (List.getElem_mem hi)
      cases m with
      | zero => cases hdi
      | succ m =>
      refine ⟨_, rfl, hdi, ?_⟩
      ac_rfl
      exact hK _ ⟨_, rfl, fun j hj => hr j (List.mem_cons_of_mem _ hj)⟩
  | tuple v =>
    simp only [sameOk, Bool.and_eq_true, decide_eq_true_eq, List.all_eq_true] at hd
    ac_rfl
    rw [eqv_int]
    refine Cif.ff (by simp) ?_
    ac_rfl
    refine forGo_ok (fun i : Nat => .int (i : Int)) (fun r Γ => ∃ a, Γ = [.sh (.tuple v), .sh (.tuple v), a] ∧ ∀ i ∈ r, i < v.length) ?_ ?_ _ _ ⟨_, rfl, by simp⟩
    · rintro Γ ⟨a, rfl, hr⟩
      ac_rfl
      exact h
    · rintro i r Γ K ⟨a, rfl, hr⟩ hK
      have hi := hr i (by simp)
      have e : v[i]? = some v[i] := List.getElem?_eq_getElem hi
      ac_rfl
      rw [ixD_nat e]
      ac_rfl
      rw [ixD_nat e]
      ac_rfl
      have hdi := hd.2 _ (List.getElem_mem hi)
      cases m with
      | zero => cases hdi
      | succ m =>
      refine ⟨_, rfl, hdi, ?_⟩
      ac_rfl
      exact hK _ ⟨_, rfl, fun j hj => hr j (List.mem_cons_of_mem _ hj)⟩
/-! ### signs -/
-- _law_signs(draw, count) slots: 0=draw* 1=count 2=known* 3=step* 4=k
def q__law_signs : QS :=
  (qSeq (qAsg (qC (.str " !\"#$&'()*+,-./0123456789:;<=>?@ABCDEFGHIJKLMNOPQRSTUVWXYZ[\\]^_`abcdefghijklmnopqrstuvwxyz{|}~")) (qgN 2))
  (qSeq (qAsg (qOp opIx (qLst (qCons (qC (.int 1)) (qCons (qC (.int 3)) (qCons (qC (.int 5)) (qCons (qC (.int 7)) (qCons (qC (.int 9)) (qCons (qC (.int 11)) (qCons (qC (.int 13)) qNil)))))))) (qOp opMod (qUn opInt (qOp opFdiv (qVar 0) (qC (.int 94)))) (qC (.int 7)))) (qgN 3))
  (qRet (qM1 opJoin (qC (.str "")) (qLc [4] (qiR1 (qCons (qVar 1) qNil)) (qgN 4) qYes (qOp opIx (qVar 2) (qOp opMod (qUn opInt (qOp opAdd (qVar 0) (qOp opMul (qVar 4) (qVar 3)))) (qC (.int 94)))))))))
def P__law_signs : PD := fun ds R => ∃ (w : Int) (n : Nat), ds = [.int w, .int n] ∧ 0 ≤ w ∧ w < 5040 ∧ n ≤ 94 ∧ ∀ s : Str, s.length = n → (tl s).Nodup → R (.sh (.str s))
theorem strsOf_map' {α : Type} (g : α → Str) : ∀ xs : List α, strsOf (xs.map fun x => .str (g x)) = some (xs.map g)
  | [] => rfl
  | x :: r => by simp [strsOf, strsOf_map' g r]
theorem join_signs : ∀ cs : List Nat, tl (Str.join Str.empty (cs.map fun c => ⟨#[c]⟩)) = cs
  | [] => rfl
  | [c] => rfl
  | c :: d :: r => by
    have ih := join_signs (d :: r)
    show tl ((⟨#[c]⟩ : Str) ++ Str.empty ++ Str.join Str.empty ((d :: r).map fun c => ⟨#[c]⟩)) = _
    rw [tl_app, tl_app, ih]
    rfl
theorem nodup_inj {l : List Nat} (h : l.Nodup) {i j : Nat} {hi : i < l.length} {hj : j < l.length} (e : l[i] = l[j]) : i = j := by
  have p := List.pairwise_iff_getElem.mp h
  rcases Nat.lt_trichotomy i j with q | q | q
  · exact absurd e (p i j hi hj q)
  · exact q
  · exact absurd e.symm (p j i hj hi q)
abbrev knownS : Str := Str.ofString " !\"#$&'()*+,-./0123456789:;<=>?@ABCDEFGHIJKLMNOPQRSTUVWXYZ[\\]^_`abcdefghijklmnopqrstuvwxyz{|}~"
theorem known_len : (tl knownS).length = 94 := by decide +kernel
theorem known_nd : (tl knownS).Nodup := by decide +kernel
theorem pure__law_signs : ∀ ds R, ds.length = 2 → P__law_signs ds R → q__law_signs (endsOf R) (startEv 5 ds) := by
  rintro ds R - ⟨w, n, rfl, h0, h1, hn, h⟩
  obtain ⟨st, e, hst⟩ : ∃ st : Int, ixD [PyData.int 1, PyData.int 3, PyData.int 5, PyData.int 7, PyData.int 9, PyData.int 11, PyData.int 13] (w / 94 % 7) = some (.int st) ∧ (st = 1 ∨ st = 3 ∨ st = 5 ∨ st = 7 ∨ st = 9 ∨ st = 11 ∨ st = 13) := by
    have : w / 94 % 7 = 0 ∨ w / 94 % 7 = 1 ∨ w / 94 % 7 = 2 ∨ w / 94 % 7 = 3 ∨ w / 94 % 7 = 4 ∨ w / 94 % 7 = 5 ∨ w / 94 % 7 = 6 := by omega
    rcases this with e | e | e | e | e | e | e <;> rw [e]
    · exact ⟨1, rfl, by simp⟩
    · exact ⟨3, rfl, by simp⟩
    · exact ⟨5, rfl, by simp⟩
    · exact ⟨7, rfl, by simp⟩
    · exact ⟨9, rfl, by simp⟩
    · exact ⟨11, rfl, by simp⟩
    · exact ⟨13, rfl, by simp⟩
  have b1 : 1 ≤ st ∧ st ≤ 13 := by omega
  have kl : knownS.length ≤ 1000 := by rw [← tl_len, known_len]; decide
  let g : Nat → Nat := fun k => ((w + (k : Int) * st) % 94).toNat
  have hg : ∀ k, g k < 94 ∧ ((g k : Nat) : Int) = (w + (k : Int) * st) % 94 := fun k => by
    have := Int.emod_nonneg (w + (k : Int) * st) (show (94 : Int) ≠ 0 by decide)
    have := Int.emod_lt_of_pos (w + (k : Int) * st) (show (0 : Int) < 94 by decide)
    show ((w + (k : Int) * st) % 94).toNat < 94 ∧ ((((w + (k : Int) * st) % 94).toNat : Nat) : Int) = _
    omega
  let cs : Nat → Nat := fun k => (tl knownS)[g k]'(by rw [known_len]; exact (hg k).1)
  ac_rfl
  rw [e]
  ac_rfl
  refine lc0_map (vs := [4]) (fun i : Nat => .int (i : Int)) (fun k => .str ⟨#[cs k]⟩) _ (fun k hk acc K ha hK => ?_) ?_ ?_
  · ac_rfl
    refine ⟨small (Nat.le_trans kl (by decide)), ?_⟩
    rw [← (hg k).2, show ixD (tl knownS) ((g k : Nat) : Int) = some (cs k) from ixD_nat (List.getElem?_eq_getElem _)]
    ac_rfl
    exact hK
  · simp
    exact small (by omega)
  · ac_rfl
    rw [strsOf_map']
    have e2 : tl (Str.join Str.empty ((List.range (n : Int).toNat).map fun k => ⟨#[cs k]⟩)) = (List.range n).map cs := by
      have := join_signs ((List.range n).map cs)
      rw [List.map_map] at this
      exact this
    ac_rfl
    refine ⟨small ?_, ?_⟩
    · have e3 : (((List.range (n : Int).toNat).map fun k => (⟨#[cs k]⟩ : Str)).map (·.length)).sum = n := by
        rw [List.map_map]
        show ((List.range n).map fun _ => 1).sum = n
        simp only [List.map_const', List.sum_replicate_nat, List.length_range, Nat.mul_one]
      show _ + _ * 0 ≤ _
      rw [e3]
      omega
    · ac_rfl
      refine h _ ?_ ?_
      · rw [← tl_len]
        show (tl (Str.join Str.empty ((List.range (n : Int).toNat).map fun k => ⟨#[cs k]⟩))).length = n
        rw [e2]
        simp
      · show (tl (Str.join Str.empty ((List.range (n : Int).toNat).map fun k => ⟨#[cs k]⟩))).Nodup
        rw [e2]
        refine List.pairwise_map.mpr (List.Pairwise.imp_of_mem ?_ List.nodup_range)
        intro a b ha hb hne hab
        refine hne ?_
        simp only [List.mem_range] at ha hb
        have i1 : g a = g b := nodup_inj known_nd hab
        have ea := (hg a).2
        have eb := (hg b).2
        rw [i1, eb] at ea
        rcases hst with rfl | rfl | rfl | rfl | rfl | rfl | rfl <;> omega
end PL

namespace PL
open PySem PySem.Spec PyProof.Rows L2
local macro_rules | `(tactic| ac_rfl) => `(tactic| ((conv => whnf); repeat ((first | refine Cif.yes ?_ | refine Cif.no ?_ | (refine And.intro ?_ ?_; · first | (show _ ≤ (_ : Int); omega) | (show _ < (_ : Int); omega) | assumption | exact trivial | exact rfl | (refine small ?_; first | omega | (simp only [List.length_map, List.length_cons, List.length_nil, List.length_append]; omega)) | (refine ltsmall ?_; first | omega | (simp only [List.length_map, List.length_cons, List.length_nil, List.length_append]; omega)) | (refine cdiv ?_ ?_ <;> omega) | (refine cmulR ?_ ?_ <;> omega) | (refine cmulL ?_ ?_ <;> omega) | (refine ⟨?_, ?_, ?_, ?_⟩ <;> omega))); (conv => whnf))))
local macro_rules | `(tactic| exists $e) => `(tactic| first | exact $e | exact And.right $e | exact And.right (And.right $e) | exact And.right (And.right (And.right $e)))
/-! ### frames drawn -/
def q__law_frame_7 : QS :=
  (qRet (qTup (qCons (qVar 8) (qCons (qVar 9) qNil))))
def q__law_frame_5 : QS :=
  (qSeq (qAsg (qOp opMod (qOp opIx (qVar 3) (qC (.int 5))) (qC (.int 6))) (qgN 10))
  (qSeq (qIfS (qB (qOp opEq (qVar 10) (qC (.int 0))))
   (qSetIx 9 (qC (.int 0)) (qOp opMul (qLst (qCons (qC (.int 1)) qNil)) (qVar 6)))
   (qIfS (qB (qOp opEq (qVar 10) (qC (.int 1))))
    (qSeq (qSetIx 9 (qC (.int 0)) (qLc [12] (qiR1 (qCons (qVar 6) qNil)) (qgN 12) qYes (qOp opMod (qOp opAdd (qC (.int 1)) (qVar 12)) (qVar 5))))
    (qIfS (qB (qOp opGt (qVar 7) (qC (.int 1))))
     (qSetIx 9 (qC (.int 1)) (qOp opMul (qLst (qCons (qC (.int 1)) qNil)) (qVar 6)))
     qNext))
    (qIfS (qB (qOp opEq (qVar 10) (qC (.int 2))))
     (qAsg (qLc [12, 13] (qiE (qCons (qVar 9) qNil)) (qgTup 2 (qgCons (qgN 12) (qgCons (qgN 13) qgNil))) qYes (qLc [14] (qiL (qVar 13)) (qgN 14) qYes (qOp opIx (qLst (qCons (qVar 14) (qCons (qVar 14) (qCons (qC (.int 1)) qNil)))) (qOp opMod (qOp opIx (qVar 4) (qVar 12)) (qC (.int 3)))))) (qgN 9))
     qNext)))
  q__law_frame_7))
def q__law_frame_4 : QS :=
  (qSeq (qAsg (qLc [11] (qiR1 (qCons (qVar 7) qNil)) (qgN 11) qYes (qLc [12] (qiR1 (qCons (qVar 6) qNil)) (qgN 12) qYes (qOp opMod (qOp opIx (qVar 4) (qOp opAdd (qOp opMul (qVar 6) (qVar 11)) (qVar 12))) (qVar 5)))) (qgN 9))
  q__law_frame_5)
def q__law_frame_3 : QS :=
  (qSeq (qAsg (qCall 2 P__law_signs (qCons (qOp opIx (qVar 3) (qC (.int 4))) (qCons (qVar 5) qNil))) (qgN 8))
  q__law_frame_4)
-- _law_frame(script, at, small) slots: 0=script 1=at 2=small 3=draws 4=rows* 5=m* 6=n* 7=count 8=signs 9=checks 10=kind 11=k 12=j 13=row 14=weight
def q__law_frame : QS :=
  (qSeq (qAsg (qCall 3 P__law_numbers (qCons (qCall 2 P__law_cell (qCons (qVar 0) (qCons (qVar 1) qNil))) (qCons (qC (.int 12)) (qCons (qC (.int 5040)) qNil)))) (qgN 3))
  (qFrz 3 (qSeq (qAsg (qCall 3 P__law_numbers (qCons (qCall 2 P__law_cell (qCons (qVar 0) (qCons (qOp opAdd (qVar 1) (qC (.int 1))) qNil))) (qCons (qC (.int 130)) (qCons (qC (.int 5040)) qNil)))) (qgN 4))
  (qFrz 4 (qSeq (qIfS (qB (qVar 2))
   (qSeq (qAsg (qOp opIx (qLst (qCons (qC (.int 2)) (qCons (qC (.int 3)) (qCons (qC (.int 4)) (qCons (qC (.int 5)) (qCons (qC (.int 2)) (qCons (qC (.int 6)) qNil))))))) (qOp opMod (qOp opIx (qVar 3) (qC (.int 0))) (qC (.int 6)))) (qgN 5))
   (qSeq (qAsg (qOp opAdd (qC (.int 1)) (qOp opMod (qOp opIx (qVar 3) (qC (.int 1))) (qOp opIx (qLst (qCons (qC (.int 6)) (qCons (qC (.int 4)) (qCons (qC (.int 3)) (qCons (qC (.int 2)) (qCons (qC (.int 7)) (qCons (qC (.int 2)) qNil))))))) (qOp opMod (qOp opIx (qVar 3) (qC (.int 0))) (qC (.int 6)))))) (qgN 6))
   (qAsg (qOp opAdd (qC (.int 1)) (qOp opMod (qOp opIx (qVar 3) (qC (.int 2))) (qC (.int 2)))) (qgN 7))))
   (qSeq (qAsg (qOp opIx (qLst (qCons (qC (.int 2)) (qCons (qC (.int 3)) (qCons (qC (.int 5)) (qCons (qC (.int 7)) (qCons (qC (.int 6)) (qCons (qC (.int 10)) (qCons (qC (.int 11)) (qCons (qC (.int 12)) (qCons (qC (.int 37)) (qCons (qC (.int 40)) (qCons (qC (.int 26)) (qCons (qC (.int 4)) qNil))))))))))))) (qOp opMod (qOp opIx (qVar 3) (qC (.int 0))) (qC (.int 12)))) (qgN 5))
   (qSeq (qAsg (qOp opAdd (qC (.int 1)) (qOp opMod (qOp opIx (qVar 3) (qC (.int 2))) (qOp opIx (qLst (qCons (qC (.int 3)) (qCons (qC (.int 3)) (qCons (qC (.int 3)) (qCons (qC (.int 3)) (qCons (qC (.int 3)) (qCons (qC (.int 3)) (qCons (qC (.int 3)) (qCons (qC (.int 3)) (qCons (qC (.int 2)) (qCons (qC (.int 2)) (qCons (qC (.int 2)) (qCons (qC (.int 3)) qNil))))))))))))) (qOp opMod (qOp opIx (qVar 3) (qC (.int 0))) (qC (.int 12)))))) (qgN 7))
   (qSeq (qAsg (qOp opAdd (qC (.int 1)) (qOp opMod (qOp opIx (qVar 3) (qC (.int 1))) (qOp opIx (qLst (qCons (qC (.int 8)) (qCons (qC (.int 8)) (qCons (qC (.int 40)) (qCons (qC (.int 12)) qNil))))) (qOp opMod (qOp opIx (qVar 3) (qC (.int 3))) (qC (.int 4)))))) (qgN 6))
   (qIfS (qB (qOp opGt (qOp opMul (qVar 6) (qVar 5)) (qC (.int 160))))
    (qAsg (qOp opAdd (qC (.int 1)) (qOp opFdiv (qC (.int 160)) (qVar 5))) (qgN 6))
    qNext)))))
  q__law_frame_3)))))
def GoodC (m n cnt : Nat) (c : List (List Int)) : Prop := c.length = cnt ∧ ∀ r ∈ c, r.length = n ∧ ∀ w ∈ r, 0 ≤ w ∧ w < (m : Int)
structure Dims (m n cnt : Nat) : Prop where
  m2 : 2 ≤ m
  m1 : m ≤ 40
  n1 : 1 ≤ n
  n2 : n ≤ 40
  c1 : 1 ≤ cnt
  c2 : cnt ≤ 3
theorem frOk_of {m n cnt : Nat} {s : Str} {c : List (List Int)} (d : Dims m n cnt) (hs : s.length = m) (hn : (tl s).Nodup) (h : GoodC m n cnt c) : FrOk ⟨s, c⟩ := by
  obtain ⟨h1, h2⟩ := h
  have hnn : Fr.n ⟨s, c⟩ = n := by
    cases c with
    | nil =>
      have := d.c1
      simp at h1
      omega
    | cons r cs => exact (h2 r (by simp)).1
  have hm : Fr.m ⟨s, c⟩ = m := hs
  have := d.m1
  have := d.m2
  have := d.n1
  have := d.n2
  have := d.c1
  have := d.c2
  refine ⟨by omega, by omega, hn, fun r hr => by rw [hnn]; exact (h2 r hr).1, by show 1 ≤ c.length; omega, by show c.length ≤ 3; omega, by omega, by omega, fun r hr w hw => ?_⟩
  have := (h2 r hr).2 w hw
  omega
structure Small (f : Fr) : Prop where
  m6 : f.m ≤ 6
  n7 : f.n ≤ 7
  k2 : f.c.length ≤ 2
  pw : f.m ^ f.n ≤ 128
def P__law_frame : PD := fun ds R => ∃ (ns : List Int) (k : Nat) (b : Bool), ds = [scrD ns, .int k, .bool b] ∧ ns.length ≤ 63 ∧ ∀ f : Fr, FrOk f → (b = true → Small f) → R (.sh f.enc)
def rowOne (n : Nat) : List Int := List.replicate n 1
theorem rowOne_D (n : Nat) : (List.replicate ((n : Int)).toNat [PyData.int 1]).flatten = (rowOne n).map .int := by simp [rowOne]
theorem set_map (c : List (List Int)) (i : Nat) (r : List Int) : (c.map rowD).set i (rowD r) = (c.set i r).map rowD := by rw [List.map_set]
theorem goodC_set {m n cnt : Nat} {c : List (List Int)} (h : GoodC m n cnt c) (i : Nat) {r : List Int} (hl : r.length = n) (hr : ∀ w ∈ r, 0 ≤ w ∧ w < (m : Int)) : GoodC m n cnt (c.set i r) := by
  refine ⟨by rw [List.length_set]; exact h.1, fun q hq => ?_⟩
  rcases List.mem_or_eq_of_mem_set hq with hq | rfl
  · exact h.2 q hq
  · exact ⟨hl, hr⟩
theorem rowOne_ok {m n : Nat} (hm : 2 ≤ m) : ∀ w ∈ rowOne n, 0 ≤ w ∧ w < (m : Int) := by
  intro w hw
  have := List.eq_of_mem_replicate hw
  omega
theorem ixN_lt {n i : Nat} (h : i < n) : ixN n (i : Int) = some i := by
  unfold ixN
  rw [if_pos (by omega), if_pos (by omega)]
  simp
theorem enumD_map {α : Type} (g : α → D) : ∀ (xs : List α) (k : Nat), enumD k (xs.map g) = (xs.zipIdx k).map fun p => .tuple [.int (p.2 : Int), g p.1]
  | [], _ => rfl
  | x :: r, k => by simp [enumD, enumD_map g r]
theorem frame_5 {R : Wv → Prop} {s : Str} {c : List (List Int)} {dr rw_ : List Int} {m n cnt : Nat} {x0 x1 x2 : Sl} (hd : Dims m n cnt) (hdr : dr.length = 12) (hrw : rw_.length = 130) (hc : GoodC m n cnt c)
    (h : ∀ c, GoodC m n cnt c → R (.sh (Fr.enc ⟨s, c⟩))) :
    q__law_frame_5 (endsOf R) [x0, x1, x2, .sh (intsD dr), .sh (intsD rw_), .sh (.int m), .sh (.int n), .sh (.int cnt), .sh (.str s), .ow (.l (c.map rowD)), .un, .un, .un, .un, .un] := by
  have m2 := hd.m2
  have m1 := hd.m1
  have n1 := hd.n1
  have n2 := hd.n2
  have c1 := hd.c1
  have c2 := hd.c2
  have hcl := hc.1
  have hcl0 : (c.map rowD).length = cnt := by rw [List.length_map]; exact hcl
  have i0 : ∀ c : List (List Int), c.length = cnt → ixN (c.map rowD).length 0 = some 0 := fun c hcl => by rw [List.length_map, hcl]; exact ixN_lt (i := 0) (by omega)
  have e5 : dr[5]? = some dr[5] := List.getElem?_eq_getElem (by omega)
  have fin : ∀ c', GoodC m n cnt c' → ∀ ds, ds = c'.map rowD → R (.sh (.tuple [.str s, .list ds])) := fun c' h' ds e => by
    subst e
    exact h c' h'
  have one : [PyData.int 1].length * ((n : Int)).toNat ≤ 2 ^ 20 := by
    show 1 * n ≤ _
    omega
  ac_rfl
  rw [show ixD (List.map PyData.int dr) 5 = some (.int dr[5]) from ixD_map _ e5]
  ac_rfl
  generalize dr[5] % 6 = kd
  rw [eqv_int]
  refine ⟨fun hz => ?_, fun hz => ?_⟩
  · clear hz
    ac_rfl
    rw [i0 c hcl]
    ac_rfl
    exact fin _ (goodC_set hc 0 (r := rowOne n) (by simp [rowOne]) (rowOne_ok m2)) _ (by rw [← set_map, rowD, ← rowOne_D]; rfl)
  · clear hz
    ac_rfl
    rw [eqv_int]
    refine ⟨fun hz => ?_, fun hz => ?_⟩
    · clear hz
      ac_rfl
      refine lc0_map (vs := [12]) (fun i : Nat => .int (i : Int)) (fun i => .int ((1 + (i : Int)) % (m : Int))) _ (fun i hi acc K ha hK => ?_) (by simp; exact small (by omega)) ?_
      · ac_rfl
        exact hK
      · let r1 : List Int := (List.range n).map fun i : Nat => (1 + (i : Int)) % (m : Int)
        have hr1 : GoodC m n cnt (c.set 0 r1) := goodC_set hc 0 (by simp [r1]) (fun w hw => by
          obtain ⟨i, _, rfl⟩ := List.mem_map.mp hw
          exact ⟨Int.emod_nonneg _ (by omega), Int.emod_lt_of_pos _ (by omega)⟩)
        have er1 : (c.map rowD).set 0 (.list ((List.range (n : Int).toNat).map fun i : Nat => .int ((1 + (i : Int)) % (m : Int)))) = (c.set 0 r1).map rowD := by
          rw [← set_map]
          simp [rowD, r1, Function.comp_def]
        ac_rfl
        rw [i0 c hcl]
        ac_rfl
        refine ⟨fun hz => ?_, fun hz => ?_⟩
        · have hc1 : 1 < cnt := by
            have := of_decide_eq_true hz
            omega
          clear hz
          ac_rfl
          have i1 : ∀ x : D, ixN ((c.map rowD).set 0 x).length 1 = some 1 := fun x => by rw [List.length_set, List.length_map, hcl]; exact ixN_lt (i := 1) hc1
          rw [i1]
          ac_rfl
          refine fin _ (goodC_set hr1 1 (r := rowOne n) (by simp [rowOne]) (rowOne_ok m2)) _ ?_
          rw [← set_map, rowD, ← rowOne_D, ← er1]
          rfl
        · clear hz
          ac_rfl
          exact fin _ hr1 _ er1
    · clear hz
      ac_rfl
      rw [eqv_int]
      refine ⟨fun hz => ?_, fun hz => ?_⟩
      · clear hz
        ac_rfl
        rw [enumD_map]
        let nr : List Int × Nat → List Int := fun p => p.1.map fun w => if rw_[p.2]?.getD 0 % 3 = 2 then 1 else w
        refine lc0_map (vs := [12, 13]) (fun p : List Int × Nat => .tuple [.int (p.2 : Int), rowD p.1]) (fun p => rowD (nr p)) _ (fun p hp acc K ha hK => ?_) ?_ ?_
        · obtain ⟨r, j⟩ := p
          have hj : c[j]? = some r := by simpa [List.mem_zipIdx_iff_getElem?] using hp
          obtain ⟨hjl, hjr⟩ := List.getElem?_eq_some_iff.mp hj
          have hrc : r ∈ c := hjr ▸ List.getElem_mem hjl
          have hrl := (hc.2 r hrc).1
          have ej : rw_[j]? = some rw_[j] := List.getElem?_eq_getElem (by omega)
          ac_rfl
          refine lc0_map (vs := [14]) PyData.int (fun w => .int (if rw_[j]?.getD 0 % 3 = 2 then 1 else w)) _ (fun w hw acc2 K2 ha2 hK2 => ?_) ?_ ?_
          · rw [ej] at hK2
            ac_rfl
            rw [ixD_map _ ej]
            ac_rfl
            rw [show ixD [PyData.int w, PyData.int w, PyData.int 1] (rw_[j] % 3) = some (.int (if rw_[j] % 3 = 2 then 1 else w)) by
              generalize rw_[j] = k
              have : k % 3 = 0 ∨ k % 3 = 1 ∨ k % 3 = 2 := by omega
              rcases this with e | e | e <;> rw [e] <;> rfl]
            ac_rfl
            exact hK2
          · refine small ?_
            show r.length ≤ _
            omega
          · ac_rfl
            have e : rowD (nr (r, j)) = .list (r.map fun w => .int (if rw_[j]?.getD 0 % 3 = 2 then 1 else w)) := by simp [rowD, nr]
            rw [e] at hK
            exact hK
        · rw [List.length_zipIdx]
          exact small (by omega)
        · ac_rfl
          refine fin ((c.zipIdx 0).map nr) ⟨by simp [hcl], fun q hq => ?_⟩ _ (by simp [Function.comp_def])
          obtain ⟨⟨r, j⟩, hp, rfl⟩ := List.mem_map.mp hq
          have hj : c[j]? = some r := by simpa [List.mem_zipIdx_iff_getElem?] using hp
          obtain ⟨hjl, hjr⟩ := List.getElem?_eq_some_iff.mp hj
          have hrc : r ∈ c := hjr ▸ List.getElem_mem hjl
          refine ⟨by simp [nr, (hc.2 r hrc).1], fun w hw => ?_⟩
          obtain ⟨v, hv, rfl⟩ := List.mem_map.mp hw
          have := (hc.2 r hrc).2 v hv
          split <;> omega
      · clear hz
        ac_rfl
        exact fin c hc _ rfl
theorem frame_4 {R : Wv → Prop} {s : Str} {dr rw_ : List Int} {m n cnt : Nat} {x0 x1 x2 : Sl} (hd : Dims m n cnt) (hdr : dr.length = 12) (hrw : rw_.length = 130)
    (h : ∀ c, GoodC m n cnt c → R (.sh (Fr.enc ⟨s, c⟩))) :
    q__law_frame_4 (endsOf R) [x0, x1, x2, .sh (intsD dr), .sh (intsD rw_), .sh (.int m), .sh (.int n), .sh (.int cnt), .sh (.str s), .un, .un, .un, .un, .un, .un] := by
  have m2 := hd.m2
  have m1 := hd.m1
  have n1 := hd.n1
  have n2 := hd.n2
  have c1 := hd.c1
  have c2 := hd.c2
  let row : Nat → List Int := fun k => (List.range n).map fun j => rw_[n * k + j]?.getD 0 % (m : Int)
  ac_rfl
  refine lc0_map (vs := [11]) (fun i : Nat => .int (i : Int)) (fun k => rowD (row k)) _ (fun k hk acc K ha hK => ?_) (by simp; exact small (by omega)) ?_
  · have hk : k < cnt := by simpa using hk
    ac_rfl
    refine lc0_map (vs := [12]) (fun i : Nat => .int (i : Int)) (fun j => .int (rw_[n * k + j]?.getD 0 % (m : Int))) _ (fun j hj acc2 K2 ha2 hK2 => ?_) (by simp; exact small (by omega)) ?_
    · have hj : j < n := by simpa using hj
      have b1 : n * k ≤ 40 * 2 := Nat.mul_le_mul n2 (by omega)
      have ej : rw_[n * k + j]? = some rw_[n * k + j] := List.getElem?_eq_getElem (by omega)
      rw [ej] at hK2
      ac_rfl
      have e : (n : Int) * (k : Int) + (j : Int) = ((n * k + j : Nat) : Int) := by simp
      rw [e, ixD_map _ ej]
      ac_rfl
      exact hK2
    · ac_rfl
      have e : rowD (row k) = .list ((List.range (n : Int).toNat).map fun j => .int (rw_[n * k + j]?.getD 0 % (m : Int))) := by simp [rowD, row]
      rw [e] at hK
      exact hK
  · have hc : GoodC m n cnt ((List.range cnt).map row) := by
      refine ⟨by simp, fun q hq => ?_⟩
      obtain ⟨k, hk, rfl⟩ := List.mem_map.mp hq
      refine ⟨by simp [row], fun w hw => ?_⟩
      obtain ⟨j, hj, rfl⟩ := List.mem_map.mp hw
      exact ⟨Int.emod_nonneg _ (by omega), Int.emod_lt_of_pos _ (by omega)⟩
    have := frame_5 (x0 := x0) (x1 := x1) (x2 := x2) hd hdr hrw hc h
    rw [List.map_map] at this
    exact this
theorem frame_3 {R : Wv → Prop} {dr rw_ : List Int} {m n cnt : Nat} {x0 x1 x2 : Sl} (hd : Dims m n cnt) (hdr : dr.length = 12) (hdb : ∀ x ∈ dr, 0 ≤ x ∧ x < 5040) (hrw : rw_.length = 130)
    (h : ∀ f, FrOk f → f.m = m → f.n = n → f.c.length = cnt → R (.sh f.enc)) :
    q__law_frame_3 (endsOf R) [x0, x1, x2, .sh (intsD dr), .sh (intsD rw_), .sh (.int m), .sh (.int n), .sh (.int cnt), .un, .un, .un, .un, .un, .un, .un] := by
  have m1 := hd.m1
  have e4 : dr[4]? = some dr[4] := List.getElem?_eq_getElem (by omega)
  have b4 := hdb dr[4] (List.getElem_mem (by omega))
  ac_rfl
  rw [show ixD (List.map PyData.int dr) 4 = some (.int dr[4]) from ixD_map _ e4]
  ac_rfl
  refine ⟨dr[4], m, rfl, b4.1, b4.2, by omega, fun s hs hn => ?_⟩
  refine frame_4 hd hdr hrw fun c hc => h _ (frOk_of hd hs hn hc) hs ?_ hc.1
  have := hd.c1
  obtain ⟨h1, h2⟩ := hc
  cases c with
  | nil =>
    simp at h1
    omega
  | cons r cs => exact (h2 r (by simp)).1
theorem lit_ix (xs : List Int) (i : Int) (h0 : 0 ≤ i) (h1 : i < xs.length) : ∃ a, a ∈ xs ∧ ixD (xs.map PyData.int) i = some (PyData.int a) := by
  obtain ⟨n, rfl⟩ : ∃ n : Nat, i = n := ⟨i.toNat, by omega⟩
  have h2 : n < xs.length := by omega
  exact ⟨xs[n], List.getElem_mem h2, ixD_map _ (List.getElem?_eq_getElem h2)⟩
theorem pure__law_frame : ∀ ds R, ds.length = 3 → P__law_frame ds R → q__law_frame (endsOf R) (startEv 15 ds) := by
  rintro ds R - ⟨ns, k, b, rfl, hns, h⟩
  ac_rfl
  refine ⟨ns, k, rfl, hns, fun i => ?_⟩
  ac_rfl
  refine ⟨i, 12, 5040, rfl, by decide, by decide, by decide, fun dr hdr hdb => ?_⟩
  ac_rfl
  refine ⟨ns, k + 1, by simp, hns, fun i2 => ?_⟩
  ac_rfl
  refine ⟨i2, 130, 5040, rfl, by decide, by decide, by decide, fun rw_ hrw hrb => ?_⟩
  have key : ∀ {m n cnt : Nat}, Dims m n cnt → (b = true → m ≤ 6 ∧ n ≤ 7 ∧ cnt ≤ 2 ∧ m ^ n ≤ 128) → _ := fun hd hsm => frame_3 (x0 := .sh (scrD ns)) (x1 := .sh (.int k)) (x2 := .sh (.bool b)) hd hdr hdb hrw fun f ok e1 e2 e3 => h f ok fun hb => by
    obtain ⟨g1, g2, g3, g4⟩ := hsm hb
    exact ⟨by omega, by omega, by omega, by rw [e1, e2]; exact g4⟩
  have e0 : dr[0]? = some dr[0] := List.getElem?_eq_getElem (by omega)
  have e1 : dr[1]? = some dr[1] := List.getElem?_eq_getElem (by omega)
  have e2 : dr[2]? = some dr[2] := List.getElem?_eq_getElem (by omega)
  have e3 : dr[3]? = some dr[3] := List.getElem?_eq_getElem (by omega)
  have b0 := hdb dr[0] (List.getElem_mem (by omega))
  have b1 := hdb dr[1] (List.getElem_mem (by omega))
  have b2 := hdb dr[2] (List.getElem_mem (by omega))
  have b3 := hdb dr[3] (List.getElem_mem (by omega))
  generalize dr[0] = d0 at *
  generalize dr[1] = d1 at *
  generalize dr[2] = d2 at *
  generalize dr[3] = d3 at *
  ac_rfl
  refine ⟨fun hb => ?_, fun hb => ?_⟩
  · have b0' : 0 ≤ d0 % 6 ∧ d0 % 6 < 6 := by omega
    obtain ⟨m, q, em, eq, hmq⟩ : ∃ m q : Int, ixD ([2, 3, 4, 5, 2, 6].map PyData.int) (d0 % 6) = some (.int m) ∧ ixD ([6, 4, 3, 2, 7, 2].map PyData.int) (d0 % 6) = some (.int q) ∧ ((m = 2 ∧ q = 6) ∨ (m = 3 ∧ q = 4) ∨ (m = 4 ∧ q = 3) ∨ (m = 5 ∧ q = 2) ∨ (m = 2 ∧ q = 7) ∨ (m = 6 ∧ q = 2)) := by
      generalize d0 % 6 = z at b0'
      have : z = 0 ∨ z = 1 ∨ z = 2 ∨ z = 3 ∨ z = 4 ∨ z = 5 := by omega
      rcases this with rfl | rfl | rfl | rfl | rfl | rfl
      · exact ⟨2, 6, rfl, rfl, by omega⟩
      · exact ⟨3, 4, rfl, rfl, by omega⟩
      · exact ⟨4, 3, rfl, rfl, by omega⟩
      · exact ⟨5, 2, rfl, rfl, by omega⟩
      · exact ⟨2, 7, rfl, rfl, by omega⟩
      · exact ⟨6, 2, rfl, rfl, by omega⟩
    have hm2 : 2 ≤ m ∧ m ≤ 40 := by omega
    have hq2 : 1 ≤ q ∧ q ≤ 7 := by omega
    have n0 := Int.emod_nonneg d1 (show q ≠ 0 by omega)
    have n1 := Int.emod_lt_of_pos d1 (show 0 < q by omega)
    obtain ⟨n, hn⟩ : ∃ n : Nat, 1 + d1 % q = n := ⟨(1 + d1 % q).toNat, by omega⟩
    obtain ⟨cn, hc⟩ : ∃ n : Nat, 1 + d2 % 2 = n := ⟨(1 + d2 % 2).toNat, by omega⟩
    obtain ⟨m, rfl⟩ : ∃ n : Nat, m = n := ⟨m.toNat, by omega⟩
    have fin := key (m := m) (n := n) (cnt := cn) ⟨by omega, by omega, by omega, by omega, by omega, by omega⟩ fun _ => by
      refine ⟨by omega, by omega, by omega, ?_⟩
      have hp : ∀ {a c : Nat}, m = a → n ≤ c → a ^ c ≤ 128 → 1 ≤ a → m ^ n ≤ 128 := fun {a c} h1 h2 h3 h4 => by
        subst h1
        exact Nat.le_trans (Nat.pow_le_pow_right h4 h2) h3
      rcases hmq with ⟨h1, h2⟩ | ⟨h1, h2⟩ | ⟨h1, h2⟩ | ⟨h1, h2⟩ | ⟨h1, h2⟩ | ⟨h1, h2⟩
      · exact hp (a := 2) (c := 6) (by omega) (by omega) (by decide) (by decide)
      · exact hp (a := 3) (c := 4) (by omega) (by omega) (by decide) (by decide)
      · exact hp (a := 4) (c := 3) (by omega) (by omega) (by decide) (by decide)
      · exact hp (a := 5) (c := 2) (by omega) (by omega) (by decide) (by decide)
      · exact hp (a := 2) (c := 7) (by omega) (by omega) (by decide) (by decide)
      · exact hp (a := 6) (c := 2) (by omega) (by omega) (by decide) (by decide)
    rw [← hn, ← hc] at fin
    clear key hmq
    ac_rfl
    rw [show ixD (List.map PyData.int dr) 0 = some (.int d0) from ixD_map _ e0]
    ac_rfl
    rw [show ixD [PyData.int 2, PyData.int 3, PyData.int 4, PyData.int 5, PyData.int 2, PyData.int 6] (d0 % 6) = _ from em]
    ac_rfl
    rw [show ixD (List.map PyData.int dr) 1 = some (.int d1) from ixD_map _ e1]
    ac_rfl
    rw [show ixD (List.map PyData.int dr) 0 = some (.int d0) from ixD_map _ e0]
    ac_rfl
    rw [show ixD [PyData.int 6, PyData.int 4, PyData.int 3, PyData.int 2, PyData.int 7, PyData.int 2] (d0 % 6) = _ from eq]
    ac_rfl
    rw [show ixD (List.map PyData.int dr) 2 = some (.int d2) from ixD_map _ e2]
    ac_rfl
    exact fin
  · obtain ⟨m, hm, em⟩ := lit_ix [2, 3, 5, 7, 6, 10, 11, 12, 37, 40, 26, 4] (d0 % 12) (by omega) (by simp; omega)
    obtain ⟨u, hu, eu⟩ := lit_ix [3, 3, 3, 3, 3, 3, 3, 3, 2, 2, 2, 3] (d0 % 12) (by omega) (by simp; omega)
    obtain ⟨q, hq, eq⟩ := lit_ix [8, 8, 40, 12] (d3 % 4) (by omega) (by simp; omega)
    simp only [List.mem_cons, List.not_mem_nil, or_false] at hm hq hu
    have hm2 : 2 ≤ m ∧ m ≤ 40 := by omega
    have hq2 : 1 ≤ q ∧ q ≤ 40 := by omega
    have hu2 : 1 ≤ u ∧ u ≤ 3 := by omega
    have n0 := Int.emod_nonneg d1 (show q ≠ 0 by omega)
    have n1 := Int.emod_lt_of_pos d1 (show 0 < q by omega)
    have c0 := Int.emod_nonneg d2 (show u ≠ 0 by omega)
    have c1 := Int.emod_lt_of_pos d2 (show 0 < u by omega)
    have hbb := hb
    have hbig : 160 < (1 + d1 % q) * m → 1 ≤ 160 / m ∧ 160 / m ≤ 32 := fun hh => by
      rcases hm with rfl | rfl | rfl | rfl | rfl | rfl | rfl | rfl | rfl | rfl | rfl | rfl <;> omega
    clear hm hq hu
    obtain ⟨n, hn⟩ : ∃ n : Nat, 1 + d1 % q = n := ⟨(1 + d1 % q).toNat, by omega⟩
    obtain ⟨cn, hc⟩ : ∃ n : Nat, 1 + d2 % u = n := ⟨(1 + d2 % u).toNat, by omega⟩
    obtain ⟨m, rfl⟩ : ∃ n : Nat, m = n := ⟨m.toNat, by omega⟩
    have hbf : b = true → m ≤ 6 ∧ n ≤ 7 ∧ cn ≤ 2 ∧ m ^ n ≤ 128 := fun e => by rw [e] at hb; cases hb
    have fin := key (m := m) (n := n) (cnt := cn) ⟨by omega, by omega, by omega, by omega, by omega, by omega⟩ hbf
    rw [← hn, ← hc] at fin
    have fin2 : 160 < (1 + d1 % q) * (m : Int) → _ := fun hh => by
      have hb := hbig hh
      have fin := key (m := m) (n := (1 + 160 / (m : Int)).toNat) (cnt := cn) ⟨by omega, by omega, by omega, by omega, by omega, by omega⟩ fun e => by
        rw [e] at hbb
        cases hbb
      rw [show (((1 + 160 / (m : Int)).toNat : Nat) : Int) = 1 + 160 / (m : Int) by omega, ← hc] at fin
      exact fin
    clear key hbig
    ac_rfl
    rw [show ixD (List.map PyData.int dr) 0 = some (.int d0) from ixD_map _ e0]
    ac_rfl
    rw [show ixD [PyData.int 2, PyData.int 3, PyData.int 5, PyData.int 7, PyData.int 6, PyData.int 10, PyData.int 11, PyData.int 12, PyData.int 37, PyData.int 40, PyData.int 26, PyData.int 4] (d0 % 12) = _ from em]
    ac_rfl
    rw [show ixD (List.map PyData.int dr) 2 = some (.int d2) from ixD_map _ e2]
    ac_rfl
    rw [show ixD (List.map PyData.int dr) 0 = some (.int d0) from ixD_map _ e0]
    ac_rfl
    rw [show ixD [PyData.int 3, PyData.int 3, PyData.int 3, PyData.int 3, PyData.int 3, PyData.int 3, PyData.int 3, PyData.int 3, PyData.int 2, PyData.int 2, PyData.int 2, PyData.int 3] (d0 % 12) = _ from eu]
    ac_rfl
    rw [show ixD (List.map PyData.int dr) 1 = some (.int d1) from ixD_map _ e1]
    ac_rfl
    rw [show ixD (List.map PyData.int dr) 3 = some (.int d3) from ixD_map _ e3]
    ac_rfl
    rw [show ixD [PyData.int 8, PyData.int 8, PyData.int 40, PyData.int 12] (d3 % 4) = _ from eq]
    ac_rfl
    refine ⟨fun hh => ?_, fun hh => ?_⟩
    · have fin := fin2 (of_decide_eq_true hh)
      clear hh fin2
      ac_rfl
      exact fin
    · ac_rfl
      exact fin
end PL

namespace PL
open PySem PySem.Spec PyProof.Rows L2
local macro_rules | `(tactic| ac_rfl) => `(tactic| ((conv => whnf); repeat ((first | refine Cif.yes ?_ | refine Cif.no ?_ | (refine And.intro ?_ ?_; · first | (show _ ≤ (_ : Int); omega) | (show _ < (_ : Int); omega) | assumption | exact trivial | exact rfl | (refine small ?_; first | omega | (simp only [List.length_map, List.length_cons, List.length_nil, List.length_append]; omega)) | (refine ltsmall ?_; first | omega | (simp only [List.length_map, List.length_cons, List.length_nil, List.length_append]; omega)) | (refine cdiv ?_ ?_ <;> omega) | (refine cmulR ?_ ?_ <;> omega) | (refine cmulL ?_ ?_ <;> omega) | (refine ⟨?_, ?_, ?_, ?_⟩ <;> omega))); (conv => whnf))))
local macro_rules | `(tactic| exists $e) => `(tactic| first | exact $e | exact And.right $e | exact And.right (And.right $e) | exact And.right (And.right (And.right $e)))
def P__law_mark : PD := P_mark
theorem FrOk.sl {f : Fr} (ok : FrOk f) : f.s.length ≤ 1000 ∧ 2 ≤ f.s.length := ⟨Nat.le_trans ok.m1 (by decide), ok.m2⟩
def P__law_put : PD := P_with_sign
theorem cutS_0 (x : Str) (h : Option Int) : cutS x (some 0) h = cutS x none h := by
  apply str_ext
  show ((tl x).drop (HT.sIx x.length 0 (some 0))).take (HT.sIx x.length x.length h - HT.sIx x.length 0 (some 0)) = ((tl x).drop (HT.sIx x.length 0 none)).take (HT.sIx x.length x.length h - HT.sIx x.length 0 none)
  rw [HT.sIx_none, show HT.sIx x.length 0 (some 0) = 0 by rw [show (0 : Int) = ((0 : Nat) : Int) from rfl, HT.sIx_nat]; omega]
def P__law_is_line : PD := P_is_line
theorem fil_none (f : Fr) (x : Str) : (((tl x).filter fun c => !decide (c ∈ tl f.s)).length == 0) = (tl x).all fun c => decide (c ∈ tl f.s) := by
  generalize tl x = l
  induction l with
  | nil => rfl
  | cons c r ih =>
    cases hd : decide (c ∈ tl f.s) with
    | true =>
      rw [List.filter_cons_of_neg (by rw [hd]; decide), List.all_cons, hd, Bool.true_and]
      exact ih
    | false =>
      rw [List.filter_cons_of_pos (by rw [hd]; rfl), List.all_cons, hd]
      rfl
-- _law_sums(frame, line) slots: 0=frame 1=line 2=signs 3=checks 4=found 5=weights 6=total 7=k
def q__law_sums : QS :=
  (qSeq (qAsg (qVar 0) (qgTup 2 (qgCons (qgN 2) (qgCons (qgN 3) qgNil))))
  (qSeq (qAsg (qLst qNil) (qgN 4))
  (qSeq (qFor (qiL (qVar 3)) (qgN 5)
   (qSeq (qAsg (qC (.int 0)) (qgN 6))
   (qSeq (qFor (qiR1 (qCons (qUn opLen (qVar 1)) qNil)) (qgN 7)
    (qAsg (qOp opAdd (qVar 6) (qOp opMul (qOp opIx (qVar 5) (qVar 7)) (qM1 opIndex (qVar 2) (qOp opIx (qVar 1) (qVar 7))))) (qgN 6)))
   (qDrop (qApp 4 (qOp opMod (qUn opInt (qVar 6)) (qUn opLen (qVar 2))))))))
  (qRet (qUn opTuple (qVar 4))))))
def P__law_sums : PD := fun ds R => ∃ (f : Fr) (x : Str), ds = [f.enc, .str x] ∧ FrOk f ∧ InL f x ∧ x.length = f.n ∧ R (.sh (tupI (rem f x)))
theorem drop_cons {k n : Nat} {i : Nat} {r : List Nat} (h : (List.range n).drop k = i :: r) : k < n ∧ i = k ∧ r = (List.range n).drop (k + 1) := by
  by_cases hk : k < n
  · rw [List.drop_eq_getElem_cons (by simpa using hk)] at h
    simp only [List.getElem_range, List.cons.injEq] at h
    exact ⟨hk, h.1.symm, h.2.symm⟩
  · rw [List.drop_eq_nil_of_le (by simpa using hk)] at h
    cases h
theorem dot_cons {r : List Int} {w : List Nat} {k : Nat} {a : Int} {b : Nat} (h1 : r[k]? = some a) (h2 : w[k]? = some b) : dotI (r.drop k) (w.drop k) = a * (b : Int) + dotI (r.drop (k + 1)) (w.drop (k + 1)) := by
  obtain ⟨l1, e1⟩ := List.getElem?_eq_some_iff.mp h1
  obtain ⟨l2, e2⟩ := List.getElem?_eq_some_iff.mp h2
  rw [List.drop_eq_getElem_cons l1, List.drop_eq_getElem_cons l2, e1, e2]
  rfl
theorem pure__law_sums : ∀ ds R, ds.length = 2 → P__law_sums ds R → q__law_sums (endsOf R) (startEv 8 ds) := by
  rintro ds R - ⟨f, x, rfl, ok, hx, hl, h⟩
  obtain ⟨s1, s2⟩ := ok.sl
  have n2 := ok.n2
  have c2 := ok.c2
  have rl : (rem f x).length ≤ 3 := by unfold rem; rw [List.length_map]; exact c2
  ac_rfl
  refine forGo_ok rowD (fun r Γ => ∃ (acc : List Int) (a b k : Sl), Γ = [.sh f.enc, .sh (.str x), .sh (.str f.s), .sh (.list (f.c.map rowD)), .ow (.l (acc.map .int)), a, b, k] ∧ (∀ q ∈ r, q ∈ f.c) ∧ acc ++ r.map (fun q => dotI q (worths f x) % (f.m : Int)) = rem f x) ?_ ?_ _ _ ⟨[], _, _, _, rfl, fun q hq => hq, rfl⟩
  · rintro Γ ⟨acc, a, b, k, rfl, hr, e⟩
    simp only [List.map_nil, List.append_nil] at e
    subst e
    ac_rfl
    exact h
  · rintro q r Γ K ⟨acc, a, b, k, rfl, hr, e⟩ hK
    have hq := hr q (by simp)
    have hql := ok.rows q hq
    have hal : acc.length ≤ 3 := by
      have := congrArg List.length e
      rw [List.length_append] at this
      omega
    have wl : (worths f x).length = f.n := by unfold worths; rw [List.length_map, tl_len, hl]
    ac_rfl
    refine forGo_ok (fun i : Nat => .int (i : Int)) (fun r2 Γ => ∃ (k : Nat) (t : Int) (z : Sl), Γ = [.sh f.enc, .sh (.str x), .sh (.str f.s), .sh (.list (f.c.map rowD)), .ow (.l (acc.map .int)), .sh (rowD q), .sh (.int t), z] ∧ r2 = (List.range x.length).drop k ∧ t + dotI (q.drop k) ((worths f x).drop k) = dotI q (worths f x)) ?_ ?_ _ _ ⟨0, 0, _, rfl, rfl, by simp⟩
    · rintro Γ ⟨k, t, z, rfl, h2, ht⟩
      have hk : x.length ≤ k := by
        have := congrArg List.length h2
        simp at this
        omega
      rw [List.drop_eq_nil_of_le (by omega)] at ht
      have ht : t = dotI q (worths f x) := by simpa [dotI] using ht
      subst ht
      ac_rfl
      refine hK _ ⟨acc ++ [dotI q (worths f x) % (f.m : Int)], _, _, _, congrArg (fun z => [_, _, _, _, Sl.ow (.l z), _, _, _]) (map_snoc acc _), fun q' hq' => hr q' (List.mem_cons_of_mem _ hq'), ?_⟩
      rw [← e]
      simp
    · rintro i r2 Γ K2 ⟨k, t, z, rfl, h2, ht⟩ hK2
      obtain ⟨hk, rfl, rfl⟩ := drop_cons h2.symm
      have e1 : q[i]? = some q[i] := List.getElem?_eq_getElem (by omega)
      obtain ⟨cc, e2⟩ : ∃ cc, (tl x)[i]? = some cc := ⟨_, List.getElem?_eq_getElem (by rw [tl_len]; omega)⟩
      have e3 : (worths f x)[i]? = some (idx f cc) := by
        unfold worths
        rw [List.getElem?_map, e2]
        rfl
      have hm : cc ∈ tl f.s := hx _ (List.mem_of_getElem? e2)
      have bd := ok.ws q hq q[i] (List.getElem_mem _)
      rw [dot_cons e1 e3] at ht
      ac_rfl
      rw [ixD_map _ e1]
      ac_rfl
      rw [ixD_nat e2]
      ac_rfl
      rw [show List.idxOf? cc f.s.cps.toList = some (idx f cc) from idxOf?_mem hm]
      ac_rfl
      exact hK2 _ ⟨i + 1, _, _, rfl, rfl, by omega⟩
theorem max_zero : ∀ (ns : List Int) (n : Int), 0 ≤ n → (∀ x ∈ ns, 0 ≤ x) → decide (ns.foldl max n = 0) = (n :: ns == List.replicate (ns.length + 1) 0)
  | [], n, h, _ => by
    by_cases e : n = 0
    · subst e; rfl
    · simp [e]
  | m :: r, n, h, hr => by
    have hm := hr m (by simp)
    have ih := max_zero r (max n m) (by omega) fun x hx => hr x (List.mem_cons_of_mem _ hx)
    show decide (r.foldl max (max n m) = 0) = _
    rw [ih]
    by_cases e1 : n = 0
    · by_cases e2 : m = 0
      · subst e1 e2
        simp [List.replicate_succ]
      · have b1 : (m == 0) = false := by simpa using e2
        have b2 : (max n m == 0) = false := beq_eq_false_iff_ne.mpr (by omega)
        simp [List.replicate_succ, b1, b2]
    · have b1 : (n == 0) = false := by simpa using e1
      have b2 : (max n m == 0) = false := beq_eq_false_iff_ne.mpr (by omega)
      simp [List.replicate_succ, b1, b2]
theorem max_ok {xs : List Int} (hl : 1 ≤ xs.length) (h3 : xs.length ≤ 1000) (hp : ∀ x ∈ xs, 0 ≤ x) : ∃ n ns, intsOf (xs.map .int) = some (n :: ns) ∧ (n :: ns).length ≤ 1000 ∧ decide (ns.foldl max n = 0) = (xs == List.replicate xs.length 0) := by
  cases xs with
  | nil => simp at hl
  | cons n ns => exact ⟨n, ns, by rw [intsOf_map' (fun i => i)]; simp, h3, max_zero ns n (hp n (by simp)) fun x hx => hp x (List.mem_cons_of_mem _ hx)⟩
theorem rem_ok {f : Fr} (ok : FrOk f) (x : Str) : (rem f x).length = f.c.length ∧ ∀ y ∈ rem f x, 0 ≤ y := by
  refine ⟨by simp [rem], fun y hy => ?_⟩
  obtain ⟨q, _, rfl⟩ := List.mem_map.mp hy
  have := ok.m2
  exact Int.emod_nonneg _ (by omega)
theorem mark_ok {f : Fr} (ok : FrOk f) (p d : Nat) : (mark f p d).length = f.c.length ∧ ∀ y ∈ mark f p d, 0 ≤ y := by
  refine ⟨by simp [mark], fun y hy => ?_⟩
  obtain ⟨q, _, rfl⟩ := List.mem_map.mp hy
  have := ok.m2
  exact Int.emod_nonneg _ (by omega)
-- _law_is_good(frame, line) slots: 0=frame* 1=line 2=sign
def q__law_is_good : QS :=
  (qRet (qAndV (qOp opEq (qUn opLen (qVar 1)) (qUn opLen (qOp opIx (qOp opIx (qVar 0) (qC (.int 1))) (qC (.int 0))))) (qAndV (qOp opEq (qUn opLen (qLc [2] (qiS (qVar 1)) (qgN 2) (qB (qOp (opInW not) (qVar 2) (qOp opIx (qVar 0) (qC (.int 0))))) (qVar 2))) (qC (.int 0))) (qOp opEq (qUn opMax (qCall 2 P__law_sums (qCons (qVar 0) (qCons (qVar 1) qNil)))) (qC (.int 0))))))
def P__law_is_good : PD := P_is_good
theorem pure__law_is_good : ∀ ds R, ds.length = 2 → P__law_is_good ds R → q__law_is_good (endsOf R) (startEv 3 ds) := by
  rintro ds R - ⟨f, x, rfl, ok, hx, h⟩
  obtain ⟨s1, s2⟩ := ok.sl
  obtain ⟨r, cs, hc, hr⟩ := ok.row0
  have ro := rem_ok ok x
  have c1 := ok.c1
  have c2 := ok.c2
  obtain ⟨s, c⟩ := f
  simp only at hc
  subst hc
  ac_rfl
  rw [List.length_map, hr, eqv_nat]
  refine ⟨fun hz => ?_, fun hz => ?_⟩
  · ac_rfl
    refine lc0_fil (vs := [2]) signD (fun c => !decide (c ∈ tl s)) signD _ (fun c hc acc K ha hK1 hK2 => ?_) (by rw [tl_len]; exact small (by omega)) ?_
    · ac_rfl
      refine ⟨fun hz => ?_, fun hz => ?_⟩
      · ac_rfl
        exact hK1 hz
      · exact hK2 hz
    · ac_rfl
      rw [List.length_map, show PyData.eqv (.int (((tl x).filter fun c => !decide (c ∈ tl s)).length : Nat)) (.int 0) = _ from eqv_nat _ 0]
      rw [fil_none ⟨s, r :: cs⟩ x]
      unfold isGood isLine at h
      rw [hz] at h
      refine ⟨fun hz2 => ?_, fun hz2 => ?_⟩
      · have il : isLine ⟨s, r :: cs⟩ x = true := by
          unfold isLine
          rw [hz, hz2]
          rfl
        have := isLine_in il
        ac_rfl
        refine ⟨⟨s, r :: cs⟩, x, rfl, ok, this.2, this.1, ?_⟩
        ac_rfl
        obtain ⟨mn, mns, m1, m2, m3⟩ := max_ok (xs := rem ⟨s, r :: cs⟩ x) (by rw [ro.1]; exact c1) (by rw [ro.1]; omega) ro.2
        rw [m1]
        ac_rfl
        rw [eqv_int, m3, ro.1]
        rw [hz2] at h
        exact h
      · rw [hz2] at h
        ac_rfl
        exact h
  · ac_rfl
    unfold isGood isLine at h
    rw [hz] at h
    exact h
end PL

namespace PL
open PySem PySem.Spec PyProof.Rows L2
local macro_rules | `(tactic| ac_rfl) => `(tactic| ((conv => whnf); repeat ((first | refine Cif.yes ?_ | refine Cif.no ?_ | (refine And.intro ?_ ?_; · first | (show _ ≤ (_ : Int); omega) | (show _ < (_ : Int); omega) | assumption | exact trivial | exact rfl | (refine small ?_; first | omega | (simp only [List.length_map, List.length_cons, List.length_nil, List.length_append]; omega)) | (refine ltsmall ?_; first | omega | (simp only [List.length_map, List.length_cons, List.length_nil, List.length_append]; omega)) | (refine cdiv ?_ ?_ <;> omega) | (refine cmulR ?_ ?_ <;> omega) | (refine cmulL ?_ ?_ <;> omega) | (refine ⟨?_, ?_, ?_, ?_⟩ <;> omega))); (conv => whnf))))
local macro_rules | `(tactic| exists $e) => `(tactic| first | exact $e | exact And.right $e | exact And.right (And.right $e) | exact And.right (And.right (And.right $e)))
def slipOf (f : Fr) (l : List (Nat × Nat)) : List Str := match l.find? (fun s => mark f s.1 s.2 == zerosL f) with
  | some (p, d) => [txt "unnoticed", plain f, putS (plain f) p (sgn f d)]
  | none => [txt "noticed"]
def sl (f : Fr) (r : List Nat) : List (Nat × Nat) := (r.map fun p => (List.range (f.m - 1)).map fun d => (p, d + 1)).flatten
theorem rng1 (k : Nat) : (List.range k).map (fun i : Nat => PyData.int (1 + (i : Int))) = (List.range k).map fun i : Nat => PyData.int ((i + 1 : Nat) : Int) := by
  apply List.map_congr_left
  intro i _
  rw [show ((i + 1 : Nat) : Int) = 1 + (i : Int) by omega]
theorem sl_cons (f : Fr) (p : Nat) (r : List Nat) : sl f (p :: r) = ((List.range (f.m - 1)).map fun d => (p, d + 1)) ++ sl f r := by simp [sl]
theorem mark_zero {f : Fr} (ok : FrOk f) (p d : Nat) : ∃ n ns, intsOf ((mark f p d).map .int) = some (n :: ns) ∧ (n :: ns).length ≤ 1000 ∧ decide (ns.foldl max n = 0) = (mark f p d == zerosL f) := by
  have ro := mark_ok ok p d
  have c1 := ok.c1
  have c2 := ok.c2
  obtain ⟨n, ns, m1, m2, m3⟩ := max_ok (xs := mark f p d) (by rw [ro.1]; exact c1) (by rw [ro.1]; omega) ro.2
  exact ⟨n, ns, m1, m2, by rw [m3, ro.1]; rfl⟩
theorem hd0_eq {f : Fr} (ok : FrOk f) : (tl f.s)[0]? = some (hd0 f) := by
  obtain ⟨s1, s2⟩ := ok.sl
  unfold hd0
  rw [List.getElem?_eq_getElem (by rw [tl_len]; omega)]
  rfl
def P__law_slip_verdict : PD := fun ds R => ∃ f : Fr, ds = [f.enc] ∧ FrOk f ∧ R (.sh (strT (slipOf f (slips f))))
def P__law_right_verdict : PD := fun ds R => ∃ f : Fr, ds = [f.enc] ∧ FrOk f ∧ R (.sh (strT (rightV f)))
end PL

namespace PL
open PySem PySem.Spec PyProof.Rows L2
/-! ### the mathematics of slips -/
theorem dot_set : ∀ (r : List Int) (w : List Nat) (p b : Nat), p < w.length → r.length = w.length → dotI r (w.set p b) = dotI r w + r[p]?.getD 0 * ((b : Int) - (w[p]?.getD 0 : Nat))
  | [], w, p, b, h, e => by
    simp at e
    omega
  | a :: r, [], p, b, h, e => by simp at h
  | a :: r, c :: w, 0, b, h, e => by
    simp only [List.set_cons_zero, dotI, List.getElem?_cons_zero, Option.getD_some]
    rw [Int.mul_sub]
    omega
  | a :: r, c :: w, p + 1, b, h, e => by
    simp only [List.set_cons_succ, dotI, List.getElem?_cons_succ]
    rw [dot_set r w p b (by simpa using h) (by simpa using e)]
    omega
section
variable {f : Fr}
theorem idx_inj {a b : Nat} (ha : a ∈ tl f.s) (h : idx f a = idx f b) (hb : b ∈ tl f.s) : a = b := by
  unfold idx at h
  have e1 := List.getElem_idxOf (List.idxOf_lt_length_iff.mpr ha)
  have e2 := List.getElem_idxOf (List.idxOf_lt_length_iff.mpr hb)
  rw [← e1, ← e2]
  congr 1
theorem idx_lt {a : Nat} (ha : a ∈ tl f.s) : idx f a < f.m := by
  have := List.idxOf_lt_length_iff.mpr ha
  rw [tl_len] at this
  exact this
theorem sgn_get {d : Nat} (hd : d < f.m) : (tl f.s)[d]? = some (sgn f d) := by
  unfold sgn
  rw [List.getElem?_eq_getElem (by rw [tl_len]; exact hd)]
  rfl
theorem sgn_mem {d : Nat} (hd : d < f.m) : sgn f d ∈ tl f.s := List.mem_of_getElem? (sgn_get hd)
theorem idx_sgn (ok : FrOk f) {d : Nat} (hd : d < f.m) : idx f (sgn f d) = d := by
  have h := sgn_get hd
  obtain ⟨hl, e⟩ := List.getElem?_eq_some_iff.mp h
  have hm := sgn_mem hd
  have e1 := List.getElem_idxOf (List.idxOf_lt_length_iff.mpr hm)
  exact nodup_inj ok.nd (e1.trans e.symm)
theorem sgn_0 (ok : FrOk f) : sgn f 0 = hd0 f := rfl
theorem sgn_inj (ok : FrOk f) {d e : Nat} (hd : d < f.m) (he : e < f.m) (h : sgn f d = sgn f e) : d = e := by
  rw [← idx_sgn ok hd, ← idx_sgn ok he, h]
theorem tl_plain (f : Fr) : tl (plain f) = List.replicate f.n (hd0 f) := by
  show (Txt.mul ⟨#[hd0 f]⟩ f.n).cps.toList = _
  rw [mul_one_list]
  rfl
theorem tl_put (x : Str) (p c : Nat) : tl (putS x p c) = (tl x).set p c := rfl
theorem worths_put (x : Str) (p c : Nat) : worths f (putS x p c) = (worths f x).set p (idx f c) := by
  unfold worths
  rw [tl_put, List.map_set]
theorem worths_len (x : Str) : (worths f x).length = x.length := by
  unfold worths
  rw [List.length_map, tl_len]
/-- a line changed at one place -/
theorem dot_put (ok : FrOk f) {x : Str} (hx : x.length = f.n) {p c : Nat} (hp : p < f.n) {r : List Int} (hr : r ∈ f.c) :
    dotI r (worths f (putS x p c)) = dotI r (worths f x) + r[p]?.getD 0 * ((idx f c : Int) - ((worths f x)[p]?.getD 0 : Nat)) := by
  rw [worths_put, dot_set r _ p _ (by rw [worths_len]; omega) (by rw [worths_len, ok.rows r hr, hx])]
theorem dot_zero : ∀ (r : List Int) (n : Nat), dotI r (List.replicate n 0) = 0
  | [], n => by cases n <;> rfl
  | a :: r, 0 => rfl
  | a :: r, n + 1 => by
    show a * ((0 : Nat) : Int) + dotI r (List.replicate n 0) = 0
    rw [dot_zero r n]
    simp
theorem worths_plain (ok : FrOk f) : worths f (plain f) = List.replicate f.n 0 := by
  unfold worths
  rw [tl_plain, List.map_replicate, ← sgn_0 ok, idx_sgn ok (by have := ok.m2; omega)]
theorem rem_zero_iff (x : Str) : rem f x = zerosL f ↔ ∀ r ∈ f.c, dotI r (worths f x) % (f.m : Int) = 0 := by
  unfold rem zerosL
  rw [List.eq_replicate_iff]
  simp
theorem mark_zero_iff (p d : Nat) : mark f p d = zerosL f ↔ ∀ r ∈ f.c, (r[p]?.getD 0 * (d : Int)) % (f.m : Int) = 0 := by
  unfold mark zerosL
  rw [List.eq_replicate_iff]
  simp
theorem mark_eq_iff (p d q e : Nat) : mark f p d = mark f q e ↔ ∀ r ∈ f.c, (r[p]?.getD 0 * (d : Int)) % (f.m : Int) = (r[q]?.getD 0 * (e : Int)) % (f.m : Int) := by
  unfold mark
  exact List.map_inj_left
theorem inL_put {x : Str} (h : InL f x) {p c : Nat} (hc : c ∈ tl f.s) : InL f (putS x p c) := by
  intro y hy
  rw [tl_put] at hy
  rcases List.mem_or_eq_of_mem_set hy with hy | rfl
  · exact h y hy
  · exact hc
theorem isLine_of {x : Str} (h1 : x.length = f.n) (h2 : InL f x) : isLine f x = true := by
  unfold isLine
  simp only [Bool.and_eq_true, beq_iff_eq, List.all_eq_true, decide_eq_true_eq]
  exact ⟨h1, h2⟩
theorem isGood_iff {x : Str} : isGood f x = true ↔ (x.length = f.n ∧ InL f x) ∧ rem f x = zerosL f := by
  unfold isGood
  simp only [Bool.and_eq_true, beq_iff_eq]
  exact ⟨fun h => ⟨isLine_in h.1, h.2⟩, fun h => ⟨isLine_of h.1.1 h.1.2, h.2⟩⟩
theorem inL_plain (ok : FrOk f) : InL f (plain f) := by
  intro c hc
  rw [tl_plain] at hc
  have := List.eq_of_mem_replicate hc
  subst this
  rw [← sgn_0 ok]
  exact sgn_mem (by have := ok.m2; omega)
theorem good_plain (ok : FrOk f) : isGood f (plain f) = true := by
  refine isGood_iff.mpr ⟨⟨plain_len f, inL_plain ok⟩, (rem_zero_iff _).mpr fun r hr => ?_⟩
  rw [worths_plain ok, dot_zero]
  simp
theorem dot_slip (ok : FrOk f) {p d : Nat} (hp : p < f.n) (hd : d < f.m) {r : List Int} (hr : r ∈ f.c) : dotI r (worths f (putS (plain f) p (sgn f d))) = r[p]?.getD 0 * (d : Int) := by
  rw [dot_put ok (plain_len f) hp hr, worths_plain ok, dot_zero, idx_sgn ok hd, List.getElem?_replicate, if_pos hp]
  simp
theorem good_slip (ok : FrOk f) {p d : Nat} (hp : p < f.n) (hd : d < f.m) (hz : mark f p d = zerosL f) : isGood f (putS (plain f) p (sgn f d)) = true := by
  refine isGood_iff.mpr ⟨⟨by rw [putS_len]; exact plain_len f, inL_put (inL_plain ok) (sgn_mem hd)⟩, (rem_zero_iff _).mpr fun r hr => ?_⟩
  rw [dot_slip ok hp hd hr]
  exact (mark_zero_iff p d).mp hz r hr
theorem filter_one : ∀ (n p : Nat), p < n → ((List.range n).filter fun k => k == p) = [p]
  | 0, p, h => by omega
  | n + 1, p, h => by
    rw [List.range_succ, List.filter_append]
    by_cases e : p = n
    · subst e
      rw [List.filter_eq_nil_iff.mpr fun k hk => by simp only [List.mem_range] at hk; simp; omega]
      simp
    · rw [filter_one n p (by omega)]
      have : (n == p) = false := beq_eq_false_iff_ne.mpr (by omega)
      simp [this]
/-- differing places -/
theorem apart_set {x : Str} {p c : Nat} (hp : p < x.length) (hc : (tl x)[p]? ≠ some c) : apartN x (putS x p c) = 1 := by
  unfold apartN
  rw [tl_put]
  have e : ((List.range x.length).filter fun k => (tl x)[k]? != ((tl x).set p c)[k]?) = (List.range x.length).filter fun k => k == p := by
    apply List.filter_congr
    intro k hk
    by_cases h : k = p
    · subst h
      rw [List.getElem?_set_self (by rw [tl_len]; exact hp)]
      simpa using hc
    · rw [List.getElem?_set_ne (fun z => h z.symm)]
      simp [h]
  rw [e]
  rw [filter_one x.length p hp]
  rfl
theorem apart_comm {x y : Str} (h : x.length = y.length) : apartN x y = apartN y x := by
  unfold apartN
  rw [h]
  congr 1
  apply List.filter_congr
  intro k _
  rw [Bool.eq_iff_iff]
  simp only [bne_iff_ne]
  exact ⟨fun z e => z e.symm, fun z e => z e.symm⟩
theorem apart_one {x y : Str} {n : Nat} (hx : x.length = n) (hn : 1 ≤ n) (h : apartN x y ≤ 1) : ∃ p, p < n ∧ ∀ k, k < n → k ≠ p → (tl x)[k]? = (tl y)[k]? := by
  unfold apartN at h
  have hmem : ∀ k, k < n → (tl x)[k]? ≠ (tl y)[k]? → k ∈ (List.range x.length).filter fun k => (tl x)[k]? != (tl y)[k]? := fun k hk hne => by
    simp only [List.mem_filter, List.mem_range, bne_iff_ne]
    exact ⟨by omega, hne⟩
  cases hL : (List.range x.length).filter fun k => (tl x)[k]? != (tl y)[k]? with
  | nil =>
    refine ⟨0, hn, fun k hk _ => ?_⟩
    by_cases e : (tl x)[k]? = (tl y)[k]?
    · exact e
    · have := hmem k hk e
      rw [hL] at this
      cases this
  | cons p r =>
    rw [hL] at h
    have hr : r = [] := by
      cases r with
      | nil => rfl
      | cons _ _ => simp at h
    subst hr
    have hp : p < n := by
      have : p ∈ (List.range x.length).filter fun k => (tl x)[k]? != (tl y)[k]? := by rw [hL]; simp
      simp only [List.mem_filter, List.mem_range] at this
      omega
    refine ⟨p, hp, fun k hk hkp => ?_⟩
    by_cases e : (tl x)[k]? = (tl y)[k]?
    · exact e
    · have := hmem k hk e
      rw [hL] at this
      simp at this
      exact absurd this hkp
/-- lines equal but at two places -/
theorem as_put {x y : Str} {n p q : Nat} (hx : x.length = n) (hy : y.length = n) (hp : p < n) (hq : q < n) (h : ∀ k, k < n → k ≠ p → k ≠ q → (tl x)[k]? = (tl y)[k]?) :
    ∃ a b, (tl y)[p]? = some a ∧ (tl y)[q]? = some b ∧ y = putS (putS x p a) q b := by
  have lx := tl_len x
  have ly := tl_len y
  refine ⟨_, _, List.getElem?_eq_getElem (by omega), List.getElem?_eq_getElem (by omega), str_ext ?_⟩
  rw [tl_put, tl_put]
  apply List.ext_getElem?
  intro k
  by_cases hk : k < n
  · by_cases e2 : k = q
    · subst e2
      rw [List.getElem?_set_self (by rw [List.length_set]; omega)]
      exact List.getElem?_eq_getElem (by omega)
    · rw [List.getElem?_set_ne (fun z => e2 z.symm)]
      by_cases e1 : k = p
      · subst e1
        rw [List.getElem?_set_self (by omega)]
        exact List.getElem?_eq_getElem (by omega)
      · rw [List.getElem?_set_ne (fun z => e1 z.symm)]
        exact (h k hk e1 e2).symm
  · rw [List.getElem?_eq_none (by omega), List.getElem?_eq_none (by rw [List.length_set, List.length_set]; omega)]
/-- the residue of a difference -/
theorem residue {m a b : Nat} (ha : a < m) (hb : b < m) (h : a ≠ b) : ∃ d, 1 ≤ d ∧ d < m ∧ ∀ w : Int, (w * (d : Int)) % (m : Int) = (w * ((a : Int) - (b : Int))) % (m : Int) := by
  by_cases q : b < a
  · exact ⟨a - b, by omega, by omega, fun w => by rw [show ((a - b : Nat) : Int) = (a : Int) - b by omega]⟩
  · refine ⟨a + m - b, by omega, by omega, fun w => ?_⟩
    rw [show ((a + m - b : Nat) : Int) = ((a : Int) - b) + m by omega, Int.mul_add, Int.add_mul_emod_self_right]
theorem emod_add_zero {a b m : Int} (h : (a + b) % m = 0) (ha : a % m = 0) : b % m = 0 := by
  rw [Int.add_emod, ha, Int.zero_add, Int.emod_emod] at h
  exact h
theorem get_worth {x : Str} {p c : Nat} (h : (tl x)[p]? = some c) : (worths f x)[p]?.getD 0 = idx f c := by
  unfold worths
  rw [List.getElem?_map, h]
  rfl
/-- two good lines that differ at one place -/
theorem one_zero (ok : FrOk f) {x y : Str} (hx : isGood f x = true) (hy : isGood f y = true) (hne : x ≠ y) {p : Nat} (hp : p < f.n) (h : ∀ k, k < f.n → k ≠ p → (tl x)[k]? = (tl y)[k]?) : ∃ d, (p, d) ∈ slips f ∧ mark f p d = zerosL f := by
  obtain ⟨⟨lx, ix⟩, rx⟩ := isGood_iff.mp hx
  obtain ⟨⟨ly, iy⟩, ry⟩ := isGood_iff.mp hy
  obtain ⟨a, b, ea, eb, e⟩ := as_put lx ly hp hp fun k hk h1 _ => h k hk h1
  rw [ea] at eb
  cases eb
  have e : y = putS x p a := by
    rw [e]
    apply str_ext
    show (((tl x).set p a).set p a) = (tl x).set p a
    rw [List.set_set]
  obtain ⟨c, ec⟩ : ∃ c, (tl x)[p]? = some c := ⟨_, List.getElem?_eq_getElem (by rw [tl_len]; omega)⟩
  have hac : a ≠ c := fun z => by
    subst z
    apply hne
    rw [e]
    apply str_ext
    rw [tl_put]
    apply List.ext_getElem?
    intro k
    by_cases hk : k = p
    · subst hk
      rw [List.getElem?_set_self (by rw [tl_len]; omega)]
      exact ec
    · rw [List.getElem?_set_ne (fun z => hk z.symm)]
  have ma := iy a (List.mem_of_getElem? ea)
  have mc := ix c (List.mem_of_getElem? ec)
  obtain ⟨d, d1, d2, hd⟩ := residue (idx_lt ma) (idx_lt mc) (fun z => hac (idx_inj ma z mc))
  refine ⟨d, mem_slips.mpr ⟨hp, d1, d2⟩, (mark_zero_iff p d).mpr fun r hr => ?_⟩
  have z1 := (rem_zero_iff x).mp rx r hr
  have z2 := (rem_zero_iff y).mp ry r hr
  rw [e, dot_put ok lx hp hr, get_worth ec] at z2
  rw [hd]
  exact emod_add_zero z2 z1
/-- two good lines that differ at two places -/
theorem two_same (ok : FrOk f) {x y : Str} (hx : isGood f x = true) (hy : isGood f y = true) {p q : Nat} (hp : p < f.n) (hq : q < f.n) (hpq : p ≠ q) (h : ∀ k, k < f.n → k ≠ p → k ≠ q → (tl x)[k]? = (tl y)[k]?)
    (h1 : (tl x)[p]? ≠ (tl y)[p]?) (h2 : (tl x)[q]? ≠ (tl y)[q]?) : ∃ d e, (p, d) ∈ slips f ∧ (q, e) ∈ slips f ∧ mark f p d = mark f q e := by
  obtain ⟨⟨lx, ix⟩, rx⟩ := isGood_iff.mp hx
  obtain ⟨⟨ly, iy⟩, ry⟩ := isGood_iff.mp hy
  obtain ⟨a, b, ea, eb, e⟩ := as_put lx ly hp hq h
  obtain ⟨c, ec⟩ : ∃ c, (tl x)[p]? = some c := ⟨_, List.getElem?_eq_getElem (by rw [tl_len]; omega)⟩
  obtain ⟨g, eg⟩ : ∃ g, (tl x)[q]? = some g := ⟨_, List.getElem?_eq_getElem (by rw [tl_len]; omega)⟩
  have hac : a ≠ c := fun z => h1 (by rw [ec, ea, z])
  have hbg : g ≠ b := fun z => h2 (by rw [eg, eb, z])
  have ma := iy a (List.mem_of_getElem? ea)
  have mb := iy b (List.mem_of_getElem? eb)
  have mc := ix c (List.mem_of_getElem? ec)
  have mg := ix g (List.mem_of_getElem? eg)
  obtain ⟨d, d1, d2, hd⟩ := residue (idx_lt ma) (idx_lt mc) (fun z => hac (idx_inj ma z mc))
  obtain ⟨d', e1, e2, he⟩ := residue (idx_lt mg) (idx_lt mb) (fun z => hbg (idx_inj mg z mb))
  refine ⟨d, d', mem_slips.mpr ⟨hp, d1, d2⟩, mem_slips.mpr ⟨hq, e1, e2⟩, (mark_eq_iff p d q d').mpr fun r hr => ?_⟩
  have z1 := (rem_zero_iff x).mp rx r hr
  have z2 := (rem_zero_iff y).mp ry r hr
  have eg2 : (tl (putS x p a))[q]? = some g := by
    rw [tl_put, List.getElem?_set_ne hpq]
    exact eg
  rw [e, dot_put ok (by rw [putS_len]; exact lx) hq hr, get_worth eg2, dot_put ok lx hp hr, get_worth ec] at z2
  rw [hd, he]
  rw [Int.add_assoc] at z2
  have z3 := emod_add_zero z2 z1
  have e4 : r[q]?.getD 0 * ((idx f b : Int) - (idx f g : Nat)) = -(r[q]?.getD 0 * ((idx f g : Int) - (idx f b : Nat))) := by
    rw [← Int.mul_neg]
    congr 1
    omega
  rw [e4] at z3
  exact Int.emod_eq_emod_iff_emod_sub_eq_zero.mpr (by rw [Int.sub_eq_add_neg]; exact z3)
theorem mem_fold (x : List Int) : ∀ (ms seen : List (List Int)), x ∈ ms.foldl addK seen ↔ x ∈ seen ∨ x ∈ ms
  | [], seen => by simp
  | m :: r, seen => by
    show x ∈ r.foldl addK (addK seen m) ↔ _
    rw [mem_fold x r]
    by_cases h : m ∈ seen
    · rw [show addK seen m = seen from if_pos h]
      constructor
      · rintro (h1 | h1)
        · exact .inl h1
        · exact .inr (List.mem_cons_of_mem _ h1)
      · rintro (h1 | h1)
        · exact .inl h1
        · rcases List.mem_cons.mp h1 with rfl | h1
          · exact .inl h
          · exact .inr h1
    · rw [show addK seen m = seen ++ [m] from if_neg h]
      simp only [List.mem_append, List.mem_cons, List.not_mem_nil, or_false]
      constructor
      · rintro ((h1 | h1) | h1)
        · exact .inl h1
        · exact .inr (.inl h1)
        · exact .inr (.inr h1)
      · rintro (h1 | h1 | h1)
        · exact .inl (.inl h1)
        · exact .inl (.inr h1)
        · exact .inr h1
theorem len_fold : ∀ (ms seen : List (List Int)), (ms.foldl addK seen).length ≤ seen.length + ms.length ∧ ((ms.foldl addK seen).length = seen.length + ms.length ↔ ms.Nodup ∧ ∀ x ∈ ms, x ∉ seen)
  | [], seen => by simp
  | m :: r, seen => by
    show (r.foldl addK (addK seen m)).length ≤ _ ∧ ((r.foldl addK (addK seen m)).length = _ ↔ _)
    by_cases h : m ∈ seen
    · rw [show addK seen m = seen from if_pos h]
      obtain ⟨h1, h2⟩ := len_fold r seen
      refine ⟨by simp only [List.length_cons]; omega, ⟨fun e => ?_, fun e => ?_⟩⟩
      · simp only [List.length_cons] at e
        omega
      · exact absurd h (e.2 m (by simp))
    · rw [show addK seen m = seen ++ [m] from if_neg h]
      obtain ⟨h1, h2⟩ := len_fold r (seen ++ [m])
      simp only [List.length_append, List.length_cons, List.length_nil] at h1 h2 ⊢
      refine ⟨by omega, ⟨fun e => ?_, fun e => ?_⟩⟩
      · obtain ⟨h3, h4⟩ := h2.mp (by omega)
        refine ⟨List.nodup_cons.mpr ⟨fun z => (h4 m z) (by simp), h3⟩, fun x hx => ?_⟩
        rcases List.mem_cons.mp hx with rfl | hx
        · exact h
        · exact fun z => h4 x hx (List.mem_append_left _ z)
      · obtain ⟨h3, h4⟩ := e
        obtain ⟨h5, h6⟩ := List.nodup_cons.mp h3
        have := h2.mpr ⟨h6, fun x hx z => by
          rcases List.mem_append.mp z with z | z
          · exact h4 x (List.mem_cons_of_mem _ hx) z
          · simp at z
            subst z
            exact h5 hx⟩
        omega
theorem marked_iff : marked f = true ↔ (marks f).Nodup ∧ zerosL f ∉ marks f := by
  have h1 := (len_fold (marks f) []).2
  have h2 := mem_fold (zerosL f) (marks f) []
  have hl : (marks f).length = (slips f).length := by simp [marks]
  unfold marked keysOf
  simp only [Bool.and_eq_true, beq_iff_eq, Bool.not_eq_true', decide_eq_false_iff_not]
  simp only [List.length_nil, Nat.zero_add, List.not_mem_nil, not_false_eq_true, implies_true, and_true, false_or] at h1 h2
  rw [← hl, h1, h2]
abbrev mk (f : Fr) (s : Nat × Nat) : List Int := mark f s.1 s.2
theorem rightR_right : ∀ (l seen : List (Nat × Nat)), rightR f seen l = [txt "right"] ↔ (∀ s ∈ l, mk f s ≠ zerosL f) ∧ (∀ s ∈ l, ∀ t ∈ seen, mk f t ≠ mk f s) ∧ (l.map (mk f)).Nodup
  | [], seen => by simp [rightR]
  | s :: r, seen => by
    unfold rightR
    by_cases hz : mark f s.1 s.2 = zerosL f
    · rw [if_pos (by simpa using hz)]
      refine ⟨fun h => by simp at h, fun h => absurd hz (h.1 s (by simp))⟩
    · rw [if_neg (by simpa using hz)]
      cases hf : seen.find? (fun t => mark f t.1 t.2 == mark f s.1 s.2) with
      | some t =>
        refine ⟨fun h => by simp at h, fun h => ?_⟩
        have h1 := List.mem_of_find?_eq_some hf
        have h2 := List.find?_some hf
        exact absurd (by simpa using h2) (h.2.1 s (by simp) t h1)
      | none =>
        have hn : ∀ t ∈ seen, mk f t ≠ mk f s := fun t ht e => by
          have := List.find?_eq_none.mp hf t ht
          simp at this
          exact this e
        show rightR f (seen ++ [s]) r = _ ↔ _
        rw [rightR_right r (seen ++ [s])]
        simp only [List.map_cons, List.nodup_cons, List.mem_map]
        constructor
        · rintro ⟨h1, h2, h3⟩
          refine ⟨fun a ha => ?_, fun a ha => ?_, ?_, h3⟩
          · rcases List.mem_cons.mp ha with rfl | ha
            · exact hz
            · exact h1 a ha
          · rcases List.mem_cons.mp ha with rfl | ha
            · exact hn
            · exact fun t ht => h2 a ha t (List.mem_append_left _ ht)
          · rintro ⟨a, ha, e⟩
            exact h2 a ha s (by simp) e.symm
        · rintro ⟨h1, h2, h3, h4⟩
          refine ⟨fun a ha => h1 a (List.mem_cons_of_mem _ ha), fun a ha t ht => ?_, h4⟩
          rcases List.mem_append.mp ht with ht | ht
          · exact h2 a (List.mem_cons_of_mem _ ha) t ht
          · simp at ht
            subst ht
            exact fun e => h3 ⟨a, ha, e.symm⟩
theorem rightV_right : rightV f = [txt "right"] ↔ marked f = true := by
  unfold rightV
  rw [rightR_right, marked_iff]
  simp only [List.not_mem_nil, false_implies, implies_true, true_and]
  constructor
  · rintro ⟨h1, h2⟩
    refine ⟨h2, fun z => ?_⟩
    obtain ⟨s, hs, e⟩ := List.mem_map.mp z
    exact h1 s hs e
  · rintro ⟨h1, h2⟩
    exact ⟨fun s hs e => h2 (List.mem_map.mpr ⟨s, hs, e⟩), h1⟩
theorem hasZero_iff : hasZero f = true ↔ ∃ s ∈ slips f, mk f s = zerosL f := by
  unfold hasZero
  rw [List.any_map, List.any_eq_true]
  simp
theorem slipOf_notic : slipOf f (slips f) = [txt "noticed"] ↔ hasZero f = false := by
  unfold slipOf
  cases hf : (slips f).find? (fun s => mark f s.1 s.2 == zerosL f) with
  | none =>
    refine ⟨fun _ => ?_, fun _ => rfl⟩
    rw [Bool.eq_false_iff]
    intro h
    obtain ⟨s, hs, e⟩ := hasZero_iff.mp h
    have := List.find?_eq_none.mp hf s hs
    simp at this
    exact this e
  | some s =>
    refine ⟨fun h => by simp at h, fun h => ?_⟩
    have h1 := List.mem_of_find?_eq_some hf
    have h2 := List.find?_some hf
    have : hasZero f = true := hasZero_iff.mpr ⟨s, h1, by simpa using h2⟩
    rw [h] at this
    cases this
theorem slip_ne (ok : FrOk f) {p d : Nat} (hp : p < f.n) (h1 : 1 ≤ d) (h2 : d < f.m) : (tl (plain f))[p]? ≠ some (sgn f d) := by
  rw [tl_plain, List.getElem?_replicate, if_pos hp]
  intro e
  have := sgn_inj ok (show 0 < f.m by omega) h2 (Option.some.inj e)
  omega
theorem slip_apart (ok : FrOk f) {p d : Nat} (hp : p < f.n) (h1 : 1 ≤ d) (h2 : d < f.m) : apartN (plain f) (putS (plain f) p (sgn f d)) = 1 :=
  apart_set (by rw [plain_len]; exact hp) (slip_ne ok hp h1 h2)
theorem slipV_ok (ok : FrOk f) : jSlips f (slipOf f (slips f)) = true := by
  unfold jSlips
  by_cases h : slipOf f (slips f) = [txt "noticed"]
  · rw [if_pos h, slipOf_notic.mp h]
    rfl
  · rw [if_neg h]
    unfold slipOf at h ⊢
    cases hf : (slips f).find? (fun s => mark f s.1 s.2 == zerosL f) with
    | none =>
      rw [hf] at h
      exact absurd rfl h
    | some s =>
      obtain ⟨p, d⟩ := s
      have h1 := mem_slips.mp (List.mem_of_find?_eq_some hf)
      have h2 : mark f p d = zerosL f := by simpa using List.find?_some hf
      show (decide (txt "unnoticed" = txt "unnoticed") && (isGood f (plain f) && (isGood f (putS (plain f) p (sgn f d)) && apartN (plain f) (putS (plain f) p (sgn f d)) == 1))) = true
      rw [good_plain ok, good_slip ok h1.1 h1.2.2 h2, slip_apart ok h1.1 h1.2.1 h1.2.2]
      simp
theorem slip_head (ok : FrOk f) {v : List Str} (h : jSlips f v = true) : ∃ w r r', v = w :: r ∧ slipOf f (slips f) = w :: r' := by
  unfold jSlips at h
  by_cases hv : v = [txt "noticed"]
  · rw [if_pos hv] at h
    exact ⟨_, _, _, hv, slipOf_notic.mpr (by simpa using h)⟩
  · rw [if_neg hv] at h
    unfold good3 at h
    split at h
    · rename_i w x y
      simp only [Bool.and_eq_true, decide_eq_true_eq, beq_iff_eq] at h
      obtain ⟨rfl, h1, h2, h3⟩ := h
      have l1 := (isGood_in h1).1
      have l2 := (isGood_in h2).1
      obtain ⟨p, hp, hh⟩ := apart_one (x := x) (y := y) l1 ok.n1 (by omega)
      have hne : x ≠ y := fun e => by
        subst e
        unfold apartN at h3
        have : ((List.range x.length).filter fun k => (tl x)[k]? != (tl x)[k]?) = [] := List.filter_eq_nil_iff.mpr fun k _ => by simp
        rw [this] at h3
        simp at h3
      obtain ⟨d, hd, hz⟩ := one_zero ok h1 h2 hne hp hh
      have hz2 : hasZero f = true := hasZero_iff.mpr ⟨(p, d), hd, hz⟩
      refine ⟨_, _, ?_, rfl, ?_⟩
      · exact (slipOf f (slips f)).tail
      · unfold slipOf
        cases hf : (slips f).find? (fun s => mark f s.1 s.2 == zerosL f) with
        | none =>
          have := List.find?_eq_none.mp hf _ hd
          simp at this
          exact absurd hz this
        | some s => rfl
    · cases h
theorem not_marked (ok : FrOk f) {l x y : Str} (hl : l.length = f.n) (hx : isGood f x = true) (hy : isGood f y = true) (hne : x ≠ y) (h1 : apartN l x ≤ 1) (h2 : apartN l y ≤ 1) : marked f ≠ true := by
  intro hm
  obtain ⟨hnd, hz⟩ := marked_iff.mp hm
  have hzn : ∀ s ∈ slips f, mk f s ≠ zerosL f := fun s hs e => hz (List.mem_map.mpr ⟨s, hs, e⟩)
  obtain ⟨p, hp, ph⟩ := apart_one (x := l) (y := x) hl ok.n1 h1
  obtain ⟨q, hq, qh⟩ := apart_one (x := l) (y := y) hl ok.n1 h2
  have one : ∀ k, k < f.n → (∀ j, j < f.n → j ≠ k → (tl x)[j]? = (tl y)[j]?) → False := fun k hk hh => by
    obtain ⟨d, hd, e⟩ := one_zero ok hx hy hne hk hh
    exact hzn _ hd e
  by_cases hpq : p = q
  · subst hpq
    exact one p hp fun j hj hjp => (ph j hj hjp).symm.trans (qh j hj hjp)
  · by_cases e1 : (tl x)[p]? = (tl y)[p]?
    · refine one q hq fun j hj hjq => ?_
      by_cases hjp : j = p
      · subst hjp; exact e1
      · exact (ph j hj hjp).symm.trans (qh j hj hjq)
    · by_cases e2 : (tl x)[q]? = (tl y)[q]?
      · refine one p hp fun j hj hjp => ?_
        by_cases hjq : j = q
        · subst hjq; exact e2
        · exact (ph j hj hjp).symm.trans (qh j hj hjq)
      · obtain ⟨d, e, hd, he, hme⟩ := two_same ok hx hy hp hq hpq (fun j hj hjp hjq => (ph j hj hjp).symm.trans (qh j hj hjq)) e1 e2
        have : ∀ (ss : List (Nat × Nat)), (ss.map (mk f)).Nodup → ∀ a ∈ ss, ∀ b ∈ ss, mk f a = mk f b → a = b := by
          intro ss
          induction ss with
          | nil => intro _ a ha; cases ha
          | cons c r ih =>
            intro hn a ha b hb e
            obtain ⟨n1, n2⟩ := List.nodup_cons.mp hn
            rcases List.mem_cons.mp ha with h1 | h1
            · rcases List.mem_cons.mp hb with h2 | h2
              · rw [h1, h2]
              · rw [h1] at e
                exact absurd (List.mem_map.mpr ⟨b, h2, e.symm⟩) n1
            · rcases List.mem_cons.mp hb with h2 | h2
              · rw [h2] at e
                exact absurd (List.mem_map.mpr ⟨a, h1, e⟩) n1
              · exact ih n2 a h1 b h2 e
        have := this (slips f) hnd _ hd _ he hme
        exact hpq (Prod.mk.inj this).1
theorem rightR_head : ∀ (l seen : List (Nat × Nat)), rightR f seen l = [txt "right"] ∨ ∃ r, rightR f seen l = txt "both" :: r
  | [], seen => .inl rfl
  | s :: r, seen => by
    unfold rightR
    by_cases hz : (mark f s.1 s.2 == zerosL f) = true
    · rw [if_pos hz]
      exact .inr ⟨_, rfl⟩
    · rw [if_neg hz]
      cases hf : seen.find? (fun t => mark f t.1 t.2 == mark f s.1 s.2) with
      | some t => exact .inr ⟨_, rfl⟩
      | none => exact rightR_head r (seen ++ [s])
theorem right_head (ok : FrOk f) {v : List Str} (h : jRight f v = true) : ∃ w r r', v = w :: r ∧ rightV f = w :: r' := by
  unfold jRight at h
  by_cases hv : v = [txt "right"]
  · rw [if_pos hv] at h
    exact ⟨_, _, _, hv, rightV_right.mpr h⟩
  · rw [if_neg hv] at h
    unfold good4 at h
    split at h
    · rename_i w l x y
      simp only [Bool.and_eq_true, decide_eq_true_eq, Bool.not_eq_true', decide_eq_false_iff_not] at h
      obtain ⟨rfl, h1, h2, h3, h4, h5, h6⟩ := h
      have := not_marked ok (isLine_in h1).1 h2 h3 h4 h5 h6
      rcases rightR_head (f := f) (slips f) [] with e | ⟨r, e⟩
      · exact absurd (rightV_right.mp e) this
      · exact ⟨_, _, r, rfl, e⟩
    · cases h
/-- the slips come in order -/
theorem slips_sorted (f : Fr) : (slips f).Pairwise fun a b => a.1 < b.1 ∨ (a.1 = b.1 ∧ a.2 < b.2) := by
  unfold slips
  rw [List.pairwise_flatten]
  refine ⟨fun l hl => ?_, ?_⟩
  · obtain ⟨p, _, rfl⟩ := List.mem_map.mp hl
    rw [List.pairwise_map]
    exact List.pairwise_lt_range.imp fun h => .inr ⟨rfl, by simpa using h⟩
  · rw [List.pairwise_map]
    refine List.pairwise_lt_range.imp fun {a b} h => ?_
    intro x hx y hy
    obtain ⟨_, _, rfl⟩ := List.mem_map.mp hx
    obtain ⟨_, _, rfl⟩ := List.mem_map.mp hy
    exact .inl h
theorem apart_self (x : Str) : apartN x x = 0 := by
  unfold apartN
  rw [List.filter_eq_nil_iff.mpr fun k _ => by simp]
  rfl
theorem both_ok (ok : FrOk f) : ∀ (l seen : List (Nat × Nat)), seen ++ l = slips f → (∀ t ∈ seen, mk f t ≠ zerosL f) → rightR f seen l = [txt "right"] ∨ (good4 f (rightR f seen l) = true ∧ ∃ r, rightR f seen l = txt "both" :: r)
  | [], seen, _, _ => .inl rfl
  | (p, d) :: r, seen, hs, hn => by
    have hpd := mem_slips.mp (show (p, d) ∈ slips f by rw [← hs]; simp)
    have pl := plain_len f
    have hS : isLine f (putS (plain f) p (sgn f d)) = true := isLine_of (by rw [putS_len]; exact pl) (inL_put (inL_plain ok) (sgn_mem hpd.2.2))
    have hA := slip_apart ok hpd.1 hpd.2.1 hpd.2.2
    have hne : putS (plain f) p (sgn f d) ≠ plain f := fun e => by
      rw [e, apart_self] at hA
      cases hA
    unfold rightR
    by_cases hz : mark f p d = zerosL f
    · rw [if_pos (by simpa using hz)]
      refine .inr ⟨?_, _, rfl⟩
      have gp := good_plain ok
      show (decide (txt "both" = txt "both") && (isLine f (plain f) && (isGood f (plain f) && (isGood f (putS (plain f) p (sgn f d)) && (!decide (plain f = putS (plain f) p (sgn f d)) && (decide (apartN (plain f) (plain f) ≤ 1) && decide (apartN (plain f) (putS (plain f) p (sgn f d)) ≤ 1))))))) = true
      rw [isLine_of pl (inL_plain ok), gp, good_slip ok hpd.1 hpd.2.2 hz, apart_self, hA]
      simp only [decide_true, Bool.true_and, Bool.and_true, Nat.le_refl, Bool.not_eq_true', decide_eq_false_iff_not]
      simp
      exact fun e => hne e.symm
    · rw [if_neg (by simpa using hz)]
      cases hf : seen.find? (fun t => mark f t.1 t.2 == mark f p d) with
      | none =>
        refine both_ok ok r (seen ++ [(p, d)]) (by simpa using hs) fun t ht => ?_
        rcases List.mem_append.mp ht with ht | ht
        · exact hn t ht
        · simp at ht
          subst ht
          exact hz
      | some t =>
        obtain ⟨q, e⟩ := t
        have hts := List.mem_of_find?_eq_some hf
        have hme : mark f q e = mark f p d := by simpa using List.find?_some hf
        have hqe := mem_slips.mp (show (q, e) ∈ slips f by rw [← hs]; exact List.mem_append_left _ hts)
        have hso := slips_sorted f
        rw [← hs, List.pairwise_append] at hso
        have hlt := hso.2.2 _ hts (p, d) (by simp)
        have hqp : q ≠ p := by
          intro z
          subst z
          have hed : e < d := by
            rcases hlt with h | h
            · exact absurd h (Nat.lt_irrefl _)
            · exact h.2
          have hz2 : mark f q (d - e) = zerosL f := (mark_zero_iff q (d - e)).mpr fun r hr => by
            have h1 := (mark_eq_iff q e q d).mp hme r hr
            rw [show ((d - e : Nat) : Int) = (d : Int) - e by omega, Int.mul_sub]
            exact Int.emod_eq_emod_iff_emod_sub_eq_zero.mp h1.symm
          have hmem : (q, d - e) ∈ seen ++ (q, d) :: r := by
            rw [hs]
            exact mem_slips.mpr ⟨hpd.1, by omega, by omega⟩
          rcases List.mem_append.mp hmem with h | h
          · exact hn _ h hz2
          · rcases List.mem_cons.mp h with h | h
            · have := (Prod.mk.inj h).2
              omega
            · have := (List.pairwise_cons.mp hso.2.1).1 _ h
              rcases this with h | h
              · exact absurd h (Nat.lt_irrefl _)
              · have := h.2
                simp only at this
                omega
        refine .inr ⟨?_, _, rfl⟩
        have hw : f.m - e < f.m := by omega
        have e1 : (tl (putS (plain f) p (sgn f d)))[q]? = some (hd0 f) := by
          rw [tl_put, List.getElem?_set_ne (fun z => hqp z.symm), tl_plain, List.getElem?_replicate, if_pos hqe.1]
        have hg : isGood f (putS (putS (plain f) p (sgn f d)) q (sgn f (f.m - e))) = true := by
          refine isGood_iff.mpr ⟨⟨by rw [putS_len, putS_len]; exact pl, inL_put (inL_put (inL_plain ok) (sgn_mem hpd.2.2)) (sgn_mem hw)⟩, (rem_zero_iff _).mpr fun r hr => ?_⟩
          rw [dot_put ok (by rw [putS_len]; exact pl) hqe.1 hr, dot_slip ok hpd.1 hpd.2.2 hr, get_worth e1, idx_sgn ok hw, ← sgn_0 ok, idx_sgn ok (by omega)]
          have h1 := (mark_eq_iff q e p d).mp hme r hr
          rw [show ((f.m - e : Nat) : Int) - ((0 : Nat) : Int) = (f.m : Int) - e by omega, Int.mul_sub]
          have h2 := Int.emod_eq_emod_iff_emod_sub_eq_zero.mp h1.symm
          rw [show r[p]?.getD 0 * (d : Int) + (r[q]?.getD 0 * (f.m : Int) - r[q]?.getD 0 * (e : Int)) = (r[p]?.getD 0 * (d : Int) - r[q]?.getD 0 * (e : Int)) + r[q]?.getD 0 * (f.m : Int) by omega]
          rw [Int.add_mul_emod_self_right]
          exact h2
        have hA2 : apartN (putS (plain f) p (sgn f d)) (putS (putS (plain f) p (sgn f d)) q (sgn f (f.m - e))) = 1 := by
          refine apart_set (by rw [putS_len]; omega) ?_
          rw [e1, ← sgn_0 ok]
          intro z
          have := sgn_inj ok (show 0 < f.m by omega) hw (Option.some.inj z)
          omega
        have hA1 : apartN (putS (plain f) p (sgn f d)) (plain f) = 1 := by
          rw [apart_comm (by rw [putS_len]), hA]
        have hne2 : plain f ≠ putS (putS (plain f) p (sgn f d)) q (sgn f (f.m - e)) := by
          intro z
          have e2 : (tl (putS (putS (plain f) p (sgn f d)) q (sgn f (f.m - e))))[p]? = some (sgn f d) := by
            rw [tl_put, List.getElem?_set_ne hqp, tl_put, List.getElem?_set_self (by rw [tl_len]; omega)]
          rw [← z] at e2
          exact slip_ne ok hpd.1 hpd.2.1 hpd.2.2 e2
        show (decide (txt "both" = txt "both") && (isLine f (putS (plain f) p (sgn f d)) && (isGood f (plain f) && (isGood f (putS (putS (plain f) p (sgn f d)) q (sgn f (f.m - e))) && (!decide (plain f = putS (putS (plain f) p (sgn f d)) q (sgn f (f.m - e))) && (decide (apartN (putS (plain f) p (sgn f d)) (plain f) ≤ 1) && decide (apartN (putS (plain f) p (sgn f d)) (putS (putS (plain f) p (sgn f d)) q (sgn f (f.m - e))) ≤ 1))))))) = true
        rw [hS, good_plain ok, hg, hA1, hA2]
        simp [hne2]
theorem rightV_ok (ok : FrOk f) : jRight f (rightV f) = true := by
  unfold jRight
  by_cases h : rightV f = [txt "right"]
  · rw [if_pos h]
    exact rightV_right.mp h
  · rw [if_neg h]
    rcases both_ok ok (slips f) [] rfl (fun t ht => by cases ht) with e | e
    · exact absurd e h
    · exact e.1
end
end PL

namespace PL
open PySem PySem.Spec PyProof.Rows L2
local macro_rules | `(tactic| ac_rfl) => `(tactic| ((conv => whnf); repeat ((first | refine Cif.yes ?_ | refine Cif.no ?_ | (refine And.intro ?_ ?_; · first | (show _ ≤ (_ : Int); omega) | (show _ < (_ : Int); omega) | assumption | exact trivial | exact rfl | (refine small ?_; first | omega | (simp only [List.length_map, List.length_cons, List.length_nil, List.length_append]; omega)) | (refine ltsmall ?_; first | omega | (simp only [List.length_map, List.length_cons, List.length_nil, List.length_append]; omega)) | (refine cdiv ?_ ?_ <;> omega) | (refine cmulR ?_ ?_ <;> omega) | (refine cmulL ?_ ?_ <;> omega) | (refine ⟨?_, ?_, ?_, ?_⟩ <;> omega))); (conv => whnf))))
local macro_rules | `(tactic| exists $e) => `(tactic| first | exact $e | exact And.right $e | exact And.right (And.right $e) | exact And.right (And.right (And.right $e)))
def addL (f : Fr) (a b : List Int) : List Int := (a.zip b).map fun p => (p.1 + p.2) % (f.m : Int)
theorem zipD_ints : ∀ (a b : List Int), zipD (a.map .int) (b.map .int) = (a.zip b).map fun p => .tuple [.int p.1, .int p.2]
  | [], _ => by cases ‹List Int› <;> rfl
  | x :: a, [] => rfl
  | x :: a, y :: b => by
    have := zipD_ints a b
    simp [zipD] at this ⊢
    exact this
-- added(frame, one, other) slots: 0=frame* 1=one 2=other 3=a 4=b
def q_added : QS :=
  (qRet (qUn opTuple (qLc [3, 4] (qiZ (qCons (qVar 1) (qCons (qVar 2) qNil))) (qgTup 2 (qgCons (qgN 3) (qgCons (qgN 4) qgNil))) qYes (qOp opMod (qOp opAdd (qVar 3) (qVar 4)) (qUn opLen (qOp opIx (qVar 0) (qC (.int 0))))))))
def P_added : PD := fun ds R => ∃ (f : Fr) (a b : List Int), ds = [f.enc, tupI a, tupI b] ∧ FrOk f ∧ a.length ≤ 1000 ∧ R (.sh (tupI (addL f a b)))
theorem pure_added : ∀ ds R, ds.length = 3 → P_added ds R → q_added (endsOf R) (startEv 5 ds) := by
  rintro ds R - ⟨f, a, b, rfl, ok, ha, h⟩
  have hm2 := ok.m2
  have hm1 := ok.m1
  unfold Fr.m at hm2 hm1
  ac_rfl
  rw [zipD_ints]
  refine lc0_map (vs := [3, 4]) (fun p : Int × Int => .tuple [.int p.1, .int p.2]) (fun p => .int ((p.1 + p.2) % (f.m : Int))) _ (fun p hp acc K hacc hK => ?_) ?_ ?_
  · ac_rfl
    exact hK
  · refine small ?_
    simp only [List.length_zip]
    omega
  · ac_rfl
    have e : tupI (addL f a b) = .tuple ((a.zip b).map fun p => .int ((p.1 + p.2) % (f.m : Int))) := by simp [tupI, addL]
    rw [e] at h
    exact h
-- _law_power(m, count) slots: 0=m 1=count 2=found 3=k
def q__law_power : QS :=
  (qSeq (qAsg (qC (.int 1)) (qgN 2))
  (qSeq (qFor (qiR1 (qCons (qVar 1) qNil)) (qgN 3)
   (qAsg (qOp opMul (qVar 2) (qVar 0)) (qgN 2)))
  (qRet (qVar 2))))
def P__law_power : PD := fun ds R => ∃ m c : Nat, ds = [.int m, .int c] ∧ m ≤ 1000 ∧ c ≤ 10 ∧ ∀ i : Int, R (.sh (.int i))
theorem pure__law_power : ∀ ds R, ds.length = 2 → P__law_power ds R → q__law_power (endsOf R) (startEv 4 ds) := by
  rintro ds R - ⟨m, c, rfl, hm, hc, h⟩
  ac_rfl
  refine forGo_ok (fun i : Nat => .int (i : Int)) (fun r Γ => ∃ (i : Int) (a : Sl), Γ = [.sh (.int m), .sh (.int c), .sh (.int i), a]) ?_ ?_ _ _ ⟨_, _, rfl⟩
  · rintro Γ ⟨i, a, rfl⟩
    ac_rfl
    exact h i
  · rintro k r Γ K ⟨i, a, rfl⟩ hK
    ac_rfl
    exact hK _ ⟨_, _, rfl⟩
end PL

namespace PL
open PySem PySem.Spec PyProof.Rows L2
local macro_rules | `(tactic| ac_rfl) => `(tactic| ((conv => whnf); repeat ((first | refine Cif.yes ?_ | refine Cif.no ?_ | (refine And.intro ?_ ?_; · first | (show _ ≤ (_ : Int); omega) | (show _ < (_ : Int); omega) | assumption | exact trivial | exact rfl | (refine small ?_; first | omega | (simp only [List.length_map, List.length_cons, List.length_nil, List.length_append]; omega)) | (refine ltsmall ?_; first | omega | (simp only [List.length_map, List.length_cons, List.length_nil, List.length_append]; omega)) | (refine cdiv ?_ ?_ <;> omega) | (refine cmulR ?_ ?_ <;> omega) | (refine cmulL ?_ ?_ <;> omega) | (refine ⟨?_, ?_, ?_, ?_⟩ <;> omega))); (conv => whnf))))
local macro_rules | `(tactic| exists $e) => `(tactic| first | exact $e | exact And.right $e | exact And.right (And.right $e) | exact And.right (And.right (And.right $e)))
/-! ### all lines -/
def moreL (f : Fr) (ls : List Str) : List Str := (ls.map fun l => (tl f.s).map fun c => l ++ ⟨#[c]⟩).flatten
def linesK (f : Fr) : Nat → List Str
  | 0 => [Str.empty]
  | k + 1 => moreL f (linesK f k)
theorem moreL_len (f : Fr) : ∀ ls : List Str, (moreL f ls).length = ls.length * f.m
  | [] => by simp [moreL]
  | l :: r => by
    have ih := moreL_len f r
    unfold moreL at ih ⊢
    rw [List.map_cons, List.flatten_cons, List.length_append, ih, List.length_map, tl_len, List.length_cons, Nat.add_mul]
    show f.m + _ = _
    omega
theorem linesK_len (f : Fr) : ∀ k, (linesK f k).length = f.m ^ k
  | 0 => rfl
  | k + 1 => by
    show (moreL f (linesK f k)).length = _
    rw [moreL_len, linesK_len f k, Nat.pow_succ]
theorem mem_moreL {f : Fr} {ls : List Str} {x : Str} : x ∈ moreL f ls ↔ ∃ l ∈ ls, ∃ c ∈ tl f.s, l ++ ⟨#[c]⟩ = x := by
  unfold moreL
  simp only [List.mem_flatten, List.mem_map]
  constructor
  · rintro ⟨q, ⟨l, hl, rfl⟩, hx⟩
    obtain ⟨c, hc, rfl⟩ := List.mem_map.mp hx
    exact ⟨l, hl, c, hc, rfl⟩
  · rintro ⟨l, hl, c, hc, rfl⟩
    exact ⟨_, ⟨l, hl, rfl⟩, List.mem_map.mpr ⟨c, hc, rfl⟩⟩
theorem tl_sign (l : Str) (c : Nat) : tl (l ++ ⟨#[c]⟩) = tl l ++ [c] := tl_app l ⟨#[c]⟩
theorem mem_linesK {f : Fr} : ∀ {k : Nat} {x : Str}, x ∈ linesK f k ↔ x.length = k ∧ InL f x
  | 0, x => by
    constructor
    · intro h
      have h : x = Str.empty := by simpa [linesK] using h
      subst h
      exact ⟨rfl, fun c hc => (List.not_mem_nil (show c ∈ ([] : List Nat) from hc)).elim⟩
    · rintro ⟨h, _⟩
      have e : tl x = [] := List.eq_nil_of_length_eq_zero (by rw [tl_len]; exact h)
      have : x = Str.empty := str_ext e
      rw [this]
      simp [linesK]
  | k + 1, x => by
    show x ∈ moreL f (linesK f k) ↔ _
    rw [mem_moreL]
    constructor
    · rintro ⟨l, hl, c, hc, rfl⟩
      obtain ⟨h1, h2⟩ := mem_linesK.mp hl
      refine ⟨by rw [app_len, h1]; rfl, fun d hd => ?_⟩
      rw [tl_sign] at hd
      rcases List.mem_append.mp hd with hd | hd
      · exact h2 d hd
      · have : d = c := by simpa using hd
        rw [this]
        exact hc
    · rintro ⟨h1, h2⟩
      have hne : tl x ≠ [] := fun e => by
        have := tl_len x
        rw [e, h1] at this
        simp at this
      have e := List.dropLast_concat_getLast hne
      refine ⟨⟨(tl x).dropLast.toArray⟩, mem_linesK.mpr ⟨?_, fun c hc => h2 c ((List.dropLast_sublist _).subset hc)⟩, (tl x).getLast hne, h2 _ (List.getLast_mem hne), ?_⟩
      · rw [← tl_len]
        show (tl x).dropLast.length = k
        rw [List.length_dropLast, tl_len, h1]
        rfl
      · refine str_ext ?_
        rw [tl_sign]
        exact e
-- _law_lines(frame) slots: 0=frame 1=found 2=place 3=more 4=line* 5=sign
def q__law_lines : QS :=
  (qSeq (qAsg (qLst (qCons (qC (.str "")) qNil)) (qgN 1))
  (qFrz 1 (qSeq (qFor (qiR1 (qCons (qUn opLen (qOp opIx (qOp opIx (qVar 0) (qC (.int 1))) (qC (.int 0)))) qNil)) (qgN 2)
   (qSeq (qAsg (qLst qNil) (qgN 3))
   (qFrz 3 (qSeq (qFor (qiL (qVar 1)) (qgN 4)
    (qAsg (qOp opAdd (qVar 3) (qLc [5] (qiS (qOp opIx (qVar 0) (qC (.int 0)))) (qgN 5) qYes (qOp opAdd (qVar 4) (qVar 5)))) (qgN 3)))
   (qFrz 3 (qAsg (qVar 3) (qgN 1)))))))
  (qRet (qVar 1)))))
def P__law_lines : PD := fun ds R => ∃ f : Fr, ds = [f.enc] ∧ FrOk f ∧ Small f ∧ R (.sh (.list ((linesK f f.n).map .str)))
def isL (s : Sl) (ds : List D) : Prop := s = .sh (.list ds) ∨ s = .ow (.l ds)
theorem moreL_snoc (f : Fr) (a : List Str) (l : Str) : moreL f (a ++ [l]) = moreL f a ++ (tl f.s).map fun c => l ++ ⟨#[c]⟩ := by
  unfold moreL
  simp
theorem pure__law_lines : ∀ ds R, ds.length = 1 → P__law_lines ds R → q__law_lines (endsOf R) (startEv 6 ds) := by
  rintro ds R - ⟨f, rfl, ok, sm, h⟩
  have hm2 := ok.m2
  have hm6 := sm.m6
  have hn := sm.n7
  have hms : f.m = f.s.length := rfl
  have hk : ∀ k, k ≤ f.n → (linesK f k).length ≤ 128 := fun k hk => by
    rw [linesK_len]
    exact Nat.le_trans (Nat.pow_le_pow_right (by omega) hk) sm.pw
  have hns : (f.c.headD []).length = f.n := rfl
  obtain ⟨r0, cs, hc, hr⟩ := ok.row0
  obtain ⟨s, c⟩ := f
  simp only at hc
  subst hc
  ac_rfl
  rw [List.length_map, hr]
  generalize hf : (⟨s, r0 :: cs⟩ : Fr) = f at *
  have hs : s = f.s := by rw [← hf]
  have hcD : List.map rowD (r0 :: cs) = f.c.map rowD := by rw [← hf]
  refine ⟨by omega, ?_⟩
  refine forGo_ok (fun i : Nat => .int (i : Int)) (fun r Γ => ∃ (k : Nat) (a b c : Sl), Γ = [.sh f.enc, .sh (.list ((linesK f k).map .str)), a, b, c, .un] ∧ k + r.length = f.n) ?_ ?_ (List.range f.n) _ ⟨0, .un, .un, .un, ?_, by simp⟩
  · rintro Γ ⟨k, a, b, c, rfl, hk2⟩
    have : k = f.n := by simpa using hk2
    subst this
    ac_rfl
    exact h
  · rintro i r Γ K ⟨k, a, b, c, rfl, hk2⟩ hK
    have hk3 := hk k (by simp at hk2; omega)
    have hk4 := hk (k + 1) (by simp at hk2; omega)
    ac_rfl
    refine forGo_ok PyData.str (fun r2 Γ => ∃ (dn : List Str) (s3 a c : Sl), Γ = [.sh f.enc, .sh (.list ((linesK f k).map .str)), a, s3, c, .un] ∧ dn ++ r2 = linesK f k ∧ isL s3 ((moreL f dn).map .str)) ?_ ?_ _ _ ⟨[], _, _, _, rfl, rfl, .inl rfl⟩
    · rintro Γ ⟨dn, s3, a, c, rfl, e, h3⟩
      have e : dn = linesK f k := by simpa using e
      subst e
      have fin : ∀ x y z, K [.sh f.enc, .sh (.list ((linesK f (k + 1)).map .str)), x, y, z, .un] := fun x y z => hK _ ⟨k + 1, _, _, _, rfl, by simp at hk2; omega⟩
      rcases h3 with rfl | rfl
      · ac_rfl
        exact fin _ _ _
      · ac_rfl
        exact fin _ _ _
    · rintro l r2 Γ K2 ⟨dn, s3, a, c, rfl, e, h3⟩ hK2
      have hl : l ∈ linesK f k := by rw [← e]; simp
      obtain ⟨ll, _⟩ := mem_linesK.mp hl
      have hlen : (moreL f dn).length + f.m ≤ 1000 := by
        have e2 := congrArg List.length e
        simp at e2
        rw [moreL_len]
        have : dn.length * f.m ≤ 127 * 6 := Nat.mul_le_mul (by omega) hm6
        omega
      have hkn : k < f.n := by simp at hk2; omega
      have step : ∀ Γ3 : Sl, isL Γ3 ((moreL f (dn ++ [l])).map .str) → ∀ x y, K2 [.sh f.enc, .sh (.list ((linesK f k).map .str)), x, Γ3, y, .un] := fun s3 h3 x y => hK2 _ ⟨dn ++ [l], s3, _, _, rfl, by rw [← e]; simp, h3⟩
      have hml : (moreL f (dn ++ [l])).map PyData.str = (moreL f dn).map PyData.str ++ (tl f.s).map fun c => PyData.str (l ++ ⟨#[c]⟩) := by
        rw [moreL_snoc, List.map_append, List.map_map]
        rfl
      rcases h3 with rfl | rfl
      · have fin := fun x y => step (.ow (.l ((moreL f (dn ++ [l])).map .str))) (.inr rfl) x y
        rw [hml] at fin
        ac_rfl
        refine lc0_map (vs := [5]) signD (fun c => .str (l ++ ⟨#[c]⟩)) (tl f.s) (fun c hc acc K3 hacc hK3 => ?_) (by rw [tl_len]; exact small (by omega)) ?_
        · ac_rfl
          exact hK3
        · ac_rfl
          refine ⟨small (by rw [List.length_map, List.length_map, tl_len]; omega), ?_⟩
          exact fin _ _
      · have fin := fun x y => step (.ow (.l ((moreL f (dn ++ [l])).map .str))) (.inr rfl) x y
        rw [hml] at fin
        ac_rfl
        refine lc0_map (vs := [5]) signD (fun c => .str (l ++ ⟨#[c]⟩)) (tl f.s) (fun c hc acc K3 hacc hK3 => ?_) (by rw [tl_len]; exact small (by omega)) ?_
        · ac_rfl
          exact hK3
        · ac_rfl
          refine ⟨small (by rw [List.length_map, List.length_map, tl_len]; omega), ?_⟩
          exact fin _ _
  · rfl
end PL

namespace PL
open PySem PySem.Spec PyProof.Rows L2
section
variable {f : Fr}
theorem app_sign_inj {l l' : Str} {c c' : Nat} (h : l ++ (⟨#[c]⟩ : Str) = l' ++ ⟨#[c']⟩) : l = l' ∧ c = c' := by
  have h2 := congrArg tl h
  rw [tl_sign, tl_sign] at h2
  have := List.append_inj' h2 rfl
  exact ⟨str_ext this.1, by simpa using this.2⟩
theorem linesK_nodup (ok : FrOk f) : ∀ k, (linesK f k).Nodup
  | 0 => by simp [linesK]
  | k + 1 => by
    have ih := linesK_nodup ok k
    show (moreL f (linesK f k)).Nodup
    unfold moreL
    rw [List.Nodup, List.pairwise_flatten]
    refine ⟨fun l hl => ?_, ?_⟩
    · obtain ⟨x, _, rfl⟩ := List.mem_map.mp hl
      rw [List.pairwise_map]
      exact ok.nd.imp fun hne e => hne (app_sign_inj e).2
    · rw [List.pairwise_map]
      refine ih.imp fun hne x hx y hy e => ?_
      obtain ⟨c, _, rfl⟩ := List.mem_map.mp hx
      obtain ⟨d, _, rfl⟩ := List.mem_map.mp hy
      exact hne (app_sign_inj e).1
def goodL (f : Fr) : List Str := (linesK f f.n).filter fun x => isGood f x
theorem goodL_nodup (ok : FrOk f) : (goodL f).Nodup := (linesK_nodup ok _).sublist List.filter_sublist
theorem mem_goodL {x : Str} : x ∈ goodL f ↔ isGood f x = true := by
  unfold goodL
  rw [List.mem_filter, mem_linesK]
  exact ⟨fun h => h.2, fun h => ⟨isGood_in h, h⟩⟩

/-! ### tallies -/
abbrev Tl := List (List Int × Nat)
def tot : Tl → List Int → Nat
  | [], _ => 0
  | e :: r, t => (if e.1 = t then e.2 else 0) + tot r t
def sumW : Tl → (List Int → Bool) → Nat
  | [], _ => 0
  | e :: r, P => (if P e.1 = true then e.2 else 0) + sumW r P
def vl : Tl → List Int → Nat
  | [], _ => 0
  | e :: r, k => if e.1 = k then e.2 else vl r k
def putT : Tl → List Int → Nat → Tl
  | [], k, v => [(k, v)]
  | e :: r, k, v => if e.1 = k then (k, v) :: r else e :: putT r k v
def keysT (ts : Tl) : List (List Int) := ts.map (·.1)
theorem tot_notin {t : List Int} : ∀ {ts : Tl}, t ∉ keysT ts → tot ts t = 0
  | [], _ => rfl
  | e :: r, h => by
    have h1 : e.1 ≠ t := fun z => h (by simp [keysT, z])
    have h2 : t ∉ keysT r := fun z => h (List.mem_cons_of_mem _ z)
    simp [tot, h1, tot_notin h2]
theorem vl_tot {k : List Int} : ∀ {ts : Tl}, (keysT ts).Nodup → vl ts k = tot ts k
  | [], _ => rfl
  | e :: r, h => by
    have h := List.nodup_cons.mp (show (e.1 :: keysT r).Nodup from h)
    by_cases z : e.1 = k
    · subst z
      simp [vl, tot, tot_notin h.1]
    · simp [vl, tot, z, vl_tot h.2]
theorem tot_put {k t : List Int} {v : Nat} : ∀ {ts : Tl}, (keysT ts).Nodup → tot (putT ts k v) t = if k = t then v else tot ts t
  | [], _ => by
    by_cases z : k = t <;> simp [putT, tot, z]
  | e :: r, h => by
    have h := List.nodup_cons.mp (show (e.1 :: keysT r).Nodup from h)
    by_cases z : e.1 = k
    · by_cases y : k = t
      · subst y
        simp [putT, tot, z, tot_notin (z ▸ h.1)]
      · simp [putT, tot, z, y]
    · by_cases y : k = t
      · subst y
        simp [putT, tot, z, tot_put h.2]
      · simp [putT, tot, z, y, tot_put h.2]
theorem keys_put {k : List Int} {v : Nat} : ∀ {ts : Tl}, keysT (putT ts k v) = if k ∈ keysT ts then keysT ts else keysT ts ++ [k]
  | [] => by simp [putT, keysT]
  | e :: r => by
    have ih := keys_put (k := k) (v := v) (ts := r)
    by_cases z : e.1 = k
    · subst z
      simp [putT, keysT]
    · have z' : k ≠ e.1 := fun y => z y.symm
      simp only [putT, z, if_false]
      show e.1 :: keysT (putT r k v) = _
      rw [ih]
      by_cases y : k ∈ keysT r
      · have m : k ∈ keysT (e :: r) := List.mem_cons_of_mem _ y
        rw [if_pos y, if_pos m]
        rfl
      · have m : k ∉ keysT (e :: r) := fun q => by
          rcases List.mem_cons.mp (show k ∈ e.1 :: keysT r from q) with q | q
          · exact z' q
          · exact y q
        rw [if_neg y, if_neg m]
        rfl
theorem nd_put {ts : Tl} {k : List Int} {v : Nat} (h : (keysT ts).Nodup) : (keysT (putT ts k v)).Nodup := by
  rw [keys_put]
  split
  · exact h
  · rename_i z
    rw [List.nodup_append]
    exact ⟨h, by simp, fun a ha b hb e => z (by simp at hb; rw [← hb, ← e]; exact ha)⟩
theorem mem_put {k : List Int} {v : Nat} {e : List Int × Nat} : ∀ {ts : Tl}, e ∈ putT ts k v → e ∈ ts ∨ e = (k, v)
  | [], h => .inr (by simpa [putT] using h)
  | d :: r, h => by
    unfold putT at h
    split at h
    · rcases List.mem_cons.mp h with h | h
      · exact .inr h
      · exact .inl (List.mem_cons_of_mem _ h)
    · rcases List.mem_cons.mp h with h | h
      · exact .inl (h ▸ List.mem_cons_self)
      · exact (mem_put h).imp (List.mem_cons_of_mem _) id
def bump (ts : Tl) (k : List Int) (c : Nat) : Tl := putT ts k (vl ts k + c)
theorem tot_bump {ts : Tl} {k t : List Int} {c : Nat} (h : (keysT ts).Nodup) : tot (bump ts k c) t = tot ts t + if k = t then c else 0 := by
  unfold bump
  rw [tot_put h, vl_tot h]
  split
  · rename_i z
    rw [z]
  · rfl
def cnt (L : List (List Int)) (t : List Int) : Nat := L.countP fun x => x == t
structure Tally (ts : Tl) (L : List (List Int)) : Prop where
  nd : (keysT ts).Nodup
  pos : ∀ e ∈ ts, 0 < e.2
  eq : ∀ t, tot ts t = cnt L t
theorem countP_split (k : List Int) (P : List Int → Bool) : ∀ L : List (List Int), L.countP P = (L.filter fun x => x != k).countP P + if P k = true then cnt L k else 0
  | [] => by simp [cnt]
  | x :: r => by
    have ih := countP_split k P r
    by_cases z : x = k
    · subst z
      simp only [List.countP_cons, cnt, bne_self_eq_false, Bool.false_eq_true, not_false_eq_true, List.filter_cons_of_neg, beq_self_eq_true, if_true] at ih ⊢
      rw [ih]
      by_cases y : P x = true
      · simp [y]; omega
      · simp [y]
    · have b : (x != k) = true := by simpa using z
      have b2 : (x == k) = false := by simpa using z
      rw [List.filter_cons_of_pos (by simpa using z)]
      simp only [List.countP_cons, cnt, b2, Bool.false_eq_true, if_false] at ih ⊢
      rw [ih]
      by_cases y : P k = true
      · simp only [y, if_true]
        omega
      · rw [if_neg y, if_neg y]
        omega
theorem cnt_filter_ne {L : List (List Int)} {k t : List Int} (h : t ≠ k) : cnt (L.filter fun x => x != k) t = cnt L t := by
  unfold cnt
  rw [List.countP_filter]
  apply List.countP_congr
  intro x _
  simp only [Bool.and_eq_true, beq_iff_eq, bne_iff_ne]
  exact ⟨fun z => z.1, fun z => ⟨z, by rw [z]; exact h⟩⟩
theorem cnt_filter_self {L : List (List Int)} {k : List Int} : cnt (L.filter fun x => x != k) k = 0 := by
  unfold cnt
  rw [List.countP_eq_zero]
  intro x hx
  have := (List.mem_filter.mp hx).2
  simpa using this
theorem sumW_count {P : List Int → Bool} : ∀ {ts : Tl} {L : List (List Int)}, Tally ts L → sumW ts P = L.countP P
  | [], L, h => by
    cases L with
    | nil => rfl
    | cons a r =>
      have := h.eq a
      simp [tot, cnt] at this
  | e :: r, L, h => by
    have hn := List.nodup_cons.mp (show (e.1 :: keysT r).Nodup from h.nd)
    have h' : Tally r (L.filter fun x => x != e.1) := ⟨hn.2, fun d hd => h.pos d (List.mem_cons_of_mem _ hd), fun t => by
      by_cases z : t = e.1
      · subst z
        rw [tot_notin hn.1, cnt_filter_self]
      · rw [cnt_filter_ne z, ← h.eq t]
        have : e.1 ≠ t := fun y => z y.symm
        simp [tot, this]⟩
    have he : e.2 = cnt L e.1 := by
      rw [← h.eq]
      simp [tot, tot_notin hn.1]
    rw [countP_split e.1 P L, ← sumW_count h', ← he]
    show (if P e.1 = true then e.2 else 0) + sumW r P = _
    omega
theorem mem_keys {ts : Tl} {L : List (List Int)} (h : Tally ts L) {t : List Int} : t ∈ keysT ts ↔ t ∈ L := by
  have h1 : t ∈ L ↔ 0 < cnt L t := by
    unfold cnt
    rw [List.countP_pos_iff]
    simp
  rw [h1, ← h.eq]
  constructor
  · intro hm
    obtain ⟨e, he, rfl⟩ := List.mem_map.mp hm
    have := h.pos e he
    have hle : ∀ {ts : Tl}, e ∈ ts → e.2 ≤ tot ts e.1 := by
      intro ts
      induction ts with
      | nil => intro h; cases h
      | cons d r ih =>
        intro h
        rcases List.mem_cons.mp h with h | h
        · subst h
          simp [tot]
        · have := ih h
          show e.2 ≤ _ + tot r e.1
          omega
    have := hle he
    omega
  · intro hp
    exact Classical.byContradiction fun hn => by
      rw [tot_notin hn] at hp
      omega
theorem nodup_le {α : Type} [DecidableEq α] : ∀ {l l' : List α}, l.Nodup → (∀ x ∈ l, x ∈ l') → l.length ≤ l'.length
  | [], _, _, _ => Nat.zero_le _
  | a :: r, l', h, hs => by
    have h := List.nodup_cons.mp h
    have ha := hs a (by simp)
    have := nodup_le (l := r) (l' := l'.erase a) h.2 fun x hx => (List.mem_erase_of_ne fun z => h.1 (by rw [← z]; exact hx)).mpr (hs x (List.mem_cons_of_mem _ hx))
    rw [List.length_erase_of_mem ha] at this
    have := List.length_pos_of_mem ha
    simp only [List.length_cons]
    omega
/-! ### suffixes -/
def allW (f : Fr) : Option Nat → List Nat
  | none => List.range f.m
  | some c => [idx f c]
def sufs (f : Fr) : List (Option Nat) → List (List Nat)
  | [] => [[]]
  | p :: r => (allW f p).flatMap fun w => (sufs f r).map (w :: ·)
def sumS (f : Fr) (q : Nat) (ws : List Nat) : List Int := f.c.map fun r => dotI (r.drop q) ws % (f.m : Int)
def SL (f : Fr) (q : Nat) (ps : List (Option Nat)) : List (List Int) := (sufs f ps).map (sumS f q)
theorem dotI_nil : ∀ r : List Int, dotI r [] = 0
  | [] => rfl
  | _ :: _ => rfl
theorem sumS_nil (q : Nat) : sumS f q [] = zerosL f := by
  unfold sumS zerosL
  simp only [dotI_nil, Int.zero_emod, List.map_const']
theorem addL_map (A B : List Int → Int) : addL f (f.c.map A) (f.c.map B) = f.c.map fun r => (A r + B r) % (f.m : Int) := by
  unfold addL
  rw [List.zip_map', List.map_map]
  rfl
theorem sumS_cons (ok : FrOk f) {q w : Nat} (hq : q < f.n) (r : List Nat) : sumS f q (w :: r) = addL f (mark f q w) (sumS f (q + 1) r) := by
  unfold mark sumS
  rw [addL_map]
  apply List.map_congr_left
  intro row hr
  have hl := ok.rows row hr
  have e : row[q]? = some row[q] := List.getElem?_eq_getElem (by omega)
  rw [e, List.drop_eq_getElem_cons (by omega), ← Int.add_emod]
  rfl
theorem SL_cons (ok : FrOk f) {q : Nat} (hq : q < f.n) (p : Option Nat) (r : List (Option Nat)) : SL f q (p :: r) = (allW f p).flatMap fun w => (SL f (q + 1) r).map (addL f (mark f q w)) := by
  unfold SL
  simp only [sufs, List.map_flatMap, List.map_map]
  congr 1
  funext w
  apply List.map_congr_left
  intro s _
  exact sumS_cons ok hq s
theorem rem_sumS (x : Str) : rem f x = sumS f 0 (worths f x) := rfl
def lineOf (f : Fr) (ws : List Nat) : Str := ⟨(ws.map (sgn f)).toArray⟩
theorem tl_lineOf (ws : List Nat) : tl (lineOf f ws) = ws.map (sgn f) := rfl
theorem lineOf_len (ws : List Nat) : (lineOf f ws).length = ws.length := by
  rw [← tl_len, tl_lineOf, List.length_map]
theorem tl_range (f : Fr) : tl f.s = (List.range f.m).map (sgn f) := by
  apply List.ext_getElem?
  intro i
  rw [List.getElem?_map]
  by_cases h : i < f.m
  · rw [List.getElem?_range h, sgn_get h]
    rfl
  · rw [List.getElem?_eq_none (by rw [tl_len]; exact Nat.le_of_not_lt h), List.getElem?_eq_none (by simpa using h)]
    rfl
theorem worths_lineOf (ok : FrOk f) {ws : List Nat} (h : ∀ w ∈ ws, w < f.m) : worths f (lineOf f ws) = ws := by
  unfold worths
  rw [tl_lineOf, List.map_map]
  conv => rhs; rw [← List.map_id ws]
  apply List.map_congr_left
  intro w hw
  exact idx_sgn ok (h w hw)
def PsOk (f : Fr) (ps : List (Option Nat)) : Prop := ∀ p ∈ ps, ∀ c, p = some c → c ∈ tl f.s
theorem allW_lt {p : Option Nat} (h : ∀ c, p = some c → c ∈ tl f.s) {w : Nat} (hw : w ∈ allW f p) : w < f.m := by
  cases p with
  | none => simpa [allW] using hw
  | some c =>
    have : w = idx f c := by simpa [allW] using hw
    rw [this]
    exact idx_lt (h c rfl)
theorem sufs_ok : ∀ {ps : List (Option Nat)}, PsOk f ps → ∀ s ∈ sufs f ps, s.length = ps.length ∧ ∀ w ∈ s, w < f.m
  | [], _, s, h => by
    have : s = [] := by simpa [sufs] using h
    subst this
    simp
  | p :: r, hp, s, h => by
    simp only [sufs, List.mem_flatMap, List.mem_map] at h
    obtain ⟨w, hw, s', hs, rfl⟩ := h
    have ih := sufs_ok (ps := r) (fun q hq => hp q (List.mem_cons_of_mem _ hq)) s' hs
    refine ⟨by simp [ih.1], fun v hv => ?_⟩
    rcases List.mem_cons.mp hv with rfl | hv
    · exact allW_lt (hp p List.mem_cons_self) hw
    · exact ih.2 v hv
def noneL (n : Nat) : List (Option Nat) := List.replicate n none
def linesW (f : Fr) (n : Nat) : List (List Nat) := sufs f (noneL n)
theorem linesW_snoc : ∀ n, linesW f (n + 1) = (linesW f n).flatMap fun l => (List.range f.m).map fun c => l ++ [c]
  | 0 => by simp [linesW, noneL, sufs, allW, List.flatMap_singleton', List.map_eq_flatMap]
  | n + 1 => by
    have ih := linesW_snoc n
    have e : ∀ k, linesW f (k + 1) = (List.range f.m).flatMap fun w => (linesW f k).map (w :: ·) := fun k => rfl
    have e2 : (linesW f (n + 1)).flatMap (fun l => (List.range f.m).map fun c => l ++ [c]) = (List.range f.m).flatMap fun w => (linesW f n).flatMap fun l => (List.range f.m).map fun c => w :: l ++ [c] := by
      rw [e n, List.flatMap_assoc]
      congr 1
      funext w
      rw [List.flatMap_map]
    rw [e2, e (n + 1), ih]
    congr 1
    funext w
    rw [List.map_flatMap]
    congr 1
    funext l
    rw [List.map_map]
    rfl
theorem lines_eq : ∀ n, linesK f n = (linesW f n).map (lineOf f)
  | 0 => rfl
  | n + 1 => by
    rw [linesW_snoc]
    show moreL f (linesK f n) = _
    rw [lines_eq n]
    unfold moreL
    rw [List.map_map, List.map_flatMap, List.flatMap_def]
    congr 1
    apply List.map_congr_left
    intro l _
    rw [tl_range, List.map_map, Function.comp_apply, List.map_map]
    apply List.map_congr_left
    intro c _
    refine str_ext ?_
    rw [Function.comp_apply, tl_sign, Function.comp_apply, tl_lineOf, tl_lineOf]
    simp
/-! ### fitting -/
def fit1 (f : Fr) : Option Nat → Nat → Bool
  | none, _ => true
  | some c, w => w == idx f c
def fitW (f : Fr) : List (Option Nat) → List Nat → Bool
  | p :: ps, w :: ws => fit1 f p w && fitW f ps ws
  | _, _ => true
theorem allW_filter {p : Option Nat} (h : ∀ c, p = some c → c ∈ tl f.s) : allW f p = (List.range f.m).filter (fit1 f p) := by
  cases p with
  | none => exact (List.filter_eq_self.mpr fun _ _ => rfl).symm
  | some c => exact (filter_one f.m (idx f c) (idx_lt (h c rfl))).symm
theorem flatMap_filter {α β : Type} (q : α → Bool) (g : α → List β) : ∀ l : List α, (l.filter q).flatMap g = l.flatMap fun a => if q a = true then g a else []
  | [] => rfl
  | a :: r => by
    have ih := flatMap_filter q g r
    by_cases z : q a = true
    · rw [List.filter_cons_of_pos z, List.flatMap_cons, List.flatMap_cons, ih, if_pos z]
    · rw [List.filter_cons_of_neg z, List.flatMap_cons, ih, if_neg z]
      rfl
theorem sufs_filter : ∀ {ps : List (Option Nat)}, PsOk f ps → sufs f ps = (linesW f ps.length).filter (fitW f ps)
  | [], _ => rfl
  | p :: r, hp => by
    have ih := sufs_filter (ps := r) fun q hq => hp q (List.mem_cons_of_mem _ hq)
    have e : linesW f ((p :: r).length) = (List.range f.m).flatMap fun w => (linesW f r.length).map (w :: ·) := rfl
    rw [e, List.filter_flatMap]
    show (allW f p).flatMap (fun w => (sufs f r).map (w :: ·)) = _
    rw [allW_filter (hp p List.mem_cons_self), flatMap_filter, ih]
    congr 1
    funext w
    rw [List.filter_map]
    split
    · rename_i z
      congr 1
      apply List.filter_congr
      intro s _
      simp [fitW, z]
    · rename_i z
      rw [List.filter_eq_nil_iff.mpr fun s _ => by simp [fitW, z]]
      rfl
end
end PL

namespace PL
open PySem PySem.Spec PyProof.Rows L2
section
variable {f : Fr}
/-! ### tuples of remainders -/
def InBox (f : Fr) (k : List Int) : Prop := k.length = f.c.length ∧ ∀ x ∈ k, 0 ≤ x ∧ x < (f.m : Int)
def boxes (m : Nat) : Nat → List (List Int)
  | 0 => [[]]
  | c + 1 => (List.range m).flatMap fun a : Nat => (boxes m c).map ((a : Int) :: ·)
theorem flatMap_len {α β : Type} (g : α → List β) (n : Nat) : ∀ l : List α, (∀ a ∈ l, (g a).length = n) → (l.flatMap g).length = l.length * n
  | [], _ => by simp
  | a :: r, h => by
    have ih := flatMap_len g n r fun b hb => h b (List.mem_cons_of_mem _ hb)
    rw [List.flatMap_cons, List.length_append, ih, h a (by simp), List.length_cons, Nat.add_mul]
    omega
theorem boxes_len (m : Nat) : ∀ c, (boxes m c).length = m ^ c
  | 0 => rfl
  | c + 1 => by
    show ((List.range m).flatMap _).length = _
    rw [flatMap_len _ (m ^ c) _ fun a _ => by rw [List.length_map, boxes_len m c], List.length_range, Nat.pow_succ, Nat.mul_comm]
theorem mem_boxes {m : Nat} : ∀ {c : Nat} {k : List Int}, k.length = c → (∀ x ∈ k, 0 ≤ x ∧ x < (m : Int)) → k ∈ boxes m c
  | 0, k, h, _ => by
    have : k = [] := List.eq_nil_of_length_eq_zero h
    simp [boxes, this]
  | c + 1, [], h, _ => by simp at h
  | c + 1, x :: r, h, hx => by
    have ih := mem_boxes (m := m) (c := c) (k := r) (by simpa using h) fun y hy => hx y (List.mem_cons_of_mem _ hy)
    have h0 := hx x (by simp)
    simp only [boxes, List.mem_flatMap, List.mem_map, List.mem_range]
    exact ⟨x.toNat, by omega, r, ih, by rw [Int.toNat_of_nonneg h0.1]⟩
theorem box_le (ok : FrOk f) {l : List (List Int)} (hn : l.Nodup) (hb : ∀ k ∈ l, InBox f k) : l.length ≤ 64000 := by
  have h := nodup_le (l' := boxes f.m f.c.length) hn fun k hk => mem_boxes (hb k hk).1 (hb k hk).2
  rw [boxes_len] at h
  have h1 : f.m ^ f.c.length ≤ 40 ^ f.c.length := Nat.pow_le_pow_left ok.m1 _
  have h2 : 40 ^ f.c.length ≤ 40 ^ 3 := Nat.pow_le_pow_right (by decide) ok.c2
  have : (40 : Nat) ^ 3 = 64000 := by decide
  omega
theorem add_box (ok : FrOk f) {a b : List Int} (ha : a.length = f.c.length) (hb : b.length = f.c.length) : InBox f (addL f a b) := by
  have hm := ok.m2
  refine ⟨by unfold addL; simp [ha, hb], fun x hx => ?_⟩
  obtain ⟨p, _, rfl⟩ := List.mem_map.mp hx
  exact ⟨Int.emod_nonneg _ (by omega), Int.emod_lt_of_pos _ (by omega)⟩
theorem zeros_box (ok : FrOk f) : InBox f (zerosL f) := by
  have hm := ok.m2
  refine ⟨by simp [zerosL], fun x hx => ?_⟩
  have := List.eq_of_mem_replicate hx
  omega
theorem mark_len (p d : Nat) : (mark f p d).length = f.c.length := by simp [mark]
theorem sumS_box (ok : FrOk f) (q : Nat) (ws : List Nat) : InBox f (sumS f q ws) := by
  have hm := ok.m2
  refine ⟨by simp [sumS], fun x hx => ?_⟩
  obtain ⟨p, _, rfl⟩ := List.mem_map.mp hx
  exact ⟨Int.emod_nonneg _ (by omega), Int.emod_lt_of_pos _ (by omega)⟩
theorem zip_ext {g h : Int × Int → Int} : ∀ (a b : List Int), (∀ p ∈ a.zip b, g p = h p) → (a.zip b).map g = (a.zip b).map h := fun a b hp => List.map_congr_left hp
theorem add_comm' (a b : List Int) : addL f a b = addL f b a := by
  unfold addL
  induction a generalizing b with
  | nil => cases b <;> rfl
  | cons x a ih =>
    cases b with
    | nil => rfl
    | cons y b =>
      simp only [List.zip_cons_cons, List.map_cons]
      rw [ih b, Int.add_comm]
theorem add_assoc' (a b c : List Int) : addL f (addL f a b) c = addL f a (addL f b c) := by
  unfold addL
  induction a generalizing b c with
  | nil => rfl
  | cons x a ih =>
    cases b with
    | nil => rfl
    | cons y b =>
      cases c with
      | nil => rfl
      | cons z c =>
        simp only [List.zip_cons_cons, List.map_cons]
        rw [ih b c]
        congr 1
        rw [Int.emod_add_emod, Int.add_emod_emod, Int.add_assoc]
theorem zero_add' : ∀ {n : Nat} {a : List Int}, a.length = n → (∀ x ∈ a, 0 ≤ x ∧ x < (f.m : Int)) → addL f (List.replicate n 0) a = a
  | 0, a, h, _ => by
    have : a = [] := List.eq_nil_of_length_eq_zero h
    subst this
    rfl
  | n + 1, [], h, _ => by simp at h
  | n + 1, x :: a, h, hx => by
    have ih := zero_add' (n := n) (a := a) (by simpa using h) fun y hy => hx y (List.mem_cons_of_mem _ hy)
    unfold addL at ih ⊢
    simp only [List.replicate_succ, List.zip_cons_cons, List.map_cons]
    rw [ih]
    have := hx x (by simp)
    rw [Int.zero_add, Int.emod_eq_of_lt this.1 this.2]
theorem zero_add {a : List Int} (h : InBox f a) : addL f (zerosL f) a = a := zero_add' h.1 h.2
def negL (f : Fr) (a : List Int) : List Int := a.map fun x => (-x) % (f.m : Int)
theorem neg_iff : ∀ {n : Nat} {a b : List Int}, a.length = n → b.length = n → (∀ x ∈ b, 0 ≤ x ∧ x < (f.m : Int)) → (addL f a b = List.replicate n 0 ↔ b = negL f a)
  | 0, a, b, h, h2, _ => by
    have e1 : a = [] := List.eq_nil_of_length_eq_zero h
    have e2 : b = [] := List.eq_nil_of_length_eq_zero h2
    subst e1 e2
    simp [addL, negL]
  | n + 1, [], _, h, _, _ => by simp at h
  | n + 1, _ :: _, [], _, h, _ => by simp at h
  | n + 1, x :: a, y :: b, h, h2, hx => by
    have ih := neg_iff (n := n) (a := a) (b := b) (by simpa using h) (by simpa using h2) fun y hy => hx y (List.mem_cons_of_mem _ hy)
    have hy := hx y (by simp)
    unfold addL negL at ih ⊢
    simp only [List.replicate_succ, List.zip_cons_cons, List.map_cons, List.cons.injEq, ih]
    refine and_congr ?_ Iff.rfl
    constructor
    · intro e
      have : ((x + y) - x) % (f.m : Int) = (0 - x) % (f.m : Int) := by
        rw [Int.sub_emod, e]
        conv => rhs; rw [Int.sub_emod]
        simp
      rw [show x + y - x = y by omega, show 0 - x = -x by omega] at this
      rw [← this, Int.emod_eq_of_lt hy.1 hy.2]
    · intro e
      rw [e, Int.add_emod_emod, Int.add_right_neg, Int.zero_emod]
theorem due_iff {a b : List Int} (ha : a.length = f.c.length) (hb : InBox f b) : addL f a b = zerosL f ↔ b = negL f a := neg_iff ha hb.1 hb.2
/-! ### the first completion -/
def goodFrom (f : Fr) (q : Nat) (done : List Int) (s : List Nat) : Bool := addL f done (sumS f q s) == zerosL f
def firstW (f : Fr) (q : Nat) (ps : List (Option Nat)) (done : List Int) : Option (List Nat) := (sufs f ps).find? (goodFrom f q done)
theorem goodFrom_cons (ok : FrOk f) {q w : Nat} (hq : q < f.n) (done : List Int) (s : List Nat) : goodFrom f q done (w :: s) = goodFrom f (q + 1) (addL f done (mark f q w)) s := by
  unfold goodFrom
  rw [sumS_cons ok hq, add_assoc']
theorem firstW_cons (ok : FrOk f) {q : Nat} (hq : q < f.n) (p : Option Nat) (r : List (Option Nat)) (done : List Int) :
    firstW f q (p :: r) done = (allW f p).findSome? fun w => (firstW f (q + 1) r (addL f done (mark f q w))).map (w :: ·) := by
  unfold firstW
  show ((allW f p).flatMap fun w => (sufs f r).map (w :: ·)).find? _ = _
  rw [List.find?_flatMap]
  congr 1
  funext w
  rw [List.find?_map]
  congr 2
  funext s
  exact goodFrom_cons ok hq done s
theorem first_some (ok : FrOk f) {q : Nat} {r : List (Option Nat)} {done : List Int} (hd : done.length = f.c.length) : (firstW f q r done).isSome = true ↔ negL f done ∈ SL f q r := by
  unfold firstW SL
  rw [List.find?_isSome, List.mem_map]
  refine exists_congr fun s => and_congr_right fun _ => ?_
  unfold goodFrom
  rw [beq_iff_eq, due_iff hd (sumS_box ok q s)]
theorem find_head {α : Type} (p : α → Bool) : ∀ l : List α, l.find? p = (l.filter p).head?
  | [] => rfl
  | a :: r => by
    have ih := find_head p r
    by_cases h : p a = true
    · rw [List.find?_cons_of_pos h, List.filter_cons_of_pos h]
      rfl
    · rw [List.find?_cons_of_neg h, List.filter_cons_of_neg h, ih]
/-! ### sums of lines: each remainder as often -/
def addW (m : Nat) : List Nat → List Nat → List Nat
  | x :: a, y :: b => ((x + y) % m) :: addW m a b
  | _, _ => []
def negW (m : Nat) (a : List Nat) : List Nat := a.map fun x => (m - x) % m
theorem addW_len : ∀ {a b : List Nat} {m n : Nat}, a.length = n → b.length = n → (addW m a b).length = n
  | [], [], m, n, h, _ => h
  | [], _ :: _, m, n, h, h2 => by simp at h h2; omega
  | _ :: _, [], m, n, h, h2 => by simp at h h2; omega
  | x :: a, y :: b, m, n, h, h2 => by
    cases n with
    | zero => simp at h
    | succ n =>
      have := addW_len (m := m) (a := a) (b := b) (n := n) (by simpa using h) (by simpa using h2)
      simp [addW, this]
theorem addW_lt {m : Nat} (hm : 0 < m) : ∀ {a b : List Nat}, ∀ w ∈ addW m a b, w < m
  | [], [], w, h => by simp [addW] at h
  | [], _ :: _, w, h => by simp [addW] at h
  | _ :: _, [], w, h => by simp [addW] at h
  | x :: a, y :: b, w, h => by
    simp only [addW, List.mem_cons] at h
    rcases h with rfl | h
    · exact Nat.mod_lt _ hm
    · exact addW_lt hm w h
theorem dot_addW {m : Nat} : ∀ (r : List Int) (a b : List Nat), a.length = b.length → dotI r (addW m a b) % (m : Int) = (dotI r a + dotI r b) % (m : Int)
  | [], a, b, h => by cases a <;> cases b <;> simp [addW, dotI]
  | c :: r, [], [], h => by simp [addW, dotI]
  | c :: r, [], _ :: _, h => by simp at h
  | c :: r, _ :: _, [], h => by simp at h
  | c :: r, x :: a, y :: b, h => by
    have ih := dot_addW (m := m) r a b (by simpa using h)
    show (c * (((x + y) % m : Nat) : Int) + dotI r (addW m a b)) % (m : Int) = ((c * (x : Int) + dotI r a) + (c * (y : Int) + dotI r b)) % (m : Int)
    have e1 : (c * (((x + y) % m : Nat) : Int)) % (m : Int) = (c * (x : Int) + c * (y : Int)) % (m : Int) := by
      rw [Int.natCast_emod, Int.natCast_add, ← Int.mul_add, Int.mul_emod, Int.emod_emod_of_dvd _ (Int.dvd_refl _), ← Int.mul_emod]
    rw [Int.add_emod, e1, ih, ← Int.add_emod]
    congr 1
    omega
theorem sumS_addW {a b : List Nat} (h : a.length = b.length) : sumS f 0 (addW f.m a b) = addL f (sumS f 0 a) (sumS f 0 b) := by
  unfold sumS
  rw [addL_map]
  apply List.map_congr_left
  intro r _
  rw [List.drop_zero, dot_addW r a b h, ← Int.add_emod]
theorem addW_neg {m : Nat} : ∀ {a x : List Nat}, a.length = x.length → (∀ w ∈ x, w < m) → (∀ w ∈ a, w < m) → addW m a (addW m (negW m a) x) = x
  | [], [], _, _, _ => rfl
  | [], _ :: _, h, _, _ => by simp at h
  | _ :: _, [], h, _, _ => by simp at h
  | y :: a, z :: x, h, hx, ha => by
    have ih := addW_neg (m := m) (a := a) (x := x) (by simpa using h) (fun w hw => hx w (List.mem_cons_of_mem _ hw)) fun w hw => ha w (List.mem_cons_of_mem _ hw)
    unfold negW at ih ⊢
    simp only [List.map_cons, addW, ih]
    congr 1
    have h1 := hx z (by simp)
    have h2 := ha y (by simp)
    rw [Nat.mod_add_mod, Nat.add_mod_mod, show y + (m - y + z) = z + m by omega, Nat.add_mod_right, Nat.mod_eq_of_lt h1]
theorem neg_addW {m : Nat} : ∀ {a x : List Nat}, a.length = x.length → (∀ w ∈ x, w < m) → (∀ w ∈ a, w < m) → addW m (negW m a) (addW m a x) = x
  | [], [], _, _, _ => rfl
  | [], _ :: _, h, _, _ => by simp at h
  | _ :: _, [], h, _, _ => by simp at h
  | y :: a, z :: x, h, hx, ha => by
    have ih := neg_addW (m := m) (a := a) (x := x) (by simpa using h) (fun w hw => hx w (List.mem_cons_of_mem _ hw)) fun w hw => ha w (List.mem_cons_of_mem _ hw)
    unfold negW at ih ⊢
    simp only [List.map_cons, addW, ih]
    congr 1
    have h1 := hx z (by simp)
    have h2 := ha y (by simp)
    rw [Nat.mod_add_mod, Nat.add_mod_mod, show m - y + (y + z) = z + m by omega, Nat.add_mod_right, Nat.mod_eq_of_lt h1]
theorem ps_none (n : Nat) : PsOk f (noneL n) := fun p hp c e => by
  have := List.eq_of_mem_replicate hp
  rw [this] at e
  cases e
theorem mem_linesW {n : Nat} : ∀ {s : List Nat}, s ∈ linesW f n ↔ s.length = n ∧ ∀ w ∈ s, w < f.m := by
  induction n with
  | zero =>
    intro s
    constructor
    · intro h
      have : s = [] := by simpa [linesW, noneL, sufs] using h
      subst this
      simp
    · rintro ⟨h, _⟩
      have : s = [] := List.eq_nil_of_length_eq_zero h
      subst this
      simp [linesW, noneL, sufs]
  | succ n ih =>
    intro s
    have e : linesW f (n + 1) = (List.range f.m).flatMap fun w => (linesW f n).map (w :: ·) := rfl
    rw [e]
    simp only [List.mem_flatMap, List.mem_map, List.mem_range]
    constructor
    · rintro ⟨w, hw, s', hs, rfl⟩
      obtain ⟨h1, h2⟩ := ih.mp hs
      refine ⟨by simp [h1], fun v hv => ?_⟩
      rcases List.mem_cons.mp hv with rfl | hv
      · exact hw
      · exact h2 v hv
    · rintro ⟨h1, h2⟩
      cases s with
      | nil => simp at h1
      | cons w s => exact ⟨w, h2 w (by simp), s, ih.mpr ⟨by simpa using h1, fun v hv => h2 v (List.mem_cons_of_mem _ hv)⟩, rfl⟩
theorem linesW_nodup : ∀ n, (linesW f n).Nodup
  | 0 => by simp [linesW, noneL, sufs]
  | n + 1 => by
    have ih := linesW_nodup n
    have e : linesW f (n + 1) = (List.range f.m).flatMap fun w => (linesW f n).map (w :: ·) := rfl
    rw [e, List.flatMap_def, List.Nodup, List.pairwise_flatten]
    refine ⟨fun l hl => ?_, ?_⟩
    · obtain ⟨w, _, rfl⟩ := List.mem_map.mp hl
      rw [List.pairwise_map]
      exact ih.imp fun hne e => hne (List.cons.inj e).2
    · rw [List.pairwise_map]
      refine List.nodup_range.imp fun hne x hx y hy e => ?_
      obtain ⟨_, _, rfl⟩ := List.mem_map.mp hx
      obtain ⟨_, _, rfl⟩ := List.mem_map.mp hy
      exact hne (List.cons.inj e).1
theorem fib_le {α : Type} [DecidableEq α] {l : List α} (hn : l.Nodup) {p q : α → Bool} (g h : α → α) (hg : ∀ x ∈ l, p x = true → g x ∈ l ∧ q (g x) = true) (hi : ∀ x ∈ l, h (g x) = x) : (l.filter p).length ≤ (l.filter q).length := by
  have e : ((l.filter p).map g).length = (l.filter p).length := List.length_map _
  rw [← e]
  refine nodup_le ?_ ?_
  · rw [List.Nodup, List.pairwise_map]
    refine (hn.sublist List.filter_sublist).imp_of_mem ?_
    intro a b ha hb hne e
    have := congrArg h e
    rw [hi a (List.mem_filter.mp ha).1, hi b (List.mem_filter.mp hb).1] at this
    exact hne this
  · intro x hx
    obtain ⟨y, hy, rfl⟩ := List.mem_map.mp hx
    obtain ⟨h1, h2⟩ := List.mem_filter.mp hy
    exact List.mem_filter.mpr (hg y h1 h2)
theorem negW_ok {m : Nat} (hm : 0 < m) (a : List Nat) : ∀ w ∈ negW m a, w < m := by
  intro w hw
  obtain ⟨x, _, rfl⟩ := List.mem_map.mp hw
  exact Nat.mod_lt _ hm
theorem fib_eq (ok : FrOk f) {n : Nat} {a : List Nat} (ha : a ∈ linesW f n) : ((linesW f n).filter fun s => sumS f 0 s == sumS f 0 a).length = ((linesW f n).filter fun s => sumS f 0 s == zerosL f).length := by
  have hm : 0 < f.m := by have := ok.m2; omega
  obtain ⟨a1, a2⟩ := mem_linesW.mp ha
  have nl : (negW f.m a).length = n := by simp [negW, a1]
  have key : addL f (sumS f 0 (negW f.m a)) (sumS f 0 a) = zerosL f := by
    rw [← sumS_addW (by rw [nl, a1])]
    have e : addW f.m (negW f.m a) a = List.replicate n 0 := by
      clear ha
      induction a generalizing n with
      | nil => simp at a1; subst a1; rfl
      | cons x a ih =>
        cases n with
        | zero => simp at a1
        | succ n =>
          have := ih (n := n) (by simpa using a1) (fun w hw => a2 w (List.mem_cons_of_mem _ hw)) (by simp [negW] at nl ⊢; simpa using a1)
          have hx := a2 x (by simp)
          unfold negW at this ⊢
          simp only [List.map_cons, addW, this, List.replicate_succ]
          congr 1
          rw [Nat.mod_add_mod, show f.m - x + x = f.m by omega, Nat.mod_self]
    rw [e]
    unfold sumS zerosL
    rw [List.eq_replicate_iff]
    refine ⟨by simp, fun y hy => ?_⟩
    obtain ⟨r, _, rfl⟩ := List.mem_map.mp hy
    rw [dot_zero, Int.zero_emod]
  refine Nat.le_antisymm ?_ ?_
  · refine fib_le (linesW_nodup n) (addW f.m (negW f.m a)) (addW f.m a) (fun x hx hp => ?_) fun x hx => ?_
    · obtain ⟨x1, x2⟩ := mem_linesW.mp hx
      refine ⟨mem_linesW.mpr ⟨addW_len nl x1, addW_lt hm⟩, ?_⟩
      rw [sumS_addW (by rw [nl, x1]), eq_of_beq hp, key]
      simp
    · obtain ⟨x1, x2⟩ := mem_linesW.mp hx
      exact addW_neg (by rw [a1, x1]) x2 a2
  · refine fib_le (linesW_nodup n) (addW f.m a) (addW f.m (negW f.m a)) (fun x hx hp => ?_) fun x hx => ?_
    · obtain ⟨x1, x2⟩ := mem_linesW.mp hx
      refine ⟨mem_linesW.mpr ⟨addW_len a1 x1, addW_lt hm⟩, ?_⟩
      rw [sumS_addW (by rw [a1, x1]), eq_of_beq hp, add_comm', zero_add (sumS_box ok 0 a)]
      simp
    · obtain ⟨x1, x2⟩ := mem_linesW.mp hx
      exact neg_addW (by rw [a1, x1]) x2 a2
theorem parts_len {α : Type} (h : α → List Int) (c : Nat) : ∀ {ks : List (List Int)} {L : List α}, ks.Nodup → (∀ x ∈ L, h x ∈ ks) → (∀ k ∈ ks, (L.filter fun x => h x == k).length = c) → L.length = ks.length * c
  | [], L, _, h1, _ => by
    cases L with
    | nil => simp
    | cons x r => exact absurd (h1 x (by simp)) (by simp)
  | k :: ks, L, hn, h1, h2 => by
    have hn := List.nodup_cons.mp hn
    have ih := parts_len h c (ks := ks) (L := L.filter fun x => !(h x == k)) hn.2 (fun x hx => by
      obtain ⟨x1, x2⟩ := List.mem_filter.mp hx
      rcases List.mem_cons.mp (h1 x x1) with e | e
      · rw [e] at x2
        simp at x2
      · exact e) fun k' hk' => by
      rw [← h2 k' (List.mem_cons_of_mem _ hk'), List.filter_filter]
      congr 1
      apply List.filter_congr
      intro x _
      by_cases e : h x = k'
      · have : h x ≠ k := fun z => hn.1 (by rw [← z, e]; exact hk')
        simp [e, show k' ≠ k by rw [← e]; exact this]
      · simp [e]
    have e := h2 k (by simp)
    have hl : ∀ L : List α, L.length = (L.filter fun x => h x == k).length + (L.filter fun x => !(h x == k)).length := by
      intro L
      induction L with
      | nil => rfl
      | cons x r ih =>
        by_cases z : (h x == k) = true
        · rw [List.filter_cons_of_pos (p := fun x => h x == k) z, List.filter_cons_of_neg (p := fun x => !(h x == k)) (by simp [z])]
          simp only [List.length_cons]
          omega
        · rw [List.filter_cons_of_neg (p := fun x => h x == k) z, List.filter_cons_of_pos (p := fun x => !(h x == k)) (by simp [z])]
          simp only [List.length_cons]
          omega
    rw [hl L, e, ih, List.length_cons, Nat.add_mul]
    omega
end
end PL

namespace PL
open PySem PySem.Spec PyProof.Rows L2
local macro_rules | `(tactic| ac_rfl) => `(tactic| ((conv => whnf); repeat ((first | refine Cif.yes ?_ | refine Cif.no ?_ | (refine And.intro ?_ ?_; · first | (show _ ≤ (_ : Int); omega) | (show _ < (_ : Int); omega) | assumption | exact trivial | exact rfl | (refine small ?_; first | omega | (simp only [List.length_map, List.length_cons, List.length_nil, List.length_append]; omega)) | (refine ltsmall ?_; first | omega | (simp only [List.length_map, List.length_cons, List.length_nil, List.length_append]; omega)) | (refine cdiv ?_ ?_ <;> omega) | (refine cmulR ?_ ?_ <;> omega) | (refine cmulL ?_ ?_ <;> omega) | (refine ⟨?_, ?_, ?_, ?_⟩ <;> omega))); (conv => whnf))))
local macro_rules | `(tactic| exists $e) => `(tactic| first | exact $e | exact And.right $e | exact And.right (And.right $e) | exact And.right (And.right (And.right $e)))
/-! ### dicts of counts -/
def tD (ts : Tl) : List (D × D) := ts.map fun e => (tupI e.1, .int (e.2 : Int))
theorem find_tD (t : List Int) : ∀ ts : Tl, (tD ts).find? (fun p => PyData.eqv p.1 (tupI t)) = (ts.find? fun e => e.1 == t).map fun e => (tupI e.1, .int (e.2 : Int))
  | [] => rfl
  | e :: r => by
    have ih := find_tD t r
    unfold tD at ih ⊢
    simp only [List.map_cons, List.find?_cons, eqv_tupI]
    split
    · rfl
    · exact ih
theorem look_tD {ts : Tl} (h : (keysT ts).Nodup) (t : List Int) : lookD (tD ts) (tupI t) = if t ∈ keysT ts then some (.int (tot ts t : Nat)) else none := by
  unfold lookD
  rw [find_tD]
  induction ts with
  | nil => rfl
  | cons e r ih =>
    have hn := List.nodup_cons.mp (show (e.1 :: keysT r).Nodup from h)
    rw [List.find?_cons]
    by_cases z : e.1 = t
    · subst z
      have : e.1 ∈ keysT (e :: r) := List.mem_cons_self
      simp [this, tot, tot_notin hn.1]
    · have b : (e.1 == t) = false := by simpa using z
      rw [b]
      have e1 : (t ∈ keysT (e :: r)) = (t ∈ keysT r) := by
        refine propext ⟨fun q => ?_, fun q => List.mem_cons_of_mem _ q⟩
        rcases List.mem_cons.mp (show t ∈ e.1 :: keysT r from q) with q | q
        · exact absurd q.symm z
        · exact q
      simp only [e1, tot, z, if_false, Nat.zero_add]
      exact ih hn.2
theorem look_vl {ts : Tl} (h : (keysT ts).Nodup) (t : List Int) : (lookD (tD ts) (tupI t)).getD (.int 0) = .int (vl ts t : Nat) := by
  rw [look_tD h, vl_tot h]
  split
  · rfl
  · rename_i z
    rw [tot_notin z]
    rfl
theorem any_tD (t : List Int) : ∀ ts : Tl, ((tD ts).any fun p => PyData.eqv p.1 (tupI t)) = decide (t ∈ keysT ts)
  | [] => rfl
  | e :: r => by
    have ih := any_tD t r
    unfold tD at ih ⊢
    simp only [List.map_cons, List.any_cons, eqv_tupI, ih]
    show (e.1 == t || decide (t ∈ keysT r)) = decide (t ∈ e.1 :: keysT r)
    by_cases z : e.1 = t
    · subst z
      simp
    · have z' : t ≠ e.1 := fun y => z y.symm
      have b : (e.1 == t) = false := by simpa using z
      rw [b, Bool.false_or]
      simp [z']
theorem put_map (k : List Int) (v : Nat) : ∀ {ts : Tl}, (keysT ts).Nodup → k ∈ keysT ts → putT ts k v = ts.map fun e => if e.1 = k then (e.1, v) else e
  | [], _, h => by cases h
  | e :: r, h, hm => by
    have hn := List.nodup_cons.mp (show (e.1 :: keysT r).Nodup from h)
    by_cases z : e.1 = k
    · subst z
      simp only [putT, if_true, List.map_cons]
      congr 1
      conv => lhs; rw [← List.map_id r]
      apply List.map_congr_left
      intro d hd
      have : d.1 ≠ e.1 := fun y => hn.1 (by rw [← y]; exact List.mem_map.mpr ⟨d, hd, rfl⟩)
      simp [this]
    · have hm : k ∈ keysT r := by
        rcases List.mem_cons.mp (show k ∈ e.1 :: keysT r from hm) with q | q
        · exact absurd q.symm z
        · exact q
      simp only [putT, z, if_false, List.map_cons, put_map k v hn.2 hm]
theorem put_app (k : List Int) (v : Nat) : ∀ {ts : Tl}, k ∉ keysT ts → putT ts k v = ts ++ [(k, v)]
  | [], _ => rfl
  | e :: r, h => by
    have z : e.1 ≠ k := fun y => h (by rw [← y]; exact List.mem_cons_self)
    have h2 : k ∉ keysT r := fun y => h (List.mem_cons_of_mem _ y)
    simp [putT, z, put_app k v h2]
theorem put_tD {ts : Tl} (h : (keysT ts).Nodup) (k : List Int) (v : Nat) : putD (tD ts) (tupI k) (.int (v : Int)) = tD (putT ts k v) := by
  unfold putD
  rw [any_tD]
  by_cases z : k ∈ keysT ts
  · rw [if_pos (by simpa using z), put_map k v h z]
    unfold tD
    rw [List.map_map, List.map_map]
    apply List.map_congr_left
    intro e _
    simp only [Function.comp_apply, eqv_tupI]
    by_cases y : e.1 = k
    · simp [y]
    · simp [y]
  · rw [if_neg (by simpa using z), put_app k v z]
    simp [tD]
theorem kind_tD {ts : Tl} (h : ts ≠ []) : kindOf (tD ts) = some true := by
  cases ts with
  | nil => exact absurd rfl h
  | cons e r =>
    show (if keyK (tupI e.1) = true then some false else if keyT (tupI e.1) = true then some true else none) = _
    rw [if_neg (by simp [tupI, keyK]), if_pos (keyT_tupI _)]
theorem dict_ints : ∀ ns : List Int, PyData.hasDictAll (ns.map .int) = false
  | [] => by simp [PyData.hasDictAll]
  | n :: r => by simp [PyData.hasDictAll, PyData.hasDict, dict_ints r]
theorem dict_rows : ∀ c : List (List Int), PyData.hasDictAll (c.map rowD) = false
  | [] => by simp [PyData.hasDictAll]
  | r :: c => by simp [PyData.hasDictAll, rowD, PyData.hasDict, dict_ints r, dict_rows c]
theorem dict_enc (f : Fr) : f.enc.hasDict = false := by simp [Fr.enc, PyData.hasDict, PyData.hasDictAll, dict_rows]
theorem dict_tupI (a : List Int) : (tupI a).hasDict = false := by simp [tupI, PyData.hasDict, dict_ints]
theorem nod_tD (ts : Tl) : noDictV (tD ts) := by
  intro p hp
  obtain ⟨e, _, rfl⟩ := List.mem_map.mp hp
  rfl
theorem keyOk_tD (ts : Tl) : ∀ p ∈ tD ts, keyOkD p.1 := by
  intro p hp
  obtain ⟨e, _, rfl⟩ := List.mem_map.mp hp
  show ∀ k ∈ e.1.map PyData.int, _
  intro k hk
  obtain ⟨i, _, rfl⟩ := List.mem_map.mp hk
  trivial
def partD : Option Nat → D
  | none => .none
  | some c => signD c
theorem dict_part (p : Option Nat) : (partD p).hasDict = false := by cases p <;> rfl
def POk (f : Fr) (p : Option Nat) : Prop := ∀ c, p = some c → c ∈ tl f.s
-- allowed(frame, part) slots: 0=frame 1=part
def q_allowed : QS :=
  (qSeq (qIfS (qB (qOp opIs (qVar 1) (qC .none)))
   (qRet (qRgL1 (qUn opLen (qOp opIx (qVar 0) (qC (.int 0))))))
   qNext)
  (qRet (qLst (qCons (qM1 opIndex (qOp opIx (qVar 0) (qC (.int 0))) (qVar 1)) qNil))))
def P_allowed : PD := fun ds R => ∃ (f : Fr) (p : Option Nat), ds = [f.enc, partD p] ∧ FrOk f ∧ POk f p ∧ R (.ow (.l ((allW f p).map natD)))
theorem pure_allowed : ∀ ds R, ds.length = 2 → P_allowed ds R → q_allowed (endsOf R) (startEv 2 ds) := by
  rintro ds R - ⟨f, p, rfl, ok, hp, h⟩
  obtain ⟨s1, s2⟩ := ok.sl
  cases p with
  | none =>
    have e : (allW f none).map natD = rgD 0 (f.s.length : Int) := by
      show (List.range f.s.length).map natD = (List.range ((f.s.length : Int) - 0).toNat).map fun i : Nat => .int (0 + (i : Int))
      rw [show ((f.s.length : Int) - 0).toNat = f.s.length by omega]
      apply List.map_congr_left
      intro i _
      show PyData.int (i : Int) = .int (0 + (i : Int))
      rw [Int.zero_add]
    rw [e] at h
    ac_rfl
    exact h
  | some c =>
    have hc := hp c rfl
    ac_rfl
    rw [show List.idxOf? c f.s.cps.toList = some (idx f c) from idxOf?_mem hc]
    ac_rfl
    exact h
end PL

namespace PL
open PySem PySem.Spec PyProof.Rows L2
local macro_rules | `(tactic| ac_rfl) => `(tactic| ((conv => whnf); repeat ((first | refine Cif.yes ?_ | refine Cif.no ?_ | (refine And.intro ?_ ?_; · first | (show _ ≤ (_ : Int); omega) | (show _ < (_ : Int); omega) | assumption | exact trivial | exact rfl | (refine small ?_; first | omega | (simp only [List.length_map, List.length_cons, List.length_nil, List.length_append]; omega)) | (refine ltsmall ?_; first | omega | (simp only [List.length_map, List.length_cons, List.length_nil, List.length_append]; omega)) | (refine cdiv ?_ ?_ <;> omega) | (refine cmulR ?_ ?_ <;> omega) | (refine cmulL ?_ ?_ <;> omega) | (refine ⟨?_, ?_, ?_, ?_⟩ <;> omega))); (conv => whnf))))
local macro_rules | `(tactic| exists $e) => `(tactic| first | exact $e | exact And.right $e | exact And.right (And.right $e) | exact And.right (And.right (And.right $e)))
def entD (e : List Int × Nat) : D := .tuple [tupI e.1, .int (e.2 : Int)]
theorem pairs_tD (ts : Tl) : pairsD (tD ts) = ts.map entD := by
  unfold pairsD tD
  rw [List.map_map]
  rfl
theorem bump_tD {ts : Tl} (h : (keysT ts).Nodup) (k : List Int) (c : Nat) : putD (tD ts) (tupI k) (.int ((vl ts k : Nat) + (c : Int))) = tD (bump ts k c) := by
  rw [← Int.natCast_add]
  exact put_tD h k _
-- before_place(frame, place, part, tails) slots: 0=frame 1=place 2=part 3=tails 4=found 5=worth 6=here 7=tail 8=count 9=key
def q_before_place : QS :=
  (qSeq (qAsg (qOwn (.t [])) (qgN 4))
  (qSeq (qFor (qiL (qCall 2 P_allowed (qCons (qVar 0) (qCons (qVar 2) qNil)))) (qgN 5)
   (qSeq (qAsg (qCall 3 P_mark (qCons (qVar 0) (qCons (qVar 1) (qCons (qVar 5) qNil)))) (qgN 6))
   (qForIt 3 (qgTup 2 (qgCons (qgN 7) (qgCons (qgN 8) qgNil)))
    (qSeq (qAsg (qCall 3 P_added (qCons (qVar 0) (qCons (qVar 6) (qCons (qVar 7) qNil)))) (qgN 9))
    (qDPut 4 (qVar 9) (qOp opAdd (qGet2 (qVar 4) (qVar 9) (qC (.int 0))) (qVar 8)))))))
  (qRet (qVar 4))))
def P_before_place : PD := fun ds R => ∃ (f : Fr) (q : Nat) (p : Option Nat) (ts : Tl) (L : List (List Int)), ds = [f.enc, .int q, partD p, .dict (tD ts)] ∧ FrOk f ∧ q < f.n ∧ POk f p ∧ Tally ts L ∧ ts ≠ [] ∧ (∀ k ∈ L, InBox f k) ∧ ∀ ts' : Tl, Tally ts' ((allW f p).flatMap fun w => L.map (addL f (mark f q w))) → R (.ow (.t (tD ts')))
theorem pure_before_place : ∀ ds R, ds.length = 4 → P_before_place ds R → q_before_place (endsOf R) (startEv 10 ds) := by
  rintro ds R - ⟨f, q, p, ts, L, rfl, ok, hq, hp, tl, hne, hL, h⟩
  have hm := ok.m1
  have hbox : ∀ e ∈ ts, InBox f e.1 := fun e he => hL _ ((mem_keys tl).mp (List.mem_map.mpr ⟨e, he, rfl⟩))
  ac_rfl
  refine ⟨f, p, rfl, ok, hp, ?_⟩
  ac_rfl
  refine forGo_ok natD (fun r Γ => ∃ (acc : Tl) (dn : List Nat) (a b c d e : Sl), Γ = [.sh f.enc, .sh (.int q), .sh (partD p), .sh (.dict (tD ts)), .ow (.t (tD acc)), a, b, c, d, e] ∧ (slNoD c ∧ slNoD d ∧ slNoD e) ∧ dn ++ r = allW f p ∧ Tally acc (dn.flatMap fun w => L.map (addL f (mark f q w)))) ?_ ?_ _ _ ⟨[], [], _, _, _, _, _, rfl, ⟨trivial, trivial, trivial⟩, rfl, ⟨by simp [keysT], by simp, fun t => rfl⟩⟩
  · rintro Γ ⟨acc, dn, a, b, c, d, e, rfl, _, hdn, ht⟩
    have hdn : dn = allW f p := by simpa using hdn
    subst hdn
    ac_rfl
    exact h acc ht
  · rintro w r Γ K ⟨acc, dn, a, b, c, d, e, rfl, ⟨nc, nd, ne⟩, hdn, ht⟩ hK
    have hw : w ∈ allW f p := by rw [← hdn]; simp
    have hwm := allW_lt hp hw
    ac_rfl
    refine ⟨f, q, w, rfl, ok, hq, by omega, ?_⟩
    ac_rfl
    refine ⟨kind_tD hne, ⟨dict_enc f, rfl, dict_part p, nod_tD acc, rfl, dict_tupI _, nc, nd, ne, trivial⟩, nod_tD ts, keyOk_tD ts, fun ad => ?_⟩
    rw [pairs_tD]
    refine forGo_ok entD (fun r2 Γ => ∃ (acc2 : Tl) (c d e : Sl), Γ = [.sh f.enc, .sh (.int q), .sh (partD p), .ex ad, .ow (.t (tD acc2)), .sh (.int w), .sh (tupI (mark f q w)), c, d, e] ∧ (slNoD c ∧ slNoD d ∧ slNoD e) ∧ (∀ x ∈ r2, x ∈ ts) ∧ (keysT acc2).Nodup ∧ (∀ x ∈ acc2, 0 < x.2) ∧ (∀ k ∈ keysT acc2, InBox f k) ∧ ∀ t, tot acc2 t + sumW r2 (fun k => addL f (mark f q w) k == t) = cnt ((dn ++ [w]).flatMap fun w => L.map (addL f (mark f q w))) t) ?_ ?_ _ _ ⟨acc, _, _, _, rfl, ⟨nc, nd, ne⟩, fun x h => h, ht.nd, ht.pos, ?_, ?_⟩
    · rintro Γ ⟨acc2, c, d, e, rfl, hn, _, h1, h2, h3, h4⟩
      refine ⟨rfl, hK _ ⟨acc2, dn ++ [w], _, _, c, d, e, rfl, hn, by rw [← hdn]; simp, ⟨h1, h2, fun t => h4 t⟩⟩⟩
    · rintro ⟨k, ct⟩ r2 Γ K2 ⟨acc2, c, d, e, rfl, ⟨_, _, ne⟩, hr, h1, h2, h3, h4⟩ hK2
      have hx := hr (k, ct) (by simp)
      have hk := hbox _ hx
      have hc : 0 < ct := tl.pos _ hx
      have hlen : acc2.length ≤ 64000 := by
        have := box_le ok h1 h3
        rw [show (keysT acc2).length = acc2.length from List.length_map _] at this
        exact this
      have ml : (mark f q w).length ≤ 1000 := by rw [mark_len]; have := ok.c2; omega
      ac_rfl
      refine ⟨f, mark f q w, k, rfl, ok, ml, ?_⟩
      ac_rfl
      refine ⟨keyT_tupI _, ?_⟩
      dsimp only
      rw [look_vl h1]
      ac_rfl
      refine ⟨keyT_tupI _, ltsmall (by simp [tD]; omega), ?_⟩
      rw [bump_tD h1]
      have hb := add_box ok (mark_len (f := f) q w) hk.1
      refine hK2 _ ⟨bump acc2 (addL f (mark f q w) k) ct, _, _, _, rfl, ⟨dict_tupI _, rfl, dict_tupI _⟩, fun x hx => hr x (List.mem_cons_of_mem _ hx), nd_put h1, fun x hx => ?_, fun y hy => ?_, fun t => ?_⟩
      · rcases mem_put hx with hx | rfl
        · exact h2 x hx
        · show 0 < _ + ct
          omega
      · unfold bump at hy
        rw [keys_put] at hy
        split at hy
        · exact h3 y hy
        · rcases List.mem_append.mp hy with hy | hy
          · exact h3 y hy
          · simp at hy
            rw [hy]
            exact hb
      · rw [tot_bump h1, ← h4 t]
        simp only [sumW, beq_iff_eq]
        omega
    · intro k hk
      have := (mem_keys ht).mp hk
      obtain ⟨w', _, hw'⟩ := List.mem_flatMap.mp this
      obtain ⟨s, hs, rfl⟩ := List.mem_map.mp hw'
      exact add_box ok (mark_len q w') (hL s hs).1
    · intro t
      rw [ht.eq t, sumW_count tl]
      unfold cnt
      rw [List.flatMap_append, List.countP_append]
      simp only [List.flatMap_cons, List.flatMap_nil, List.append_nil, List.countP_map]
      rfl
end PL

namespace PL
open PySem PySem.Spec PyProof.Rows L2
local macro_rules | `(tactic| ac_rfl) => `(tactic| ((conv => whnf); repeat ((first | refine Cif.yes ?_ | refine Cif.no ?_ | (refine And.intro ?_ ?_; · first | (show _ ≤ (_ : Int); omega) | (show _ < (_ : Int); omega) | assumption | exact trivial | exact rfl | (refine small ?_; first | omega | (simp only [List.length_map, List.length_cons, List.length_nil, List.length_append]; omega)) | (refine ltsmall ?_; first | omega | (simp only [List.length_map, List.length_cons, List.length_nil, List.length_append]; omega)) | (refine cdiv ?_ ?_ <;> omega) | (refine cmulR ?_ ?_ <;> omega) | (refine cmulL ?_ ?_ <;> omega) | (refine ⟨?_, ?_, ?_, ?_⟩ <;> omega))); (conv => whnf))))
local macro_rules | `(tactic| exists $e) => `(tactic| first | exact $e | exact And.right $e | exact And.right (And.right $e) | exact And.right (And.right (And.right $e)))
def dD (ts : Tl) : D := .dict (tD ts)
def psD (ps : List (Option Nat)) : D := .list (ps.map partD)
theorem SL_ne {f : Fr} (ok : FrOk f) {ps : List (Option Nat)} (hp : PsOk f ps) (q : Nat) : SL f q ps ≠ [] := by
  unfold SL
  rw [Ne, List.map_eq_nil_iff]
  induction ps with
  | nil => simp [sufs]
  | cons p r ih =>
    have ih := ih fun x hx => hp x (List.mem_cons_of_mem _ hx)
    have ha : allW f p ≠ [] := by
      cases p with
      | none =>
        intro z
        have := congrArg List.length z
        simp [allW] at this
        have := ok.m2
        omega
      | some c => simp [allW]
    obtain ⟨w, hw⟩ := List.exists_mem_of_ne_nil _ ha
    obtain ⟨s, hs⟩ := List.exists_mem_of_ne_nil _ ih
    intro z
    have : (w :: s) ∈ sufs f (p :: r) := List.mem_flatMap.mpr ⟨w, hw, List.mem_map.mpr ⟨s, hs, rfl⟩⟩
    rw [z] at this
    cases this
theorem tally_ne {ts : Tl} {L : List (List Int)} (h : Tally ts L) (hL : L ≠ []) : ts ≠ [] := by
  obtain ⟨x, hx⟩ := List.exists_mem_of_ne_nil _ hL
  intro z
  have := (mem_keys h).mpr hx
  rw [z] at this
  cases this
theorem SL_box {f : Fr} (ok : FrOk f) (q : Nat) (ps : List (Option Nat)) : ∀ k ∈ SL f q ps, InBox f k := by
  intro k hk
  obtain ⟨s, _, rfl⟩ := List.mem_map.mp hk
  exact sumS_box ok q s
-- all_tails(frame, parts) slots: 0=frame 1=parts 2=found 3=place
def q_all_tails : QS :=
  (qSeq (qAsg (qLst (qCons (qDispT (qCall 1 P_zeros (qCons (qVar 0) qNil)) (qC (.int 1))) qNil)) (qgN 2))
  (qSeq (qFor (qiRev (qUn opLen (qVar 1))) (qgN 3)
   (qDrop (qApp 2 (qCall 4 P_before_place (qCons (qVar 0) (qCons (qVar 3) (qCons (qOp opIx (qVar 1) (qVar 3)) (qCons (qOp opIx (qVar 2) (qUn opNeg (qC (.int 1)))) qNil))))))))
  (qRet (qUn opRevL (qVar 2)))))
def TailsOk (f : Fr) (ps : List (Option Nat)) (tsl : List Tl) : Prop := tsl.length = ps.length + 1 ∧ ∀ j ts, tsl[j]? = some ts → Tally ts (SL f j (ps.drop j))
def P_all_tails : PD := fun ds R => ∃ (f : Fr) (ps : List (Option Nat)), ds = [f.enc, psD ps] ∧ FrOk f ∧ ps.length = f.n ∧ PsOk f ps ∧ ∀ tsl, TailsOk f ps tsl → R (.ow (.l (tsl.map dD)))
theorem tally_one (t : List Int) : Tally [(t, 1)] [t] := ⟨by simp [keysT], by simp, fun x => by
  by_cases z : t = x
  · subst z
    simp [tot, cnt]
  · have b : (t == x) = false := by simpa using z
    simp [tot, cnt, z, b]⟩
theorem ixD_last {α : Type} {xs : List α} {k : Nat} {a : α} (hl : xs.length = k + 1) (h : xs[k]? = some a) : ixD xs (-1) = some a := by
  show (if 0 < xs.length then xs[xs.length - 1 - 0]? else none) = _
  rw [if_pos (by omega), show xs.length - 1 - 0 = k by omega, h]
theorem pure_all_tails : ∀ ds R, ds.length = 2 → P_all_tails ds R → q_all_tails (endsOf R) (startEv 4 ds) := by
  rintro ds R - ⟨f, ps, rfl, ok, hl, hp, h⟩
  have hn := ok.n2
  ac_rfl
  refine ⟨f, rfl, ok, ?_⟩
  ac_rfl
  refine ⟨keyT_tupI _, ?_⟩
  ac_rfl
  have hpl : (List.map partD ps).length = f.n := by rw [List.length_map]; exact hl
  rw [hpl]
  refine ⟨by omega, ?_⟩
  ac_rfl
  refine forGo_ok (fun i : Nat => .int ((f.n : Int) - 1 - (i : Int))) (fun r Γ => ∃ (tsl : List Tl) (a : Sl) (k : Nat), Γ = [.sh f.enc, .sh (psD ps), .ow (.l (tsl.map dD)), a] ∧ r = (List.range f.n).drop k ∧ k ≤ f.n ∧ tsl.length = k + 1 ∧ ∀ j ts, tsl[j]? = some ts → Tally ts (SL f (f.n - j) (ps.drop (f.n - j)))) ?_ ?_ (List.range f.n) _ ⟨[[(zerosL f, 1)]], _, 0, rfl, rfl, by omega, rfl, fun j ts hj => ?_⟩
  · rintro Γ ⟨tsl, a, k, rfl, hr, hk, hl2, ht⟩
    have hk : k = f.n := by
      have := congrArg List.length hr
      simp at this
      omega
    subst hk
    have fin := h tsl.reverse ⟨by rw [List.length_reverse]; omega, fun j ts hj => by
      have hj3 := (List.getElem?_eq_some_iff.mp hj).1
      rw [List.length_reverse] at hj3
      rw [List.getElem?_reverse hj3] at hj
      have := ht _ _ hj
      rw [show f.n - (tsl.length - 1 - j) = j by omega] at this
      exact this⟩
    rw [List.map_reverse] at fin
    ac_rfl
    exact fin
  · rintro i r Γ K ⟨tsl, a, k, rfl, hr, hk, hl2, ht⟩ hK
    obtain ⟨hkn, rfl, hr2⟩ := drop_cons hr.symm
    have e1 : tsl[i]? = some tsl[i] := List.getElem?_eq_getElem (by omega)
    have ht1 := ht i _ e1
    obtain ⟨q, hq⟩ : ∃ q : Nat, (f.n : Int) - 1 - (i : Int) = q := ⟨f.n - 1 - i, by omega⟩
    have hqn : q + 1 = f.n - i := by omega
    have eq1 : ps[q]? = some ps[q] := List.getElem?_eq_getElem (by omega)
    have hpq : POk f ps[q] := hp _ (List.getElem_mem _)
    rw [hq]
    have hdrop : ps.drop q = ps[q] :: ps.drop (q + 1) := List.drop_eq_getElem_cons (by omega)
    rw [← hqn] at ht1
    have hpd : PsOk f (ps.drop (q + 1)) := fun x hx => hp x (List.mem_of_mem_drop hx)
    ac_rfl
    rw [ixD_map partD eq1]
    ac_rfl
    rw [show ixD (List.map dD tsl) (-1) = some (dD tsl[i]) from ixD_last (by rw [List.length_map]; exact hl2) (by rw [List.getElem?_map, e1]; rfl)]
    ac_rfl
    refine ⟨f, q, ps[q], tsl[i], SL f (q + 1) (ps.drop (q + 1)), rfl, ok, by omega, hpq, ht1, tally_ne ht1 (SL_ne ok hpd _), SL_box ok _ _, fun ts' ht' => ?_⟩
    rw [← SL_cons ok (by omega : q < f.n), ← hdrop] at ht'
    ac_rfl
    refine hK _ ⟨tsl ++ [ts'], _, i + 1, congrArg (fun z => [_, _, Sl.ow (.l z), _]) (by simp [dD]; rfl), hr2, by omega, by simp; omega, fun j ts hj => ?_⟩
    rcases Nat.lt_or_ge j tsl.length with hj1 | hj1
    · rw [List.getElem?_append_left hj1] at hj
      exact ht j ts hj
    · rw [List.getElem?_append_right hj1] at hj
      have : j - tsl.length = 0 := by
        have := (List.getElem?_eq_some_iff.mp hj).1
        simp at this
        omega
      rw [this] at hj
      have hj : ts' = ts := by simpa using hj
      subst hj
      rw [show f.n - j = q by omega]
      exact ht'
  · have hj0 : j = 0 := by
      have := (List.getElem?_eq_some_iff.mp hj).1
      simp at this
      omega
    subst hj0
    have hj : [(zerosL f, 1)] = ts := by simpa using hj
    subst hj
    rw [List.drop_eq_nil_of_le (by omega)]
    have e : SL f (f.n - 0) [] = [zerosL f] := by
      unfold SL
      simp [sufs, sumS_nil]
    rw [e]
    exact tally_one _
theorem dic_T {ts : Tl} (h : ts ≠ []) (Γ : Ev) : dic (.sh (dD ts)) Γ = some (true, tD ts) := by
  show (kindOf (tD ts)).map (·, tD ts) = _
  rw [kind_tD h]
  rfl
theorem dget_T {ts : Tl} (h : ts ≠ []) {Γ : Ev} {dk : D} {k : Option D → Prop} (hk : keyT dk = true) (z : k (lookD (tD ts) dk)) : dget (.sh (dD ts)) Γ dk k := by
  unfold dget
  rw [dic_T h]
  exact ⟨hk, z⟩
-- count_good(frame, parts) slots: 0=frame 1=parts
def q_count_good : QS :=
  (qRet (qGet2 (qOp opIx (qCall 2 P_all_tails (qCons (qVar 0) (qCons (qVar 1) qNil))) (qC (.int 0))) (qCall 1 P_zeros (qCons (qVar 0) qNil)) (qC (.int 0))))
def P_count_good : PD := fun ds R => ∃ (f : Fr) (ps : List (Option Nat)), ds = [f.enc, psD ps] ∧ FrOk f ∧ ps.length = f.n ∧ PsOk f ps ∧ R (.sh (.int (cnt (SL f 0 ps) (zerosL f) : Nat)))
theorem pure_count_good : ∀ ds R, ds.length = 2 → P_count_good ds R → q_count_good (endsOf R) (startEv 2 ds) := by
  rintro ds R - ⟨f, ps, rfl, ok, hl, hp, h⟩
  ac_rfl
  refine ⟨f, ps, rfl, ok, hl, hp, fun tsl ht => ?_⟩
  have hl0 : 0 < tsl.length := by have := ht.1; omega
  have e1 : tsl[0]? = some tsl[0] := List.getElem?_eq_getElem hl0
  have ht1 := ht.2 0 _ e1
  rw [List.drop_zero] at ht1
  have hne := tally_ne ht1 (SL_ne ok hp 0)
  ac_rfl
  rw [show ixD (List.map dD tsl) 0 = some (dD tsl[0]) from ixD_map (p := 0) dD e1]
  ac_rfl
  refine ⟨by rw [dic_T hne]; rfl, ?_⟩
  ac_rfl
  refine ⟨f, rfl, ok, ?_⟩
  ac_rfl
  rw [dic_T hne]
  refine ⟨keyT_tupI _, ?_⟩
  dsimp only
  rw [look_vl ht1.nd, vl_tot ht1.nd, ht1.eq]
  exact h
end PL

namespace PL
open PySem PySem.Spec PyProof.Rows L2
local macro_rules | `(tactic| ac_rfl) => `(tactic| ((conv => whnf); repeat ((first | refine Cif.yes ?_ | refine Cif.no ?_ | (refine And.intro ?_ ?_; · first | (show _ ≤ (_ : Int); omega) | (show _ < (_ : Int); omega) | assumption | exact trivial | exact rfl | (refine small ?_; first | omega | (simp only [List.length_map, List.length_cons, List.length_nil, List.length_append]; omega)) | (refine ltsmall ?_; first | omega | (simp only [List.length_map, List.length_cons, List.length_nil, List.length_append]; omega)) | (refine cdiv ?_ ?_ <;> omega) | (refine cmulR ?_ ?_ <;> omega) | (refine cmulL ?_ ?_ <;> omega) | (refine ⟨?_, ?_, ?_, ?_⟩ <;> omega))); (conv => whnf))))
local macro_rules | `(tactic| exists $e) => `(tactic| first | exact $e | exact And.right $e | exact And.right (And.right $e) | exact And.right (And.right (And.right $e)))
theorem look_isSome {ts : Tl} (h : (keysT ts).Nodup) (t : List Int) : (lookD (tD ts) (tupI t)).isSome = decide (t ∈ keysT ts) := by
  rw [look_tD h]
  split <;> simp [*]
theorem first_mem {f : Fr} (ok : FrOk f) {q : Nat} {r : List (Option Nat)} {done : List Int} {ts : Tl} (hd : done.length = f.c.length) (ht : Tally ts (SL f q r)) : decide (negL f done ∈ keysT ts) = (firstW f q r done).isSome := by
  rw [Bool.eq_iff_iff, decide_eq_true_eq, mem_keys ht, first_some ok hd]
theorem neg_zeros (f : Fr) : negL f (zerosL f) = zerosL f := by simp [negL, zerosL]
theorem zip_drop {α : Type} {ps : List α} {q i : Nat} {p : α} {r : List (α × Nat)} (h : (p, i) :: r = (ps.drop q).zipIdx q) : q < ps.length ∧ ps[q]? = some p ∧ i = q ∧ r = (ps.drop (q + 1)).zipIdx (q + 1) := by
  by_cases hq : q < ps.length
  · rw [List.drop_eq_getElem_cons hq, List.zipIdx_cons] at h
    injection h with h1 h2
    injection h1 with h3 h4
    exact ⟨hq, by rw [h3]; exact List.getElem?_eq_getElem hq, h4, h2⟩
  · rw [List.drop_eq_nil_of_le (by omega)] at h
    cases h
theorem line_snoc (f : Fr) (pre : List Nat) (w : Nat) : lineOf f pre ++ ⟨#[sgn f w]⟩ = lineOf f (pre ++ [w]) := by
  refine str_ext ?_
  rw [tl_sign, tl_lineOf, tl_lineOf, List.map_append]
  rfl
-- completed(frame, parts) slots: 0=frame* 1=parts 2=tails 3=line 4=done 5=place 6=part 7=worth 8=later 9=due 10=one
def q_completed (C : Str → Addr) : QS :=
  (qSeq (qAsg (qCall 2 P_all_tails (qCons (qVar 0) (qCons (qVar 1) qNil))) (qgN 2))
  (qFrz 2 (qSeq (qIfS (qB (qDIn not (qCall 1 P_zeros (qCons (qVar 0) qNil)) (qOp opIx (qVar 2) (qC (.int 0)))))
   (qRaise (.ref (C "NoLine")))
   qNext)
  (qSeq (qAsg (qC (.str "")) (qgN 3))
  (qSeq (qAsg (qCall 1 P_zeros (qCons (qVar 0) qNil)) (qgN 4))
  (qSeq (qFor (qiE (qCons (qVar 1) qNil)) (qgTup 2 (qgCons (qgN 5) (qgCons (qgN 6) qgNil)))
   (qFor (qiL (qCall 2 P_allowed (qCons (qVar 0) (qCons (qVar 6) qNil)))) (qgN 7)
    (qSeq (qAsg (qCall 3 P_added (qCons (qVar 0) (qCons (qVar 4) (qCons (qCall 3 P_mark (qCons (qVar 0) (qCons (qVar 5) (qCons (qVar 7) qNil)))) qNil)))) (qgN 8))
    (qSeq (qAsg (qUn opTuple (qLc [10] (qiT (qVar 8)) (qgN 10) qYes (qOp opMod (qUn opNeg (qVar 10)) (qUn opLen (qOp opIx (qVar 0) (qC (.int 0))))))) (qgN 9))
    (qIfS (qB (qDIn id (qVar 9) (qOp opIx (qVar 2) (qOp opAdd (qVar 5) (qC (.int 1))))))
     (qSeq (qAug 3 opIAdd (qOp opIx (qOp opIx (qVar 0) (qC (.int 0))) (qVar 7)))
     (qSeq (qAsg (qVar 8) (qgN 4))
     qBreak))
     qNext)))))
  (qRet (qVar 3))))))))
def P_completed (C : Str → Addr) : PDX := fun ds R EX => ∃ (f : Fr) (ps : List (Option Nat)), ds = [f.enc, psD ps] ∧ FrOk f ∧ ps.length = f.n ∧ PsOk f ps ∧ (firstW f 0 ps (zerosL f) = none → EX (.ref (C "NoLine"))) ∧ ∀ ws, firstW f 0 ps (zerosL f) = some ws → R (.sh (.str (lineOf f ws)))
theorem pure_completed (C : Str → Addr) : ∀ ds R EX, ds.length = 2 → P_completed C ds R EX → q_completed C (endsX R EX) (startEv 11 ds) := by
  rintro ds R EX - ⟨f, ps, rfl, ok, hl, hp, h1, h2⟩
  have hn := ok.n2
  have hm := ok.m1
  have hm2 := ok.m2
  have c2 := ok.c2
  obtain ⟨s1, s2⟩ := ok.sl
  have zb := zeros_box ok
  ac_rfl
  refine ⟨f, ps, rfl, ok, hl, hp, fun tsl ht => ?_⟩
  have hl0 : 0 < tsl.length := by have := ht.1; omega
  have e1 : tsl[0]? = some tsl[0] := List.getElem?_eq_getElem hl0
  have ht1 := ht.2 0 _ e1
  rw [List.drop_zero] at ht1
  have hne := tally_ne ht1 (SL_ne ok hp 0)
  have hin : decide (zerosL f ∈ keysT tsl[0]) = (firstW f 0 ps (zerosL f)).isSome := by
    have := first_mem ok zb.1 ht1
    rw [neg_zeros] at this
    exact this
  ac_rfl
  refine ⟨f, rfl, ok, ?_⟩
  ac_rfl
  rw [show ixD (List.map dD tsl) 0 = some (dD tsl[0]) from ixD_map (p := 0) dD e1]
  ac_rfl
  rw [dic_T hne]
  refine ⟨keyT_tupI _, ?_⟩
  dsimp only
  rw [look_isSome ht1.nd, hin]
  refine ⟨fun hz => ?_, fun hz => ?_⟩
  · have hnone : firstW f 0 ps (zerosL f) = none := by
      cases hf : firstW f 0 ps (zerosL f) with
      | none => rfl
      | some s =>
        rw [hf] at hz
        cases hz
    have fin := h1 hnone
    ac_rfl
    exact fin
  · obtain ⟨ws, hws⟩ : ∃ ws, firstW f 0 ps (zerosL f) = some ws := by
      cases hf : firstW f 0 ps (zerosL f) with
      | none =>
        rw [hf] at hz
        cases hz
      | some s => exact ⟨s, rfl⟩
    have fin := h2 ws hws
    ac_rfl
    refine ⟨f, rfl, ok, ?_⟩
    ac_rfl
    rw [enumD_map]
    refine forGo_ok (fun p : Option Nat × Nat => .tuple [.int (p.2 : Int), partD p.1]) (fun r Γ => ∃ (pre : List Nat) (done : List Int) (q : Nat) (s : List Nat) (a b c d e : Sl), Γ = [.sh f.enc, .sh (psD ps), .sh (.list (tsl.map dD)), .sh (.str (lineOf f pre)), .sh (tupI done), a, b, c, d, e, .un] ∧ r = (ps.drop q).zipIdx q ∧ q ≤ f.n ∧ pre.length = q ∧ done.length = f.c.length ∧ firstW f q (ps.drop q) done = some s ∧ pre ++ s = ws) ?_ ?_ _ _ ⟨[], zerosL f, 0, ws, _, _, _, _, _, rfl, rfl, by omega, rfl, zb.1, hws, rfl⟩
    · rintro Γ ⟨pre, done, q, s, a, b, c, d, e, rfl, hr, hq, hpre, hd, hs, hw⟩
      have hq2 : ps.drop q = [] := by
        cases hdr : ps.drop q with
        | nil => rfl
        | cons x r =>
          rw [hdr] at hr
          cases hr
      rw [hq2] at hs
      have : s = [] := by
        have := List.mem_of_find?_eq_some hs
        simpa [sufs] using this
      subst this
      rw [List.append_nil] at hw
      subst hw
      ac_rfl
      exact fin
    · rintro ⟨p, i⟩ r Γ K ⟨pre, done, q, s, a, b, c, d, e, rfl, hr, hq, hpre, hd, hs, hw⟩ hK
      obtain ⟨hql, hpq, rfl, hr2⟩ := zip_drop hr
      have hqn : i < f.n := by omega
      have hpo : POk f p := hp _ (List.mem_of_getElem? hpq)
      have hdrop : ps.drop i = p :: ps.drop (i + 1) := by
        rw [List.drop_eq_getElem_cons hql]
        rw [List.getElem?_eq_getElem hql] at hpq
        injection hpq with hpq
        rw [hpq]
      have et : tsl[i + 1]? = some (tsl[i + 1]'(by have := ht.1; omega)) := List.getElem?_eq_getElem _
      have ht2 := ht.2 _ _ et
      have hne2 := tally_ne ht2 (SL_ne ok (fun x hx => hp x (List.mem_of_mem_drop hx)) _)
      rw [hdrop, firstW_cons ok hqn] at hs
      ac_rfl
      refine ⟨f, p, rfl, ok, hpo, ?_⟩
      ac_rfl
      refine forGo_ok natD (fun r2 Γ => ∃ (dn : List Nat) (a b c : Sl), Γ = [.sh f.enc, .sh (psD ps), .sh (.list (tsl.map dD)), .sh (.str (lineOf f pre)), .sh (tupI done), .sh (.int (i : Nat)), .sh (partD p), a, b, c, .un] ∧ dn ++ r2 = allW f p ∧ r2.findSome? (fun w => (firstW f (i + 1) (ps.drop (i + 1)) (addL f done (mark f i w))).map (w :: ·)) = some s) ?_ ?_ _ _ ⟨[], _, _, _, rfl, rfl, hs⟩
      · rintro Γ ⟨dn, a, b, c, rfl, _, hfs⟩
        cases hfs
      · rintro w r2 Γ K2 ⟨dn, a, b, c, rfl, hdn, hfs⟩ hK2
        have hwm : w < f.m := allW_lt hpo (by rw [← hdn]; simp)
        have hlen : (addL f done (mark f i w)).length = f.c.length := (add_box ok hd (mark_len i w)).1
        have hmem := first_mem ok hlen ht2
        rw [List.findSome?_cons] at hfs
        ac_rfl
        refine ⟨f, i, w, rfl, ok, hqn, by omega, ?_⟩
        ac_rfl
        refine ⟨f, done, mark f i w, rfl, ok, by omega, ?_⟩
        ac_rfl
        generalize hlt : addL f done (mark f i w) = later at *
        refine lc0_map (vs := [10]) PyData.int (fun x => .int ((-x) % (f.m : Int))) later (fun x hx acc K3 hacc hK3 => ?_) (small (by omega)) ?_
        · ac_rfl
          exact hK3
        · have en : (later.map fun x => PyData.int ((-x) % (f.m : Int))) = (negL f later).map .int := by simp [negL]
          ac_rfl
          rw [en]
          rw [show ixD (List.map dD tsl) ((i : Int) + 1) = some (dD (tsl[i + 1]'(by have := ht.1; omega))) from ixD_map (p := i + 1) dD et]
          ac_rfl
          rw [dic_T hne2]
          refine ⟨keyT_tupI _, ?_⟩
          dsimp only
          rw [show PyData.tuple (List.map PyData.int (negL f later)) = tupI (negL f later) from rfl, look_isSome ht2.nd, hmem]
          refine ⟨fun hz => ?_, fun hz => ?_⟩
          · obtain ⟨s', hs'⟩ : ∃ s', firstW f (i + 1) (ps.drop (i + 1)) later = some s' := by
              cases hf : firstW f (i + 1) (ps.drop (i + 1)) later with
              | none =>
                rw [hf] at hz
                cases hz
              | some s => exact ⟨s, rfl⟩
            rw [hs'] at hfs
            have hss : w :: s' = s := by simpa using hfs
            have es : (tl f.s)[w]? = some (sgn f w) := sgn_get hwm
            have ll : (lineOf f pre).length = pre.length := lineOf_len pre
            have fin2 : ∀ a b c, K [.sh f.enc, .sh (psD ps), .sh (.list (tsl.map dD)), .sh (.str (lineOf f pre ++ ⟨#[sgn f w]⟩)), .sh (tupI later), .sh (.int (i : Nat)), .sh (partD p), a, b, c, .un] := fun a b c => hK _ ⟨pre ++ [w], later, i + 1, s', _, _, _, _, _, by rw [line_snoc], hr2, by omega, by simp; omega, hlen, hs', by rw [← hw, ← hss]; simp⟩
            ac_rfl
            rw [show ixD f.s.cps.toList (w : Int) = some (sgn f w) from es]
            ac_rfl
            exact fin2 _ _ _
          · have hnone : firstW f (i + 1) (ps.drop (i + 1)) later = none := by
              cases hf : firstW f (i + 1) (ps.drop (i + 1)) later with
              | none => rfl
              | some s =>
                rw [hf] at hz
                cases hz
            rw [hnone] at hfs
            ac_rfl
            exact hK2 _ ⟨dn ++ [w], _, _, _, rfl, by rw [← hdn]; simp, hfs⟩
end PL

namespace PL
open PySem PySem.Spec PyProof.Rows L2
section
variable {f : Fr}
/-! ### good lines that fit -/
def goodS (f : Fr) (ps : List (Option Nat)) : List (List Nat) := (sufs f ps).filter fun s => sumS f 0 s == zerosL f
theorem cnt_good (ps : List (Option Nat)) : cnt (SL f 0 ps) (zerosL f) = (goodS f ps).length := by
  unfold cnt SL goodS
  rw [List.countP_map, List.countP_eq_length_filter]
  rfl
theorem first_good (ok : FrOk f) (ps : List (Option Nat)) : firstW f 0 ps (zerosL f) = (goodS f ps).head? := by
  unfold firstW goodS
  rw [find_head]
  congr 1
  apply List.filter_congr
  intro s _
  unfold goodFrom
  rw [zero_add (sumS_box ok 0 s)]
theorem isGood_lineOf (ok : FrOk f) {s : List Nat} (hl : s.length = f.n) (hw : ∀ w ∈ s, w < f.m) : isGood f (lineOf f s) = (sumS f 0 s == zerosL f) := by
  have il : isLine f (lineOf f s) = true := isLine_of (by rw [lineOf_len, hl]) fun c hc => by
    rw [tl_lineOf] at hc
    obtain ⟨w, h1, rfl⟩ := List.mem_map.mp hc
    exact sgn_mem (hw w h1)
  unfold isGood
  rw [il, Bool.true_and, rem_sumS, worths_lineOf ok hw]
/-- a told sign that is another one -/
def badAt (x : Str) (ps : List (Option Nat)) (k : Nat) : Bool := match ps[k]? with
  | some (some c) => (tl x)[k]? != some c
  | _ => false
def fitB (x : Str) (ps : List (Option Nat)) : Bool := ((List.range x.length).filter (badAt x ps)).length == 0
theorem fitB_iff {x : Str} {ps : List (Option Nat)} : fitB x ps = true ↔ ∀ k, k < x.length → ∀ c, ps[k]? = some (some c) → (tl x)[k]? = some c := by
  unfold fitB
  rw [beq_iff_eq, List.length_eq_zero_iff, List.filter_eq_nil_iff]
  constructor
  · intro h k hk c hc
    have := h k (by simpa using hk)
    unfold badAt at this
    rw [hc] at this
    simpa using this
  · intro h k hk
    have hk : k < x.length := by simpa using hk
    unfold badAt
    split
    · rename_i c hc
      rw [h k hk c hc]
      simp
    · simp
theorem fitW_iff : ∀ {ps : List (Option Nat)} {ws : List Nat}, fitW f ps ws = true ↔ ∀ k c w : Nat, ps[k]? = some (some c) → ws[k]? = some w → w = idx f c
  | [], ws => by simp [fitW]
  | _ :: _, [] => by simp [fitW]
  | p :: ps, w :: ws => by
    have ih := fitW_iff (ps := ps) (ws := ws)
    simp only [fitW, Bool.and_eq_true, ih]
    constructor
    · rintro ⟨h1, h2⟩ k c v hk hv
      cases k with
      | zero =>
        have e1 : p = some c := by simpa using hk
        have e2 : w = v := by simpa using hv
        subst e1 e2
        simpa [fit1] using h1
      | succ k => exact h2 k c v (by simpa using hk) (by simpa using hv)
    · intro h
      refine ⟨?_, fun k c v hk hv => h (k + 1) c v (by simpa using hk) (by simpa using hv)⟩
      cases p with
      | none => rfl
      | some c =>
        have := h 0 c w rfl rfl
        simpa [fit1] using this
theorem fitB_lineOf (ok : FrOk f) {ps : List (Option Nat)} (hp : PsOk f ps) {ws : List Nat} (hw : ∀ w ∈ ws, w < f.m) : fitB (lineOf f ws) ps = fitW f ps ws := by
  rw [Bool.eq_iff_iff, fitB_iff, fitW_iff]
  constructor
  · intro h k c w hk hv
    have hlt := (List.getElem?_eq_some_iff.mp hv).1
    have := h k (by rw [lineOf_len]; exact hlt) c hk
    rw [tl_lineOf, List.getElem?_map, hv] at this
    have e : sgn f w = c := by simpa using this
    rw [← e, idx_sgn ok (hw w (List.mem_of_getElem? hv))]
  · intro h k hk c hc
    rw [lineOf_len] at hk
    have hv : ws[k]? = some ws[k] := List.getElem?_eq_getElem hk
    have e := h k c _ hc hv
    rw [tl_lineOf, List.getElem?_map, hv]
    have hm := hp _ (List.mem_of_getElem? hc) c rfl
    show some (sgn f ws[k]) = some c
    rw [e]
    congr 1
    refine (idx_inj (f := f) (sgn_mem (idx_lt hm)) ?_ hm)
    exact idx_sgn ok (idx_lt hm)
theorem mem_sufs (hp : PsOk f ps) {s : List Nat} : s ∈ sufs f ps ↔ (s.length = ps.length ∧ ∀ w ∈ s, w < f.m) ∧ fitW f ps s = true := by
  rw [sufs_filter hp, List.mem_filter, mem_linesW]
theorem some_eq (ok : FrOk f) {ps : List (Option Nat)} (hp : PsOk f ps) (hl : ps.length = f.n) : (goodL f).filter (fun x => fitB x ps) = (goodS f ps).map (lineOf f) := by
  unfold goodL goodS
  rw [lines_eq, sufs_filter hp, hl, List.filter_map, List.filter_map, List.filter_filter, List.filter_filter]
  congr 1
  apply List.filter_congr
  intro s hs
  obtain ⟨h1, h2⟩ := mem_linesW.mp hs
  simp only [Function.comp_apply]
  rw [fitB_lineOf ok hp h2, isGood_lineOf ok h1 h2, Bool.and_comm]
theorem goodS_line (ok : FrOk f) {ps : List (Option Nat)} (hp : PsOk f ps) (hl : ps.length = f.n) {s : List Nat} (hs : s ∈ goodS f ps) : (s.length = f.n ∧ ∀ w ∈ s, w < f.m) ∧ isGood f (lineOf f s) = true ∧ fitB (lineOf f s) ps = true := by
  obtain ⟨h1, h2⟩ := List.mem_filter.mp hs
  obtain ⟨⟨a, b⟩, c⟩ := (mem_sufs hp).mp h1
  rw [hl] at a
  exact ⟨⟨a, b⟩, by rw [isGood_lineOf ok a b]; exact h2, by rw [fitB_lineOf ok hp b]; exact c⟩
/-- signs of a good line are told -/
theorem again_good (ok : FrOk f) {ps qs : List (Option Nat)} (hp : PsOk f ps) (hl : ps.length = f.n) {s : List Nat} (hs : s ∈ goodS f ps) (hq : PsOk f qs) (hql : qs.length = f.n) (h : ∀ k c : Nat, qs[k]? = some (some c) → (tl (lineOf f s))[k]? = some c) : s ∈ goodS f qs := by
  obtain ⟨⟨a, b⟩, _, _⟩ := goodS_line ok hp hl hs
  refine List.mem_filter.mpr ⟨(mem_sufs hq).mpr ⟨⟨by rw [a, hql], b⟩, ?_⟩, (List.mem_filter.mp hs).2⟩
  rw [← fitB_lineOf ok hq b]
  exact fitB_iff.mpr fun k _ c hc => h k c hc
/-! ### as many lines as good lines times sums -/
theorem keys_nodup (ms : List (List Int)) : (keysOf ms).Nodup := by
  have : ∀ (ms seen : List (List Int)), seen.Nodup → (ms.foldl addK seen).Nodup := by
    intro ms
    induction ms with
    | nil => intro seen h; exact h
    | cons m r ih =>
      intro seen h
      refine ih _ ?_
      unfold addK
      split
      · exact h
      · rename_i z
        rw [List.nodup_append]
        exact ⟨h, by simp, fun a ha b hb e => z (by simp at hb; rw [← hb, ← e]; exact ha)⟩
  exact this ms [] (by simp)
theorem mem_keysOf {x : List Int} {ms : List (List Int)} : x ∈ keysOf ms ↔ x ∈ ms := by
  unfold keysOf
  rw [mem_fold]
  simp
theorem good_times (ok : FrOk f) : (goodL f).length * (keysOf ((linesK f f.n).map (rem f))).length = (linesK f f.n).length := by
  have e1 : (linesK f f.n).map (rem f) = (linesW f f.n).map (sumS f 0) := by
    rw [lines_eq, List.map_map]
    apply List.map_congr_left
    intro s hs
    rw [Function.comp_apply, rem_sumS, worths_lineOf ok (mem_linesW.mp hs).2]
  have e2 : (goodL f).length = ((linesW f f.n).filter fun s => sumS f 0 s == zerosL f).length := by
    unfold goodL
    rw [lines_eq, List.filter_map, List.length_map]
    congr 1
    apply List.filter_congr
    intro s hs
    obtain ⟨h1, h2⟩ := mem_linesW.mp hs
    exact isGood_lineOf ok h1 h2
  rw [e1, e2, lines_eq, List.length_map, Nat.mul_comm]
  refine (parts_len (sumS f 0) _ (keys_nodup _) (fun x hx => mem_keysOf.mpr (List.mem_map.mpr ⟨x, hx, rfl⟩)) fun k hk => ?_).symm
  obtain ⟨a, ha, rfl⟩ := List.mem_map.mp (mem_keysOf.mp hk)
  exact fib_eq ok ha
end
/-! ### a frame is shown -/
theorem weight_ints : ∀ ns : List Int, (∀ n ∈ ns, 0 ≤ n ∧ n < 5040) → PyData.weightAll (ns.map .int) ≤ 14 * ns.length
  | [], _ => by simp [PyData.weightAll]
  | n :: r, h => by
    have ih := weight_ints r fun m hm => h m (List.mem_cons_of_mem _ hm)
    have hn := h n (by simp)
    have : (PyData.int n).weight ≤ 13 := by
      simp only [PyData.weight]
      split
      · omega
      · rename_i hz
        have hz : n ≠ 0 := by simpa using hz
        have := (Nat.log2_lt (n := n.natAbs) (k := 13) (by omega)).mpr (by omega)
        omega
    simp only [List.map_cons, PyData.weightAll, List.length_cons]
    omega
theorem weight_rows (n : Nat) : ∀ c : List (List Int), (∀ r ∈ c, r.length = n ∧ ∀ w ∈ r, 0 ≤ w ∧ w < 5040) → PyData.weightAll (c.map rowD) ≤ (14 * n + 1) * c.length
  | [], _ => by simp [PyData.weightAll]
  | r :: c, h => by
    have ih := weight_rows n c fun m hm => h m (List.mem_cons_of_mem _ hm)
    obtain ⟨h1, h2⟩ := h r (by simp)
    have := weight_ints r h2
    rw [h1] at this
    simp only [List.map_cons, PyData.weightAll, List.length_cons, rowD, PyData.weight, Nat.mul_add]
    omega
theorem short_rows : ∀ c : List (List Int), (∀ r ∈ c, ∀ w ∈ r, 0 ≤ w ∧ w < 5040) → PyData.intsShortAll 13 (c.map rowD) = true
  | [], _ => rfl
  | r :: c, h => by
    have ih := short_rows c fun m hm => h m (List.mem_cons_of_mem _ hm)
    have := PyData.intsShortAll_ints r fun n hn => by
      have := h r (by simp) n hn
      omega
    simp only [List.map_cons, PyData.intsShortAll, rowD, PyData.intsShort, this, Bool.true_and]
    exact ih
theorem showable_ints : ∀ ns : List Int, (∀ n ∈ ns, 0 ≤ n ∧ n < 5040) → PyData.showableAll (ns.map .int) = true
  | [], _ => rfl
  | n :: r, h => by
    have ih := showable_ints r fun m hm => h m (List.mem_cons_of_mem _ hm)
    have hn := h n (by simp)
    have : n.natAbs.log2 < 1920 := by
      by_cases hz : n.natAbs = 0
      · rw [hz]; decide
      · exact Nat.lt_trans ((Nat.log2_lt hz (k := 13)).mpr (by omega)) (by decide)
    simp only [List.map_cons, PyData.showableAll, PyData.showable, ih, Bool.and_true, decide_eq_true_eq]
    exact this
theorem showable_rows : ∀ c : List (List Int), (∀ r ∈ c, ∀ w ∈ r, 0 ≤ w ∧ w < 5040) → PyData.showableAll (c.map rowD) = true
  | [], _ => rfl
  | r :: c, h => by
    have ih := showable_rows c fun m hm => h m (List.mem_cons_of_mem _ hm)
    have := showable_ints r (h r (by simp))
    simp only [List.map_cons, PyData.showableAll, rowD, PyData.showable, this, Bool.true_and]
    exact ih
theorem showable_enc {f : Fr} (ok : FrOk f) : f.enc.showable = true := by
  simp only [Fr.enc, PyData.showable, PyData.showableAll, Bool.true_and, Bool.and_true]
  exact showable_rows f.c ok.ws
theorem shown_enc {f : Fr} (ok : FrOk f) (h : f.enc.canLay0 = true) : f.enc.shown.length + 64 ≤ sizeLine := by
  have hs : f.enc.intsShort 13 = true := by
    simp only [Fr.enc, PyData.intsShort, PyData.intsShortAll, Bool.true_and, Bool.and_true]
    exact short_rows f.c ok.ws
  have h1 := PyData.shown_le 13 (by decide) f.enc (PyData.leavesShort_of_canLay0 13 f.enc h hs)
  have hw := weight_rows f.n f.c fun r hr => ⟨ok.rows r hr, ok.ws r hr⟩
  have b1 : (14 * f.n + 1) * f.c.length ≤ (14 * 999 + 1) * 3 := Nat.mul_le_mul (by have := ok.n2; omega) ok.c2
  have b2 : f.s.cps.size ≤ 1000 := Nat.le_trans ok.m1 (by decide)
  have e : f.enc.weight ≤ 50000 := by
    simp only [Fr.enc, PyData.weight, PyData.weightAll]
    omega
  have := Nat.mul_le_mul_left 15 e
  rw [sizeLine_eq]
  omega
theorem plain_ints : ∀ ns : List Int, PyData.plainAll (ns.map .int) = true
  | [] => rfl
  | n :: r => by simp [PyData.plainAll, PyData.plain, plain_ints r]
theorem plain_rows : ∀ c : List (List Int), PyData.plainAll (c.map rowD) = true
  | [] => rfl
  | r :: c => by simp [PyData.plainAll, rowD, PyData.plain, plain_ints r, plain_rows c]
theorem depth_rows : ∀ c : List (List Int), PyData.depthAll (c.map rowD) ≤ 2
  | [] => by simp [PyData.depthAll]
  | r :: c => by
    have h1 := depth_rows c
    have h2 := depthAll_ints r
    simp only [List.map_cons, rowD, PyData.depthAll, PyData.depth]
    have e : (PyData.list (r.map .int)).depth = PyData.depthAll (r.map .int) + 1 := by simp [PyData.depth]
    omega
theorem flat_enc (f : Fr) : flat 60 f.enc = true := by
  have h := depth_rows f.c
  have e1 : f.enc.hasDict = false := by simp [Fr.enc, PyData.hasDict, PyData.hasDictAll, dict_rows]
  have e2 : f.enc.depth ≤ 60 := by
    simp only [Fr.enc, PyData.depth, PyData.depthAll]
    omega
  simp [flat, e1, e2]
theorem show_enc {f : Fr} (ok : FrOk f) : f.enc.showable = true ∧ flat 60 f.enc = true ∧ (f.enc.canLay0 = true → f.enc.shown.length + 64 ≤ sizeLine) := ⟨showable_enc ok, flat_enc f, shown_enc ok⟩
def hdRow (f : Fr) : List Int := f.c.headD []
theorem row_ix {f : Fr} (ok : FrOk f) : ixD (f.c.map rowD) 0 = some (rowD (hdRow f)) := by
  obtain ⟨r, cs, hc, _⟩ := ok.row0
  unfold hdRow
  rw [hc]
  rfl
end PL

namespace PL
open PySem PySem.Spec PyProof.Rows L2
local macro_rules | `(tactic| ac_rfl) => `(tactic| ((conv => whnf); repeat ((first | refine Cif.yes ?_ | refine Cif.no ?_ | (refine And.intro ?_ ?_; · first | (show _ ≤ (_ : Int); omega) | (show _ < (_ : Int); omega) | assumption | exact trivial | exact rfl | (refine small ?_; first | omega | (simp only [List.length_map, List.length_cons, List.length_nil, List.length_append]; omega)) | (refine ltsmall ?_; first | omega | (simp only [List.length_map, List.length_cons, List.length_nil, List.length_append]; omega)) | (refine cdiv ?_ ?_ <;> omega) | (refine cmulR ?_ ?_ <;> omega) | (refine cmulL ?_ ?_ <;> omega) | (refine ⟨?_, ?_, ?_, ?_⟩ <;> omega))); (conv => whnf))))
local macro_rules | `(tactic| exists $e) => `(tactic| first | exact $e | exact And.right $e | exact And.right (And.right $e) | exact And.right (And.right (And.right $e)))
-- _law_fits(line, parts) slots: 0=line* 1=parts* 2=k
def q__law_fits : QS :=
  (qRet (qOp opEq (qUn opLen (qLc [2] (qiR1 (qCons (qUn opLen (qVar 0)) qNil)) (qgN 2) (qAnd (qB (qOp opIsNot (qOp opIx (qVar 1) (qVar 2)) (qC .none))) (qB (qOp opNe (qOp opIx (qVar 1) (qVar 2)) (qOp opIx (qVar 0) (qVar 2))))) (qVar 2))) (qC (.int 0))))
def P__law_fits : PD := fun ds R => ∃ (x : Str) (ps : List (Option Nat)), ds = [.str x, psD ps] ∧ x.length = ps.length ∧ x.length ≤ 1000 ∧ R (.sh (.bool (fitB x ps)))
theorem pure__law_fits : ∀ ds R, ds.length = 2 → P__law_fits ds R → q__law_fits (endsOf R) (startEv 3 ds) := by
  rintro ds R - ⟨x, ps, rfl, hl, hx, h⟩
  ac_rfl
  refine lc0_fil (vs := [2]) (fun i : Nat => .int (i : Int)) (badAt x ps) (fun i : Nat => .int (i : Int)) _ (fun k hk acc K ha hK1 hK2 => ?_) ?_ ?_
  · have hk : k < x.length := by simpa using hk
    obtain ⟨cc, e1⟩ : ∃ cc, (tl x)[k]? = some cc := ⟨_, List.getElem?_eq_getElem (by rw [tl_len]; omega)⟩
    have e2 : ps[k]? = some ps[k] := List.getElem?_eq_getElem (by omega)
    unfold badAt at hK1 hK2
    rw [e1, e2] at hK1 hK2
    cases hp : ps[k] with
    | none =>
      rw [hp] at e2 hK1 hK2
      ac_rfl
      rw [ixD_map partD e2]
      ac_rfl
      exact hK2 rfl
    | some c =>
      rw [hp] at e2 hK1 hK2
      ac_rfl
      rw [ixD_map partD e2]
      ac_rfl
      rw [ixD_map partD e2]
      ac_rfl
      rw [ixD_nat e1]
      ac_rfl
      have e3 : PyData.eqv (signD c) (signD cc) = decide (c = cc) := by
        unfold signD
        rw [eqv_str, sign_inj]
      rw [show PyData.eqv (partD (some c)) (signD cc) = _ from e3]
      refine ⟨fun hz => ?_, fun hz => ?_⟩
      · ac_rfl
        refine hK1 ?_
        have hz : ¬ c = cc := by simpa using hz
        simpa using fun z : cc = c => hz z.symm
      · refine hK2 ?_
        have hz : c = cc := by simpa using hz
        rw [hz]
        simp
  · simp
    exact small (by omega)
  · ac_rfl
    rw [List.length_map, Int.toNat_natCast, show PyData.eqv (.int (((List.range x.length).filter (badAt x ps)).length : Nat)) (.int 0) = _ from eqv_nat _ 0]
    exact h
def doneD (f : Fr) (ps : List (Option Nat)) : D := match firstW f 0 ps (zerosL f) with
  | some ws => .tuple [.str (txt "told"), .str (lineOf f ws)]
  | none => .tuple [.str (txt "refused"), .bool true]
-- _law_done(frame, parts) slots: 0=frame 1=parts 2=e
def q__law_done (C : Str → Addr) : QS :=
  (qTryAs 2 (C "NoLine") (qRet (qTup (qCons (qC (.str "told")) (qCons (qCallX 2 (P_completed C) (qCons (qVar 0) (qCons (qVar 1) qNil))) qNil))))
   (fun a => (qRet (qTup (qCons (qC (.str "refused")) (qCons (qAndV (qIsE 2 a true) (qNotV (qIsE 2 a false))) qNil))))))
def P__law_done : PD := fun ds R => ∃ (f : Fr) (ps : List (Option Nat)), ds = [f.enc, psD ps] ∧ FrOk f ∧ ps.length = f.n ∧ PsOk f ps ∧ R (.sh (doneD f ps))
theorem pure__law_done (C : Str → Addr) : ∀ ds R, ds.length = 2 → P__law_done ds R → q__law_done C (endsOf R) (startEv 3 ds) := by
  rintro ds R - ⟨f, ps, rfl, ok, hl, hp, h⟩
  unfold doneD at h
  ac_rfl
  refine ⟨f, ps, rfl, ok, hl, hp, fun hne => ?_, fun ws hws => ?_⟩
  · refine ⟨rfl, fun a => ?_⟩
    rw [hne] at h
    ac_rfl
    exact h
  · rw [hws] at h
    ac_rfl
    exact h
end PL

namespace PL
open PySem PySem.Spec PyProof.Rows L2
local macro_rules | `(tactic| ac_rfl) => `(tactic| ((conv => whnf); repeat ((first | refine Cif.yes ?_ | refine Cif.no ?_ | (refine And.intro ?_ ?_; · first | (show _ ≤ (_ : Int); omega) | (show _ < (_ : Int); omega) | assumption | exact trivial | exact rfl | (refine small ?_; first | omega | (simp only [List.length_map, List.length_cons, List.length_nil, List.length_append]; omega)) | (refine ltsmall ?_; first | omega | (simp only [List.length_map, List.length_cons, List.length_nil, List.length_append]; omega)) | (refine cdiv ?_ ?_ <;> omega) | (refine cmulR ?_ ?_ <;> omega) | (refine cmulL ?_ ?_ <;> omega) | (refine ⟨?_, ?_, ?_, ?_⟩ <;> omega))); (conv => whnf))))
local macro_rules | `(tactic| exists $e) => `(tactic| first | exact $e | exact And.right $e | exact And.right (And.right $e) | exact And.right (And.right (And.right $e)))
def ptL (x : Str) (dr : List Int) (md : Int) (n : Nat) : List (Option Nat) := (List.range n).map fun k => if dr[40 + k]?.getD 0 % md = 0 then none else (tl x)[k]?
theorem ptL_len (x : Str) (dr : List Int) (md : Int) (n : Nat) : (ptL x dr md n).length = n := by simp [ptL]
theorem ptL_get {x : Str} {dr : List Int} {md : Int} {n k c : Nat} (h : (ptL x dr md n)[k]? = some (some c)) : (tl x)[k]? = some c := by
  unfold ptL at h
  rw [List.getElem?_map] at h
  cases hr : (List.range n)[k]? with
  | none =>
    rw [hr] at h
    cases h
  | some j =>
    have hj : j = k := by
      have := List.getElem?_eq_some_iff.mp hr
      obtain ⟨a, b⟩ := this
      simp at b
      exact b.symm
    rw [hr] at h
    subst hj
    simp only [Option.map_some, Option.some.injEq] at h
    split at h
    · cases h
    · exact h
theorem ptL_ok {f : Fr} {x : Str} (hx : InL f x) (dr : List Int) (md : Int) (n : Nat) : PsOk f (ptL x dr md n) := by
  intro p hp c e
  subst e
  obtain ⟨k, hk⟩ := List.getElem?_of_mem hp
  exact hx c (List.mem_of_getElem? (ptL_get hk))
theorem good_inL {f : Fr} {ws : List Nat} (hw : ∀ w ∈ ws, w < f.m) : InL f (lineOf f ws) := by
  intro c hc
  rw [tl_lineOf] at hc
  obtain ⟨w, h1, rfl⟩ := List.mem_map.mp hc
  exact sgn_mem (hw w h1)
def q__law_large_10 : QS :=
  (qSeq (qAsg (qLc [11] (qiR1 (qCons (qVar 4) qNil)) (qgN 11) qYes (qOp opIx (qLst (qCons (qOp opIx (qVar 8) (qVar 11)) (qCons (qC .none) qNil))) (qUn opInt (qOp opEq (qOp opMod (qOp opIx (qVar 3) (qOp opAdd (qC (.int 40)) (qVar 11))) (qC (.int 2))) (qC (.int 0)))))) (qgN 9))
  (qFrz 9 (qSeq (qAsg (qCall 2 P__law_done (qCons (qVar 2) (qCons (qVar 9) qNil))) (qgTup 2 (qgCons (qgN 7) (qgCons (qgN 10) qgNil))))
  (qRet (qAndV (qOp opEq (qVar 7) (qC (.str "told"))) (qAndV (qUn (opIsi "str") (qVar 10)) (qAndV (qCall 2 P__law_is_good (qCons (qVar 2) (qCons (qVar 10) qNil))) (qAndV (qCall 2 P__law_fits (qCons (qVar 10) (qCons (qVar 9) qNil))) (qOp opGt (qCall 2 P_count_good (qCons (qVar 2) (qCons (qVar 9) qNil))) (qC (.int 0)))))))))))
def q__law_large_8 : QS :=
  (qSeq (qIfS (qB (qOp opEq (qVar 7) (qC (.str "refused"))))
   (qRet (qAndV (qVar 8) (qCall 2 P__law_same (qCons (qCall 2 P_count_good (qCons (qVar 2) (qCons (qVar 6) qNil))) (qCons (qC (.int 0)) qNil)))))
   qNext)
  (qSeq (qIfS (qOr (qNot (qB (qUn (opIsi "str") (qVar 8)))) (qOr (qB (qOp opNe (qUn opLen (qVar 8)) (qVar 4))) (qOr (qNot (qB (qCall 2 P__law_is_good (qCons (qVar 2) (qCons (qVar 8) qNil))))) (qNot (qB (qCall 2 P__law_fits (qCons (qVar 8) (qCons (qVar 6) qNil))))))))
   (qRet (qC (.bool false)))
   qNext)
  q__law_large_10))
def q__law_large_6 : QS :=
  (qSeq (qAsg (qLc [11] (qiR1 (qCons (qVar 4) qNil)) (qgN 11) qYes (qOp opIx (qLst (qCons (qOp opIx (qVar 5) (qVar 11)) (qCons (qC .none) qNil))) (qUn opInt (qOp opEq (qOp opMod (qOp opIx (qVar 3) (qOp opAdd (qC (.int 40)) (qVar 11))) (qC (.int 3))) (qC (.int 0)))))) (qgN 6))
  (qFrz 6 (qSeq (qAsg (qCall 2 P__law_done (qCons (qVar 2) (qCons (qVar 6) qNil))) (qgTup 2 (qgCons (qgN 7) (qgCons (qgN 8) qgNil))))
  q__law_large_8)))
def q__law_large_4 : QS :=
  (qSeq (qIfS (qNot (qB (qCall 2 P__law_same (qCons (qCall 2 P_remainders (qCons (qVar 2) (qCons (qVar 5) qNil))) (qCons (qCall 2 P__law_sums (qCons (qVar 2) (qCons (qVar 5) qNil))) qNil)))))
   (qRet (qC (.bool false)))
   qNext)
  (qSeq (qIfS (qB (qOp opGt (qOp opMul (qOp opMul (qVar 4) (qUn opLen (qOp opIx (qVar 2) (qC (.int 0))))) (qCall 2 P__law_power (qCons (qUn opLen (qOp opIx (qVar 2) (qC (.int 0)))) (qCons (qUn opLen (qOp opIx (qVar 2) (qC (.int 1)))) qNil)))) (qC (.int 6000))))
   (qRet (qC (.bool true)))
   qNext)
  q__law_large_6))
-- _law_large(script, at) slots: 0=script 1=at 2=frame* 3=draws* 4=n 5=line* 6=parts 7=kind 8=told* 9=again 10=more 11=k
def q__law_large : QS :=
  (qSeq (qAsg (qCall 3 P__law_frame (qCons (qVar 0) (qCons (qVar 1) (qCons (qC (.bool false)) qNil)))) (qgN 2))
  (qSeq (qAsg (qCall 3 P__law_numbers (qCons (qCall 2 P__law_cell (qCons (qVar 0) (qCons (qOp opAdd (qVar 1) (qC (.int 2))) qNil))) (qCons (qC (.int 84)) (qCons (qC (.int 5040)) qNil)))) (qgN 3))
  (qFrz 3 (qSeq (qAsg (qUn opLen (qOp opIx (qOp opIx (qVar 2) (qC (.int 1))) (qC (.int 0)))) (qgN 4))
  (qSeq (qAsg (qM1 opJoin (qC (.str "")) (qLc [11] (qiR1 (qCons (qVar 4) qNil)) (qgN 11) qYes (qOp opIx (qOp opIx (qVar 2) (qC (.int 0))) (qOp opMod (qOp opIx (qVar 3) (qVar 11)) (qUn opLen (qOp opIx (qVar 2) (qC (.int 0)))))))) (qgN 5))
  q__law_large_4)))))
theorem same_tupI (a : List Int) (h : a.length ≤ 1000) : sameOk 2 (tupI a) = true := by
  simp only [sameOk, tupI, Bool.and_eq_true, decide_eq_true_eq, List.length_map, List.all_eq_true]
  refine ⟨by omega, fun d hd => ?_⟩
  obtain ⟨i, _, rfl⟩ := List.mem_map.mp hd
  rfl
theorem large_10 {R : Wv → Prop} {f : Fr} (ok : FrOk f) {dr : List Int} (hdr : dr.length = 84) {ps : List (Option Nat)} (hp : PsOk f ps) (hl : ps.length = f.n) {ws : List Nat} (hws : ws ∈ goodS f ps) (h : R (.sh (.bool true))) {x0 x1 x5 x6 x7 x9 x10 : Sl} :
    q__law_large_10 (endsOf R) [x0, x1, .sh f.enc, .sh (intsD dr), .sh (.int f.n), x5, x6, x7, .sh (.str (lineOf f ws)), x9, x10, .un] := by
  obtain ⟨⟨wl, ww⟩, wg, wf⟩ := goodS_line ok hp hl hws
  have hn := ok.n2
  have hx : InL f (lineOf f ws) := good_inL ww
  have hxl : (lineOf f ws).length = f.n := by rw [lineOf_len, wl]
  generalize hX : lineOf f ws = x at *
  ac_rfl
  refine lc0_map (vs := [11]) (fun i : Nat => .int (i : Int)) (fun k => partD (if dr[40 + k]?.getD 0 % 2 = 0 then none else (tl x)[k]?)) _ (fun k hk acc K hacc hK => ?_) (by simp; exact small (by omega)) ?_
  · have hk : k < f.n := by simpa using hk
    obtain ⟨cc, e1⟩ : ∃ cc, (tl x)[k]? = some cc := ⟨_, List.getElem?_eq_getElem (by rw [tl_len]; omega)⟩
    have e2 : dr[40 + k]? = some dr[40 + k] := List.getElem?_eq_getElem (by omega)
    rw [e2, e1] at hK
    ac_rfl
    rw [ixD_nat e1]
    ac_rfl
    rw [show ixD (List.map PyData.int dr) (40 + (k : Int)) = some (.int dr[40 + k]) from ixD_map (p := 40 + k) _ e2]
    ac_rfl
    rw [eqv_int]
    by_cases z : dr[40 + k] % 2 = 0
    · rw [show decide (dr[40 + k] % 2 = 0) = true by simpa using z]
      simp only [Option.getD_some, z, if_true] at hK
      ac_rfl
      exact hK
    · rw [show decide (dr[40 + k] % 2 = 0) = false by simpa using z]
      simp only [Option.getD_some, z, if_false] at hK
      ac_rfl
      exact hK
  · have eD : psD (ptL x dr 2 f.n) = .list ((List.range (f.n : Int).toNat).map fun k => partD (if dr[40 + k]?.getD 0 % 2 = 0 then none else (tl x)[k]?)) := by
      unfold psD ptL
      rw [List.map_map]
      rfl
    have qok : PsOk f (ptL x dr 2 f.n) := ptL_ok hx dr 2 f.n
    have ql : (ptL x dr 2 f.n).length = f.n := ptL_len _ _ _ _
    have mem : ws ∈ goodS f (ptL x dr 2 f.n) := again_good ok hp hl hws qok ql fun k c hk => by
      rw [hX]
      exact ptL_get hk
    have dlt : 0 < (goodS f (ptL x dr 2 f.n)).length := List.length_pos_of_mem mem
    obtain ⟨v, hv⟩ : ∃ v, firstW f 0 (ptL x dr 2 f.n) (zerosL f) = some v := by
      rw [first_good ok]
      cases hg : goodS f (ptL x dr 2 f.n) with
      | nil =>
        rw [hg] at dlt
        cases dlt
      | cons a r => exact ⟨a, rfl⟩
    have hv2 := hv
    rw [first_good ok] at hv2
    have hvm := List.mem_of_mem_head? (Option.mem_def.mpr hv2)
    obtain ⟨⟨vl, vw⟩, vg, vf⟩ := goodS_line ok qok ql hvm
    have hvl : (lineOf f v).length = f.n := by rw [lineOf_len, vl]
    have eDone : doneD f (ptL x dr 2 f.n) = .tuple [.str (txt "told"), .str (lineOf f v)] := by
      unfold doneD
      rw [hv]
    ac_rfl
    refine ⟨f, ptL x dr 2 f.n, by rw [eD]; rfl, ok, ql, qok, ?_⟩
    rw [eDone]
    ac_rfl
    refine ⟨f, lineOf f v, rfl, ok, by omega, ?_⟩
    rw [vg]
    ac_rfl
    refine ⟨lineOf f v, ptL x dr 2 f.n, by rw [eD]; rfl, by omega, by omega, ?_⟩
    rw [vf]
    ac_rfl
    refine ⟨f, ptL x dr 2 f.n, by rw [eD]; rfl, ok, ql, qok, ?_⟩
    rw [cnt_good]
    ac_rfl
    have e : decide ((0 : Int) < ((goodS f (ptL x dr 2 f.n)).length : Nat)) = true := by
      rw [decide_eq_true_eq]
      omega
    dsimp only
    rw [e]
    exact h
theorem large_8 {R : Wv → Prop} {f : Fr} (ok : FrOk f) {dr : List Int} (hdr : dr.length = 84) {ps : List (Option Nat)} (hp : PsOk f ps) (hl : ps.length = f.n) (h : R (.sh (.bool true))) {x0 x1 x5 x9 x10 : Sl} {kd td : D} (hkt : doneD f ps = .tuple [kd, td]) :
    q__law_large_8 (endsOf R) [x0, x1, .sh f.enc, .sh (intsD dr), .sh (.int f.n), x5, .sh (psD ps), .sh kd, .sh td, x9, x10, .un] := by
  have hn := ok.n2
  unfold doneD at hkt
  cases hf : firstW f 0 ps (zerosL f) with
  | none =>
    rw [hf] at hkt
    injection hkt with hkt
    injection hkt with h1 hkt
    injection hkt with h2 _
    subst h1 h2
    rw [first_good ok] at hf
    have hg : (goodS f ps).length = 0 := by
      cases hg : goodS f ps with
      | nil => rfl
      | cons a r =>
        rw [hg] at hf
        cases hf
    ac_rfl
    refine ⟨f, ps, rfl, ok, hl, hp, ?_⟩
    rw [cnt_good, hg]
    ac_rfl
    refine ⟨.int 0, rfl, rfl, ?_⟩
    exact h
  | some ws =>
    rw [hf] at hkt
    injection hkt with hkt
    injection hkt with h1 hkt
    injection hkt with h2 _
    subst h1 h2
    rw [first_good ok] at hf
    have hws := List.mem_of_mem_head? (Option.mem_def.mpr hf)
    have fin := large_10 ok hdr hp hl hws h (x0 := x0) (x1 := x1) (x5 := x5) (x6 := .sh (psD ps)) (x7 := .sh (.str (txt "told"))) (x9 := x9) (x10 := x10)
    obtain ⟨⟨wl, ww⟩, wg, wf⟩ := goodS_line ok hp hl hws
    have hxl : (lineOf f ws).length = f.n := by rw [lineOf_len, wl]
    generalize lineOf f ws = x at *
    ac_rfl
    rw [hxl, eqv_int]
    refine Cif.ff (by simp) ?_
    ac_rfl
    refine ⟨f, x, rfl, ok, by omega, ?_⟩
    rw [wg]
    ac_rfl
    refine ⟨x, ps, rfl, by omega, by omega, ?_⟩
    rw [wf]
    exact Cif.ff (c := !true) rfl fin
theorem done_pair (f : Fr) (ps : List (Option Nat)) : ∃ a b, doneD f ps = .tuple [a, b] := by
  unfold doneD
  split
  · exact ⟨_, _, rfl⟩
  · exact ⟨_, _, rfl⟩
theorem large_6 {R : Wv → Prop} {f : Fr} (ok : FrOk f) {dr : List Int} (hdr : dr.length = 84) {x : Str} (hx : InL f x) (hxl : x.length = f.n) (h : R (.sh (.bool true))) {x0 x1 x6 x7 x8 x9 x10 : Sl} :
    q__law_large_6 (endsOf R) [x0, x1, .sh f.enc, .sh (intsD dr), .sh (.int f.n), .sh (.str x), x6, x7, x8, x9, x10, .un] := by
  have hn := ok.n2
  ac_rfl
  refine lc0_map (vs := [11]) (fun i : Nat => .int (i : Int)) (fun k => partD (if dr[40 + k]?.getD 0 % 3 = 0 then none else (tl x)[k]?)) _ (fun k hk acc K hacc hK => ?_) (by simp; exact small (by omega)) ?_
  · have hk : k < f.n := by simpa using hk
    obtain ⟨cc, e1⟩ : ∃ cc, (tl x)[k]? = some cc := ⟨_, List.getElem?_eq_getElem (by rw [tl_len]; omega)⟩
    have e2 : dr[40 + k]? = some dr[40 + k] := List.getElem?_eq_getElem (by omega)
    rw [e2, e1] at hK
    ac_rfl
    rw [ixD_nat e1]
    ac_rfl
    rw [show ixD (List.map PyData.int dr) (40 + (k : Int)) = some (.int dr[40 + k]) from ixD_map (p := 40 + k) _ e2]
    ac_rfl
    rw [eqv_int]
    by_cases z : dr[40 + k] % 3 = 0
    · rw [show decide (dr[40 + k] % 3 = 0) = true by simpa using z]
      simp only [Option.getD_some, z, if_true] at hK
      ac_rfl
      exact hK
    · rw [show decide (dr[40 + k] % 3 = 0) = false by simpa using z]
      simp only [Option.getD_some, z, if_false] at hK
      ac_rfl
      exact hK
  · have eD : psD (ptL x dr 3 f.n) = .list ((List.range (f.n : Int).toNat).map fun k => partD (if dr[40 + k]?.getD 0 % 3 = 0 then none else (tl x)[k]?)) := by
      unfold psD ptL
      rw [List.map_map]
      rfl
    have qok : PsOk f (ptL x dr 3 f.n) := ptL_ok hx dr 3 f.n
    have ql : (ptL x dr 3 f.n).length = f.n := ptL_len _ _ _ _
    obtain ⟨a, b, hab⟩ := done_pair f (ptL x dr 3 f.n)
    have fin := large_8 ok hdr qok ql h hab (x0 := x0) (x1 := x1) (x5 := .sh (.str x)) (x9 := x9) (x10 := x10)
    rw [eD] at fin
    ac_rfl
    refine ⟨f, ptL x dr 3 f.n, by rw [eD]; rfl, ok, ql, qok, ?_⟩
    rw [hab]
    ac_rfl
    exact fin
theorem large_4 {R : Wv → Prop} {f : Fr} (ok : FrOk f) {dr : List Int} (hdr : dr.length = 84) {x : Str} (hx : InL f x) (hxl : x.length = f.n) (h : R (.sh (.bool true))) {x0 x1 x6 x7 x8 x9 x10 : Sl} :
    q__law_large_4 (endsOf R) [x0, x1, .sh f.enc, .sh (intsD dr), .sh (.int f.n), .sh (.str x), x6, x7, x8, x9, x10, .un] := by
  have fin := large_6 ok hdr hx hxl h (x0 := x0) (x1 := x1) (x6 := x6) (x7 := x7) (x8 := x8) (x9 := x9) (x10 := x10)
  have hn := ok.n2
  have hm := ok.m1
  have c2 := ok.c2
  obtain ⟨s1, s2⟩ := ok.sl
  have hm' : f.m = f.s.length := rfl
  have ro := rem_ok ok x
  ac_rfl
  refine ⟨f, x, rfl, ok, hx, by omega, ?_⟩
  ac_rfl
  refine ⟨f, x, rfl, ok, hx, hxl, ?_⟩
  ac_rfl
  refine ⟨_, rfl, same_tupI _ (by omega), ?_⟩
  ac_rfl
  refine ⟨f.m, f.c.length, by rw [List.length_map]; rfl, by omega, by omega, fun i => ?_⟩
  have bb : f.n * f.s.length ≤ 40 * 40 := Nat.mul_le_mul hn (by omega)
  have b0 : (0 : Int) ≤ (f.n : Int) * (f.s.length : Int) := by rw [← Int.natCast_mul]; omega
  have b1 : (f.n : Int) * (f.s.length : Int) ≤ 1600 := by rw [← Int.natCast_mul]; omega
  generalize (f.n : Int) * (f.s.length : Int) = nm at *
  ac_rfl
  exact ⟨fun _ => h, fun _ => fin⟩
def P__law_large : PD := fun ds R => ∃ ns : List Int, ds = [scrD ns, .int 3] ∧ ns.length ≤ 63 ∧ R (.sh (.bool true))
theorem pure__law_large : ∀ ds R, ds.length = 2 → P__law_large ds R → q__law_large (endsOf R) (startEv 12 ds) := by
  rintro ds R - ⟨ns, rfl, hns, h⟩
  ac_rfl
  refine ⟨ns, 3, false, rfl, hns, fun f ok _ => ?_⟩
  have hn := ok.n2
  have hm2 := ok.m2
  obtain ⟨s1, s2⟩ := ok.sl
  have hm' : f.m = f.s.length := rfl
  ac_rfl
  refine ⟨ns, 5, rfl, hns, fun c => ?_⟩
  ac_rfl
  refine ⟨c, 84, 5040, rfl, by decide, by decide, by decide, fun dr hdr hdb => ?_⟩
  ac_rfl
  rw [row_ix ok]
  ac_rfl
  rw [List.length_map, show (hdRow f).length = f.n from rfl]
  ac_rfl
  let ls : List Nat := (List.range f.n).map fun k => (dr[k]?.getD 0 % (f.m : Int)).toNat
  have hls : ∀ w ∈ ls, w < f.m := fun w hw => by
    obtain ⟨k, _, rfl⟩ := List.mem_map.mp hw
    have := Int.emod_nonneg (dr[k]?.getD 0) (show (f.m : Int) ≠ 0 by omega)
    have := Int.emod_lt_of_pos (dr[k]?.getD 0) (show (0 : Int) < f.m by omega)
    omega
  have hll : (lineOf f ls).length = f.n := by rw [lineOf_len]; simp [ls]
  have fin := large_4 ok hdr (good_inL hls) hll h (x0 := .sh (scrD ns)) (x1 := .sh (.int 3)) (x6 := .un) (x7 := .un) (x8 := .un) (x9 := .un) (x10 := .un)
  refine lc0_map (vs := [11]) (fun i : Nat => .int (i : Int)) (fun k => .str ⟨#[sgn f (dr[k]?.getD 0 % (f.m : Int)).toNat]⟩) _ (fun k hk acc K ha hK => ?_) (by simp; exact small (by omega)) ?_
  · have hk : k < f.n := by simpa using hk
    have e2 : dr[k]? = some dr[k] := List.getElem?_eq_getElem (by omega)
    rw [e2, Option.getD_some] at hK
    have w0 := Int.emod_nonneg dr[k] (show (f.m : Int) ≠ 0 by omega)
    have w1 := Int.emod_lt_of_pos dr[k] (show (0 : Int) < f.m by omega)
    obtain ⟨w, hw⟩ : ∃ w : Nat, dr[k] % (f.m : Int) = w := ⟨(dr[k] % (f.m : Int)).toNat, by omega⟩
    have hwm : w < f.m := by omega
    rw [hw, Int.toNat_natCast] at hK
    ac_rfl
    rw [ixD_map PyData.int e2]
    ac_rfl
    rw [show dr[k] % (f.s.length : Int) = w from hw, show ixD (tl f.s) (w : Int) = some (sgn f w) from sgn_get hwm]
    ac_rfl
    exact hK
  · have ej : Str.join Str.empty ((List.range f.n).map fun k => (⟨#[sgn f (dr[k]?.getD 0 % (f.m : Int)).toNat]⟩ : Str)) = lineOf f ls := by
      refine str_ext ?_
      have := join_signs (ls.map (sgn f))
      rw [List.map_map] at this
      simp only [ls, List.map_map] at this
      rw [tl_lineOf]
      simp only [ls, List.map_map]
      exact this
    have e3 : (((List.range f.n).map fun k => (⟨#[sgn f (dr[k]?.getD 0 % (f.m : Int)).toNat]⟩ : Str)).map (·.length)).sum = f.n := by
      rw [List.map_map]
      show ((List.range f.n).map fun _ => 1).sum = f.n
      simp only [List.map_const', List.sum_replicate_nat, List.length_range, Nat.mul_one]
    ac_rfl
    rw [strsOf_map']
    refine ⟨?_, ?_⟩
    · show _ + _ * 0 ≤ _
      rw [Int.toNat_natCast, e3]
      omega
    · rw [Int.toNat_natCast]
      rw [← ej] at fin
      exact fin
end PL

namespace PL
open PySem PySem.Spec PyProof.Rows L2
local macro_rules | `(tactic| ac_rfl) => `(tactic| ((conv => whnf); repeat ((first | refine Cif.yes ?_ | refine Cif.no ?_ | (refine And.intro ?_ ?_; · first | (show _ ≤ (_ : Int); omega) | (show _ < (_ : Int); omega) | assumption | exact trivial | exact rfl | (refine small ?_; first | omega | (simp only [List.length_map, List.length_cons, List.length_nil, List.length_append]; omega)) | (refine ltsmall ?_; first | omega | (simp only [List.length_map, List.length_cons, List.length_nil, List.length_append]; omega)) | (refine cdiv ?_ ?_ <;> omega) | (refine cmulR ?_ ?_ <;> omega) | (refine cmulL ?_ ?_ <;> omega) | (refine ⟨?_, ?_, ?_, ?_⟩ <;> omega))); (conv => whnf))))
local macro_rules | `(tactic| exists $e) => `(tactic| first | exact $e | exact And.right $e | exact And.right (And.right $e) | exact And.right (And.right (And.right $e)))
def q_law_10 : QS :=
  (qRet (qAndV (qOp opEq (qVar 3) (qUn opShow (qVar 1))) (qCall 2 P__law_large (qCons (qVar 0) (qCons (qC (.int 3)) qNil)))))
def q_law_9 : QS :=
  (qSeq (qFor (qiR1 (qCons (qC (.int 6)) qNil)) (qgN 10)
   (qSeq (qAsg (qOp opMul (qLst (qCons (qC .none) qNil)) (qVar 5)) (qgN 11))
   (qSeq (qFor (qiR1 (qCons (qVar 5) qNil)) (qgN 12)
    (qIfS (qAnd (qB (qOp opGt (qVar 10) (qC (.int 0)))) (qB (qOp opEq (qOp opMod (qOp opFdiv (qOp opIx (qVar 2) (qOp opAdd (qOp opMul (qC (.int 6)) (qVar 10)) (qOp opMod (qVar 12) (qC (.int 6))))) (qOp opAdd (qC (.int 1)) (qVar 12))) (qC (.int 3))) (qC (.int 0)))))
     (qSetIx 11 (qVar 12) (qOp opIx (qOp opIx (qVar 1) (qC (.int 0))) (qOp opMod (qOp opIx (qVar 2) (qOp opAdd (qOp opMul (qC (.int 6)) (qVar 10)) (qOp opMod (qOp opAdd (qVar 12) (qC (.int 1))) (qC (.int 6))))) (qUn opLen (qOp opIx (qVar 1) (qC (.int 0)))))))
     qNext))
   (qFrz 11 (qSeq (qAsg (qLc [8] (qiL (qVar 6)) (qgN 8) (qB (qCall 2 P__law_fits (qCons (qVar 8) (qCons (qVar 11) qNil)))) (qVar 8)) (qgN 13))
   (qFrz 13 (qSeq (qAsg (qUn opList (qVar 11)) (qgN 14))
   (qFrz 14 (qSeq (qIfS (qNot (qB (qCall 2 P__law_same (qCons (qCall 2 P_count_good (qCons (qVar 1) (qCons (qVar 14) qNil))) (qCons (qUn opLen (qVar 13)) qNil)))))
    (qRet (qC (.bool false)))
    qNext)
   (qSeq (qAsg (qTup (qCons (qC (.str "refused")) (qCons (qC (.bool true)) qNil))) (qgN 9))
   (qSeq (qIfS (qB (qOp opGt (qUn opLen (qVar 13)) (qC (.int 0))))
    (qAsg (qTup (qCons (qC (.str "told")) (qCons (qOp opIx (qVar 13) (qC (.int 0))) qNil))) (qgN 9))
    qNext)
   (qIfS (qOr (qNot (qB (qCall 2 P__law_same (qCons (qCall 2 P__law_done (qCons (qVar 1) (qCons (qVar 14) qNil))) (qCons (qVar 9) qNil))))) (qB (qOp opNe (qVar 14) (qVar 11))))
    (qRet (qC (.bool false)))
    qNext))))))))))))
  q_law_10)
def q_law_8 : QS :=
  (qSeq (qIfS (qB (qOp opNe (qOp opMul (qUn opLen (qVar 6)) (qLenD (qVar 7))) (qUn opLen (qVar 4))))
   (qRet (qC (.bool false)))
   qNext)
  q_law_9)
def q_law_6 : QS :=
  (qSeq (qAsg (qOwn (.t [])) (qgN 7))
  (qSeq (qFor (qiL (qVar 4)) (qgN 8)
   (qSeq (qAsg (qCall 2 P__law_sums (qCons (qVar 1) (qCons (qVar 8) qNil))) (qgN 9))
   (qSeq (qDPut 7 (qVar 9) (qC (.bool true)))
   (qIfS (qNot (qB (qCall 2 P__law_same (qCons (qCall 2 P_remainders (qCons (qVar 1) (qCons (qVar 8) qNil))) (qCons (qVar 9) qNil)))))
    (qRet (qC (.bool false)))
    qNext))))
  q_law_8))
-- law(script) slots: 0=script 1=frame* 2=draws 3=kept 4=lines 5=n 6=good 7=sums 8=line 9=due 10=turn 11=parts* 12=k 13=some 14=handed
def q_law : QS :=
  (qSeq (qAsg (qCall 3 P__law_frame (qCons (qVar 0) (qCons (qC (.int 0)) (qCons (qC (.bool true)) qNil)))) (qgN 1))
  (qSeq (qAsg (qCall 3 P__law_numbers (qCons (qCall 2 P__law_cell (qCons (qVar 0) (qCons (qC (.int 2)) qNil))) (qCons (qC (.int 40)) (qCons (qC (.int 5040)) qNil)))) (qgN 2))
  (qFrz 2 (qSeq (qAsg (qUn opShow (qVar 1)) (qgN 3))
  (qFrz 3 (qSeq (qAsg (qCall 1 P__law_lines (qCons (qVar 1) qNil)) (qgN 4))
  (qFrz 4 (qSeq (qAsg (qUn opLen (qOp opIx (qOp opIx (qVar 1) (qC (.int 1))) (qC (.int 0)))) (qgN 5))
  (qSeq (qAsg (qLc [8] (qiL (qVar 4)) (qgN 8) (qB (qCall 2 P__law_is_good (qCons (qVar 1) (qCons (qVar 8) qNil)))) (qVar 8)) (qgN 6))
  (qFrz 6 q_law_6))))))))))
def P_law : PD := fun ds R => ∃ ns : List Int, ds = [scrD ns] ∧ ns.length ≤ 63 ∧ R (.sh (.bool true))
theorem seq_i {p q : QS} {P : PEnds} {Γ : Ev} (h : p { P with nx := q P } Γ) : qSeq p q P Γ := h
theorem for_6 {g : QG} {t : QS} {P : PEnds} {Γ : Ev} {j : Nat} (h : forGo g t P ((List.range 6).map fun i : Nat => .int (i : Int)) Γ) : qFor (qiR1 (qCons (qC (.int 6)) qNil)) g t P Γ :=
  ⟨(by decide : -(2 ^ 62) ≤ (6 : Int)), (by decide : (6 : Int) < 2 ^ 62), h⟩
theorem law_10 {R : Wv → Prop} {f : Fr} (ok : FrOk f) {ns : List Int} (hns : ns.length ≤ 63) {x2 x4 x5 x6 x7 x8 x9 x10 x11 x12 x13 x14 : Sl} (h : R (.sh (.bool true))) :
    q_law_10 (endsOf R) [.sh (scrD ns), .sh f.enc, x2, .sh (.str f.enc.shown), x4, x5, x6, x7, x8, x9, x10, x11, x12, x13, x14] := by
  ac_rfl
  refine ⟨showable_enc ok, flat_enc f, shown_enc ok, ?_⟩
  ac_rfl
  rw [eqv_str]
  refine Cif.tt (by simp) ?_
  ac_rfl
  exact ⟨ns, rfl, hns, h⟩
theorem plain_ps : ∀ ps : List (Option Nat), PyData.plainAll (ps.map partD) = true
  | [] => rfl
  | none :: r => by simp [PyData.plainAll, PyData.plain, partD, plain_ps r]
  | some c :: r => by simp [PyData.plainAll, PyData.plain, partD, signD, plain_ps r]
theorem hasDict_ps : ∀ ps : List (Option Nat), PyData.hasDictAll (ps.map partD) = false
  | [] => by simp [PyData.hasDictAll]
  | p :: r => by simp [PyData.hasDictAll, dict_part p, hasDict_ps r]
theorem depth_ps : ∀ ps : List (Option Nat), PyData.depthAll (ps.map partD) = 0
  | [] => by simp [PyData.depthAll]
  | p :: r => by
    have : (partD p).depth = 0 := by cases p <;> simp [partD, signD, PyData.depth]
    simp [PyData.depthAll, this, depth_ps r]
theorem flat_ps (ps : List (Option Nat)) : flat 60 (psD ps) = true := by
  have e1 : (psD ps).hasDict = false := by simp [psD, PyData.hasDict, hasDict_ps]
  have e2 : (psD ps).depth ≤ 60 := by simp [psD, PyData.depth, depth_ps]
  simp [flat, e1, e2]
theorem eqv_ps (ps : List (Option Nat)) : PyData.eqv (psD ps) (psD ps) = true := PySem.SeqAt.eqv_refl_plain _ (by simp [psD, PyData.plain, plain_ps])
theorem same_done (f : Fr) (ps : List (Option Nat)) : sameOk 2 (doneD f ps) = true := by
  unfold doneD
  split
  · rfl
  · rfl
theorem none_D (n : Nat) : (List.replicate ((n : Int)).toNat [PyData.none]).flatten = (noneL n).map partD := by simp [noneL, partD]
/-- one turn: parts are drawn -/
theorem set_ps (ps : List (Option Nat)) (k c : Nat) : (ps.map partD).set k (signD c) = (ps.set k (some c)).map partD := by
  rw [List.map_set]
  rfl
theorem law_9 {R : Wv → Prop} {f : Fr} (ok : FrOk f) (sm : Small f) {ns : List Int} (hns : ns.length ≤ 63) {dr : List Int} (hdr : dr.length = 40) (hdb : ∀ d ∈ dr, 0 ≤ d ∧ d < 5040) {x7 x8 x9 x10 x11 x12 x13 x14 : Sl} (h8 : isOw (some x8) = false) (h : R (.sh (.bool true))) :
    q_law_9 (endsOf R) [.sh (scrD ns), .sh f.enc, .sh (intsD dr), .sh (.str f.enc.shown), .sh (.list ((linesK f f.n).map .str)), .sh (.int f.n), .sh (.list ((goodL f).map .str)), x7, x8, x9, x10, x11, x12, x13, x14] := by
  have m2 := ok.m2
  have m1 := ok.m1
  have n2 := ok.n2
  obtain ⟨s1, s2⟩ := ok.sl
  have hm' : f.m = f.s.length := rfl
  have gl0 : (linesK f f.n).length ≤ 128 := by
    rw [linesK_len]
    exact sm.pw
  have gl : (goodL f).length ≤ 128 := Nat.le_trans (List.length_filter_le _ _) gl0
  have hgood : ∀ y ∈ goodL f, y.length = f.n := fun y hy => (isGood_in (mem_goodL.mp hy)).1
  generalize hlk : (linesK f f.n).map PyData.str = lk
  refine seq_i ?_
  refine for_6 (j := 0) ?_
  refine forGo_ok (fun i : Nat => .int (i : Int)) (fun r Γ => ∃ (x9 x10 x11 x12 x13 x14 : Sl), Γ = [.sh (scrD ns), .sh f.enc, .sh (intsD dr), .sh (.str f.enc.shown), .sh (.list lk), .sh (.int f.n), .sh (.list ((goodL f).map .str)), x7, x8, x9, x10, x11, x12, x13, x14] ∧ ∀ i ∈ r, i < 6) ?_ ?_ _ _ ⟨_, _, _, _, _, _, rfl, fun i hi => by simpa using hi⟩
  · rintro Γ ⟨x9, x10, x11, x12, x13, x14, rfl, _⟩
    exact law_10 ok hns h
  · rintro i r Γ K ⟨x9, x10, x11, x12, x13, x14, rfl, hr⟩ hK
    have hi6 := hr i (by simp)
    have next := fun {x9 x10 x11 x12 x13 x14 : Sl} => hK [.sh (scrD ns), .sh f.enc, .sh (intsD dr), .sh (.str f.enc.shown), .sh (.list lk), .sh (.int f.n), .sh (.list ((goodL f).map .str)), x7, x8, x9, x10, x11, x12, x13, x14] ⟨_, _, _, _, _, _, rfl, fun j hj => hr j (List.mem_cons_of_mem _ hj)⟩
    clear hK
    ac_rfl
    rw [none_D]
    refine ⟨by show 1 * f.n ≤ _; omega, ?_⟩
    ac_rfl
    refine forGo_ok (fun k : Nat => .int (k : Int)) (fun r Γ => ∃ (ps : List (Option Nat)) (x12 : Sl), Γ = [.sh (scrD ns), .sh f.enc, .sh (intsD dr), .sh (.str f.enc.shown), .sh (.list lk), .sh (.int f.n), .sh (.list ((goodL f).map .str)), x7, x8, x9, .sh (.int (i : Nat)), .ow (.l (ps.map partD)), x12, x13, x14] ∧ ps.length = f.n ∧ PsOk f ps ∧ ∀ k ∈ r, k < f.n) ?_ ?_ (List.range f.n) _ ⟨noneL f.n, _, rfl, by simp [noneL], ps_none f.n, fun k hk => by simpa using hk⟩
    · rintro Γ ⟨ps, x12, rfl, hl, hp, _⟩
      have hse := some_eq ok hp hl
      have hcnt := cnt_good (f := f) ps
      have hfirst := first_good ok ps
      have hsd := same_done f ps
      have hfl := flat_ps ps
      have hev := eqv_ps ps
      have hgs : (goodS f ps).length ≤ 128 := by
        have := congrArg List.length hse
        rw [List.length_map] at this
        have := List.length_filter_le (fun x => fitB x ps) (goodL f)
        omega
      ac_rfl
      refine ⟨(by
        show (!isOw (some x8) && true) = true
        rw [h8]
        rfl), ?_⟩
      refine lc0_fil (vs := [8]) PyData.str (fun x => fitB x ps) PyData.str (goodL f) (fun y hy acc K2 ha h1 h2 => ?_) (small (by omega)) ?_
      · have ly := hgood y hy
        ac_rfl
        refine ⟨y, ps, rfl, by omega, by omega, ?_⟩
        ac_rfl
        refine ⟨fun hz => ?_, fun hz => ?_⟩
        · ac_rfl
          exact h1 hz
        · exact h2 hz
      · rw [hse, List.map_map]
        ac_rfl
        refine ⟨f, ps, rfl, ok, hl, hp, ?_⟩
        rw [hcnt]
        ac_rfl
        rw [List.length_map]
        refine ⟨_, rfl, rfl, ?_⟩
        cases hG : goodS f ps with
        | nil =>
          rw [hG] at hfirst
          have hfirst : firstW f 0 ps (zerosL f) = none := hfirst
          have hd : doneD f ps = .tuple [.str (txt "refused"), .bool true] := by
            unfold doneD
            rw [hfirst]
          rw [hd] at hsd
          ac_rfl
          refine ⟨f, ps, rfl, ok, hl, hp, ?_⟩
          rw [hd]
          ac_rfl
          refine ⟨_, rfl, hsd, ?_⟩
          ac_rfl
          refine ⟨by rw [show flat 60 (O.l (List.map partD ps)).toD = true from hfl]; rfl, ?_⟩
          rw [show PyData.eqv (O.l (List.map partD ps)).toD (O.l (List.map partD ps)).toD = true from hev]
          ac_rfl
          exact next
        | cons a r =>
          rw [hG] at hfirst hgs
          have hfirst : firstW f 0 ps (zerosL f) = some a := hfirst
          have hd : doneD f ps = .tuple [.str (txt "told"), .str (lineOf f a)] := by
            unfold doneD
            rw [hfirst]
          rw [hd] at hsd
          ac_rfl
          refine Cif.tt (by show decide ((0 : Int) < ((List.map (PyData.str ∘ lineOf f) (a :: r)).length : Nat)) = true; simp) ?_
          ac_rfl
          refine ⟨f, ps, rfl, ok, hl, hp, ?_⟩
          rw [hd]
          ac_rfl
          refine ⟨_, rfl, hsd, ?_⟩
          ac_rfl
          refine ⟨by rw [show flat 60 (O.l (List.map partD ps)).toD = true from hfl]; rfl, ?_⟩
          rw [show PyData.eqv (O.l (List.map partD ps)).toD (O.l (List.map partD ps)).toD = true from hev]
          ac_rfl
          exact next
    · rintro k r2 Γ K2 ⟨ps, x12, rfl, hl, hp, hr2⟩ hK2
      have hk := hr2 k (by simp)
      have step := fun (qs : List (Option Nat)) (hql : qs.length = f.n) (hq : PsOk f qs) => hK2 [.sh (scrD ns), .sh f.enc, .sh (intsD dr), .sh (.str f.enc.shown), .sh (.list lk), .sh (.int f.n), .sh (.list ((goodL f).map .str)), x7, x8, x9, .sh (.int (i : Nat)), .ow (.l (qs.map partD)), .sh (.int (k : Nat)), x13, x14] ⟨qs, _, rfl, hql, hq, fun j hj => hr2 j (List.mem_cons_of_mem _ hj)⟩
      clear hK2 next
      have g : ∀ j : Nat, j < 40 → ∃ v, ixD (dr.map PyData.int) (j : Int) = some (.int v) ∧ 0 ≤ v ∧ v < 5040 := fun j hj => by
        have e : dr[j]? = some dr[j] := List.getElem?_eq_getElem (by omega)
        exact ⟨_, ixD_map _ e, hdb _ (List.getElem_mem (by omega))⟩
      obtain ⟨v1, ev1, b1, c1⟩ := g (6 * i + k % 6) (by omega)
      obtain ⟨v2, ev2, b2, c2⟩ := g (6 * i + (k + 1) % 6) (by omega)
      rw [show ((6 * i + k % 6 : Nat) : Int) = 6 * (i : Int) + (k : Int) % 6 by omega] at ev1
      rw [show ((6 * i + (k + 1) % 6 : Nat) : Int) = 6 * (i : Int) + ((k : Int) + 1) % 6 by omega] at ev2
      have w0 := Int.emod_nonneg v2 (show (f.m : Int) ≠ 0 by omega)
      have w1 := Int.emod_lt_of_pos v2 (show (0 : Int) < f.m by omega)
      obtain ⟨w, hw⟩ : ∃ w : Nat, v2 % (f.m : Int) = w := ⟨(v2 % (f.m : Int)).toNat, by omega⟩
      have hwm : w < f.m := by omega
      have t0 := step ps hl hp
      have t1 := step (ps.set k (some (sgn f w))) (by rw [List.length_set]; exact hl) (fun p hp' c e => by
        rcases List.mem_or_eq_of_mem_set hp' with z | z
        · exact hp p z c e
        · rw [z] at e
          injection e with e
          rw [← e]
          exact sgn_mem hwm)
      rw [← set_ps] at t1
      clear step
      ac_rfl
      refine ⟨fun _ => ?_, fun _ => ?_⟩
      · ac_rfl
        rw [ev1]
        ac_rfl
        rw [eqv_int]
        refine ⟨fun _ => ?_, fun _ => ?_⟩
        · ac_rfl
          rw [ev2]
          ac_rfl
          rw [show v2 % (f.s.length : Int) = w from hw, show ixD (tl f.s) (w : Int) = some (sgn f w) from sgn_get hwm]
          ac_rfl
          rw [show ixN (List.map partD ps).length (k : Int) = some k from ixN_lt (by rw [List.length_map, hl]; exact hk)]
          ac_rfl
          exact t1
        · ac_rfl
          exact t0
      · ac_rfl
        exact t0
end PL

namespace PL
open PySem PySem.Spec PyProof.Rows L2
local macro_rules | `(tactic| ac_rfl) => `(tactic| ((conv => whnf); repeat ((first | refine Cif.yes ?_ | refine Cif.no ?_ | (refine And.intro ?_ ?_; · first | (show _ ≤ (_ : Int); omega) | (show _ < (_ : Int); omega) | assumption | exact trivial | exact rfl | (refine small ?_; first | omega | (simp only [List.length_map, List.length_cons, List.length_nil, List.length_append]; omega)) | (refine ltsmall ?_; first | omega | (simp only [List.length_map, List.length_cons, List.length_nil, List.length_append]; omega)) | (refine cdiv ?_ ?_ <;> omega) | (refine cmulR ?_ ?_ <;> omega) | (refine cmulL ?_ ?_ <;> omega) | (refine ⟨?_, ?_, ?_, ?_⟩ <;> omega))); (conv => whnf))))
local macro_rules | `(tactic| exists $e) => `(tactic| first | exact $e | exact And.right $e | exact And.right (And.right $e) | exact And.right (And.right (And.right $e)))
theorem kd_len (ms : List (List Int)) : (kd ms).length = ms.length := by simp [kd]
theorem keys_len (ms : List (List Int)) : (keysOf ms).length ≤ ms.length := nodup_le (keys_nodup ms) fun x hx => mem_keysOf.mp hx
theorem keys_snoc (ms : List (List Int)) (m : List Int) : keysOf (ms ++ [m]) = addK (keysOf ms) m := by
  unfold keysOf
  rw [List.foldl_append]
  rfl
theorem law_8 {R : Wv → Prop} {f : Fr} (ok : FrOk f) (sm : Small f) {ns : List Int} (hns : ns.length ≤ 63) {dr : List Int} (hdr : dr.length = 40) (hdb : ∀ d ∈ dr, 0 ≤ d ∧ d < 5040) {x8 x9 x10 x11 x12 x13 x14 : Sl} (h8 : isOw (some x8) = false) (h : R (.sh (.bool true))) :
    q_law_8 (endsOf R) [.sh (scrD ns), .sh f.enc, .sh (intsD dr), .sh (.str f.enc.shown), .sh (.list ((linesK f f.n).map .str)), .sh (.int f.n), .sh (.list ((goodL f).map .str)), .ow (.t (kd (keysOf ((linesK f f.n).map (rem f))))), x8, x9, x10, x11, x12, x13, x14] := by
  have fin := law_9 ok sm hns hdr hdb (x7 := .ow (.t (kd (keysOf ((linesK f f.n).map (rem f)))))) (x9 := x9) (x10 := x10) (x11 := x11) (x12 := x12) (x13 := x13) (x14 := x14) h8 h
  have key := good_times ok
  have gl0 : (linesK f f.n).length ≤ 128 := by
    rw [linesK_len]
    exact sm.pw
  have gl : (goodL f).length ≤ 128 := Nat.le_trans (List.length_filter_le _ _) gl0
  have kl : (keysOf ((linesK f f.n).map (rem f))).length ≤ 128 := by
    have := keys_len ((linesK f f.n).map (rem f))
    rw [List.length_map] at this
    omega
  have hkd := kd_len (keysOf ((linesK f f.n).map (rem f)))
  have hl1 : (List.map PyData.str (goodL f)).length = (goodL f).length := List.length_map _
  have hl2 : (List.map PyData.str (linesK f f.n)).length = (linesK f f.n).length := List.length_map _
  generalize keysOf ((linesK f f.n).map (rem f)) = ks at *
  generalize goodL f = gd at *
  generalize linesK f f.n = ln at *
  ac_rfl
  rw [hl1, hl2, hkd]
  rw [eqv_int]
  refine Cif.ff ?_ fin
  rw [← Int.natCast_mul, key]
  simp
theorem law_6 {R : Wv → Prop} {f : Fr} (ok : FrOk f) (sm : Small f) {ns : List Int} (hns : ns.length ≤ 63) {dr : List Int} (hdr : dr.length = 40) (hdb : ∀ d ∈ dr, 0 ≤ d ∧ d < 5040) {x7 x8 x9 x10 x11 x12 x13 x14 : Sl} (h8 : isOw (some x8) = false) (h : R (.sh (.bool true))) :
    q_law_6 (endsOf R) [.sh (scrD ns), .sh f.enc, .sh (intsD dr), .sh (.str f.enc.shown), .sh (.list ((linesK f f.n).map .str)), .sh (.int f.n), .sh (.list ((goodL f).map .str)), x7, x8, x9, x10, x11, x12, x13, x14] := by
  have fin := fun {x8 x9 : Sl} (h8 : isOw (some x8) = false) => law_8 ok sm hns hdr hdb (x8 := x8) (x9 := x9) (x10 := x10) (x11 := x11) (x12 := x12) (x13 := x13) (x14 := x14) h8 h
  have n2 := ok.n2
  have c2 := ok.c2
  have gl0 : (linesK f f.n).length ≤ 128 := by
    rw [linesK_len]
    exact sm.pw
  generalize hgd : (goodL f).map PyData.str = gd at *
  ac_rfl
  refine forGo_ok PyData.str (fun r Γ => ∃ (dn : List Str) (x8 x9 : Sl), Γ = [.sh (scrD ns), .sh f.enc, .sh (intsD dr), .sh (.str f.enc.shown), .sh (.list ((linesK f f.n).map .str)), .sh (.int f.n), .sh (.list gd), .ow (.t (kd (keysOf (dn.map (rem f))))), x8, x9, x10, x11, x12, x13, x14] ∧ isOw (some x8) = false ∧ dn ++ r = linesK f f.n) ?_ ?_ _ _ ⟨[], _, _, rfl, h8, rfl⟩
  · rintro Γ ⟨dn, x8, x9, rfl, h8, e⟩
    have e : dn = linesK f f.n := by simpa using e
    subst e
    exact fin h8
  · rintro x r Γ K ⟨dn, x8, x9, rfl, h8, e⟩ hK
    obtain ⟨lx, ix⟩ := mem_linesK.mp (show x ∈ linesK f f.n by rw [← e]; simp)
    have ro := rem_ok ok x
    have hlen : (kd (keysOf (dn.map (rem f)))).length ≤ 128 := by
      rw [kd_len]
      have h1 := keys_len (dn.map (rem f))
      rw [List.length_map] at h1
      have h2 := congrArg List.length e
      simp at h2
      omega
    have next := hK [.sh (scrD ns), .sh f.enc, .sh (intsD dr), .sh (.str f.enc.shown), .sh (.list ((linesK f f.n).map .str)), .sh (.int f.n), .sh (.list gd), .ow (.t (putD (kd (keysOf (dn.map (rem f)))) (tupI (rem f x)) (.bool true))), .sh (.str x), .sh (tupI (rem f x)), x10, x11, x12, x13, x14] ⟨dn ++ [x], _, _, by rw [put_kd, List.map_append, List.map_singleton, keys_snoc], rfl, by rw [← e]; simp⟩
    clear hK fin
    ac_rfl
    refine ⟨f, x, rfl, ok, ix, lx, ?_⟩
    ac_rfl
    refine ⟨keyT_tupI _, ltsmall (by omega), ?_⟩
    ac_rfl
    refine ⟨f, x, rfl, ok, ix, by omega, ?_⟩
    ac_rfl
    refine ⟨_, rfl, same_tupI _ (by omega), ?_⟩
    ac_rfl
    exact next
theorem pure_law : ∀ ds R, ds.length = 1 → P_law ds R → q_law (endsOf R) (startEv 15 ds) := by
  rintro ds R - ⟨ns, rfl, hns, h⟩
  ac_rfl
  refine ⟨ns, 0, true, rfl, hns, fun f ok sm => ?_⟩
  ac_rfl
  refine ⟨ns, 2, rfl, hns, fun i2 => ?_⟩
  ac_rfl
  refine ⟨i2, 40, 5040, rfl, by decide, by decide, by decide, fun dr hdr hdb => ?_⟩
  have sm := sm rfl
  have n2 := ok.n2
  have gl0 : (linesK f f.n).length ≤ 128 := by
    rw [linesK_len]
    exact sm.pw
  have fin := law_6 ok sm hns hdr hdb (x7 := .un) (x8 := .un) (x9 := .un) (x10 := .un) (x11 := .un) (x12 := .un) (x13 := .un) (x14 := .un) rfl h
  ac_rfl
  refine ⟨showable_enc ok, flat_enc f, shown_enc ok, ?_⟩
  ac_rfl
  refine ⟨f, rfl, ok, sm, ?_⟩
  ac_rfl
  rw [row_ix ok]
  ac_rfl
  rw [show (List.map PyData.int (hdRow f)).length = f.n from List.length_map ..]
  ac_rfl
  refine lc0_fil (vs := [8]) PyData.str (fun y => isGood f y) PyData.str (linesK f f.n) (fun y hy acc K2 ha h1 h2 => ?_) (small (by omega)) ?_
  · obtain ⟨ly, iy⟩ := mem_linesK.mp hy
    ac_rfl
    refine ⟨f, y, rfl, ok, by omega, ?_⟩
    ac_rfl
    refine ⟨fun hz => ?_, fun hz => ?_⟩
    · ac_rfl
      exact h1 hz
    · exact h2 hz
  · exact fin
end PL

namespace PL
open PySem PySem.Spec PyProof.Rows L2

structure Mg (mg : Str → Option Value) : Prop where
  bool_ : mg "bool" = none
  enumerate_ : mg "enumerate" = none
  int_ : mg "int" = none
  isinstance_ : mg "isinstance" = none
  len_ : mg "len" = none
  list_ : mg "list" = none
  max_ : mg "max" = none
  range_ : mg "range" = none
  repr_ : mg "repr" = none
  reversed_ : mg "reversed" = none
  str_ : mg "str" = none
  sum_ : mg "sum" = none
  tuple_ : mg "tuple" = none
  zip_ : mg "zip" = none
def topS (i : Nat) : Stmt := PySem.Challenge.pw_lettersacross_k76_whole_good_lines_count.main.body.getD i (.Pass ⟨0, 0, 0, 0⟩)
structure Xf (K : PySem.W.Frag) (mg : Str → Option Value) (C : Str → Addr) : Prop where
  x_NoLine : ExcOk K mg "NoLine" (C "NoLine")
  exm_NoLine : PySem.W.exmOne K (.ref (C "NoLine")) (.ref (C "NoLine")) = some true
  ec_NoLine : ExcC K (C "NoLine")
  m_NoLine : mg "NoLine" = some (.ref (C "NoLine"))
  m_NotSure : mg "NotSure" = some (.ref (C "NotSure"))
  m_ScriptError : mg "ScriptError" = some (.ref (C "ScriptError"))
  kit_NoLine_NotSure : PySem.W.kitOne K (.ref (C "NoLine")) (.ref (C "NotSure")) = some false
  kit_NoLine_ScriptError : PySem.W.kitOne K (.ref (C "NoLine")) (.ref (C "ScriptError")) = some true

section
variable {P : Program} {w : World} {K : PySem.W.Frag} {mg : Str → Option Value} {base : Heap} {C : Str → Addr}
abbrev s_worths_in : Stmt := topS 5
abbrev N_worths_in : List Str := ["frame", "line", "sign"]
theorem sc_worths_in : FnScope N_worths_in ["frame", "line"] (defScope s_worths_in) := ⟨rfl, rfl, rfl, by decide +kernel, rfl, by decide +kernel, by decide +kernel⟩
theorem cal_worths_in {f : Addr} {fd : FuncData} (M : Mg mg) (XF : Xf K mg C) (F : L2.Fun K "worths_in" "worths_in" s_worths_in f fd) (hm : mg "worths_in" = some (.ref f)) (b : Binds K fd ["frame", "line"] []) : Cal P w K mg base 1 "worths_in" (spD 2 P_worths_in) :=
  have nd := sc_worths_in.nd
  cal_mk F hm b sc_worths_in fun cdv A outer s H E hr => ⟨_, q_worths_in, (dss_one (ds_ret (b_lc (own := [("sign", 2)]) rfl nd (di_str (d_var 1)) (blkOk_by (by kernel_rfl)) (fun _ _ _ _ _ => (dg_name nd)) (fun _ _ _ _ _ => dts_nil) (fun _ _ _ _ _ => (d_index (d_sub_ix (d_var 0) d_int) (d_var 2)))))), pure_worths_in⟩

abbrev s_remainders : Stmt := topS 6
abbrev N_remainders : List Str := ["frame", "line", "worths", "modulus", "weights", "weight", "worth"]
theorem sc_remainders : FnScope N_remainders ["frame", "line"] (defScope s_remainders) := ⟨rfl, rfl, rfl, by decide +kernel, rfl, by decide +kernel, by decide +kernel⟩
theorem cal_remainders {f : Addr} {fd : FuncData} (M : Mg mg) (XF : Xf K mg C) (c_worths_in : Cal P w K mg base 1 "worths_in" (spD 2 P_worths_in)) (F : L2.Fun K "remainders" "remainders" s_remainders f fd) (hm : mg "remainders" = some (.ref f)) (b : Binds K fd ["frame", "line"] []) : Cal P w K mg base 2 "remainders" (spD 2 P_remainders) :=
  have nd := sc_remainders.nd
  cal_mk F hm b sc_remainders fun cdv A outer s H E hr => ⟨_, q_remainders, (dss_cons (ds_set nd (d_call c_worths_in hr (da_cons (d_var 0) (da_cons (d_var 1) da_nil))))
  (dss_frz 2 (dss_cons (ds_set nd (d_len M.len_ (d_sub_ix (d_var 0) d_int)))
  (dss_one (ds_ret (d_tuple1 M.tuple_ (b_lc (own := [("weights", 4)]) rfl nd (di_list (d_sub_ix (d_var 0) d_int)) (blkOk_by (by kernel_rfl)) (fun _ _ _ _ _ => (dg_name nd)) (fun _ _ _ _ _ => dts_nil) (fun _ _ _ _ _ => (d_mod (d_sum rfl M.sum_ (b_lc (own := [("weight", 5), ("worth", 6)]) rfl nd (di_zip M.zip_ (da_cons (d_var 4) (da_cons (d_var 2) da_nil))) (blkOk_by (by kernel_rfl)) (fun _ _ _ _ _ => (dg_tup rfl (dgs_cons (dg_name nd) (dgs_cons (dg_name nd) dgs_nil)))) (fun _ _ _ _ _ => dts_nil) (fun _ _ _ _ _ => (d_mul (d_var 5) (d_var 6))))) (d_var 3)))))))))), pure_remainders⟩

abbrev s_zeros : Stmt := topS 7
abbrev N_zeros : List Str := ["frame"]
theorem sc_zeros : FnScope N_zeros ["frame"] (defScope s_zeros) := ⟨rfl, rfl, rfl, by decide +kernel, rfl, by decide +kernel, by decide +kernel⟩
theorem cal_zeros {f : Addr} {fd : FuncData} (M : Mg mg) (XF : Xf K mg C) (F : L2.Fun K "zeros" "zeros" s_zeros f fd) (hm : mg "zeros" = some (.ref f)) (b : Binds K fd ["frame"] []) : Cal P w K mg base 1 "zeros" (spD 1 P_zeros) :=
  have nd := sc_zeros.nd
  cal_mk F hm b sc_zeros fun cdv A outer s H E hr => ⟨_, q_zeros, (dss_one (ds_ret (d_mulT (d_tup (da_cons d_int da_nil)) (d_len M.len_ (d_sub_ix (d_var 0) d_int))))), pure_zeros⟩

abbrev s_mark : Stmt := topS 8
abbrev N_mark : List Str := ["frame", "place", "d", "weights"]
theorem sc_mark : FnScope N_mark ["frame", "place", "d"] (defScope s_mark) := ⟨rfl, rfl, rfl, by decide +kernel, rfl, by decide +kernel, by decide +kernel⟩
theorem cal_mark {f : Addr} {fd : FuncData} (M : Mg mg) (XF : Xf K mg C) (F : L2.Fun K "mark" "mark" s_mark f fd) (hm : mg "mark" = some (.ref f)) (b : Binds K fd ["frame", "place", "d"] []) : Cal P w K mg base 1 "mark" (spD 3 P_mark) :=
  have nd := sc_mark.nd
  cal_mk F hm b sc_mark fun cdv A outer s H E hr => ⟨_, q_mark, (dss_one (ds_ret (d_tuple1 M.tuple_ (b_lc (own := [("weights", 3)]) rfl nd (di_list (d_sub_ix (d_var 0) d_int)) (blkOk_by (by kernel_rfl)) (fun _ _ _ _ _ => (dg_name nd)) (fun _ _ _ _ _ => dts_nil) (fun _ _ _ _ _ => (d_mod (d_mul (d_sub_ix (d_var 3) (d_var 1)) (d_var 2)) (d_len M.len_ (d_sub_ix (d_var 0) d_int)))))))), pure_mark⟩

abbrev s_added : Stmt := topS 9
abbrev N_added : List Str := ["frame", "one", "other", "a", "b"]
theorem sc_added : FnScope N_added ["frame", "one", "other"] (defScope s_added) := ⟨rfl, rfl, rfl, by decide +kernel, rfl, by decide +kernel, by decide +kernel⟩
theorem cal_added {f : Addr} {fd : FuncData} (M : Mg mg) (XF : Xf K mg C) (F : L2.Fun K "added" "added" s_added f fd) (hm : mg "added" = some (.ref f)) (b : Binds K fd ["frame", "one", "other"] []) : Cal P w K mg base 1 "added" (spD 3 P_added) :=
  have nd := sc_added.nd
  cal_mk F hm b sc_added fun cdv A outer s H E hr => ⟨_, q_added, (dss_one (ds_ret (d_tuple1 M.tuple_ (b_lc (own := [("a", 3), ("b", 4)]) rfl nd (di_zip M.zip_ (da_cons (d_var 1) (da_cons (d_var 2) da_nil))) (blkOk_by (by kernel_rfl)) (fun _ _ _ _ _ => (dg_tup rfl (dgs_cons (dg_name nd) (dgs_cons (dg_name nd) dgs_nil)))) (fun _ _ _ _ _ => dts_nil) (fun _ _ _ _ _ => (d_mod (d_add (d_var 3) (d_var 4)) (d_len M.len_ (d_sub_ix (d_var 0) d_int)))))))), pure_added⟩

abbrev s_allowed : Stmt := topS 10
abbrev N_allowed : List Str := ["frame", "part"]
theorem sc_allowed : FnScope N_allowed ["frame", "part"] (defScope s_allowed) := ⟨rfl, rfl, rfl, by decide +kernel, rfl, by decide +kernel, by decide +kernel⟩
theorem cal_allowed {f : Addr} {fd : FuncData} (M : Mg mg) (XF : Xf K mg C) (F : L2.Fun K "allowed" "allowed" s_allowed f fd) (hm : mg "allowed" = some (.ref f)) (b : Binds K fd ["frame", "part"] []) : Cal P w K mg base 1 "allowed" (spD 2 P_allowed) :=
  have nd := sc_allowed.nd
  cal_mk F hm b sc_allowed fun cdv A outer s H E hr => ⟨_, q_allowed, (dss_cons (ds_if (d_tcmp op_isN os_is (d_var 1) d_non)
   (dss_one (ds_ret (d_listR1 rfl M.list_ M.range_ (d_len M.len_ (d_sub_ix (d_var 0) d_int)))))
   dss_nil)
  (dss_one (ds_ret (d_lst (da_cons (d_index (d_sub_ix (d_var 0) d_int) (d_var 1)) da_nil))))), pure_allowed⟩

abbrev s_before_place : Stmt := topS 11
abbrev N_before_place : List Str := ["frame", "place", "part", "tails", "found", "worth", "here", "tail", "count", "key"]
theorem sc_before_place : FnScope N_before_place ["frame", "place", "part", "tails"] (defScope s_before_place) := ⟨rfl, rfl, rfl, by decide +kernel, rfl, by decide +kernel, by decide +kernel⟩
theorem cal_before_place {f : Addr} {fd : FuncData} (M : Mg mg) (XF : Xf K mg C) (c_added : Cal P w K mg base 1 "added" (spD 3 P_added)) (c_allowed : Cal P w K mg base 1 "allowed" (spD 2 P_allowed)) (c_mark : Cal P w K mg base 1 "mark" (spD 3 P_mark)) (F : L2.Fun K "before_place" "before_place" s_before_place f fd) (hm : mg "before_place" = some (.ref f)) (b : Binds K fd ["frame", "place", "part", "tails"] []) : Cal P w K mg base 2 "before_place" (spD 4 P_before_place) :=
  have nd := sc_before_place.nd
  cal_mk F hm b sc_before_place fun cdv A outer s H E hr => ⟨_, q_before_place, (dss_cons (ds_set nd d_dT)
  (dss_cons (ds_for PassesOwn.never rfl (di_list (d_call c_allowed hr (da_cons (d_var 0) (da_cons (d_var 2) da_nil)))) (dg_name nd)
   (dss_cons (ds_set nd (d_call c_mark hr (da_cons (d_var 0) (da_cons (d_var 1) (da_cons (d_var 5) da_nil)))))
   (dss_one (ds_forIt 3 PassesOwn.never rfl (dg_tup rfl (dgs_cons (dg_name nd) (dgs_cons (dg_name nd) dgs_nil)))
    (dss_cons (ds_set nd (d_call c_added hr (da_cons (d_var 0) (da_cons (d_var 6) (da_cons (d_var 7) da_nil)))))
    (dss_one (ds_dput 4 hr (d_var 9) (d_add (d_get2 hr (d_var 4) (d_var 9) d_int) (d_var 8)))))))))
  (dss_one (ds_ret (d_var 4))))), pure_before_place⟩

abbrev s_all_tails : Stmt := topS 12
abbrev N_all_tails : List Str := ["frame", "parts", "found", "place"]
theorem sc_all_tails : FnScope N_all_tails ["frame", "parts"] (defScope s_all_tails) := ⟨rfl, rfl, rfl, by decide +kernel, rfl, by decide +kernel, by decide +kernel⟩
theorem cal_all_tails {f : Addr} {fd : FuncData} (M : Mg mg) (XF : Xf K mg C) (c_before_place : Cal P w K mg base 2 "before_place" (spD 4 P_before_place)) (c_zeros : Cal P w K mg base 1 "zeros" (spD 1 P_zeros)) (F : L2.Fun K "all_tails" "all_tails" s_all_tails f fd) (hm : mg "all_tails" = some (.ref f)) (b : Binds K fd ["frame", "parts"] []) : Cal P w K mg base 3 "all_tails" (spD 2 P_all_tails) :=
  have nd := sc_all_tails.nd
  cal_mk F hm b sc_all_tails fun cdv A outer s H E hr => ⟨_, q_all_tails, (dss_cons (ds_set nd (d_lst (da_cons (d_dispT hr (d_call c_zeros hr (da_cons (d_var 0) da_nil)) d_int) da_nil)))
  (dss_cons (ds_for PassesOwn.never rfl (di_revR M.reversed_ M.range_ (d_len M.len_ (d_var 1))) (dg_name nd)
   (dss_one (ds_expr (d_append 2 (d_call c_before_place hr (da_cons (d_var 0) (da_cons (d_var 3) (da_cons (d_sub_ix (d_var 1) (d_var 3)) (da_cons (d_sub_ix (d_var 2) (d_neg d_int)) da_nil)))))))))
  (dss_one (ds_ret (d_revL (d_var 2)))))), pure_all_tails⟩

abbrev s_completed : Stmt := topS 13
abbrev N_completed : List Str := ["frame", "parts", "tails", "line", "done", "place", "part", "worth", "later", "due", "one"]
theorem sc_completed : FnScope N_completed ["frame", "parts"] (defScope s_completed) := ⟨rfl, rfl, rfl, by decide +kernel, rfl, by decide +kernel, by decide +kernel⟩
theorem cal_completed {f : Addr} {fd : FuncData} (M : Mg mg) (XF : Xf K mg C) (c_added : Cal P w K mg base 1 "added" (spD 3 P_added)) (c_all_tails : Cal P w K mg base 3 "all_tails" (spD 2 P_all_tails)) (c_allowed : Cal P w K mg base 1 "allowed" (spD 2 P_allowed)) (c_mark : Cal P w K mg base 1 "mark" (spD 3 P_mark)) (c_zeros : Cal P w K mg base 1 "zeros" (spD 1 P_zeros)) (F : L2.Fun K "completed" "completed" s_completed f fd) (hm : mg "completed" = some (.ref f)) (b : Binds K fd ["frame", "parts"] []) : CalX P w K mg base 4 "completed" (spX 2 (P_completed C)) :=
  have nd := sc_completed.nd
  calx_mk F hm b sc_completed fun cdv A outer s H E hr => ⟨_, q_completed C, (dss_cons (ds_set nd (d_call c_all_tails hr (da_cons (d_var 0) (da_cons (d_var 1) da_nil))))
  (dss_frz 2 (dss_cons (ds_if (d_tdnotin hr (d_call c_zeros hr (da_cons (d_var 0) da_nil)) (d_sub_ix (d_var 2) d_int))
   (dss_one (ds_raise rfl (takes_of rfl rfl rfl rfl) (pmk_of XF.x_NoLine)))
   dss_nil)
  (dss_cons (ds_set nd d_str)
  (dss_cons (ds_set nd (d_call c_zeros hr (da_cons (d_var 0) da_nil)))
  (dss_cons (ds_for (passes_of rfl) rfl (di_enum M.enumerate_ (da_cons (d_var 1) da_nil)) (dg_tup rfl (dgs_cons (dg_name nd) (dgs_cons (dg_name nd) dgs_nil)))
   (dss_one (ds_for (passes_of rfl) rfl (di_list (d_call c_allowed hr (da_cons (d_var 0) (da_cons (d_var 6) da_nil)))) (dg_name nd)
    (dss_cons (ds_set nd (d_call c_added hr (da_cons (d_var 0) (da_cons (d_var 4) (da_cons (d_call c_mark hr (da_cons (d_var 0) (da_cons (d_var 5) (da_cons (d_var 7) da_nil)))) da_nil)))))
    (dss_cons (ds_set nd (d_tuple1 M.tuple_ (b_lc (own := [("one", 10)]) rfl nd (di_tup (d_var 8)) (blkOk_by (by kernel_rfl)) (fun _ _ _ _ _ => (dg_name nd)) (fun _ _ _ _ _ => dts_nil) (fun _ _ _ _ _ => (d_mod (d_neg (d_var 10)) (d_len M.len_ (d_sub_ix (d_var 0) d_int)))))))
    (dss_one (ds_if (d_tdin hr (d_var 9) (d_sub_ix (d_var 2) (d_add (d_var 5) d_int)))
     (dss_cons (ds_aug nd or_iadd os_iadd (d_sub_ix (d_sub_ix (d_var 0) d_int) (d_var 7)))
     (dss_cons (ds_set nd (d_var 8))
     (dss_one ds_break)))
     dss_nil)))))))
  (dss_one (ds_ret (d_var 3))))))))), pure_completed C⟩

abbrev s_count_good : Stmt := topS 14
abbrev N_count_good : List Str := ["frame", "parts"]
theorem sc_count_good : FnScope N_count_good ["frame", "parts"] (defScope s_count_good) := ⟨rfl, rfl, rfl, by decide +kernel, rfl, by decide +kernel, by decide +kernel⟩
theorem cal_count_good {f : Addr} {fd : FuncData} (M : Mg mg) (XF : Xf K mg C) (c_all_tails : Cal P w K mg base 3 "all_tails" (spD 2 P_all_tails)) (c_zeros : Cal P w K mg base 1 "zeros" (spD 1 P_zeros)) (F : L2.Fun K "count_good" "count_good" s_count_good f fd) (hm : mg "count_good" = some (.ref f)) (b : Binds K fd ["frame", "parts"] []) : Cal P w K mg base 4 "count_good" (spD 2 P_count_good) :=
  have nd := sc_count_good.nd
  cal_mk F hm b sc_count_good fun cdv A outer s H E hr => ⟨_, q_count_good, (dss_one (ds_ret (d_get2 hr (d_sub_ix (d_call c_all_tails hr (da_cons (d_var 0) (da_cons (d_var 1) da_nil))) d_int) (d_call c_zeros hr (da_cons (d_var 0) da_nil)) d_int))), pure_count_good⟩

abbrev s__law_cell : Stmt := topS 16
abbrev N__law_cell : List Str := ["script", "k"]
theorem sc__law_cell : FnScope N__law_cell ["script", "k"] (defScope s__law_cell) := ⟨rfl, rfl, rfl, by decide +kernel, rfl, by decide +kernel, by decide +kernel⟩
theorem cal__law_cell {f : Addr} {fd : FuncData} (M : Mg mg) (XF : Xf K mg C) (F : L2.Fun K "_law_cell" "_law_cell" s__law_cell f fd) (hm : mg "_law_cell" = some (.ref f)) (b : Binds K fd ["script", "k"] []) : Cal P w K mg base 1 "_law_cell" (spD 2 P__law_cell) :=
  have nd := sc__law_cell.nd
  cal_mk F hm b sc__law_cell fun cdv A outer s H E hr => ⟨_, q__law_cell, (dss_cons (ds_if (d_tcmp or_lt os_ord (d_var 1) (d_len M.len_ (d_var 0)))
   (dss_one (ds_ret (d_int1 M.int_ (d_sub_ix (d_var 0) (d_var 1)))))
   dss_nil)
  (dss_one (ds_ret d_int))), pure__law_cell⟩

abbrev s__law_numbers : Stmt := topS 17
abbrev N__law_numbers : List Str := ["cell", "count", "limit", "found", "k", "mixed"]
theorem sc__law_numbers : FnScope N__law_numbers ["cell", "count", "limit"] (defScope s__law_numbers) := ⟨rfl, rfl, rfl, by decide +kernel, rfl, by decide +kernel, by decide +kernel⟩
theorem cal__law_numbers {f : Addr} {fd : FuncData} (M : Mg mg) (XF : Xf K mg C) (F : L2.Fun K "_law_numbers" "_law_numbers" s__law_numbers f fd) (hm : mg "_law_numbers" = some (.ref f)) (b : Binds K fd ["cell", "count", "limit"] []) : Cal P w K mg base 1 "_law_numbers" (spD 3 P__law_numbers) :=
  have nd := sc__law_numbers.nd
  cal_mk F hm b sc__law_numbers fun cdv A outer s H E hr => ⟨_, q__law_numbers, (dss_cons (ds_set nd (d_lst da_nil))
  (dss_cons (ds_if (d_tcmp or_ge os_ord (d_var 0) (d_pow d_int d_int))
   (dss_cons (ds_for PassesOwn.never rfl (di_range1 M.range_ (da_cons (d_var 1) da_nil)) (dg_name nd)
    (dss_cons (ds_expr (d_append 3 (d_mod (d_int1 M.int_ (d_var 0)) (d_var 2))))
    (dss_one (ds_set nd (d_fdiv (d_int1 M.int_ (d_var 0)) (d_var 2))))))
   (dss_one (ds_ret (d_var 3))))
   dss_nil)
  (dss_cons (ds_for PassesOwn.never rfl (di_range1 M.range_ (da_cons (d_var 1) da_nil)) (dg_name nd)
   (dss_cons (ds_set nd (d_mod (d_int1 M.int_ (d_add (d_add (d_mul (d_var 0) d_int) (d_mul (d_var 4) d_int)) d_int)) d_int))
   (dss_cons (ds_set nd (d_mod (d_int1 M.int_ (d_add (d_add (d_add (d_mul (d_var 5) (d_var 5)) (d_mul (d_var 5) d_int)) (d_mul (d_var 4) d_int)) d_int)) d_int))
   (dss_one (ds_expr (d_append 3 (d_mod (d_int1 M.int_ (d_fdiv (d_var 5) d_int)) (d_var 2))))))))
  (dss_one (ds_ret (d_var 3)))))), pure__law_numbers⟩

abbrev s__law_same : Stmt := topS 18
abbrev N__law_same : List Str := ["told", "due", "k"]
theorem sc__law_same : FnScope N__law_same ["told", "due"] (defScope s__law_same) := ⟨rfl, rfl, rfl, by decide +kernel, rfl, by decide +kernel, by decide +kernel⟩
theorem calr__law_same {f : Addr} {fd : FuncData} (M : Mg mg) (XF : Xf K mg C) (F : L2.Fun K "_law_same" "_law_same" s__law_same f fd) (hm : mg "_law_same" = some (.ref f)) (b : Binds K fd ["told", "due"] []) : ∀ n : Nat, Cal P w K mg base (n + 1) "_law_same" (spD 2 (PR__law_same n))
  | 0 => cal_no F hm b sc__law_same
  | m + 1 =>
    have nd := sc__law_same.nd
    have c__law_same := calr__law_same M XF F hm b m
    cal_mk (k := m + 1) F hm b sc__law_same fun cdv A outer s H E hr => ⟨_, q__law_same (PR__law_same m), (dss_cons (ds_if (d_tb (d_isi (T := "list") (by simp) M.isinstance_ M.list_ (by decide +kernel) (d_var 1)))
   (dss_one (ds_if (dw_or (dt_not (d_tb (d_isi (T := "list") (by simp) M.isinstance_ M.list_ (by decide +kernel) (d_var 0)))) (dw_or1 (d_tcmp (or_ne hr) os_ne (d_len M.len_ (d_var 0)) (d_len M.len_ (d_var 1))))).dt
    (dss_one (ds_ret d_bl))
    dss_nil))
   (dss_one (ds_if (d_tb (d_isi (T := "tuple") (by simp) M.isinstance_ M.tuple_ (by decide +kernel) (d_var 1)))
    (dss_one (ds_if (dw_or (dt_not (d_tb (d_isi (T := "tuple") (by simp) M.isinstance_ M.tuple_ (by decide +kernel) (d_var 0)))) (dw_or1 (d_tcmp (or_ne hr) os_ne (d_len M.len_ (d_var 0)) (d_len M.len_ (d_var 1))))).dt
     (dss_one (ds_ret d_bl))
     dss_nil))
    (dss_one (ds_if (d_tcmp op_isN os_is (d_var 1) d_non)
     (dss_one (ds_ret (d_cmp op_isN os_is (d_var 0) d_non)))
     (dss_one (ds_if (d_tb (d_isi (T := "bool") (by simp) M.isinstance_ M.bool_ (by decide +kernel) (d_var 1)))
      (dss_one (ds_ret (d_and (d_isi (T := "bool") (by simp) M.isinstance_ M.bool_ (by decide +kernel) (d_var 0)) (d_one (d_cmp (or_eq hr) os_eq (d_var 0) (d_var 1))))))
      (dss_one (ds_if (d_tb (d_isi (T := "int") (by simp) M.isinstance_ M.int_ (by decide +kernel) (d_var 1)))
       (dss_one (ds_ret (d_and (d_isi (T := "int") (by simp) M.isinstance_ M.int_ (by decide +kernel) (d_var 0)) (d_and (d_not (d_isi (T := "bool") (by simp) M.isinstance_ M.bool_ (by decide +kernel) (d_var 0))) (d_one (d_cmp (or_eq hr) os_eq (d_var 0) (d_var 1)))))))
       (dss_one (ds_ret (d_and (d_isi (T := "str") (by simp) M.isinstance_ M.str_ (by decide +kernel) (d_var 0)) (d_one (d_cmp (or_eq hr) os_eq (d_var 0) (d_var 1)))))))))))))))
  (dss_cons (ds_for PassesOwn.never rfl (di_range1 M.range_ (da_cons (d_len M.len_ (d_var 1)) da_nil)) (dg_name nd)
   (dss_one (ds_if (dt_not (d_tb (d_call c__law_same hr (da_cons (d_sub_ix (d_var 0) (d_var 2)) (da_cons (d_sub_ix (d_var 1) (d_var 2)) da_nil)) (hk := Nat.le_refl _))))
    (dss_one (ds_ret d_bl))
    dss_nil)))
  (dss_one (ds_ret d_bl)))), pure__law_same m⟩
theorem cal__law_same {f : Addr} {fd : FuncData} (M : Mg mg) (XF : Xf K mg C) (F : L2.Fun K "_law_same" "_law_same" s__law_same f fd) (hm : mg "_law_same" = some (.ref f)) (b : Binds K fd ["told", "due"] []) : Cal P w K mg base 3 "_law_same" (spD 2 P__law_same) := calr__law_same M XF F hm b 2

abbrev s__law_signs : Stmt := topS 19
abbrev N__law_signs : List Str := ["draw", "count", "known", "step", "k"]
theorem sc__law_signs : FnScope N__law_signs ["draw", "count"] (defScope s__law_signs) := ⟨rfl, rfl, rfl, by decide +kernel, rfl, by decide +kernel, by decide +kernel⟩
theorem cal__law_signs {f : Addr} {fd : FuncData} (M : Mg mg) (XF : Xf K mg C) (F : L2.Fun K "_law_signs" "_law_signs" s__law_signs f fd) (hm : mg "_law_signs" = some (.ref f)) (b : Binds K fd ["draw", "count"] []) : Cal P w K mg base 1 "_law_signs" (spD 2 P__law_signs) :=
  have nd := sc__law_signs.nd
  cal_mk F hm b sc__law_signs fun cdv A outer s H E hr => ⟨_, q__law_signs, (dss_cons (ds_set nd d_str)
  (dss_cons (ds_set nd (d_sub_ix (d_lst (da_cons d_int (da_cons d_int (da_cons d_int (da_cons d_int (da_cons d_int (da_cons d_int (da_cons d_int da_nil)))))))) (d_mod (d_int1 M.int_ (d_fdiv (d_var 0) d_int)) d_int)))
  (dss_one (ds_ret (d_join d_str (b_lc (own := [("k", 4)]) rfl nd (di_range1 M.range_ (da_cons (d_var 1) da_nil)) (blkOk_by (by kernel_rfl)) (fun _ _ _ _ _ => (dg_name nd)) (fun _ _ _ _ _ => dts_nil) (fun _ _ _ _ _ => (d_sub_ix (d_var 2) (d_mod (d_int1 M.int_ (d_add (d_var 0) (d_mul (d_var 4) (d_var 3)))) d_int))))))))), pure__law_signs⟩

abbrev s__law_frame : Stmt := topS 20
abbrev N__law_frame : List Str := ["script", "at", "small", "draws", "rows", "m", "n", "count", "signs", "checks", "kind", "k", "j", "row", "weight"]
theorem sc__law_frame : FnScope N__law_frame ["script", "at", "small"] (defScope s__law_frame) := ⟨rfl, rfl, rfl, by decide +kernel, rfl, by decide +kernel, by decide +kernel⟩
theorem cal__law_frame {f : Addr} {fd : FuncData} (M : Mg mg) (XF : Xf K mg C) (c__law_cell : Cal P w K mg base 1 "_law_cell" (spD 2 P__law_cell)) (c__law_numbers : Cal P w K mg base 1 "_law_numbers" (spD 3 P__law_numbers)) (c__law_signs : Cal P w K mg base 1 "_law_signs" (spD 2 P__law_signs)) (F : L2.Fun K "_law_frame" "_law_frame" s__law_frame f fd) (hm : mg "_law_frame" = some (.ref f)) (b : Binds K fd ["script", "at", "small"] []) : Cal P w K mg base 2 "_law_frame" (spD 3 P__law_frame) :=
  have nd := sc__law_frame.nd
  cal_mk F hm b sc__law_frame fun cdv A outer s H E hr => ⟨_, q__law_frame, (dss_cons (ds_set nd (d_call c__law_numbers hr (da_cons (d_call c__law_cell hr (da_cons (d_var 0) (da_cons (d_var 1) da_nil))) (da_cons d_int (da_cons d_int da_nil)))))
  (dss_frz 3 (dss_cons (ds_set nd (d_call c__law_numbers hr (da_cons (d_call c__law_cell hr (da_cons (d_var 0) (da_cons (d_add (d_var 1) d_int) da_nil))) (da_cons d_int (da_cons d_int da_nil)))))
  (dss_frz 4 (dss_cons (ds_if (d_tb (d_var 2))
   (dss_cons (ds_set nd (d_sub_ix (d_lst (da_cons d_int (da_cons d_int (da_cons d_int (da_cons d_int (da_cons d_int (da_cons d_int da_nil))))))) (d_mod (d_sub_ix (d_var 3) d_int) d_int)))
   (dss_cons (ds_set nd (d_add d_int (d_mod (d_sub_ix (d_var 3) d_int) (d_sub_ix (d_lst (da_cons d_int (da_cons d_int (da_cons d_int (da_cons d_int (da_cons d_int (da_cons d_int da_nil))))))) (d_mod (d_sub_ix (d_var 3) d_int) d_int)))))
   (dss_one (ds_set nd (d_add d_int (d_mod (d_sub_ix (d_var 3) d_int) d_int))))))
   (dss_cons (ds_set nd (d_sub_ix (d_lst (da_cons d_int (da_cons d_int (da_cons d_int (da_cons d_int (da_cons d_int (da_cons d_int (da_cons d_int (da_cons d_int (da_cons d_int (da_cons d_int (da_cons d_int (da_cons d_int da_nil))))))))))))) (d_mod (d_sub_ix (d_var 3) d_int) d_int)))
   (dss_cons (ds_set nd (d_add d_int (d_mod (d_sub_ix (d_var 3) d_int) (d_sub_ix (d_lst (da_cons d_int (da_cons d_int (da_cons d_int (da_cons d_int (da_cons d_int (da_cons d_int (da_cons d_int (da_cons d_int (da_cons d_int (da_cons d_int (da_cons d_int (da_cons d_int da_nil))))))))))))) (d_mod (d_sub_ix (d_var 3) d_int) d_int)))))
   (dss_cons (ds_set nd (d_add d_int (d_mod (d_sub_ix (d_var 3) d_int) (d_sub_ix (d_lst (da_cons d_int (da_cons d_int (da_cons d_int (da_cons d_int da_nil))))) (d_mod (d_sub_ix (d_var 3) d_int) d_int)))))
   (dss_one (ds_if (d_tcmp or_gt os_ord (d_mul (d_var 6) (d_var 5)) d_int)
    (dss_one (ds_set nd (d_add d_int (d_fdiv d_int (d_var 5)))))
    dss_nil))))))
  (dss_cons (ds_set nd (d_call c__law_signs hr (da_cons (d_sub_ix (d_var 3) d_int) (da_cons (d_var 5) da_nil))))
  (dss_cons (bs_setLc (own := [("k", 11)]) rfl nd (di_range1 M.range_ (da_cons (d_var 7) da_nil)) (blkOk_by (by kernel_rfl)) (fun _ _ _ _ _ => (dg_name nd)) (fun _ _ _ _ _ => dts_nil) (fun _ _ _ _ _ => (b_lc (own := [("j", 12)]) rfl nd (di_range1 M.range_ (da_cons (d_var 6) da_nil)) (blkOk_by (by kernel_rfl)) (fun _ _ _ _ _ => (dg_name nd)) (fun _ _ _ _ _ => dts_nil) (fun _ _ _ _ _ => (d_mod (d_sub_ix (d_var 4) (d_add (d_mul (d_var 6) (d_var 11)) (d_var 12))) (d_var 5))))) (sw_true rfl rfl rfl (by decide +kernel)))
  (dss_cons (ds_set nd (d_mod (d_sub_ix (d_var 3) d_int) d_int))
  (dss_cons (ds_if (d_tcmp (or_eq hr) os_eq (d_var 10) d_int)
   (dss_one (ds_setIx 9 d_int (d_mul (d_lst (da_cons d_int da_nil)) (d_var 6))))
   (dss_one (ds_if (d_tcmp (or_eq hr) os_eq (d_var 10) d_int)
    (dss_cons (ds_setIx 9 d_int (b_lc (own := [("j", 12)]) rfl nd (di_range1 M.range_ (da_cons (d_var 6) da_nil)) (blkOk_by (by kernel_rfl)) (fun _ _ _ _ _ => (dg_name nd)) (fun _ _ _ _ _ => dts_nil) (fun _ _ _ _ _ => (d_mod (d_add d_int (d_var 12)) (d_var 5)))))
    (dss_one (ds_if (d_tcmp or_gt os_ord (d_var 7) d_int)
     (dss_one (ds_setIx 9 d_int (d_mul (d_lst (da_cons d_int da_nil)) (d_var 6))))
     dss_nil)))
    (dss_one (ds_if (d_tcmp (or_eq hr) os_eq (d_var 10) d_int)
     (dss_one (bs_setLc (own := [("j", 12), ("row", 13)]) rfl nd (di_enum M.enumerate_ (da_cons (d_var 9) da_nil)) (blkOk_by (by kernel_rfl)) (fun _ _ _ _ _ => (dg_tup rfl (dgs_cons (dg_name nd) (dgs_cons (dg_name nd) dgs_nil)))) (fun _ _ _ _ _ => dts_nil) (fun _ _ _ _ _ => (b_lc (own := [("weight", 14)]) rfl nd (di_list (d_var 13)) (blkOk_by (by kernel_rfl)) (fun _ _ _ _ _ => (dg_name nd)) (fun _ _ _ _ _ => dts_nil) (fun _ _ _ _ _ => (d_sub_ix (d_lst (da_cons (d_var 14) (da_cons (d_var 14) (da_cons d_int da_nil)))) (d_mod (d_sub_ix (d_var 4) (d_var 12)) d_int))))) (sw_true rfl rfl rfl (by decide +kernel))))
     dss_nil)))))
  (dss_one (ds_ret (d_tup (da_cons (d_var 8) (da_cons (d_var 9) da_nil)))))))))))))), pure__law_frame⟩

abbrev s__law_sums : Stmt := topS 21
abbrev N__law_sums : List Str := ["frame", "line", "signs", "checks", "found", "weights", "total", "k"]
theorem sc__law_sums : FnScope N__law_sums ["frame", "line"] (defScope s__law_sums) := ⟨rfl, rfl, rfl, by decide +kernel, rfl, by decide +kernel, by decide +kernel⟩
theorem cal__law_sums {f : Addr} {fd : FuncData} (M : Mg mg) (XF : Xf K mg C) (F : L2.Fun K "_law_sums" "_law_sums" s__law_sums f fd) (hm : mg "_law_sums" = some (.ref f)) (b : Binds K fd ["frame", "line"] []) : Cal P w K mg base 1 "_law_sums" (spD 2 P__law_sums) :=
  have nd := sc__law_sums.nd
  cal_mk F hm b sc__law_sums fun cdv A outer s H E hr => ⟨_, q__law_sums, (dss_cons (ds_asg (d_var 0) (dg_tup rfl (dgs_cons (dg_name nd) (dgs_cons (dg_name nd) dgs_nil))))
  (dss_cons (ds_set nd (d_lst da_nil))
  (dss_cons (ds_for PassesOwn.never rfl (di_list (d_var 3)) (dg_name nd)
   (dss_cons (ds_set nd d_int)
   (dss_cons (ds_for PassesOwn.never rfl (di_range1 M.range_ (da_cons (d_len M.len_ (d_var 1)) da_nil)) (dg_name nd)
    (dss_one (ds_set nd (d_add (d_var 6) (d_mul (d_sub_ix (d_var 5) (d_var 7)) (d_index (d_var 2) (d_sub_ix (d_var 1) (d_var 7))))))))
   (dss_one (ds_expr (d_append 4 (d_mod (d_int1 M.int_ (d_var 6)) (d_len M.len_ (d_var 2)))))))))
  (dss_one (ds_ret (d_tuple1 M.tuple_ (d_var 4))))))), pure__law_sums⟩

abbrev s__law_is_good : Stmt := topS 22
abbrev N__law_is_good : List Str := ["frame", "line", "sign"]
theorem sc__law_is_good : FnScope N__law_is_good ["frame", "line"] (defScope s__law_is_good) := ⟨rfl, rfl, rfl, by decide +kernel, rfl, by decide +kernel, by decide +kernel⟩
theorem cal__law_is_good {f : Addr} {fd : FuncData} (M : Mg mg) (XF : Xf K mg C) (c__law_sums : Cal P w K mg base 1 "_law_sums" (spD 2 P__law_sums)) (F : L2.Fun K "_law_is_good" "_law_is_good" s__law_is_good f fd) (hm : mg "_law_is_good" = some (.ref f)) (b : Binds K fd ["frame", "line"] []) : Cal P w K mg base 2 "_law_is_good" (spD 2 P__law_is_good) :=
  have nd := sc__law_is_good.nd
  cal_mk F hm b sc__law_is_good fun cdv A outer s H E hr => ⟨_, q__law_is_good, (dss_one (ds_ret (d_and (d_cmp (or_eq hr) os_eq (d_len M.len_ (d_var 1)) (d_len M.len_ (d_sub_ix (d_sub_ix (d_var 0) d_int) d_int))) (d_and (d_cmp (or_eq hr) os_eq (d_len M.len_ (b_lc (own := [("sign", 2)]) rfl nd (di_str (d_var 1)) (blkOk_by (by kernel_rfl)) (fun _ _ _ _ _ => (dg_name nd)) (fun _ _ _ _ _ => (dts_one (d_tcmp (or_notIn hr) os_in (d_var 2) (d_sub_ix (d_var 0) d_int)))) (fun _ _ _ _ _ => (d_var 2)))) d_int) (d_one (d_cmp (or_eq hr) os_eq (d_max hr rfl M.max_ (d_call c__law_sums hr (da_cons (d_var 0) (da_cons (d_var 1) da_nil)))) d_int)))))), pure__law_is_good⟩

abbrev s__law_lines : Stmt := topS 23
abbrev N__law_lines : List Str := ["frame", "found", "place", "more", "line", "sign"]
theorem sc__law_lines : FnScope N__law_lines ["frame"] (defScope s__law_lines) := ⟨rfl, rfl, rfl, by decide +kernel, rfl, by decide +kernel, by decide +kernel⟩
theorem cal__law_lines {f : Addr} {fd : FuncData} (M : Mg mg) (XF : Xf K mg C) (F : L2.Fun K "_law_lines" "_law_lines" s__law_lines f fd) (hm : mg "_law_lines" = some (.ref f)) (b : Binds K fd ["frame"] []) : Cal P w K mg base 1 "_law_lines" (spD 1 P__law_lines) :=
  have nd := sc__law_lines.nd
  cal_mk F hm b sc__law_lines fun cdv A outer s H E hr => ⟨_, q__law_lines, (dss_cons (ds_set nd (d_lst (da_cons d_str da_nil)))
  (dss_frz 1 (dss_cons (ds_for PassesOwn.never rfl (di_range1 M.range_ (da_cons (d_len M.len_ (d_sub_ix (d_sub_ix (d_var 0) d_int) d_int)) da_nil)) (dg_name nd)
   (dss_cons (ds_set nd (d_lst da_nil))
   (dss_frz 3 (dss_cons (ds_for PassesOwn.never rfl (di_list (d_var 1)) (dg_name nd)
    (dss_one (ds_set nd (d_add (d_var 3) (b_lc (own := [("sign", 5)]) rfl nd (di_str (d_sub_ix (d_var 0) d_int)) (blkOk_by (by kernel_rfl)) (fun _ _ _ _ _ => (dg_name nd)) (fun _ _ _ _ _ => dts_nil) (fun _ _ _ _ _ => (d_add (d_var 4) (d_var 5))))))))
   (dss_frz 3 (dss_one (ds_set nd (d_var 3))))))))
  (dss_one (ds_ret (d_var 1)))))), pure__law_lines⟩

abbrev s__law_done : Stmt := topS 24
abbrev N__law_done : List Str := ["frame", "parts", "e"]
theorem sc__law_done : FnScope N__law_done ["frame", "parts"] (defScope s__law_done) := ⟨rfl, rfl, rfl, by decide +kernel, rfl, by decide +kernel, by decide +kernel⟩
theorem cal__law_done {f : Addr} {fd : FuncData} (M : Mg mg) (XF : Xf K mg C) (c_completed : CalX P w K mg base 4 "completed" (spX 2 (P_completed C))) (F : L2.Fun K "_law_done" "_law_done" s__law_done f fd) (hm : mg "_law_done" = some (.ref f)) (b : Binds K fd ["frame", "parts"] []) : Cal P w K mg base 5 "_law_done" (spD 2 P__law_done) :=
  have nd := sc__law_done.nd
  cal_mk F hm b sc__law_done fun cdv A outer s H E hr => ⟨_, q__law_done C, (dss_one (ds_try_as (C "NoLine") nd ⟨rfl, by decide, .inl XF.m_NoLine⟩ XF.exm_NoLine takes0 (fun W' pn xe tk pp => (dss_one (ds_ret (d_tup (da_cons d_str (da_cons (d_callX c_completed hr tk (da_cons (d_var 0) (da_cons (d_var 1) da_nil))) da_nil))))))
   (fun a oe pn hz hf => (dss_one (ds_ret (d_tup (da_cons d_str (da_cons (d_and (d_isE 2 XF.ec_NoLine hz hf M.isinstance_ XF.m_ScriptError XF.kit_NoLine_ScriptError) (d_one (d_not (d_isE 2 XF.ec_NoLine hz hf M.isinstance_ XF.m_NotSure XF.kit_NoLine_NotSure)))) da_nil)))))))), pure__law_done C⟩

abbrev s__law_fits : Stmt := topS 25
abbrev N__law_fits : List Str := ["line", "parts", "k"]
theorem sc__law_fits : FnScope N__law_fits ["line", "parts"] (defScope s__law_fits) := ⟨rfl, rfl, rfl, by decide +kernel, rfl, by decide +kernel, by decide +kernel⟩
theorem cal__law_fits {f : Addr} {fd : FuncData} (M : Mg mg) (XF : Xf K mg C) (F : L2.Fun K "_law_fits" "_law_fits" s__law_fits f fd) (hm : mg "_law_fits" = some (.ref f)) (b : Binds K fd ["line", "parts"] []) : Cal P w K mg base 1 "_law_fits" (spD 2 P__law_fits) :=
  have nd := sc__law_fits.nd
  cal_mk F hm b sc__law_fits fun cdv A outer s H E hr => ⟨_, q__law_fits, (dss_one (ds_ret (d_cmp (or_eq hr) os_eq (d_len M.len_ (b_lc (own := [("k", 2)]) rfl nd (di_range1 M.range_ (da_cons (d_len M.len_ (d_var 0)) da_nil)) (blkOk_by (by kernel_rfl)) (fun _ _ _ _ _ => (dg_name nd)) (fun _ _ _ _ _ => (dts_one (dw_and (d_tcmp op_notN os_isNot (d_sub_ix (d_var 1) (d_var 2)) d_non) (dw_and1 (d_tcmp (or_ne hr) os_ne (d_sub_ix (d_var 1) (d_var 2)) (d_sub_ix (d_var 0) (d_var 2))))).dt)) (fun _ _ _ _ _ => (d_var 2)))) d_int))), pure__law_fits⟩

abbrev s__law_power : Stmt := topS 26
abbrev N__law_power : List Str := ["m", "count", "found", "k"]
theorem sc__law_power : FnScope N__law_power ["m", "count"] (defScope s__law_power) := ⟨rfl, rfl, rfl, by decide +kernel, rfl, by decide +kernel, by decide +kernel⟩
theorem cal__law_power {f : Addr} {fd : FuncData} (M : Mg mg) (XF : Xf K mg C) (F : L2.Fun K "_law_power" "_law_power" s__law_power f fd) (hm : mg "_law_power" = some (.ref f)) (b : Binds K fd ["m", "count"] []) : Cal P w K mg base 1 "_law_power" (spD 2 P__law_power) :=
  have nd := sc__law_power.nd
  cal_mk F hm b sc__law_power fun cdv A outer s H E hr => ⟨_, q__law_power, (dss_cons (ds_set nd d_int)
  (dss_cons (ds_for PassesOwn.never rfl (di_range1 M.range_ (da_cons (d_var 1) da_nil)) (dg_name nd)
   (dss_one (ds_set nd (d_mul (d_var 2) (d_var 0)))))
  (dss_one (ds_ret (d_var 2))))), pure__law_power⟩

abbrev s__law_large : Stmt := topS 27
abbrev N__law_large : List Str := ["script", "at", "frame", "draws", "n", "line", "parts", "kind", "told", "again", "more", "k"]
theorem sc__law_large : FnScope N__law_large ["script", "at"] (defScope s__law_large) := ⟨rfl, rfl, rfl, by decide +kernel, rfl, by decide +kernel, by decide +kernel⟩
theorem cal__law_large {f : Addr} {fd : FuncData} (M : Mg mg) (XF : Xf K mg C) (c__law_cell : Cal P w K mg base 1 "_law_cell" (spD 2 P__law_cell)) (c__law_done : Cal P w K mg base 5 "_law_done" (spD 2 P__law_done)) (c__law_fits : Cal P w K mg base 1 "_law_fits" (spD 2 P__law_fits)) (c__law_frame : Cal P w K mg base 2 "_law_frame" (spD 3 P__law_frame)) (c__law_is_good : Cal P w K mg base 2 "_law_is_good" (spD 2 P__law_is_good)) (c__law_numbers : Cal P w K mg base 1 "_law_numbers" (spD 3 P__law_numbers)) (c__law_power : Cal P w K mg base 1 "_law_power" (spD 2 P__law_power)) (c__law_same : Cal P w K mg base 3 "_law_same" (spD 2 P__law_same)) (c__law_sums : Cal P w K mg base 1 "_law_sums" (spD 2 P__law_sums)) (c_count_good : Cal P w K mg base 4 "count_good" (spD 2 P_count_good)) (c_remainders : Cal P w K mg base 2 "remainders" (spD 2 P_remainders)) (F : L2.Fun K "_law_large" "_law_large" s__law_large f fd) (hm : mg "_law_large" = some (.ref f)) (b : Binds K fd ["script", "at"] []) : Cal P w K mg base 6 "_law_large" (spD 2 P__law_large) :=
  have nd := sc__law_large.nd
  cal_mk F hm b sc__law_large fun cdv A outer s H E hr => ⟨_, q__law_large, (dss_cons (ds_set nd (d_call c__law_frame hr (da_cons (d_var 0) (da_cons (d_var 1) (da_cons d_bl da_nil)))))
  (dss_cons (ds_set nd (d_call c__law_numbers hr (da_cons (d_call c__law_cell hr (da_cons (d_var 0) (da_cons (d_add (d_var 1) d_int) da_nil))) (da_cons d_int (da_cons d_int da_nil)))))
  (dss_frz 3 (dss_cons (ds_set nd (d_len M.len_ (d_sub_ix (d_sub_ix (d_var 2) d_int) d_int)))
  (dss_cons (ds_set nd (d_join d_str (b_lc (own := [("k", 11)]) rfl nd (di_range1 M.range_ (da_cons (d_var 4) da_nil)) (blkOk_by (by kernel_rfl)) (fun _ _ _ _ _ => (dg_name nd)) (fun _ _ _ _ _ => dts_nil) (fun _ _ _ _ _ => (d_sub_ix (d_sub_ix (d_var 2) d_int) (d_mod (d_sub_ix (d_var 3) (d_var 11)) (d_len M.len_ (d_sub_ix (d_var 2) d_int))))))))
  (dss_cons (ds_if (dt_not (d_tb (d_call c__law_same hr (da_cons (d_call c_remainders hr (da_cons (d_var 2) (da_cons (d_var 5) da_nil))) (da_cons (d_call c__law_sums hr (da_cons (d_var 2) (da_cons (d_var 5) da_nil))) da_nil)))))
   (dss_one (ds_ret d_bl))
   dss_nil)
  (dss_cons (ds_if (d_tcmp or_gt os_ord (d_mul (d_mul (d_var 4) (d_len M.len_ (d_sub_ix (d_var 2) d_int))) (d_call c__law_power hr (da_cons (d_len M.len_ (d_sub_ix (d_var 2) d_int)) (da_cons (d_len M.len_ (d_sub_ix (d_var 2) d_int)) da_nil)))) d_int)
   (dss_one (ds_ret d_bl))
   dss_nil)
  (dss_cons (bs_setLc (own := [("k", 11)]) rfl nd (di_range1 M.range_ (da_cons (d_var 4) da_nil)) (blkOk_by (by kernel_rfl)) (fun _ _ _ _ _ => (dg_name nd)) (fun _ _ _ _ _ => dts_nil) (fun _ _ _ _ _ => (d_sub_ix (d_lst (da_cons (d_sub_ix (d_var 5) (d_var 11)) (da_cons d_non da_nil))) (d_int1 M.int_ (d_cmp (or_eq hr) os_eq (d_mod (d_sub_ix (d_var 3) (d_add d_int (d_var 11))) d_int) d_int)))) (sw_true rfl rfl rfl (by decide +kernel)))
  (dss_frz 6 (dss_cons (ds_asg (d_call c__law_done hr (da_cons (d_var 2) (da_cons (d_var 6) da_nil))) (dg_tup rfl (dgs_cons (dg_name nd) (dgs_cons (dg_name nd) dgs_nil))))
  (dss_cons (ds_if (d_tcmp (or_eq hr) os_eq (d_var 7) d_str)
   (dss_one (ds_ret (d_and (d_var 8) (d_one (d_call c__law_same hr (da_cons (d_call c_count_good hr (da_cons (d_var 2) (da_cons (d_var 6) da_nil))) (da_cons d_int da_nil)))))))
   dss_nil)
  (dss_cons (ds_if (dw_or (dt_not (d_tb (d_isi (T := "str") (by simp) M.isinstance_ M.str_ (by decide +kernel) (d_var 8)))) (dw_or (d_tcmp (or_ne hr) os_ne (d_len M.len_ (d_var 8)) (d_var 4)) (dw_or (dt_not (d_tb (d_call c__law_is_good hr (da_cons (d_var 2) (da_cons (d_var 8) da_nil))))) (dw_or1 (dt_not (d_tb (d_call c__law_fits hr (da_cons (d_var 8) (da_cons (d_var 6) da_nil))))))))).dt
   (dss_one (ds_ret d_bl))
   dss_nil)
  (dss_cons (bs_setLc (own := [("k", 11)]) rfl nd (di_range1 M.range_ (da_cons (d_var 4) da_nil)) (blkOk_by (by kernel_rfl)) (fun _ _ _ _ _ => (dg_name nd)) (fun _ _ _ _ _ => dts_nil) (fun _ _ _ _ _ => (d_sub_ix (d_lst (da_cons (d_sub_ix (d_var 8) (d_var 11)) (da_cons d_non da_nil))) (d_int1 M.int_ (d_cmp (or_eq hr) os_eq (d_mod (d_sub_ix (d_var 3) (d_add d_int (d_var 11))) d_int) d_int)))) (sw_true rfl rfl rfl (by decide +kernel)))
  (dss_frz 9 (dss_cons (ds_asg (d_call c__law_done hr (da_cons (d_var 2) (da_cons (d_var 9) da_nil))) (dg_tup rfl (dgs_cons (dg_name nd) (dgs_cons (dg_name nd) dgs_nil))))
  (dss_one (ds_ret (d_and (d_cmp (or_eq hr) os_eq (d_var 7) d_str) (d_and (d_isi (T := "str") (by simp) M.isinstance_ M.str_ (by decide +kernel) (d_var 10)) (d_and (d_call c__law_is_good hr (da_cons (d_var 2) (da_cons (d_var 10) da_nil))) (d_and (d_call c__law_fits hr (da_cons (d_var 10) (da_cons (d_var 9) da_nil))) (d_one (d_cmp or_gt os_ord (d_call c_count_good hr (da_cons (d_var 2) (da_cons (d_var 9) da_nil))) d_int))))))))))))))))))))))), pure__law_large⟩

abbrev s_law : Stmt := topS 28
abbrev N_law : List Str := ["script", "frame", "draws", "kept", "lines", "n", "good", "sums", "line", "due", "turn", "parts", "k", "some", "handed"]
theorem sc_law : FnScope N_law ["script"] (defScope s_law) := ⟨rfl, rfl, rfl, by decide +kernel, rfl, by decide +kernel, by decide +kernel⟩
theorem ok_law {f : Addr} {fd : FuncData} (M : Mg mg) (XF : Xf K mg C) (c__law_cell : Cal P w K mg base 1 "_law_cell" (spD 2 P__law_cell)) (c__law_done : Cal P w K mg base 5 "_law_done" (spD 2 P__law_done)) (c__law_fits : Cal P w K mg base 1 "_law_fits" (spD 2 P__law_fits)) (c__law_frame : Cal P w K mg base 2 "_law_frame" (spD 3 P__law_frame)) (c__law_is_good : Cal P w K mg base 2 "_law_is_good" (spD 2 P__law_is_good)) (c__law_large : Cal P w K mg base 6 "_law_large" (spD 2 P__law_large)) (c__law_lines : Cal P w K mg base 1 "_law_lines" (spD 1 P__law_lines)) (c__law_numbers : Cal P w K mg base 1 "_law_numbers" (spD 3 P__law_numbers)) (c__law_same : Cal P w K mg base 3 "_law_same" (spD 2 P__law_same)) (c__law_sums : Cal P w K mg base 1 "_law_sums" (spD 2 P__law_sums)) (c_count_good : Cal P w K mg base 4 "count_good" (spD 2 P_count_good)) (c_remainders : Cal P w K mg base 2 "remainders" (spD 2 P_remainders)) (F : L2.Fun K "law" "law" s_law f fd) : FnG P w K mg base CX0 7 f fd ["script"] (spD 1 P_law) :=
  have nd := sc_law.nd
  fng_mk F sc_law fun cdv A outer s H E hr hgu => ⟨_, q_law, (dss_cons (ds_set nd (d_call c__law_frame hr (da_cons (d_var 0) (da_cons d_int (da_cons d_bl da_nil)))))
  (dss_cons (ds_set nd (d_call c__law_numbers hr (da_cons (d_call c__law_cell hr (da_cons (d_var 0) (da_cons d_int da_nil))) (da_cons d_int (da_cons d_int da_nil)))))
  (dss_frz 2 (dss_cons (ds_set nd (d_repr hr hgu M.repr_ (d_var 1)))
  (dss_frz 3 (dss_cons (ds_set nd (d_call c__law_lines hr (da_cons (d_var 1) da_nil)))
  (dss_frz 4 (dss_cons (ds_set nd (d_len M.len_ (d_sub_ix (d_sub_ix (d_var 1) d_int) d_int)))
  (dss_cons (bs_setLc (own := [("line", 8)]) rfl nd (di_list (d_var 4)) (blkOk_by (by kernel_rfl)) (fun _ _ _ _ _ => (dg_name nd)) (fun _ _ _ _ _ => (dts_one (d_tb (d_call c__law_is_good hr (da_cons (d_var 1) (da_cons (d_var 8) da_nil)))))) (fun _ _ _ _ _ => (d_var 8)) (sw_true rfl rfl rfl (by decide +kernel)))
  (dss_frz 6 (dss_cons (ds_set nd d_dT)
  (dss_cons (ds_for PassesOwn.never rfl (di_list (d_var 4)) (dg_name nd)
   (dss_cons (ds_set nd (d_call c__law_sums hr (da_cons (d_var 1) (da_cons (d_var 8) da_nil))))
   (dss_cons (ds_dput 7 hr (d_var 9) d_bl)
   (dss_one (ds_if (dt_not (d_tb (d_call c__law_same hr (da_cons (d_call c_remainders hr (da_cons (d_var 1) (da_cons (d_var 8) da_nil))) (da_cons (d_var 9) da_nil)))))
    (dss_one (ds_ret d_bl))
    dss_nil)))))
  (dss_cons (ds_if (d_tcmp (or_ne hr) os_ne (d_mul (d_len M.len_ (d_var 6)) (d_lenD M.len_ (d_var 7))) (d_len M.len_ (d_var 4)))
   (dss_one (ds_ret d_bl))
   dss_nil)
  (dss_cons (ds_for PassesOwn.never rfl (di_range1 M.range_ (da_cons d_int da_nil)) (dg_name nd)
   (dss_cons (ds_set nd (d_mul (d_lst (da_cons d_non da_nil)) (d_var 5)))
   (dss_cons (ds_for PassesOwn.never rfl (di_range1 M.range_ (da_cons (d_var 5) da_nil)) (dg_name nd)
    (dss_one (ds_if (dw_and (d_tcmp or_gt os_ord (d_var 10) d_int) (dw_and1 (d_tcmp (or_eq hr) os_eq (d_mod (d_fdiv (d_sub_ix (d_var 2) (d_add (d_mul d_int (d_var 10)) (d_mod (d_var 12) d_int))) (d_add d_int (d_var 12))) d_int) d_int))).dt
     (dss_one (ds_setIx 11 (d_var 12) (d_sub_ix (d_sub_ix (d_var 1) d_int) (d_mod (d_sub_ix (d_var 2) (d_add (d_mul d_int (d_var 10)) (d_mod (d_add (d_var 12) d_int) d_int))) (d_len M.len_ (d_sub_ix (d_var 1) d_int))))))
     dss_nil)))
   (dss_frz 11 (dss_cons (bs_setLc (own := [("line", 8)]) rfl nd (di_list (d_var 6)) (blkOk_by (by kernel_rfl)) (fun _ _ _ _ _ => (dg_name nd)) (fun _ _ _ _ _ => (dts_one (d_tb (d_call c__law_fits hr (da_cons (d_var 8) (da_cons (d_var 11) da_nil)))))) (fun _ _ _ _ _ => (d_var 8)) (sw_true rfl rfl rfl (by decide +kernel)))
   (dss_frz 13 (dss_cons (ds_set nd (d_list1 M.list_ (d_var 11)))
   (dss_frz 14 (dss_cons (ds_if (dt_not (d_tb (d_call c__law_same hr (da_cons (d_call c_count_good hr (da_cons (d_var 1) (da_cons (d_var 14) da_nil))) (da_cons (d_len M.len_ (d_var 13)) da_nil)))))
    (dss_one (ds_ret d_bl))
    dss_nil)
   (dss_cons (ds_set nd (d_tup (da_cons d_str (da_cons d_bl da_nil))))
   (dss_cons (ds_if (d_tcmp or_gt os_ord (d_len M.len_ (d_var 13)) d_int)
    (dss_one (ds_set nd (d_tup (da_cons d_str (da_cons (d_sub_ix (d_var 13) d_int) da_nil)))))
    dss_nil)
   (dss_one (ds_if (dw_or (dt_not (d_tb (d_call c__law_same hr (da_cons (d_call c__law_done hr (da_cons (d_var 1) (da_cons (d_var 14) da_nil))) (da_cons (d_var 9) da_nil))))) (dw_or1 (d_tcmp (or_ne hr) os_ne (d_var 14) (d_var 11)))).dt
    (dss_one (ds_ret d_bl))
    dss_nil)))))))))))))
  (dss_one (ds_ret (d_and (d_cmp (or_eq hr) os_eq (d_var 3) (d_repr hr hgu M.repr_ (d_var 1))) (d_one (d_call c__law_large hr (da_cons (d_var 0) (da_cons d_int da_nil))))))))))))))))))))), pure_law⟩

end
theorem all_mk {l : PySem.W.OpenLaw} {w : World} {K : PySem.W.Frag} {h : Heap} {mg : Str → Option Value} {fa : Addr} (X : K.In h) (G : h.Ns mainGlobals mg) (hfa : mg "law" = some (.ref fa))
    {f0 : Addr} {od0 an0 : Option Addr} {sl0 : Array (Option Value)} {oc0 kV0 dc0 pm0 cd0 ct0 : Value}
    {f1 : Addr} {od1 an1 : Option Addr} {sl1 : Array (Option Value)} {oc1 kV1 dc1 pm1 cd1 ct1 : Value}
    {f2 : Addr} {od2 an2 : Option Addr} {sl2 : Array (Option Value)} {oc2 kV2 dc2 pm2 cd2 ct2 : Value}
    {f3 : Addr} {od3 an3 : Option Addr} {sl3 : Array (Option Value)} {oc3 kV3 dc3 pm3 cd3 ct3 : Value}
    {f4 : Addr} {od4 an4 : Option Addr} {sl4 : Array (Option Value)} {oc4 kV4 dc4 pm4 cd4 ct4 : Value}
    {f5 : Addr} {od5 an5 : Option Addr} {sl5 : Array (Option Value)} {oc5 kV5 dc5 pm5 cd5 ct5 : Value}
    {f6 : Addr} {od6 an6 : Option Addr} {sl6 : Array (Option Value)} {oc6 kV6 dc6 pm6 cd6 ct6 : Value}
    {f7 : Addr} {od7 an7 : Option Addr} {sl7 : Array (Option Value)} {oc7 kV7 dc7 pm7 cd7 ct7 : Value}
    {f8 : Addr} {od8 an8 : Option Addr} {sl8 : Array (Option Value)} {oc8 kV8 dc8 pm8 cd8 ct8 : Value}
    {f9 : Addr} {od9 an9 : Option Addr} {sl9 : Array (Option Value)} {oc9 kV9 dc9 pm9 cd9 ct9 : Value}
    {f10 : Addr} {od10 an10 : Option Addr} {sl10 : Array (Option Value)} {oc10 kV10 dc10 pm10 cd10 ct10 : Value}
    {f11 : Addr} {od11 an11 : Option Addr} {sl11 : Array (Option Value)} {oc11 kV11 dc11 pm11 cd11 ct11 : Value}
    {f12 : Addr} {od12 an12 : Option Addr} {sl12 : Array (Option Value)} {oc12 kV12 dc12 pm12 cd12 ct12 : Value}
    {f13 : Addr} {od13 an13 : Option Addr} {sl13 : Array (Option Value)} {oc13 kV13 dc13 pm13 cd13 ct13 : Value}
    {f14 : Addr} {od14 an14 : Option Addr} {sl14 : Array (Option Value)} {oc14 kV14 dc14 pm14 cd14 ct14 : Value}
    {f15 : Addr} {od15 an15 : Option Addr} {sl15 : Array (Option Value)} {oc15 kV15 dc15 pm15 cd15 ct15 : Value}
    {f16 : Addr} {od16 an16 : Option Addr} {sl16 : Array (Option Value)} {oc16 kV16 dc16 pm16 cd16 ct16 : Value}
    {f17 : Addr} {od17 an17 : Option Addr} {sl17 : Array (Option Value)} {oc17 kV17 dc17 pm17 cd17 ct17 : Value}
    {f18 : Addr} {od18 an18 : Option Addr} {sl18 : Array (Option Value)} {oc18 kV18 dc18 pm18 cd18 ct18 : Value}
    {f19 : Addr} {od19 an19 : Option Addr} {sl19 : Array (Option Value)} {oc19 kV19 dc19 pm19 cd19 ct19 : Value}
    {f20 : Addr} {od20 an20 : Option Addr} {sl20 : Array (Option Value)} {oc20 kV20 dc20 pm20 cd20 ct20 : Value}
    {f21 : Addr} {od21 an21 : Option Addr} {sl21 : Array (Option Value)} {oc21 kV21 dc21 pm21 cd21 ct21 : Value}
    {f22 : Addr} {od22 an22 : Option Addr} {sl22 : Array (Option Value)} {oc22 kV22 dc22 pm22 cd22 ct22 : Value}
    (a0 : PySem.W.nsIn K mainGlobals "worths_in" = some (some (.ref f0))) (l0 : K.lookup f0 = some ⟨oc0, od0, .func (PySem.W.fnOf "worths_in" "worths_in" (defArgs s_worths_in) (defBody s_worths_in) (defScope s_worths_in) .none kV0 dc0 pm0 an0 cd0 ct0), sl0⟩) (c0 : PySem.W.codeIn K cd0 "worths_in" = true) (k0 : PySem.W.keepIn K (.ref f0) = true)
    (a1 : PySem.W.nsIn K mainGlobals "remainders" = some (some (.ref f1))) (l1 : K.lookup f1 = some ⟨oc1, od1, .func (PySem.W.fnOf "remainders" "remainders" (defArgs s_remainders) (defBody s_remainders) (defScope s_remainders) .none kV1 dc1 pm1 an1 cd1 ct1), sl1⟩) (c1 : PySem.W.codeIn K cd1 "remainders" = true) (k1 : PySem.W.keepIn K (.ref f1) = true)
    (a2 : PySem.W.nsIn K mainGlobals "zeros" = some (some (.ref f2))) (l2 : K.lookup f2 = some ⟨oc2, od2, .func (PySem.W.fnOf "zeros" "zeros" (defArgs s_zeros) (defBody s_zeros) (defScope s_zeros) .none kV2 dc2 pm2 an2 cd2 ct2), sl2⟩) (c2 : PySem.W.codeIn K cd2 "zeros" = true) (k2 : PySem.W.keepIn K (.ref f2) = true)
    (a3 : PySem.W.nsIn K mainGlobals "mark" = some (some (.ref f3))) (l3 : K.lookup f3 = some ⟨oc3, od3, .func (PySem.W.fnOf "mark" "mark" (defArgs s_mark) (defBody s_mark) (defScope s_mark) .none kV3 dc3 pm3 an3 cd3 ct3), sl3⟩) (c3 : PySem.W.codeIn K cd3 "mark" = true) (k3 : PySem.W.keepIn K (.ref f3) = true)
    (a4 : PySem.W.nsIn K mainGlobals "added" = some (some (.ref f4))) (l4 : K.lookup f4 = some ⟨oc4, od4, .func (PySem.W.fnOf "added" "added" (defArgs s_added) (defBody s_added) (defScope s_added) .none kV4 dc4 pm4 an4 cd4 ct4), sl4⟩) (c4 : PySem.W.codeIn K cd4 "added" = true) (k4 : PySem.W.keepIn K (.ref f4) = true)
    (a5 : PySem.W.nsIn K mainGlobals "allowed" = some (some (.ref f5))) (l5 : K.lookup f5 = some ⟨oc5, od5, .func (PySem.W.fnOf "allowed" "allowed" (defArgs s_allowed) (defBody s_allowed) (defScope s_allowed) .none kV5 dc5 pm5 an5 cd5 ct5), sl5⟩) (c5 : PySem.W.codeIn K cd5 "allowed" = true) (k5 : PySem.W.keepIn K (.ref f5) = true)
    (a6 : PySem.W.nsIn K mainGlobals "before_place" = some (some (.ref f6))) (l6 : K.lookup f6 = some ⟨oc6, od6, .func (PySem.W.fnOf "before_place" "before_place" (defArgs s_before_place) (defBody s_before_place) (defScope s_before_place) .none kV6 dc6 pm6 an6 cd6 ct6), sl6⟩) (c6 : PySem.W.codeIn K cd6 "before_place" = true) (k6 : PySem.W.keepIn K (.ref f6) = true)
    (a7 : PySem.W.nsIn K mainGlobals "all_tails" = some (some (.ref f7))) (l7 : K.lookup f7 = some ⟨oc7, od7, .func (PySem.W.fnOf "all_tails" "all_tails" (defArgs s_all_tails) (defBody s_all_tails) (defScope s_all_tails) .none kV7 dc7 pm7 an7 cd7 ct7), sl7⟩) (c7 : PySem.W.codeIn K cd7 "all_tails" = true) (k7 : PySem.W.keepIn K (.ref f7) = true)
    (a8 : PySem.W.nsIn K mainGlobals "completed" = some (some (.ref f8))) (l8 : K.lookup f8 = some ⟨oc8, od8, .func (PySem.W.fnOf "completed" "completed" (defArgs s_completed) (defBody s_completed) (defScope s_completed) .none kV8 dc8 pm8 an8 cd8 ct8), sl8⟩) (c8 : PySem.W.codeIn K cd8 "completed" = true) (k8 : PySem.W.keepIn K (.ref f8) = true)
    (a9 : PySem.W.nsIn K mainGlobals "count_good" = some (some (.ref f9))) (l9 : K.lookup f9 = some ⟨oc9, od9, .func (PySem.W.fnOf "count_good" "count_good" (defArgs s_count_good) (defBody s_count_good) (defScope s_count_good) .none kV9 dc9 pm9 an9 cd9 ct9), sl9⟩) (c9 : PySem.W.codeIn K cd9 "count_good" = true) (k9 : PySem.W.keepIn K (.ref f9) = true)
    (a10 : PySem.W.nsIn K mainGlobals "_law_cell" = some (some (.ref f10))) (l10 : K.lookup f10 = some ⟨oc10, od10, .func (PySem.W.fnOf "_law_cell" "_law_cell" (defArgs s__law_cell) (defBody s__law_cell) (defScope s__law_cell) .none kV10 dc10 pm10 an10 cd10 ct10), sl10⟩) (c10 : PySem.W.codeIn K cd10 "_law_cell" = true) (k10 : PySem.W.keepIn K (.ref f10) = true)
    (a11 : PySem.W.nsIn K mainGlobals "_law_numbers" = some (some (.ref f11))) (l11 : K.lookup f11 = some ⟨oc11, od11, .func (PySem.W.fnOf "_law_numbers" "_law_numbers" (defArgs s__law_numbers) (defBody s__law_numbers) (defScope s__law_numbers) .none kV11 dc11 pm11 an11 cd11 ct11), sl11⟩) (c11 : PySem.W.codeIn K cd11 "_law_numbers" = true) (k11 : PySem.W.keepIn K (.ref f11) = true)
    (a12 : PySem.W.nsIn K mainGlobals "_law_same" = some (some (.ref f12))) (l12 : K.lookup f12 = some ⟨oc12, od12, .func (PySem.W.fnOf "_law_same" "_law_same" (defArgs s__law_same) (defBody s__law_same) (defScope s__law_same) .none kV12 dc12 pm12 an12 cd12 ct12), sl12⟩) (c12 : PySem.W.codeIn K cd12 "_law_same" = true) (k12 : PySem.W.keepIn K (.ref f12) = true)
    (a13 : PySem.W.nsIn K mainGlobals "_law_signs" = some (some (.ref f13))) (l13 : K.lookup f13 = some ⟨oc13, od13, .func (PySem.W.fnOf "_law_signs" "_law_signs" (defArgs s__law_signs) (defBody s__law_signs) (defScope s__law_signs) .none kV13 dc13 pm13 an13 cd13 ct13), sl13⟩) (c13 : PySem.W.codeIn K cd13 "_law_signs" = true) (k13 : PySem.W.keepIn K (.ref f13) = true)
    (a14 : PySem.W.nsIn K mainGlobals "_law_frame" = some (some (.ref f14))) (l14 : K.lookup f14 = some ⟨oc14, od14, .func (PySem.W.fnOf "_law_frame" "_law_frame" (defArgs s__law_frame) (defBody s__law_frame) (defScope s__law_frame) .none kV14 dc14 pm14 an14 cd14 ct14), sl14⟩) (c14 : PySem.W.codeIn K cd14 "_law_frame" = true) (k14 : PySem.W.keepIn K (.ref f14) = true)
    (a15 : PySem.W.nsIn K mainGlobals "_law_sums" = some (some (.ref f15))) (l15 : K.lookup f15 = some ⟨oc15, od15, .func (PySem.W.fnOf "_law_sums" "_law_sums" (defArgs s__law_sums) (defBody s__law_sums) (defScope s__law_sums) .none kV15 dc15 pm15 an15 cd15 ct15), sl15⟩) (c15 : PySem.W.codeIn K cd15 "_law_sums" = true) (k15 : PySem.W.keepIn K (.ref f15) = true)
    (a16 : PySem.W.nsIn K mainGlobals "_law_is_good" = some (some (.ref f16))) (l16 : K.lookup f16 = some ⟨oc16, od16, .func (PySem.W.fnOf "_law_is_good" "_law_is_good" (defArgs s__law_is_good) (defBody s__law_is_good) (defScope s__law_is_good) .none kV16 dc16 pm16 an16 cd16 ct16), sl16⟩) (c16 : PySem.W.codeIn K cd16 "_law_is_good" = true) (k16 : PySem.W.keepIn K (.ref f16) = true)
    (a17 : PySem.W.nsIn K mainGlobals "_law_lines" = some (some (.ref f17))) (l17 : K.lookup f17 = some ⟨oc17, od17, .func (PySem.W.fnOf "_law_lines" "_law_lines" (defArgs s__law_lines) (defBody s__law_lines) (defScope s__law_lines) .none kV17 dc17 pm17 an17 cd17 ct17), sl17⟩) (c17 : PySem.W.codeIn K cd17 "_law_lines" = true) (k17 : PySem.W.keepIn K (.ref f17) = true)
    (a18 : PySem.W.nsIn K mainGlobals "_law_done" = some (some (.ref f18))) (l18 : K.lookup f18 = some ⟨oc18, od18, .func (PySem.W.fnOf "_law_done" "_law_done" (defArgs s__law_done) (defBody s__law_done) (defScope s__law_done) .none kV18 dc18 pm18 an18 cd18 ct18), sl18⟩) (c18 : PySem.W.codeIn K cd18 "_law_done" = true) (k18 : PySem.W.keepIn K (.ref f18) = true)
    (a19 : PySem.W.nsIn K mainGlobals "_law_fits" = some (some (.ref f19))) (l19 : K.lookup f19 = some ⟨oc19, od19, .func (PySem.W.fnOf "_law_fits" "_law_fits" (defArgs s__law_fits) (defBody s__law_fits) (defScope s__law_fits) .none kV19 dc19 pm19 an19 cd19 ct19), sl19⟩) (c19 : PySem.W.codeIn K cd19 "_law_fits" = true) (k19 : PySem.W.keepIn K (.ref f19) = true)
    (a20 : PySem.W.nsIn K mainGlobals "_law_power" = some (some (.ref f20))) (l20 : K.lookup f20 = some ⟨oc20, od20, .func (PySem.W.fnOf "_law_power" "_law_power" (defArgs s__law_power) (defBody s__law_power) (defScope s__law_power) .none kV20 dc20 pm20 an20 cd20 ct20), sl20⟩) (c20 : PySem.W.codeIn K cd20 "_law_power" = true) (k20 : PySem.W.keepIn K (.ref f20) = true)
    (a21 : PySem.W.nsIn K mainGlobals "_law_large" = some (some (.ref f21))) (l21 : K.lookup f21 = some ⟨oc21, od21, .func (PySem.W.fnOf "_law_large" "_law_large" (defArgs s__law_large) (defBody s__law_large) (defScope s__law_large) .none kV21 dc21 pm21 an21 cd21 ct21), sl21⟩) (c21 : PySem.W.codeIn K cd21 "_law_large" = true) (k21 : PySem.W.keepIn K (.ref f21) = true)
    (a22 : PySem.W.nsIn K mainGlobals "law" = some (some (.ref f22))) (l22 : K.lookup f22 = some ⟨oc22, od22, .func (PySem.W.fnOf "law" "law" (defArgs s_law) (defBody s_law) (defScope s_law) .none kV22 dc22 pm22 an22 cd22 ct22), sl22⟩) (c22 : PySem.W.codeIn K cd22 "law" = true) (k22 : PySem.W.keepIn K (.ref f22) = true)
    (z_bool : PySem.W.nsIn K mainGlobals "bool" = some none)
    (z_enumerate : PySem.W.nsIn K mainGlobals "enumerate" = some none)
    (z_int : PySem.W.nsIn K mainGlobals "int" = some none)
    (z_isinstance : PySem.W.nsIn K mainGlobals "isinstance" = some none)
    (z_len : PySem.W.nsIn K mainGlobals "len" = some none)
    (z_list : PySem.W.nsIn K mainGlobals "list" = some none)
    (z_max : PySem.W.nsIn K mainGlobals "max" = some none)
    (z_range : PySem.W.nsIn K mainGlobals "range" = some none)
    (z_repr : PySem.W.nsIn K mainGlobals "repr" = some none)
    (z_reversed : PySem.W.nsIn K mainGlobals "reversed" = some none)
    (z_str : PySem.W.nsIn K mainGlobals "str" = some none)
    (z_sum : PySem.W.nsIn K mainGlobals "sum" = some none)
    (z_tuple : PySem.W.nsIn K mainGlobals "tuple" = some none)
    (z_zip : PySem.W.nsIn K mainGlobals "zip" = some none)
    {C_NoLine C_NotSure C_ScriptError : Addr} (y_NoLine : PySem.W.nsIn K mainGlobals "NoLine" = some (some (.ref C_NoLine))) (y_NotSure : PySem.W.nsIn K mainGlobals "NotSure" = some (some (.ref C_NotSure))) (y_ScriptError : PySem.W.nsIn K mainGlobals "ScriptError" = some (some (.ref C_ScriptError)))
    (xr_NoLine : ExcRaw K C_NoLine)
    (kt_NoLine_NotSure : PySem.W.kitOne K (.ref C_NoLine) (.ref C_NotSure) = some false)
    (kt_NoLine_ScriptError : PySem.W.kitOne K (.ref C_NoLine) (.ref C_ScriptError) = some true)
    : ∃ fd : FuncData, (∀ (s : Shared) (v : Value), BindsTo s fd ⟨[v], []⟩ [("script", v)]) ∧ ∀ base : Heap, K.In base → base.Ns mainGlobals mg → FnG l.prog w K mg base CX0 7 fa fd ["script"] (spD 1 P_law) := by
  have e := hfa.symm.trans (PySem.W.mg_of X G a22)
  cases e
  have M : Mg mg := ⟨PySem.W.mg_none_of X G z_bool, PySem.W.mg_none_of X G z_enumerate, PySem.W.mg_none_of X G z_int, PySem.W.mg_none_of X G z_isinstance, PySem.W.mg_none_of X G z_len, PySem.W.mg_none_of X G z_list, PySem.W.mg_none_of X G z_max, PySem.W.mg_none_of X G z_range, PySem.W.mg_none_of X G z_repr, PySem.W.mg_none_of X G z_reversed, PySem.W.mg_none_of X G z_str, PySem.W.mg_none_of X G z_sum, PySem.W.mg_none_of X G z_tuple, PySem.W.mg_none_of X G z_zip⟩
  have e_NoLine := PySem.W.mg_of X G y_NoLine
  have h_NoLine := ec_of e_NoLine
  have e_NotSure := PySem.W.mg_of X G y_NotSure
  have h_NotSure := ec_of e_NotSure
  have e_ScriptError := PySem.W.mg_of X G y_ScriptError
  have h_ScriptError := ec_of e_ScriptError
  have XF : Xf K mg (ec mg) := { x_NoLine := by rw [h_NoLine]; exact xr_NoLine.ok e_NoLine, exm_NoLine := by rw [h_NoLine]; exact xr_NoLine.exm, ec_NoLine := by rw [h_NoLine]; exact xr_NoLine.ec, m_NoLine := by rw [h_NoLine]; exact e_NoLine, m_NotSure := by rw [h_NotSure]; exact e_NotSure, m_ScriptError := by rw [h_ScriptError]; exact e_ScriptError, kit_NoLine_NotSure := by rw [h_NoLine, h_NotSure]; exact kt_NoLine_NotSure, kit_NoLine_ScriptError := by rw [h_NoLine, h_ScriptError]; exact kt_NoLine_ScriptError }
  have F0 := fun_mk (st := s_worths_in) l0 c0 k0
  have b0 := F0.binds (ps := ["frame", "line"]) fun _ _ _ _ _ _ us hl => match us, hl with | [_, _], _ => rfl
  have F1 := fun_mk (st := s_remainders) l1 c1 k1
  have b1 := F1.binds (ps := ["frame", "line"]) fun _ _ _ _ _ _ us hl => match us, hl with | [_, _], _ => rfl
  have F2 := fun_mk (st := s_zeros) l2 c2 k2
  have b2 := F2.binds (ps := ["frame"]) fun _ _ _ _ _ _ us hl => match us, hl with | [_], _ => rfl
  have F3 := fun_mk (st := s_mark) l3 c3 k3
  have b3 := F3.binds (ps := ["frame", "place", "d"]) fun _ _ _ _ _ _ us hl => match us, hl with | [_, _, _], _ => rfl
  have F4 := fun_mk (st := s_added) l4 c4 k4
  have b4 := F4.binds (ps := ["frame", "one", "other"]) fun _ _ _ _ _ _ us hl => match us, hl with | [_, _, _], _ => rfl
  have F5 := fun_mk (st := s_allowed) l5 c5 k5
  have b5 := F5.binds (ps := ["frame", "part"]) fun _ _ _ _ _ _ us hl => match us, hl with | [_, _], _ => rfl
  have F6 := fun_mk (st := s_before_place) l6 c6 k6
  have b6 := F6.binds (ps := ["frame", "place", "part", "tails"]) fun _ _ _ _ _ _ us hl => match us, hl with | [_, _, _, _], _ => rfl
  have F7 := fun_mk (st := s_all_tails) l7 c7 k7
  have b7 := F7.binds (ps := ["frame", "parts"]) fun _ _ _ _ _ _ us hl => match us, hl with | [_, _], _ => rfl
  have F8 := fun_mk (st := s_completed) l8 c8 k8
  have b8 := F8.binds (ps := ["frame", "parts"]) fun _ _ _ _ _ _ us hl => match us, hl with | [_, _], _ => rfl
  have F9 := fun_mk (st := s_count_good) l9 c9 k9
  have b9 := F9.binds (ps := ["frame", "parts"]) fun _ _ _ _ _ _ us hl => match us, hl with | [_, _], _ => rfl
  have F10 := fun_mk (st := s__law_cell) l10 c10 k10
  have b10 := F10.binds (ps := ["script", "k"]) fun _ _ _ _ _ _ us hl => match us, hl with | [_, _], _ => rfl
  have F11 := fun_mk (st := s__law_numbers) l11 c11 k11
  have b11 := F11.binds (ps := ["cell", "count", "limit"]) fun _ _ _ _ _ _ us hl => match us, hl with | [_, _, _], _ => rfl
  have F12 := fun_mk (st := s__law_same) l12 c12 k12
  have b12 := F12.binds (ps := ["told", "due"]) fun _ _ _ _ _ _ us hl => match us, hl with | [_, _], _ => rfl
  have F13 := fun_mk (st := s__law_signs) l13 c13 k13
  have b13 := F13.binds (ps := ["draw", "count"]) fun _ _ _ _ _ _ us hl => match us, hl with | [_, _], _ => rfl
  have F14 := fun_mk (st := s__law_frame) l14 c14 k14
  have b14 := F14.binds (ps := ["script", "at", "small"]) fun _ _ _ _ _ _ us hl => match us, hl with | [_, _, _], _ => rfl
  have F15 := fun_mk (st := s__law_sums) l15 c15 k15
  have b15 := F15.binds (ps := ["frame", "line"]) fun _ _ _ _ _ _ us hl => match us, hl with | [_, _], _ => rfl
  have F16 := fun_mk (st := s__law_is_good) l16 c16 k16
  have b16 := F16.binds (ps := ["frame", "line"]) fun _ _ _ _ _ _ us hl => match us, hl with | [_, _], _ => rfl
  have F17 := fun_mk (st := s__law_lines) l17 c17 k17
  have b17 := F17.binds (ps := ["frame"]) fun _ _ _ _ _ _ us hl => match us, hl with | [_], _ => rfl
  have F18 := fun_mk (st := s__law_done) l18 c18 k18
  have b18 := F18.binds (ps := ["frame", "parts"]) fun _ _ _ _ _ _ us hl => match us, hl with | [_, _], _ => rfl
  have F19 := fun_mk (st := s__law_fits) l19 c19 k19
  have b19 := F19.binds (ps := ["line", "parts"]) fun _ _ _ _ _ _ us hl => match us, hl with | [_, _], _ => rfl
  have F20 := fun_mk (st := s__law_power) l20 c20 k20
  have b20 := F20.binds (ps := ["m", "count"]) fun _ _ _ _ _ _ us hl => match us, hl with | [_, _], _ => rfl
  have F21 := fun_mk (st := s__law_large) l21 c21 k21
  have b21 := F21.binds (ps := ["script", "at"]) fun _ _ _ _ _ _ us hl => match us, hl with | [_, _], _ => rfl
  have F22 := fun_mk (st := s_law) l22 c22 k22
  refine ⟨PySem.W.fnOf "law" "law" (defArgs s_law) (defBody s_law) (defScope s_law) .none kV22 dc22 pm22 an22 cd22 ct22, fun s v => .of_eq rfl, fun base _ _ => ?_⟩
  have D_worths_in : Cal l.prog w K mg base 1 "worths_in" (spD 2 P_worths_in) := cal_worths_in M XF F0 (PySem.W.mg_of X G a0) b0
  have D_remainders : Cal l.prog w K mg base 2 "remainders" (spD 2 P_remainders) := cal_remainders M XF D_worths_in F1 (PySem.W.mg_of X G a1) b1
  have D_zeros : Cal l.prog w K mg base 1 "zeros" (spD 1 P_zeros) := cal_zeros M XF F2 (PySem.W.mg_of X G a2) b2
  have D_mark : Cal l.prog w K mg base 1 "mark" (spD 3 P_mark) := cal_mark M XF F3 (PySem.W.mg_of X G a3) b3
  have D_added : Cal l.prog w K mg base 1 "added" (spD 3 P_added) := cal_added M XF F4 (PySem.W.mg_of X G a4) b4
  have D_allowed : Cal l.prog w K mg base 1 "allowed" (spD 2 P_allowed) := cal_allowed M XF F5 (PySem.W.mg_of X G a5) b5
  have D_before_place : Cal l.prog w K mg base 2 "before_place" (spD 4 P_before_place) := cal_before_place M XF D_added D_allowed D_mark F6 (PySem.W.mg_of X G a6) b6
  have D_all_tails : Cal l.prog w K mg base 3 "all_tails" (spD 2 P_all_tails) := cal_all_tails M XF D_before_place D_zeros F7 (PySem.W.mg_of X G a7) b7
  have D_completed : CalX l.prog w K mg base 4 "completed" (spX 2 (P_completed (ec mg))) := cal_completed M XF D_added D_all_tails D_allowed D_mark D_zeros F8 (PySem.W.mg_of X G a8) b8
  have D_count_good : Cal l.prog w K mg base 4 "count_good" (spD 2 P_count_good) := cal_count_good M XF D_all_tails D_zeros F9 (PySem.W.mg_of X G a9) b9
  have D__law_cell : Cal l.prog w K mg base 1 "_law_cell" (spD 2 P__law_cell) := cal__law_cell M XF F10 (PySem.W.mg_of X G a10) b10
  have D__law_numbers : Cal l.prog w K mg base 1 "_law_numbers" (spD 3 P__law_numbers) := cal__law_numbers M XF F11 (PySem.W.mg_of X G a11) b11
  have D__law_same : Cal l.prog w K mg base 3 "_law_same" (spD 2 P__law_same) := cal__law_same M XF F12 (PySem.W.mg_of X G a12) b12
  have D__law_signs : Cal l.prog w K mg base 1 "_law_signs" (spD 2 P__law_signs) := cal__law_signs M XF F13 (PySem.W.mg_of X G a13) b13
  have D__law_frame : Cal l.prog w K mg base 2 "_law_frame" (spD 3 P__law_frame) := cal__law_frame M XF D__law_cell D__law_numbers D__law_signs F14 (PySem.W.mg_of X G a14) b14
  have D__law_sums : Cal l.prog w K mg base 1 "_law_sums" (spD 2 P__law_sums) := cal__law_sums M XF F15 (PySem.W.mg_of X G a15) b15
  have D__law_is_good : Cal l.prog w K mg base 2 "_law_is_good" (spD 2 P__law_is_good) := cal__law_is_good M XF D__law_sums F16 (PySem.W.mg_of X G a16) b16
  have D__law_lines : Cal l.prog w K mg base 1 "_law_lines" (spD 1 P__law_lines) := cal__law_lines M XF F17 (PySem.W.mg_of X G a17) b17
  have D__law_done : Cal l.prog w K mg base 5 "_law_done" (spD 2 P__law_done) := cal__law_done M XF D_completed F18 (PySem.W.mg_of X G a18) b18
  have D__law_fits : Cal l.prog w K mg base 1 "_law_fits" (spD 2 P__law_fits) := cal__law_fits M XF F19 (PySem.W.mg_of X G a19) b19
  have D__law_power : Cal l.prog w K mg base 1 "_law_power" (spD 2 P__law_power) := cal__law_power M XF F20 (PySem.W.mg_of X G a20) b20
  have D__law_large : Cal l.prog w K mg base 6 "_law_large" (spD 2 P__law_large) := cal__law_large M XF D__law_cell D__law_done D__law_fits D__law_frame D__law_is_good D__law_numbers D__law_power D__law_same D__law_sums D_count_good D_remainders F21 (PySem.W.mg_of X G a21) b21
  exact ok_law M XF D__law_cell D__law_done D__law_fits D__law_frame D__law_is_good D__law_large D__law_lines D__law_numbers D__law_same D__law_sums D_count_good D_remainders F22

end PL
open PySem PySem.W PyProof.Rows
set_option maxHeartbeats 0 in
theorem PySem.Challenge.cw_lettersacross_k76_whole_good_lines_count_holds : PySem.Challenge.rw_lettersacross_k76_whole_good_lines_count.Holds := by
  w_on; o_law; k_head; (case hw => w_witness2)
  k_fill
  refine PL.walk_ofG (l := PySem.Challenge.rw_lettersacross_k76_whole_good_lines_count) (n := 63) (k := 7) (x := "script") (sp := fun _ => PL.spD 1 PL.P_law) rfl (by decide) rfl ⟨rfl, by decide, by decide⟩ (fun w h Y => PySem.W.kIn_of Y) ?F ?hsp
  case hsp =>
    intro w H a ns hl hO hS
    refine PL.law_sp ?hk hO hS ⟨ns, rfl, hl, rfl⟩
    (case hk => kernel_rfl)
  case F =>
    intro w mg fa h KX G hmg
    refine' PL.all_mk KX G hmg ?a0 ?l0 ?c0 ?k0 ?a1 ?l1 ?c1 ?k1 ?a2 ?l2 ?c2 ?k2 ?a3 ?l3 ?c3 ?k3 ?a4 ?l4 ?c4 ?k4 ?a5 ?l5 ?c5 ?k5 ?a6 ?l6 ?c6 ?k6 ?a7 ?l7 ?c7 ?k7 ?a8 ?l8 ?c8 ?k8 ?a9 ?l9 ?c9 ?k9 ?a10 ?l10 ?c10 ?k10 ?a11 ?l11 ?c11 ?k11 ?a12 ?l12 ?c12 ?k12 ?a13 ?l13 ?c13 ?k13 ?a14 ?l14 ?c14 ?k14 ?a15 ?l15 ?c15 ?k15 ?a16 ?l16 ?c16 ?k16 ?a17 ?l17 ?c17 ?k17 ?a18 ?l18 ?c18 ?k18 ?a19 ?l19 ?c19 ?k19 ?a20 ?l20 ?c20 ?k20 ?a21 ?l21 ?c21 ?k21 ?a22 ?l22 ?c22 ?k22 ?z_bool ?z_enumerate ?z_int ?z_isinstance ?z_len ?z_list ?z_max ?z_range ?z_repr ?z_reversed ?z_str ?z_sum ?z_tuple ?z_zip ?y_NoLine ?y_NotSure ?y_ScriptError ?xr_NoLine ?kt_NoLine_NotSure ?kt_NoLine_ScriptError
    (case a0 => k_is)
    (case l0 => k_is)
    (case c0 => k_is)
    (case k0 => k_is)
    (case a1 => k_is)
    (case l1 => k_is)
    (case c1 => k_is)
    (case k1 => k_is)
    (case a2 => k_is)
    (case l2 => k_is)
    (case c2 => k_is)
    (case k2 => k_is)
    (case a3 => k_is)
    (case l3 => k_is)
    (case c3 => k_is)
    (case k3 => k_is)
    (case a4 => k_is)
    (case l4 => k_is)
    (case c4 => k_is)
    (case k4 => k_is)
    (case a5 => k_is)
    (case l5 => k_is)
    (case c5 => k_is)
    (case k5 => k_is)
    (case a6 => k_is)
    (case l6 => k_is)
    (case c6 => k_is)
    (case k6 => k_is)
    (case a7 => k_is)
    (case l7 => k_is)
    (case c7 => k_is)
    (case k7 => k_is)
    (case a8 => k_is)
    (case l8 => k_is)
    (case c8 => k_is)
    (case k8 => k_is)
    (case a9 => k_is)
    (case l9 => k_is)
    (case c9 => k_is)
    (case k9 => k_is)
    (case a10 => k_is)
    (case l10 => k_is)
    (case c10 => k_is)
    (case k10 => k_is)
    (case a11 => k_is)
    (case l11 => k_is)
    (case c11 => k_is)
    (case k11 => k_is)
    (case a12 => k_is)
    (case l12 => k_is)
    (case c12 => k_is)
    (case k12 => k_is)
    (case a13 => k_is)
    (case l13 => k_is)
    (case c13 => k_is)
    (case k13 => k_is)
    (case a14 => k_is)
    (case l14 => k_is)
    (case c14 => k_is)
    (case k14 => k_is)
    (case a15 => k_is)
    (case l15 => k_is)
    (case c15 => k_is)
    (case k15 => k_is)
    (case a16 => k_is)
    (case l16 => k_is)
    (case c16 => k_is)
    (case k16 => k_is)
    (case a17 => k_is)
    (case l17 => k_is)
    (case c17 => k_is)
    (case k17 => k_is)
    (case a18 => k_is)
    (case l18 => k_is)
    (case c18 => k_is)
    (case k18 => k_is)
    (case a19 => k_is)
    (case l19 => k_is)
    (case c19 => k_is)
    (case k19 => k_is)
    (case a20 => k_is)
    (case l20 => k_is)
    (case c20 => k_is)
    (case k20 => k_is)
    (case a21 => k_is)
    (case l21 => k_is)
    (case c21 => k_is)
    (case k21 => k_is)
    (case a22 => k_is)
    (case l22 => k_is)
    (case c22 => k_is)
    (case k22 => k_is)
    (case z_bool => k_is)
    (case z_enumerate => k_is)
    (case z_int => k_is)
    (case z_isinstance => k_is)
    (case z_len => k_is)
    (case z_list => k_is)
    (case z_max => k_is)
    (case z_range => k_is)
    (case z_repr => k_is)
    (case z_reversed => k_is)
    (case z_str => k_is)
    (case z_sum => k_is)
    (case z_tuple => k_is)
    (case z_zip => k_is)
    (case y_NoLine => k_is)
    (case y_NotSure => k_is)
    (case y_ScriptError => k_is)
    (case xr_NoLine => refine ⟨?_, ?_, ?_, ?_, ?_, ⟨?_, ?_, ?_, ?_, ?_, ?_, ?_, ?_⟩⟩ <;> first | k_is | k_exc | kernel_rfl)
    (case kt_NoLine_NotSure => kernel_rfl)
    (case kt_NoLine_ScriptError => kernel_rfl)


