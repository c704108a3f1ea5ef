import PyProof.Rows.All
import Wide.All
import OpenK.AllK
import Wide.FinOn
import HandS.ForMost
import HandS.Deep
import HandS.ForExc
import HandS.Zip
import HandS.DictComp
import HandS.TupAny
import HandS.IsInst
import HandS.Style
import HandS.SortInts
import HandS.Codes
import HandS.TupLen
import HandS.Replace
import HandS.TupMul
import KE.DataMinMax
import HandS.Exc
import HandS.ExcOwn
import HandS.ExcIs
import HandS.TryOnly
import HandS.WordsExc
import KE.DatumIndex
import PyProof.ReprLen
import HandS.Text
import HandS.StrMore
import HandS.Conv
import PyProof.Rows.StrPadFill
import PyProof.Rows.StrCase
import KE.DataEq
import PySem.Challenge.RW_lettersacross_k79_machine_lines_cut_writ
set_option Elab.async false
set_option linter.all false
set_option maxRecDepth 100000
set_option maxHeartbeats 4000000
/-! PL0: data without a heap: what a value bears (Rp), the environment of a def by slots (Rel), own cells -/
namespace PL
open PySem PySem.Spec PyProof.Rows L2

abbrev D := PyData
/-- by cases, as a goal of two -/
structure Cif (c : Bool) (A B : Prop) : Prop where
  t : c = true → A
  f : c = false → B

def keyD : Key → D
  | .inl i => .int i
  | .inr x => .str x

/-! ### a value bears data, in the frozen heap F -/
mutual
inductive Rp (F : Hp) : V → D → Prop
  | non : Rp F .non .none
  | bl (b : Bool) : Rp F (.bl b) (.bool b)
  | int (i : Int) : Rp F (.int i) (.int i)
  | str (x : Str) (h : PyData.strOk x = true) : Rp F (.str x) (.str x)
  | lst {a : Addr} {xs : List V} {ds : List D} : F a = some (.lst xs) → RpA F xs ds → Rp F (.ref a) (.list ds)
  /-- the script: a list that is known to the object -/
  | fz {a : Addr} {o : Obj} {xs : List V} {ds : List D} : F a = some (.frz o (.lst xs)) → RpA F xs ds → Rp F (.ref a) (.dict [(.none, .list ds)])
  | tup {a : Addr} {xs : List V} {ds : List D} : F a = some (.tup xs) → RpA F xs ds → Rp F (.ref a) (.tuple ds)
  | dk {a : Addr} {kvs : List (Key × V)} {ds : List (D × D)} : F a = some (.dK kvs) → RpK F kvs ds → Rp F (.ref a) (.dict ds)
  | dt {a : Addr} {kvs : List (List Key × V)} {ds : List (D × D)} : F a = some (.dT kvs) → RpT F kvs ds → Rp F (.ref a) (.dict ds)
inductive RpA (F : Hp) : List V → List D → Prop
  | nil : RpA F [] []
  | cons {v : V} {vs : List V} {d : D} {ds : List D} : Rp F v d → RpA F vs ds → RpA F (v :: vs) (d :: ds)
inductive RpK (F : Hp) : List (Key × V) → List (D × D) → Prop
  | nil : RpK F [] []
  | cons {k : Key} {v : V} {r : List (Key × V)} {d : D} {ds : List (D × D)} : Rp F v d → RpK F r ds → RpK F ((k, v) :: r) ((keyD k, d) :: ds)
inductive RpT (F : Hp) : List (List Key × V) → List (D × D) → Prop
  | nil : RpT F [] []
  | cons {k : List Key} {v : V} {r : List (List Key × V)} {d : D} {ds : List (D × D)} : Rp F v d → RpT F r ds → RpT F ((k, v) :: r) ((.tuple (k.map keyD), d) :: ds)
end

theorem rd_same {H H' : Hp} {a : Addr} {u : HO} (e : Same H H') (h : Rd H a u) : Rd H' a u := by
  rcases h with h | ⟨o, h⟩
  · exact Or.inl (e a _ h)
  · exact Or.inr ⟨o, e a _ h⟩

mutual
theorem Rp.mono {F F' : Hp} (e : Same F F') : ∀ {v : V} {d : D}, Rp F v d → Rp F' v d
  | _, _, .non => .non
  | _, _, .bl b => .bl b
  | _, _, .int i => .int i
  | _, _, .str x h => .str x h
  | _, _, .lst h r => .lst (e _ _ h) (RpA.mono e r)
  | _, _, .fz h r => .fz (e _ _ h) (RpA.mono e r)
  | _, _, .tup h r => .tup (e _ _ h) (RpA.mono e r)
  | _, _, .dk h r => .dk (e _ _ h) (RpK.mono e r)
  | _, _, .dt h r => .dt (e _ _ h) (RpT.mono e r)
theorem RpA.mono {F F' : Hp} (e : Same F F') : ∀ {vs : List V} {ds : List D}, RpA F vs ds → RpA F' vs ds
  | _, _, .nil => .nil
  | _, _, .cons h r => .cons (Rp.mono e h) (RpA.mono e r)
theorem RpK.mono {F F' : Hp} (e : Same F F') : ∀ {vs : List (Key × V)} {ds : List (D × D)}, RpK F vs ds → RpK F' vs ds
  | _, _, .nil => .nil
  | _, _, .cons h r => .cons (Rp.mono e h) (RpK.mono e r)
theorem RpT.mono {F F' : Hp} (e : Same F F') : ∀ {vs : List (List Key × V)} {ds : List (D × D)}, RpT F vs ds → RpT F' vs ds
  | _, _, .nil => .nil
  | _, _, .cons h r => .cons (Rp.mono e h) (RpT.mono e r)
end

theorem RpA.length {F : Hp} : ∀ {vs : List V} {ds : List D}, RpA F vs ds → vs.length = ds.length
  | _, _, .nil => rfl
  | _, _, .cons _ r => congrArg (· + 1) (RpA.length r)
theorem RpA.get {F : Hp} : ∀ {vs : List V} {ds : List D} {i : Nat} {d : D}, RpA F vs ds → ds[i]? = some d → ∃ v, vs[i]? = some v ∧ Rp F v d
  | _, _, _, _, .nil, e => by simp at e
  | _, _, 0, _, .cons h _, e => by
    simp at e
    subst e
    exact ⟨_, rfl, h⟩
  | _, _, i + 1, d, .cons _ r, e => by
    obtain ⟨v, h1, h2⟩ := RpA.get (i := i) (d := d) r (by simpa using e)
    exact ⟨v, by simpa using h1, h2⟩
theorem RpA.getV {F : Hp} : ∀ {vs : List V} {ds : List D} {i : Nat} {v : V}, RpA F vs ds → vs[i]? = some v → ∃ d, ds[i]? = some d ∧ Rp F v d
  | _, _, _, _, .nil, e => by simp at e
  | _, _, 0, _, .cons h _, e => by
    simp at e
    subst e
    exact ⟨_, rfl, h⟩
  | _, _, i + 1, v, .cons _ r, e => by
    obtain ⟨d, h1, h2⟩ := RpA.getV (i := i) (v := v) r (by simpa using e)
    exact ⟨d, by simpa using h1, h2⟩
theorem RpA.append {F : Hp} : ∀ {vs us : List V} {ds es : List D}, RpA F vs ds → RpA F us es → RpA F (vs ++ us) (ds ++ es)
  | _, _, _, _, .nil, s => s
  | _, _, _, _, .cons h r, s => .cons h (RpA.append r s)
theorem RpA.take {F : Hp} : ∀ {vs : List V} {ds : List D} (n : Nat), RpA F vs ds → RpA F (vs.take n) (ds.take n)
  | _, _, 0, _ => .nil
  | _, _, _ + 1, .nil => .nil
  | _, _, n + 1, .cons h r => .cons h (RpA.take n r)
theorem RpA.drop {F : Hp} : ∀ {vs : List V} {ds : List D} (n : Nat), RpA F vs ds → RpA F (vs.drop n) (ds.drop n)
  | _, _, 0, r => r
  | _, _, _ + 1, .nil => .nil
  | _, _, n + 1, .cons _ r => RpA.drop n r
theorem RpA.set {F : Hp} {v : V} {d : D} (h0 : Rp F v d) : ∀ {vs : List V} {ds : List D} (n : Nat), RpA F vs ds → RpA F (vs.set n v) (ds.set n d)
  | _, _, _, .nil => .nil
  | _, _, 0, .cons _ r => .cons h0 r
  | _, _, n + 1, .cons h r => .cons h (RpA.set h0 n r)
theorem RpA.rep {F : Hp} {vs : List V} {ds : List D} (h : RpA F vs ds) : ∀ n : Nat, RpA F (List.replicate n vs).flatten (List.replicate n ds).flatten
  | 0 => .nil
  | n + 1 => by
    simp only [List.replicate_succ, List.flatten_cons]
    exact h.append (RpA.rep h n)
theorem RpA.reverse {F : Hp} : ∀ {vs : List V} {ds : List D}, RpA F vs ds → RpA F vs.reverse ds.reverse
  | _, _, .nil => .nil
  | _, _, .cons h r => by
    rw [List.reverse_cons, List.reverse_cons]
    exact (RpA.reverse r).append (.cons h .nil)
theorem RpA.map {F : Hp} {α : Type} (f : α → V) (g : α → D) : ∀ (xs : List α), (∀ x ∈ xs, Rp F (f x) (g x)) → RpA F (xs.map f) (xs.map g)
  | [], _ => .nil
  | x :: xs, h => .cons (h x List.mem_cons_self) (RpA.map f g xs fun y hy => h y (List.mem_cons_of_mem _ hy))

/-! ### data without dicts are the hand layer's -/
mutual
theorem Rp.dp {K : PySem.W.Frag} {F : Hp} : ∀ {v : V} {d : D}, Rp F v d → d.hasDict = false → Dp K F v d
  | _, _, .non, _ => .non
  | _, _, .bl b, _ => .bl b
  | _, _, .int i, _ => .int i
  | _, _, .str x _, _ => .str x
  | _, _, .lst h r, e => .lst (.inl (.inl h)) (RpA.dp r (by simpa [PyData.hasDict] using e))
  | _, _, .tup h r, e => .tup (.inl (.inl h)) (RpA.dp r (by simpa [PyData.hasDict] using e))
  | _, _, .dk _ _, e => by simp [PyData.hasDict] at e
  | _, _, .fz _ _, e => by simp [PyData.hasDict] at e
  | _, _, .dt _ _, e => by simp [PyData.hasDict] at e
theorem RpA.dp {K : PySem.W.Frag} {F : Hp} : ∀ {vs : List V} {ds : List D}, RpA F vs ds → PyData.hasDictAll ds = false → DpAll K F vs ds
  | _, _, .nil, _ => .nil
  | _, _, .cons h r, e => by
    simp only [PyData.hasDictAll, Bool.or_eq_false_iff] at e
    exact .cons (Rp.dp h e.1) (RpA.dp r e.2)
end
mutual
theorem Rp.lay {F : Hp} : ∀ {v : V} {d : D}, Rp F v d → d.hasDict = false → d.canLay0 = true
  | _, _, .non, _ => by simp [PyData.canLay0]
  | _, _, .bl b, _ => by simp [PyData.canLay0]
  | _, _, .int i, _ => by simp [PyData.canLay0]
  | _, _, .str x h, _ => by simp [PyData.canLay0, h]
  | _, _, .lst _ r, e => by
    simp only [PyData.canLay0]
    exact RpA.lay r (by simpa [PyData.hasDict] using e)
  | _, _, .tup _ r, e => by
    simp only [PyData.canLay0]
    exact RpA.lay r (by simpa [PyData.hasDict] using e)
  | _, _, .dk _ _, e => by simp [PyData.hasDict] at e
  | _, _, .fz _ _, e => by simp [PyData.hasDict] at e
  | _, _, .dt _ _, e => by simp [PyData.hasDict] at e
theorem RpA.lay {F : Hp} : ∀ {vs : List V} {ds : List D}, RpA F vs ds → PyData.hasDictAll ds = false → PyData.canLayAll0 ds = true
  | _, _, .nil, _ => by simp [PyData.canLayAll0]
  | _, _, .cons h r, e => by
    simp only [PyData.hasDictAll, Bool.or_eq_false_iff] at e
    simp only [PyData.canLayAll0, Bool.and_eq_true]
    exact ⟨Rp.lay h e.1, RpA.lay r e.2⟩
end
/-- without dicts and not too deep -/
def flat (n : Nat) (d : D) : Bool := !d.hasDict && decide (d.depth ≤ n)
theorem Rp.shaped {F : Hp} {v : V} {d : D} (h : Rp F v d) (e : flat 60 d = true) : SeqAt.shaped d = true := by
  simp only [flat, Bool.and_eq_true, Bool.not_eq_true', decide_eq_true_eq] at e
  show (d.canLay0 && decide (d.depth ≤ 64)) = true
  rw [Bool.and_eq_true]
  exact ⟨h.lay e.1, decide_eq_true (by omega)⟩
theorem Rp.dpf {K : PySem.W.Frag} {F : Hp} {v : V} {d : D} (h : Rp F v d) (e : flat 60 d = true) : Dp K F v d := by
  simp only [flat, Bool.and_eq_true, Bool.not_eq_true'] at e
  exact h.dp e.1

/-! ### own objects: what only a slot (or a value just made) holds -/
inductive O where
  | l (ds : List D)
  /-- a dict whose keys are ints and texts; one whose keys are tuples of such -/
  | k (kvs : List (D × D))
  | t (kvs : List (D × D))
def O.toD : O → D
  | .l ds => .list ds
  | .k kvs => .dict kvs
  | .t kvs => .dict kvs

inductive RO (F H : Hp) : V → O → List Addr → Prop
  | l {a : Addr} {xs : List V} {ds : List D} : H a = some (.lst xs) → RpA F xs ds → RO F H (.ref a) (.l ds) [a]
  | k {a : Addr} {kvs : List (Key × V)} {ds : List (D × D)} : H a = some (.dK kvs) → RpK F kvs ds → RO F H (.ref a) (.k ds) [a]
  | t {a : Addr} {kvs : List (List Key × V)} {ds : List (D × D)} : H a = some (.dT kvs) → RpT F kvs ds → RO F H (.ref a) (.t ds) [a]

theorem RO.mem {F H : Hp} {v : V} {o : O} {f : List Addr} (r : RO F H v o f) : ∀ a ∈ f, H a ≠ none := by
  cases r with
  | l h _ => intro a ha; simp at ha; subst ha; rw [h]; exact fun z => nomatch z
  | k h _ => intro a ha; simp at ha; subst ha; rw [h]; exact fun z => nomatch z
  | t h _ => intro a ha; simp at ha; subst ha; rw [h]; exact fun z => nomatch z
/-- the cells stay, the frozen heap grows -/
theorem RO.mono {F F' H H' : Hp} {v : V} {o : O} {f : List Addr} (r : RO F H v o f) (e : Same F F') (hc : ∀ a ∈ f, H' a = H a) : RO F' H' v o f := by
  cases r with
  | l h r => exact .l (by rw [hc _ (by simp)]; exact h) (r.mono e)
  | k h r => exact .k (by rw [hc _ (by simp)]; exact h) (r.mono e)
  | t h r => exact .t (by rw [hc _ (by simp)]; exact h) (r.mono e)
/-- read in the heap that is -/
theorem RO.rp {F H : Hp} {v : V} {o : O} {f : List Addr} (r : RO F H v o f) (e : Same F H) : Rp H v o.toD := by
  cases r with
  | l h r => exact .lst h (r.mono e)
  | k h r => exact .dk h (r.mono e)
  | t h r => exact .dt h (r.mono e)

/-! ### slots, values -/
inductive Sl where
  | un
  | sh (d : D)
  | ow (o : O)
  /-- an exception that a clause names -/
  | ex (a : Addr)
abbrev Ev := List Sl
theorem ex_ne {Γ : Ev} {i j : Nat} {a : Addr} {s : Sl} (hs : ∀ a, s ≠ Sl.ex a) (q : (Γ.set i s)[j]? = some (.ex a)) : i ≠ j ∧ Γ[j]? = some (.ex a) := by
  by_cases hj : i = j
  · subst hj
    rw [List.getElem?_set] at q
    split at q
    · split at q
      · cases q
        exact absurd rfl (hs a)
      · cases q
    · rename_i hn
      exact absurd rfl hn
  · rw [List.getElem?_set_ne hj] at q
    exact ⟨hj, q⟩
inductive Wv where
  | sh (d : D)
  | ow (o : O)
  | at (i : Nat)

structure Ext (B F F' : Hp) : Prop where
  same : Same F F'
  new : ∀ a, F' a ≠ none → F a = none → B a = none
theorem Ext.refl {B F : Hp} : Ext B F F := ⟨Same.refl F, fun _ h e => absurd e h⟩
theorem Ext.trans {B F F1 F2 : Hp} (a : Ext B F F1) (b : Ext B F1 F2) : Ext B F F2 := ⟨a.same.trans b.same, fun x h e => by
  cases q : F1 x with
  | none => exact b.new x h q
  | some o => exact a.new x (by rw [q]; exact fun z => nomatch z) e⟩

structure Rel (B F : Hp) (Γ : Ev) (σ : L2.St) (H : Hp) (fp : Nat → List Addr) : Prop where
  bx : Same B H
  fx : Same F H
  len : Γ.length = σ.length
  sh : ∀ (i : Nat) (d : D), Γ[i]? = some (Sl.sh d) → ∃ v, σ[i]? = some (some v) ∧ Rp F v d
  ow : ∀ (i : Nat) (o : O), Γ[i]? = some (Sl.ow o) → ∃ v, σ[i]? = some (some v) ∧ RO F H v o (fp i)
  nb : ∀ i a, a ∈ fp i → B a = none ∧ F a = none ∧ H a ≠ none
  dj : ∀ i j a, a ∈ fp i → a ∈ fp j → i = j
  ex : ∀ (i : Nat) (a : Addr), Γ[i]? = some (Sl.ex a) → σ[i]? = some (some (.ref a))

inductive RW (B F : Hp) (Γ : Ev) (σ : L2.St) (H : Hp) (fp : Nat → List Addr) (v : V) : Wv → Prop
  | sh {d : D} : Rp F v d → RW B F Γ σ H fp v (.sh d)
  | ow {o : O} {f : List Addr} : RO F H v o f → (∀ a ∈ f, B a = none ∧ F a = none ∧ ∀ i, a ∉ fp i) → RW B F Γ σ H fp v (.ow o)
  | at {i : Nat} : σ[i]? = some (some v) → RW B F Γ σ H fp v (.at i)

/-- the frozen heap with some cells of H -/
def frz (F H : Hp) (f : List Addr) : Hp := fun a => if a ∈ f then H a else F a
theorem frz_same {F H : Hp} {f : List Addr} (h : ∀ a ∈ f, F a = none) : Same F (frz F H f) := fun a o e => by
  unfold frz
  split
  · rename_i hm
    rw [h a hm] at e
    cases e
  · exact e
theorem frz_sub {F H : Hp} {f : List Addr} (e : Same F H) : Same (frz F H f) H := fun a o h => by
  unfold frz at h
  split at h
  · exact h
  · exact e a o h
theorem frz_ext {B F H : Hp} {f : List Addr} (h : ∀ a ∈ f, F a = none) (hb : ∀ a ∈ f, B a = none) : Ext B F (frz F H f) := ⟨frz_same h, fun a q e => by
  unfold frz at q
  split at q
  · rename_i hm
    exact hb a hm
  · exact absurd e q⟩
theorem frz_ro {F H : Hp} {v : V} {o : O} {f : List Addr} (r : RO F H v o f) (h : ∀ a ∈ f, F a = none) : Rp (frz F H f) v o.toD := by
  have s := frz_same (H := H) h
  have at_ : ∀ a, a ∈ f → frz F H f a = H a := fun a ha => if_pos ha
  cases r with
  | l e r => exact .lst (by rw [at_ _ (by simp)]; exact e) (r.mono s)
  | k e r => exact .dk (by rw [at_ _ (by simp)]; exact e) (r.mono s)
  | t e r => exact .dt (by rw [at_ _ (by simp)]; exact e) (r.mono s)

section
variable {B F : Hp} {Γ : Ev} {σ : L2.St} {H : Hp} {fp : Nat → List Addr} {v : V} {w : Wv}

/-- a freed place of the own cells -/
def dropF (fp : Nat → List Addr) (i : Nat) : Nat → List Addr := fun j => if j = i then [] else fp j
def putF (fp : Nat → List Addr) (i : Nat) (f : List Addr) : Nat → List Addr := fun j => if j = i then f else fp j
theorem mem_dropF {i j : Nat} {a : Addr} (h : a ∈ dropF fp i j) : j ≠ i ∧ a ∈ fp j := by
  unfold dropF at h
  split at h
  · simp at h
  · rename_i q
    exact ⟨q, h⟩
theorem dropF_ne {i j : Nat} (h : j ≠ i) : dropF fp i j = fp j := if_neg h
theorem putF_same {i : Nat} {f : List Addr} : putF fp i f i = f := if_pos rfl
theorem putF_ne {i j : Nat} {f : List Addr} (h : j ≠ i) : putF fp i f j = fp j := if_neg h

/-- cells become frozen that no slot holds -/
theorem Rel.freeze (r : Rel B F Γ σ H fp) {f : List Addr} (h : ∀ a ∈ f, F a = none ∧ ∀ i, a ∉ fp i) : Rel B (frz F H f) Γ σ H fp := by
  have s := frz_same (H := H) fun a ha => (h a ha).1
  refine ⟨r.bx, frz_sub r.fx, r.len, fun i d e => ?_, fun i o e => ?_, fun i a ha => ?_, r.dj, r.ex⟩
  · obtain ⟨v, h1, h2⟩ := r.sh i d e
    exact ⟨v, h1, h2.mono s⟩
  · obtain ⟨v, h1, h2⟩ := r.ow i o e
    exact ⟨v, h1, h2.mono s fun _ _ => rfl⟩
  · obtain ⟨b, c, d⟩ := r.nb i a ha
    refine ⟨b, ?_, d⟩
    unfold frz
    split
    · rename_i hm
      exact absurd ha ((h a hm).2 i)
    · exact c
/-- slot i's own object is frozen -/
theorem Rel.freezeAt (r : Rel B F Γ σ H fp) {i : Nat} {o : O} (e : Γ[i]? = some (Sl.ow o)) :
    ∃ v, σ[i]? = some (some v) ∧ Ext B F (frz F H (fp i)) ∧ Rel B (frz F H (fp i)) (Γ.set i (.sh o.toD)) σ H (dropF fp i) ∧ Rp (frz F H (fp i)) v o.toD := by
  obtain ⟨v, h1, h2⟩ := r.ow i o e
  have nF : ∀ a ∈ fp i, F a = none := fun a ha => (r.nb i a ha).2.1
  have s := frz_same (H := H) nF
  have il : i < Γ.length := (List.getElem?_eq_some_iff.mp e).1
  refine ⟨v, h1, frz_ext nF fun a ha => (r.nb i a ha).1, ⟨r.bx, frz_sub r.fx, by rw [List.length_set]; exact r.len, fun j d q => ?_, fun j u q => ?_, fun j a ha => ?_, fun j k a ha hb => ?_, fun j a q => ?_⟩, frz_ro h2 nF⟩
  · by_cases hj : i = j
    · subst hj
      rw [List.getElem?_set_self il] at q
      cases q
      exact ⟨v, h1, frz_ro h2 nF⟩
    · rw [List.getElem?_set_ne hj] at q
      obtain ⟨u, g1, g2⟩ := r.sh j d q
      exact ⟨u, g1, g2.mono s⟩
  · by_cases hj : i = j
    · subst hj
      rw [List.getElem?_set_self il] at q
      cases q
    · rw [List.getElem?_set_ne hj] at q
      obtain ⟨u, g1, g2⟩ := r.ow j _ q
      refine ⟨u, g1, ?_⟩
      rw [dropF_ne (Ne.symm hj)]
      exact g2.mono s fun _ _ => rfl
  · obtain ⟨hj, ha⟩ := mem_dropF ha
    obtain ⟨b, c, d⟩ := r.nb j a ha
    refine ⟨b, ?_, d⟩
    unfold frz
    split
    · rename_i hm
      exact absurd (r.dj j i a ha hm) hj
    · exact c
  · exact r.dj j k a (mem_dropF ha).2 (mem_dropF hb).2
  · exact r.ex j a (ex_ne (fun _ => Sl.noConfusion) q).2

/-- a value taken for good: what is own becomes frozen -/
def shr (w : Wv) (Γ : Ev) (k : D → Ev → Prop) : Prop :=
  match w with
  | .sh d => k d Γ
  | .ow o => k o.toD Γ
  | .at i => match Γ[i]? with
    | some (.sh d) => k d Γ
    | some (.ow o) => k o.toD (Γ.set i (.sh o.toD))
    | _ => False
theorem shr_ok {k : D → Ev → Prop} (r : Rel B F Γ σ H fp) (h : RW B F Γ σ H fp v w) (q : shr w Γ k) : ∃ d Γ' F' fp', Ext B F F' ∧ Rel B F' Γ' σ H fp' ∧ Rp F' v d ∧ k d Γ' := by
  cases h with
  | sh h => exact ⟨_, Γ, F, fp, .refl, r, h, q⟩
  | @ow o f h hf =>
    have nF : ∀ a ∈ f, F a = none := fun a ha => (hf a ha).2.1
    exact ⟨_, Γ, _, fp, frz_ext nF fun a ha => (hf a ha).1, r.freeze fun a ha => ⟨(hf a ha).2.1, (hf a ha).2.2⟩, frz_ro h nF, q⟩
  | @«at» i h =>
    unfold shr at q
    simp only at q
    split at q
    · rename_i d e
      obtain ⟨u, h1, h2⟩ := r.sh i d e
      rw [h] at h1
      cases h1
      exact ⟨d, Γ, F, fp, .refl, r, h2, q⟩
    · rename_i o e
      obtain ⟨u, h1, x, r', h2⟩ := r.freezeAt e
      rw [h] at h1
      cases h1
      exact ⟨_, _, _, _, x, r', h2, q⟩
    · exact q.elim

/-- the data of a value that is looked at -/
def bor (w : Wv) (Γ : Ev) (k : D → Prop) : Prop :=
  match w with
  | .sh d => k d
  | .ow o => k o.toD
  | .at i => match Γ[i]? with
    | some (.sh d) => k d
    | some (.ow o) => k o.toD
    | _ => False
theorem bor_ok {k : D → Prop} (r : Rel B F Γ σ H fp) (h : RW B F Γ σ H fp v w) (q : bor w Γ k) : ∃ d, Rp H v d ∧ k d := by
  cases h with
  | sh h => exact ⟨_, h.mono r.fx, q⟩
  | ow h hf => exact ⟨_, h.rp r.fx, q⟩
  | @«at» i h =>
    unfold bor at q
    simp only at q
    split at q
    · rename_i d e
      obtain ⟨u, h1, h2⟩ := r.sh i d e
      rw [h] at h1
      cases h1
      exact ⟨d, h2.mono r.fx, q⟩
    · rename_i o e
      obtain ⟨u, h1, h2⟩ := r.ow i o e
      rw [h] at h1
      cases h1
      exact ⟨_, h2.rp r.fx, q⟩
    · exact q.elim
end
end PL

namespace PL
open PySem PySem.Spec PyProof.Rows L2

/-! ### looked at: the top in H, what is within in F -/
inductive Rb (F H : Hp) : V → D → Prop
  | non : Rb F H .non .none
  | bl (b : Bool) : Rb F H (.bl b) (.bool b)
  | int (i : Int) : Rb F H (.int i) (.int i)
  | str (x : Str) (h : PyData.strOk x = true) : Rb F H (.str x) (.str x)
  | lst {a : Addr} {xs : List V} {ds : List D} : H a = some (.lst xs) → RpA F xs ds → Rb F H (.ref a) (.list ds)
  | fz {a : Addr} {o : Obj} {xs : List V} {ds : List D} : H a = some (.frz o (.lst xs)) → RpA F xs ds → Rb F H (.ref a) (.dict [(.none, .list ds)])
  | tup {a : Addr} {xs : List V} {ds : List D} : F a = some (.tup xs) → H a = some (.tup xs) → RpA F xs ds → Rb F H (.ref a) (.tuple ds)
  | dk {a : Addr} {kvs : List (Key × V)} {ds : List (D × D)} : H a = some (.dK kvs) → RpK F kvs ds → Rb F H (.ref a) (.dict ds)
  | dt {a : Addr} {kvs : List (List Key × V)} {ds : List (D × D)} : H a = some (.dT kvs) → RpT F kvs ds → Rb F H (.ref a) (.dict ds)
theorem Rp.rb {F H : Hp} {v : V} {d : D} (h : Rp F v d) (e : Same F H) : Rb F H v d := by
  cases h with
  | non => exact .non
  | bl b => exact .bl b
  | int i => exact .int i
  | str x h => exact .str x h
  | lst h r => exact .lst (e _ _ h) r
  | fz h r => exact .fz (e _ _ h) r
  | tup h r => exact .tup h (e _ _ h) r
  | dk h r => exact .dk (e _ _ h) r
  | dt h r => exact .dt (e _ _ h) r
theorem RO.rb {F H : Hp} {v : V} {o : O} {f : List Addr} (r : RO F H v o f) : Rb F H v o.toD := by
  cases r with
  | l h r => exact .lst h r
  | k h r => exact .dk h r
  | t h r => exact .dt h r
theorem Rb.rp {F H : Hp} {v : V} {d : D} (h : Rb F H v d) (e : Same F H) : Rp H v d := by
  cases h with
  | non => exact .non
  | bl b => exact .bl b
  | int i => exact .int i
  | str x h => exact .str x h
  | lst h r => exact .lst h (r.mono e)
  | fz h r => exact .fz h (r.mono e)
  | tup _ h r => exact .tup h (r.mono e)
  | dk h r => exact .dk h (r.mono e)
  | dt h r => exact .dt h (r.mono e)

section
variable {B F : Hp} {Γ : Ev} {σ : L2.St} {H : Hp} {fp : Nat → List Addr} {v : V} {w : Wv}
theorem bor_rb {k : D → Prop} (r : Rel B F Γ σ H fp) (h : RW B F Γ σ H fp v w) (q : bor w Γ k) : ∃ d, Rb F H v d ∧ k d := by
  cases h with
  | sh h => exact ⟨_, h.rb r.fx, q⟩
  | ow h hf => exact ⟨_, h.rb, q⟩
  | @«at» i h =>
    unfold bor at q
    simp only at q
    split at q
    · rename_i d e
      obtain ⟨u, h1, h2⟩ := r.sh i d e
      rw [h] at h1
      cases h1
      exact ⟨d, h2.rb r.fx, q⟩
    · rename_i o e
      obtain ⟨u, h1, h2⟩ := r.ow i o e
      rw [h] at h1
      cases h1
      exact ⟨_, h2.rb, q⟩
    · exact q.elim
/-- a new cell -/
theorem Rel.new {p : Addr} {o : HO} (r : Rel B F Γ σ H fp) (hp : H p = none) : Rel B F Γ σ (upd H p o) fp :=
  ⟨fun a u e => by
    rw [upd_ne (ne_of_none (r.bx a u e) hp)]
    exact r.bx a u e, fun a u e => by
    rw [upd_ne (ne_of_none (r.fx a u e) hp)]
    exact r.fx a u e, r.len, r.sh, fun i o e => by
    obtain ⟨v, h1, h2⟩ := r.ow i o e
    refine ⟨v, h1, h2.mono (Same.refl F) fun a ha => upd_ne fun z => h2.mem a ha ?_⟩
    rw [z]
    exact hp, fun i a ha => by
    obtain ⟨b, c, d⟩ := r.nb i a ha
    refine ⟨b, c, ?_⟩
    rw [upd_ne fun z => d (by rw [z]; exact hp)]
    exact d, r.dj, r.ex⟩
theorem free_of {p : Addr} (r : Rel B F Γ σ H fp) (hp : H p = none) : B p = none ∧ F p = none ∧ ∀ i, p ∉ fp i := by
  refine ⟨r.bx.free hp, r.fx.free hp, fun i h => (r.nb i p h).2.2 hp⟩
/-- a new cell, frozen at once -/
theorem Rel.newF {p : Addr} {o : HO} (r : Rel B F Γ σ H fp) (hp : H p = none) : Ext B F (upd F p o) ∧ Rel B (upd F p o) Γ σ (upd H p o) fp := by
  obtain ⟨b, c, d⟩ := free_of r hp
  have r' : Rel B F Γ σ (upd H p o) fp := r.new hp
  have e : frz F (upd H p o) [p] = upd F p o := by
    funext a
    unfold frz upd
    by_cases h : a = p
    · simp [h]
    · simp [h]
  have x := r'.freeze (f := [p]) fun a ha => by
    simp only [List.mem_singleton] at ha
    subst ha
    exact ⟨c, d⟩
  have y : Ext B F (frz F (upd H p o) [p]) := frz_ext (fun a ha => by
    simp only [List.mem_singleton] at ha
    subst ha
    exact c) fun a ha => by
    simp only [List.mem_singleton] at ha
    subst ha
    exact b
  rw [e] at x y
  exact ⟨y, x⟩
/-- a value is held while something else is worked out -/
theorem Rel.guard (r : Rel B F Γ σ H fp) (h : RW B F Γ σ H fp v w) :
    ∃ B', Rel B' F Γ σ H fp ∧ ∀ F2 Γ2 H2 fp2, Ext B' F F2 → Rel B' F2 Γ2 σ H2 fp2 → Ext B F F2 ∧ Rel B F2 Γ2 σ H2 fp2 ∧ RW B F2 Γ2 σ H2 fp2 v w ∧ ∀ v2 w2, RW B' F2 Γ2 σ H2 fp2 v2 w2 → RW B F2 Γ2 σ H2 fp2 v2 w2 := by
  cases h with
  | sh h => exact ⟨B, r, fun F2 Γ2 H2 fp2 x r2 => ⟨x, r2, .sh (h.mono x.same), fun _ _ q => q⟩⟩
  | «at» h => exact ⟨B, r, fun F2 Γ2 H2 fp2 x r2 => ⟨x, r2, .at h, fun _ _ q => q⟩⟩
  | @ow o f h hf =>
    have nB : ∀ a ∈ f, B a = none := fun a ha => (hf a ha).1
    have bb : Same B (frz B H f) := frz_same nB
    have bn : ∀ a, frz B H f a = none → a ∉ f ∧ B a = none := fun a e => by
      have nf : a ∉ f := fun z => by
        unfold frz at e
        rw [if_pos z] at e
        exact h.mem a z e
      refine ⟨nf, ?_⟩
      unfold frz at e
      rw [if_neg nf] at e
      exact e
    refine ⟨frz B H f, ⟨frz_sub r.bx, r.fx, r.len, r.sh, r.ow, fun i a ha => ?_, r.dj, r.ex⟩, fun F2 Γ2 H2 fp2 x r2 => ⟨⟨x.same, fun a q e => (bn a (x.new a q e)).2⟩, ⟨bb.trans r2.bx, r2.fx, r2.len, r2.sh, r2.ow, fun i a ha => ?_, r2.dj, r2.ex⟩, ?_, fun v2 w2 q => ?_⟩⟩
    · obtain ⟨b, c, d⟩ := r.nb i a ha
      refine ⟨?_, c, d⟩
      unfold frz
      rw [if_neg fun z => (hf a z).2.2 i ha]
      exact b
    · obtain ⟨b, c, d⟩ := r2.nb i a ha
      exact ⟨(bn a b).2, c, d⟩
    · refine .ow (f := f) (h.mono x.same fun a ha => ?_) fun a ha => ⟨nB a ha, ?_, fun i hi => ?_⟩
      · cases q : H a with
        | none => exact absurd q (h.mem a ha)
        | some u => exact r2.bx a u (by unfold frz; rw [if_pos ha]; exact q)
      · cases q : F2 a with
        | none => rfl
        | some u => exact absurd ha (bn a (x.new a (by rw [q]; exact fun z => nomatch z) (hf a ha).2.1)).1
      · exact (bn a (r2.nb i a hi).1).1 ha
    · cases q with
      | sh q => exact .sh q
      | «at» q => exact .at q
      | ow q hq => exact .ow q fun a ha => ⟨(bn a (hq a ha).1).2, (hq a ha).2⟩
end

/-! ### transformers of pure environments -/
abbrev EXP := Value → Ev → Prop
abbrev QE := Ev → (Wv → Ev → Prop) → EXP → Prop
abbrev QT := Ev → (Bool → Ev → Prop) → EXP → Prop
abbrev QA := Ev → (List D → Ev → Prop) → EXP → Prop
structure PEnds where
  nx : Ev → Prop
  rt : Wv → Ev → Prop
  bk : Ev → Prop
  ct : Ev → Prop
  ex : EXP
abbrev QS := PEnds → Ev → Prop

def AfE (W : WX) (B F : Hp) (σ : L2.St) (EX : EXP) : Prop := ∀ c Γ' F' H' fp', Ext B F F' → Rel B F' Γ' σ H' fp' → EX c Γ' → W c none σ H'
theorem AfE.mono {W : WX} {B F F1 : Hp} {σ : L2.St} {EX : EXP} (a : AfE W B F σ EX) (x : Ext B F F1) : AfE W B F1 σ EX := fun c Γ' F' H' fp' y r q => a c Γ' F' H' fp' (x.trans y) r q
def SE (W : WX) (te : TE) (p : QE) : Prop := ∀ {B F : Hp} {Γ : Ev} {σ : L2.St} {H : Hp} {fp : Nat → List Addr} (R : Wv → Ev → Prop) (EX : EXP) (Q : VK), Rel B F Γ σ H fp → p Γ R EX →
  (∀ w Γ' v F' H' fp', Ext B F F' → Rel B F' Γ' σ H' fp' → RW B F' Γ' σ H' fp' v w → R w Γ' → Q v H') → AfE W B F σ EX → te σ H Q
def ST (W : WX) (tt : TT) (p : QT) : Prop := ∀ {B F : Hp} {Γ : Ev} {σ : L2.St} {H : Hp} {fp : Nat → List Addr} (R : Bool → Ev → Prop) (EX : EXP) (Q : Bool → Hp → Prop), Rel B F Γ σ H fp → p Γ R EX →
  (∀ b Γ' F' H' fp', Ext B F F' → Rel B F' Γ' σ H' fp' → R b Γ' → Q b H') → AfE W B F σ EX → tt σ H Q
def SA (W : WX) (ta : TA) (p : QA) : Prop := ∀ {B F : Hp} {Γ : Ev} {σ : L2.St} {H : Hp} {fp : Nat → List Addr} (R : List D → Ev → Prop) (EX : EXP) (Q : List V → Hp → Prop), Rel B F Γ σ H fp → p Γ R EX →
  (∀ ds Γ' vs F' H' fp', Ext B F F' → Rel B F' Γ' σ H' fp' → RpA F' vs ds → R ds Γ' → Q vs H') → AfE W B F σ EX → ta σ H Q
structure AfS (W : WX) (B F : Hp) (P : PEnds) (D : Ends) : Prop where
  nx : ∀ Γ' F' σ' H' fp', Ext B F F' → Rel B F' Γ' σ' H' fp' → P.nx Γ' → D.nx σ' H'
  rt : ∀ w Γ' v F' σ' H' fp', Ext B F F' → Rel B F' Γ' σ' H' fp' → RW B F' Γ' σ' H' fp' v w → P.rt w Γ' → D.rt v H'
  bk : ∀ Γ' F' σ' H' fp', Ext B F F' → Rel B F' Γ' σ' H' fp' → P.bk Γ' → D.bk σ' H'
  ct : ∀ Γ' F' σ' H' fp', Ext B F F' → Rel B F' Γ' σ' H' fp' → P.ct Γ' → D.ct σ' H'
  ex : ∀ c Γ' F' σ' H' fp', Ext B F F' → Rel B F' Γ' σ' H' fp' → P.ex c Γ' → W c none σ' H'
theorem AfS.mono {W : WX} {B F F1 : Hp} {P : PEnds} {D : Ends} (a : AfS W B F P D) (x : Ext B F F1) : AfS W B F1 P D :=
  ⟨fun Γ' F' σ' H' fp' y => a.nx Γ' F' σ' H' fp' (x.trans y), fun w Γ' v F' σ' H' fp' y => a.rt w Γ' v F' σ' H' fp' (x.trans y), fun Γ' F' σ' H' fp' y => a.bk Γ' F' σ' H' fp' (x.trans y), fun Γ' F' σ' H' fp' y => a.ct Γ' F' σ' H' fp' (x.trans y), fun c Γ' F' σ' H' fp' y => a.ex c Γ' F' σ' H' fp' (x.trans y)⟩
theorem AfS.afe {W : WX} {B F : Hp} {P : PEnds} {D : Ends} {σ : L2.St} (a : AfS W B F P D) : AfE W B F σ P.ex := fun c Γ' F' H' fp' x r q => a.ex c Γ' F' σ H' fp' x r q
def SS (W : WX) (ts : TS) (p : QS) : Prop := ∀ {B F : Hp} {Γ : Ev} {σ : L2.St} {H : Hp} {fp : Nat → List Addr} (P : PEnds) (D : Ends), Rel B F Γ σ H fp → p P Γ → AfS W B F P D → ts D σ H

structure DE (X : Cx) (W : WX) (e : Expr) (te : TE) (p : QE) : Prop where
  pe : PE X e te
  se : SE W te p
structure DT (X : Cx) (W : WX) (e : Expr) (tt : TT) (p : QT) : Prop where
  pt : PT X e tt
  st : ST W tt p
structure DA (X : Cx) (W : WX) (es : List Expr) (ta : TA) (p : QA) : Prop where
  pa : PA X es ta
  sa : SA W ta p
structure DS (X : Cx) (W : WX) (s : Stmt) (ts : TS) (p : QS) : Prop where
  ps : PS X s ts
  ss : SS W ts p
structure DSs (X : Cx) (W : WX) (s : List Stmt) (ts : TS) (p : QS) : Prop where
  ps : PSs X s ts
  ss : SS W ts p

section
variable {X : Cx} {W : WX} {pos : Pos} {a b c : Expr} {ta tb tc : TE} {pa pb pc : QE}

/-! ### names, constants -/
def qVar (i : Nat) : QE := fun Γ R _ => match Γ[i]? with
  | some (.sh d) => R (.sh d) Γ
  | some (.ow _) => R (.at i) Γ
  | _ => False
theorem se_var {i : Nat} : SE W (tVar i) (qVar i) := fun {B F Γ σ H fp} R EX Q r h k _ => by
  unfold qVar at h
  split at h
  · rename_i d e
    obtain ⟨v, h1, h2⟩ := r.sh i d e
    exact ⟨v, h1, k _ _ _ _ _ _ .refl r (.sh h2) h⟩
  · rename_i o e
    obtain ⟨v, h1, h2⟩ := r.ow i o e
    exact ⟨v, h1, k _ _ _ _ _ _ .refl r (.at h1) h⟩
  · exact h.elim
theorem d_var (i : Nat) {x : Str} (hN : X.N[i]? = some x := by rfl) (hv : Vis X.env.scope x := by first | exact Or.inl rfl | exact Or.inr (Or.inl rfl) | exact Or.inr (Or.inr rfl)) (hd : (x == ("__debug__" : Str)) = false := by decide)
    (hcd : (x == ("__classdict__" : Str)) = false := by decide) : DE X W (.Name x pos) (tVar i) (qVar i) := ⟨pe_var hN hv hd hcd, se_var⟩
def qC (d : D) : QE := fun Γ R _ => R (.sh d) Γ
theorem se_c {v : V} {d : D} (h : ∀ F, Rp F v d) : SE W (tC v) (qC d) := fun {B F Γ σ H fp} R EX Q r q k _ => k _ _ _ _ _ _ .refl r (.sh (h F)) q
theorem d_int {i j} : DE X W (.Constant (.int i) j pos) (tC (.int i)) (qC (.int i)) := ⟨pe_int, se_c fun _ => .int i⟩
theorem d_bl {i j} : DE X W (.Constant (.bool i) j pos) (tC (.bl i)) (qC (.bool i)) := ⟨pe_bl, se_c fun _ => .bl i⟩
theorem d_non {j} : DE X W (.Constant .none j pos) (tC .non) (qC .none) := ⟨pe_non, se_c fun _ => .non⟩
theorem d_str {x j} (h : PyData.strOk x = true := by decide +kernel) : DE X W (.Constant (.str x) j pos) (tC (.str x)) (qC (.str x)) := ⟨pe_str, se_c fun _ => .str x h⟩
/-- a constant of the module: a text, an int -/
theorem d_gs {x y : Str} {t : Tok} (hm : X.mg x = some (.str y t)) (h : PyData.strOk y = true) (hg : Gl X x := by rfl) (hd : (x == ("__debug__" : Str)) = false := by decide) : DE X W (.Name x pos) (tC (.str y)) (qC (.str y)) := ⟨pe_glob hg hm ⟨_, rfl⟩ hd, se_c fun _ => .str y h⟩
theorem d_gi {x : Str} {i : Int} {t : Tok} (hm : X.mg x = some (.int i t)) (hg : Gl X x := by rfl) (hd : (x == ("__debug__" : Str)) = false := by decide) : DE X W (.Name x pos) (tC (.int i)) (qC (.int i)) := ⟨pe_glob hg hm ⟨_, rfl⟩ hd, se_c fun _ => .int i⟩

/-! ### operations on two values that are looked at -/
abbrev OP2 := D → D → (Wv → Prop) → Prop
def OpS (r : R2) (o : OP2) : Prop := ∀ {B F : Hp} {Γ : Ev} {σ : L2.St} {H : Hp} {fp : Nat → List Addr} {x y : V} {d1 d2 : D} (k : Wv → Prop) (Q : VK), Rel B F Γ σ H fp → Rb F H x d1 → Rb F H y d2 → o d1 d2 k →
  (∀ w v F' H', Ext B F F' → Rel B F' Γ σ H' fp → RW B F' Γ σ H' fp v w → k w → Q v H') → r x y H Q
def qOp (o : OP2) (pa pb : QE) : QE := fun Γ R E => pa Γ (fun w1 Γ1 => pb Γ1 (fun w2 Γ2 => bor w1 Γ2 fun d1 => bor w2 Γ2 fun d2 => o d1 d2 fun w => R w Γ2) E) E
theorem se_two (ha : SE W ta pa) (hb : SE W tb pb) {Z : Wv → Wv → Ev → Prop} {EX : EXP} {B F : Hp} {Γ : Ev} {σ : L2.St} {H : Hp} {fp : Nat → List Addr} (r : Rel B F Γ σ H fp)
    (h : pa Γ (fun w1 Γ1 => pb Γ1 (fun w2 Γ2 => Z w1 w2 Γ2) EX) EX) {T : V → V → Hp → Prop}
    (k : ∀ w1 w2 Γ' x y F' H' fp', Ext B F F' → Rel B F' Γ' σ H' fp' → RW B F' Γ' σ H' fp' x w1 → RW B F' Γ' σ H' fp' y w2 → Z w1 w2 Γ' → T x y H') (e : AfE W B F σ EX) : ta σ H fun x H1 => tb σ H1 fun y H2 => T x y H2 := by
  refine ha _ EX _ r h (fun w1 Γ1 x F1 H1 fp1 x1 r1 v1 h1 => ?_) e
  obtain ⟨B', r1', g⟩ := r1.guard v1
  refine hb _ EX _ r1' h1 (fun w2 Γ2 y F2 H2 fp2 x2 r2 v2 h2 => ?_) fun c Γ' F' H' fp' x2 r2 q => ?_
  · obtain ⟨x3, r3, v3, g2⟩ := g F2 Γ2 H2 fp2 x2 r2
    exact k w1 w2 Γ2 x y F2 H2 fp2 (x1.trans x3) r3 v3 (g2 _ _ v2) h2
  · obtain ⟨x3, r3, _, _⟩ := g F' Γ' H' fp' x2 r2
    exact e c Γ' F' H' fp' (x1.trans x3) r3 q
theorem se_op {r : R2} {o : OP2} (hs : OpS r o) (ha : SE W ta pa) (hb : SE W tb pb) : SE W (tOp r ta tb) (qOp o pa pb) := fun {B F Γ σ H fp} R EX Q rr h k e => by
  refine se_two ha hb rr h (Z := fun w1 w2 Γ2 => bor w1 Γ2 fun d1 => bor w2 Γ2 fun d2 => o d1 d2 fun w => R w Γ2) (fun w1 w2 Γ' x y F' H' fp' x1 r1 v1 v2 z => ?_) e
  obtain ⟨d1, b1, z⟩ := bor_rb r1 v1 z
  obtain ⟨d2, b2, z⟩ := bor_rb r1 v2 z
  exact hs _ Q r1 b1 b2 z fun w v F2 H2 x2 r2 q2 kk => k w Γ' v F2 H2 fp' (x1.trans x2) r2 q2 kk
theorem d_op {op : Operator} {r : R2} {o : OP2} (ho : OpR X (binaryOp op) r) (hs : OpS r o) (ha : DE X W a ta pa) (hb : DE X W b tb pb) : DE X W (.BinOp a op b pos) (tOp r ta tb) (qOp o pa pb) := ⟨pe_op ho ha.pe hb.pe, se_op hs ha.se hb.se⟩
theorem d_cmp {op : CmpOp} {r : R2} {o : OP2} (ho : OpR X (compareOp op) r) (hs : OpS r o) (ha : DE X W a ta pa) (hb : DE X W b tb pb) (hm : behindInMarks op b = false := by first | exact nomark _ | with_unfolding_all rfl) :
    DE X W (.Compare a [op] [b] pos) (tOp r ta tb) (qOp o pa pb) := ⟨pe_cmpR ho ha.pe hb.pe hm, se_op hs ha.se hb.se⟩
theorem d_ix {r : R2} {o : OP2} (ho : IxR X r) (hs : OpS r o) (ha : DE X W a ta pa) (hb : DE X W b tb pb) (hx : PlainIx b := by exact fun _ _ => rfl) : DE X W (.Subscript a b pos) (tOp r ta tb) (qOp o pa pb) := ⟨pe_ix ho ha.pe hb.pe hx, se_op hs ha.se hb.se⟩
abbrev OP1 := D → (Wv → Prop) → Prop
def UnS (r : V → Hp → VK → Prop) (o : OP1) : Prop := ∀ {B F : Hp} {Γ : Ev} {σ : L2.St} {H : Hp} {fp : Nat → List Addr} {x : V} {d : D} (k : Wv → Prop) (Q : VK), Rel B F Γ σ H fp → Rb F H x d → o d k →
  (∀ w v F' H', Ext B F F' → Rel B F' Γ σ H' fp → RW B F' Γ σ H' fp v w → k w → Q v H') → r x H Q
def qUn (o : OP1) (pa : QE) : QE := fun Γ R E => pa Γ (fun w1 Γ1 => bor w1 Γ1 fun d => o d fun w => R w Γ1) E
theorem se_un {r : V → Hp → VK → Prop} {o : OP1} (hs : UnS r o) (ha : SE W ta pa) : SE W (tUn r ta) (qUn o pa) := fun {B F Γ σ H fp} R EX Q rr h k e => by
  refine ha _ EX _ rr h (fun w1 Γ1 x F1 H1 fp1 x1 r1 v1 h1 => ?_) e
  obtain ⟨d, b, z⟩ := bor_rb r1 v1 h1
  exact hs _ Q r1 b z fun w v F2 H2 x2 r2 q2 kk => k w Γ1 v F2 H2 fp1 (x1.trans x2) r2 q2 kk
theorem d_un {op : UnaryOp} {r : V → Hp → VK → Prop} {o : OP1} (ho : UnR X (unaryOp op) r) (hs : UnS r o) (ha : DE X W a ta pa) : DE X W (.UnaryOp op a pos) (tUn r ta) (qUn o pa) := ⟨pe_un ho ha.pe, se_un hs ha.se⟩

/-! ### tests -/
/-- a value that is a bool, as a test -/
def qB (p : QE) : QT := fun Γ R E => p Γ (fun w Γ1 => match w with
  | .sh (.bool b) => R b Γ1
  | _ => False) E
theorem st_tt (ha : SE W ta pa) : ST W (tTest ta) (qB pa) := fun {B F Γ σ H fp} R EX Q r h k e => by
  refine ha _ EX _ r h (fun w Γ1 v F1 H1 fp1 x1 r1 v1 h1 => ?_) e
  split at h1
  · rename_i b
    cases v1 with
    | sh q =>
      cases q
      exact ⟨b, rfl, k b Γ1 F1 H1 fp1 x1 r1 h1⟩
  · exact h1.elim
theorem d_tcmp {op : CmpOp} {r : R2} {o : OP2} (ho : OpR X (compareOp op) r) (hs : OpS r o) (ha : DE X W a ta pa) (hb : DE X W b tb pb) (hm : behindInMarks op b = false := by first | exact nomark _ | with_unfolding_all rfl) :
    DT X W (.Compare a [op] [b] pos) (tTest (tOp r ta tb)) (qB (qOp o pa pb)) := ⟨pt_cmpR ho ha.pe hb.pe hm, st_tt (se_op hs ha.se hb.se)⟩
/-- the truth of any value -/
def truD : D → Option Bool
  | .none => some false
  | .bool b => some b
  | .int i => some (i != 0)
  | .str x => some ((x.length : Int) != 0)
  | .list xs => some (!xs.isEmpty)
  | .tuple xs => some (!xs.isEmpty)
  | .dict _ => Option.none
def truOk : D → Prop
  | .str x => x.length ≤ sizeLine
  | _ => True
def qTru (p : QE) : QT := fun Γ R E => p Γ (fun w Γ1 => bor w Γ1 fun d => truOk d ∧ match truD d with
  | some b => R b Γ1
  | none => False) E
theorem tru_rb {K : PySem.W.Frag} {F H : Hp} {v : V} {d : D} {b : Bool} (h : Rb F H v d) (e : truD d = some b) (hs : truOk d) : TruV K v H b := by
  cases h with
  | non => exact (Option.some.inj e).symm
  | bl b => exact (Option.some.inj e).symm
  | int i => exact (Option.some.inj e).symm
  | str x _ => exact ⟨hs, (Option.some.inj e).symm⟩
  | lst h r =>
    refine .inl ⟨_, .inl (.inl h), ?_⟩
    rw [← Option.some.inj e]
    cases r <;> rfl
  | tup _ h r =>
    refine .inr (.inl ⟨_, .inl (.inl h), ?_⟩)
    rw [← Option.some.inj e]
    cases r <;> rfl
  | dk h r => cases e
  | dt h r => cases e
  | fz h r => cases e
theorem st_tru {K : PySem.W.Frag} (ha : SE W ta pa) : ST W (fun σ H Q => ta σ H fun x H' => ∃ k, TruV K x H' k ∧ Q k H') (qTru pa) := fun {B F Γ σ H fp} R EX Q r h k e => by
  refine ha _ EX _ r h (fun w Γ1 v F1 H1 fp1 x1 r1 v1 h1 => ?_) e
  obtain ⟨d, b, hs, h2⟩ := bor_rb r1 v1 h1
  split at h2
  · rename_i c hc
    exact ⟨c, tru_rb b hc hs, k c Γ1 F1 H1 fp1 x1 r1 h2⟩
  · exact h2.elim
theorem d_tru (ha : DE X W a ta pa) (he : ∀ whole, isTrue a X.env whole = (do let v ← whole; standAt a.pos; holding [v] (truthy v)) := by intro _; rfl) :
    DT X W a (fun σ H Q => ta σ H fun x H' => ∃ k, TruV X.K x H' k ∧ Q k H') (qTru pa) := ⟨pt_truth ha.pe he, st_tru ha.se⟩
/-- a call or name that gives a bool -/
theorem d_tb (ha : DE X W a ta pa) (he : ∀ whole, isTrue a X.env whole = (do let v ← whole; standAt a.pos; holding [v] (truthy v)) := by intro _; rfl) : DT X W a (tB ta) (qB pa) := ⟨pt_val ha.pe he, st_tt ha.se⟩

variable {tA tB' : TT} {qa qb : QT} {rest : List Expr}
structure DW (X : Cx) (W : WX) (e : Expr) (tt : TT) (p : QT) : Prop where
  pw : PW X e tt
  st : ST W tt p
def qAnd (p q : QT) : QT := fun Γ R E => p Γ (fun c Γ1 => Cif c (q Γ1 R E) (R false Γ1)) E
def qOr (p q : QT) : QT := fun Γ R E => p Γ (fun c Γ1 => Cif c (R true Γ1) (q Γ1 R E)) E
def qNot (p : QT) : QT := fun Γ R E => p Γ (fun c Γ1 => R (!c) Γ1) E
theorem st_and (ha : ST W tA qa) (hb : ST W tB' qb) : ST W (tAnd tA tB') (qAnd qa qb) := fun {B F Γ σ H fp} R EX Q r h k e => by
  refine ha _ EX _ r h (fun c Γ1 F1 H1 fp1 x1 r1 h1 => ?_) e
  cases c with
  | true => exact hb _ EX _ r1 (h1.t rfl) (fun c Γ2 F2 H2 fp2 x2 r2 h2 => k c Γ2 F2 H2 fp2 (x1.trans x2) r2 h2) (e.mono x1)
  | false => exact k false Γ1 F1 H1 fp1 x1 r1 (h1.f rfl)
theorem st_or (ha : ST W tA qa) (hb : ST W tB' qb) : ST W (tOr tA tB') (qOr qa qb) := fun {B F Γ σ H fp} R EX Q r h k e => by
  refine ha _ EX _ r h (fun c Γ1 F1 H1 fp1 x1 r1 h1 => ?_) e
  cases c with
  | false => exact hb _ EX _ r1 (h1.f rfl) (fun c Γ2 F2 H2 fp2 x2 r2 h2 => k c Γ2 F2 H2 fp2 (x1.trans x2) r2 h2) (e.mono x1)
  | true => exact k true Γ1 F1 H1 fp1 x1 r1 (h1.t rfl)
theorem dw_and1 (ha : DT X W a tA qa) : DW X W (.BoolOp .And [a] pos) tA qa := ⟨pw_and1 ha.pt, ha.st⟩
theorem dw_or1 (ha : DT X W a tA qa) : DW X W (.BoolOp .Or [a] pos) tA qa := ⟨pw_or1 ha.pt, ha.st⟩
theorem dw_and (ha : DT X W a tA qa) (hb : DW X W (.BoolOp .And (b :: rest) pos) tB' qb) : DW X W (.BoolOp .And (a :: b :: rest) pos) (tAnd tA tB') (qAnd qa qb) := ⟨pw_and ha.pt hb.pw, st_and ha.st hb.st⟩
theorem dw_or (ha : DT X W a tA qa) (hb : DW X W (.BoolOp .Or (b :: rest) pos) tB' qb) : DW X W (.BoolOp .Or (a :: b :: rest) pos) (tOr tA tB') (qOr qa qb) := ⟨pw_or ha.pt hb.pw, st_or ha.st hb.st⟩
theorem DW.dt {e : Expr} (h : DW X W e tA qa) : DT X W e tA qa := ⟨h.pw.pt, h.st⟩
theorem dt_not (ha : DT X W a tA qa) : DT X W (.UnaryOp .Not a pos) (tNot tA) (qNot qa) := ⟨pt_not ha.pt, fun {B F Γ σ H fp} R EX Q r h k e => ha.st _ EX _ r h (fun c Γ1 F1 H1 fp1 x1 r1 h1 => k (!c) Γ1 F1 H1 fp1 x1 r1 h1) e⟩
/-- .. as values (bools) -/
def qAndV (p q : QE) : QE := fun Γ R E => p Γ (fun w Γ1 => match w with
  | .sh (.bool c) => Cif c (q Γ1 R E) (R (.sh (.bool false)) Γ1)
  | _ => False) E
def qOrV (p q : QE) : QE := fun Γ R E => p Γ (fun w Γ1 => match w with
  | .sh (.bool c) => Cif c (R (.sh (.bool true)) Γ1) (q Γ1 R E)
  | _ => False) E
def qNotV (p : QE) : QE := fun Γ R E => p Γ (fun w Γ1 => match w with
  | .sh (.bool c) => R (.sh (.bool (!c))) Γ1
  | _ => False) E
theorem d_one {op} (ha : DE X W a ta pa) : DE X W (.BoolOp op [a] pos) ta pa := ⟨pe_one ha.pe, ha.se⟩
theorem d_and (ha : DE X W a ta pa) (hb : DE X W (.BoolOp .And (b :: rest) pos) tb pb) : DE X W (.BoolOp .And (a :: b :: rest) pos) (tAndV ta tb) (qAndV pa pb) := ⟨pe_and ha.pe hb.pe, fun {B F Γ σ H fp} R EX Q r h k e => by
  refine ha.se _ EX _ r h (fun w Γ1 v F1 H1 fp1 x1 r1 v1 h1 => ?_) e
  split at h1
  · rename_i c
    cases v1 with
    | sh q =>
      cases q
      refine ⟨c, rfl, ?_⟩
      cases c with
      | true => exact hb.se _ EX _ r1 (h1.t rfl) (fun w Γ2 v F2 H2 fp2 x2 r2 v2 h2 => k w Γ2 v F2 H2 fp2 (x1.trans x2) r2 v2 h2) (e.mono x1)
      | false => exact k _ Γ1 _ F1 H1 fp1 x1 r1 (.sh (.bl false)) (h1.f rfl)
  · exact h1.elim⟩
theorem d_or (ha : DE X W a ta pa) (hb : DE X W (.BoolOp .Or (b :: rest) pos) tb pb) : DE X W (.BoolOp .Or (a :: b :: rest) pos) (tOrV ta tb) (qOrV pa pb) := ⟨pe_or ha.pe hb.pe, fun {B F Γ σ H fp} R EX Q r h k e => by
  refine ha.se _ EX _ r h (fun w Γ1 v F1 H1 fp1 x1 r1 v1 h1 => ?_) e
  split at h1
  · rename_i c
    cases v1 with
    | sh q =>
      cases q
      refine ⟨c, rfl, ?_⟩
      cases c with
      | false => exact hb.se _ EX _ r1 (h1.f rfl) (fun w Γ2 v F2 H2 fp2 x2 r2 v2 h2 => k w Γ2 v F2 H2 fp2 (x1.trans x2) r2 v2 h2) (e.mono x1)
      | true => exact k _ Γ1 _ F1 H1 fp1 x1 r1 (.sh (.bl true)) (h1.t rfl)
  · exact h1.elim⟩
theorem d_not (ha : DE X W a ta pa) : DE X W (.UnaryOp .Not a pos) (tNotV ta) (qNotV pa) := ⟨pe_not ha.pe, fun {B F Γ σ H fp} R EX Q r h k e => by
  refine ha.se _ EX _ r h (fun w Γ1 v F1 H1 fp1 x1 r1 v1 h1 => ?_) e
  split at h1
  · rename_i c
    cases v1 with
    | sh q =>
      cases q
      exact ⟨c, rfl, k _ Γ1 _ F1 H1 fp1 x1 r1 (.sh (.bl (!c))) h1⟩
  · exact h1.elim⟩
def qIf (t : QT) (p q : QE) : QE := fun Γ R E => t Γ (fun c Γ1 => Cif c (p Γ1 R E) (q Γ1 R E)) E
theorem d_if {cc : Expr} (hc : DT X W cc tA qa) (ha : DE X W a ta pa) (hb : DE X W b tb pb) : DE X W (.IfExp cc a b pos) (tIf tA ta tb) (qIf qa pa pb) := ⟨pe_ifExp hc.pt ha.pe hb.pe, fun {B F Γ σ H fp} R EX Q r h k e => by
  refine hc.st _ EX _ r h (fun c Γ1 F1 H1 fp1 x1 r1 h1 => ?_) e
  cases c with
  | true => exact ha.se _ EX _ r1 (h1.t rfl) (fun w Γ2 v F2 H2 fp2 x2 r2 v2 h2 => k w Γ2 v F2 H2 fp2 (x1.trans x2) r2 v2 h2) (e.mono x1)
  | false => exact hb.se _ EX _ r1 (h1.f rfl) (fun w Γ2 v F2 H2 fp2 x2 r2 v2 h2 => k w Γ2 v F2 H2 fp2 (x1.trans x2) r2 v2 h2) (e.mono x1)⟩
/-- a op1 b op2 c, all looked at -/
def qChain (o o' : OP2) (pa pb pc : QE) : QE := fun Γ R E => pa Γ (fun w1 Γ1 => pb Γ1 (fun w2 Γ2 => bor w1 Γ2 fun d1 => bor w2 Γ2 fun d2 => o d1 d2 fun w => match w with
  | .sh (.bool k) => Cif k (pc Γ2 (fun w3 Γ3 => bor w2 Γ3 fun d2' => bor w3 Γ3 fun d3 => o' d2' d3 fun w => R w Γ3) E) (R (.sh (.bool false)) Γ2)
  | _ => False) E) E
theorem se_chain {r r' : R2} {o o' : OP2} (hs : OpS r o) (hs' : OpS r' o') (ha : SE W ta pa) (hb : SE W tb pb) (hc : SE W tc pc) : SE W (tChain r r' ta tb tc) (qChain o o' pa pb pc) := fun {B F Γ σ H fp} R EX Q rr h k e => by
  refine se_two ha hb rr h (Z := fun w1 w2 Γ2 => bor w1 Γ2 fun d1 => bor w2 Γ2 fun d2 => o d1 d2 fun w => match w with
    | .sh (.bool k) => Cif k (pc Γ2 (fun w3 Γ3 => bor w2 Γ3 fun d2' => bor w3 Γ3 fun d3 => o' d2' d3 fun w => R w Γ3) EX) (R (.sh (.bool false)) Γ2)
    | _ => False) (fun w1 w2 Γ' x y F' H' fp' x1 r1 v1 v2 z => ?_) e
  obtain ⟨B', r1', g⟩ := r1.guard v2
  obtain ⟨d1, b1, z⟩ := bor_rb r1 v1 z
  obtain ⟨d2, b2, z⟩ := bor_rb r1 v2 z
  refine hs _ _ r1' b1 b2 z fun w v F2 H2 x2 r2 q2 kk => ?_
  split at kk
  · rename_i c
    cases q2 with
    | sh q =>
      cases q
      refine ⟨c, rfl, ?_⟩
      obtain ⟨x3, r3, v3, _⟩ := g F2 Γ' H2 fp' x2 r2
      cases c with
      | true =>
        obtain ⟨B'', r3', g'⟩ := r3.guard v3
        refine hc _ EX _ r3' (kk.t rfl) (fun w3 Γ3 y3 F4 H4 fp4 x4 r4 v4 h4 => ?_) fun c Γ' F' H' fp' x2 r2 q => ?_
        · obtain ⟨x5, r5, v5, g5⟩ := g' F4 Γ3 H4 fp4 x4 r4
          obtain ⟨e1, c1, z1⟩ := bor_rb r5 v5 h4
          obtain ⟨e2, c2, z2⟩ := bor_rb r5 (g5 _ _ v4) z1
          exact hs' _ Q r5 c1 c2 z2 fun w v F6 H6 x6 r6 q6 kk => k w Γ3 v F6 H6 fp4 (((x1.trans x3).trans x5).trans x6) r6 q6 kk
        · obtain ⟨x5, r5, _, _⟩ := g' F' Γ' H' fp' x2 r2
          exact e c Γ' F' H' fp' ((x1.trans x3).trans x5) r5 q
      | false => exact k _ Γ' _ F2 H2 fp' (x1.trans x3) r3 (.sh (.bl false)) (kk.f rfl)
  · exact kk.elim
theorem d_chain {op op' : CmpOp} {r r' : R2} {o o' : OP2} (ho : OpR X (compareOp op) r) (ho' : OpR X (compareOp op') r') (hs : OpS r o) (hs' : OpS r' o') (ha : DE X W a ta pa) (hb : DE X W b tb pb) (hc : DE X W c tc pc)
    (hm : lastMarks [op, op'] [b, c] = false := by with_unfolding_all rfl) : DE X W (.Compare a [op, op'] [b, c] pos) (tChain r r' ta tb tc) (qChain o o' pa pb pc) := ⟨pe_chain ho ho' ha.pe hb.pe hc.pe hm, se_chain hs hs' ha.se hb.se hc.se⟩
theorem d_tchain {op op' : CmpOp} {r r' : R2} {o o' : OP2} (ho : OpR X (compareOp op) r) (ho' : OpR X (compareOp op') r') (hs : OpS r o) (hs' : OpS r' o') (ha : DE X W a ta pa) (hb : DE X W b tb pb) (hc : DE X W c tc pc)
    (hm : lastMarks [op, op'] [b, c] = false := by with_unfolding_all rfl) : DT X W (.Compare a [op, op'] [b, c] pos) (tTest (tChain r r' ta tb tc)) (qB (qChain o o' pa pb pc)) := ⟨pt_chain ho ho' ha.pe hb.pe hc.pe hm, st_tt (se_chain hs hs' ha.se hb.se hc.se)⟩

/-! ### argument lists, taken for good; displays -/
variable {es : List Expr} {tr : TA} {pr : QA} {e : Expr}
def qNil : QA := fun Γ R _ => R [] Γ
def qCons (p : QE) (q : QA) : QA := fun Γ R E => p Γ (fun w Γ1 => shr w Γ1 fun d Γ2 => q Γ2 (fun ds Γ3 => R (d :: ds) Γ3) E) E
theorem da_nil : DA X W [] tNil qNil := ⟨pa_nil, fun {B F Γ σ H fp} R EX Q r h k _ => k [] Γ [] F H fp .refl r .nil h⟩
theorem sa_cons (ha : SE W ta pa) (hr : SA W tr pr) : SA W (tCons ta tr) (qCons pa pr) := fun {B F Γ σ H fp} R EX Q r h k e => by
  refine ha _ EX _ r h (fun w Γ1 v F1 H1 fp1 x1 r1 v1 h1 => ?_) e
  obtain ⟨d, Γ2, F2, fp2, x2, r2, b2, h2⟩ := shr_ok r1 v1 h1
  refine hr _ EX _ r2 h2 (fun ds Γ3 vs F3 H3 fp3 x3 r3 b3 h3 => ?_) (e.mono (x1.trans x2))
  exact k _ Γ3 _ F3 H3 fp3 ((x1.trans x2).trans x3) r3 (.cons (b2.mono x3.same) b3) h3
theorem da_cons (ha : DE X W e ta pa) (hr : DA X W es tr pr) (hs : starEach (e :: es) X.env = (false, eval e X.env) :: starEach es X.env := by rfl) : DA X W (e :: es) (tCons ta tr) (qCons pa pr) := ⟨pa_cons ha.pe hr.pa hs, sa_cons ha.se hr.sa⟩
def qTup (p : QA) : QE := fun Γ R E => p Γ (fun ds Γ1 => ds.length ≤ sizeLine ∧ R (.sh (.tuple ds)) Γ1) E
def qLst (p : QA) : QE := fun Γ R E => p Γ (fun ds Γ1 => ds.length ≤ sizeLine ∧ R (.ow (.l ds)) Γ1) E
theorem new_tup {B F : Hp} {Γ : Ev} {σ : L2.St} {H : Hp} {fp : Nat → List Addr} {p : Addr} {vs : List V} {ds : List D} (r : Rel B F Γ σ H fp) (h : RpA F vs ds) (hp : H p = none) :
    Ext B F (upd F p (.tup vs)) ∧ Rel B (upd F p (.tup vs)) Γ σ (upd H p (.tup vs)) fp ∧ RW B (upd F p (.tup vs)) Γ σ (upd H p (.tup vs)) fp (.ref p) (.sh (.tuple ds)) := by
  obtain ⟨x, r'⟩ := r.newF (o := .tup vs) hp
  exact ⟨x, r', .sh (.tup upd_same (h.mono x.same))⟩
theorem new_lst {B F : Hp} {Γ : Ev} {σ : L2.St} {H : Hp} {fp : Nat → List Addr} {p : Addr} {vs : List V} {ds : List D} (r : Rel B F Γ σ H fp) (h : RpA F vs ds) (hp : H p = none) :
    Rel B F Γ σ (upd H p (.lst vs)) fp ∧ RW B F Γ σ (upd H p (.lst vs)) fp (.ref p) (.ow (.l ds)) := by
  refine ⟨r.new hp, .ow (.l upd_same h) fun a ha => ?_⟩
  simp only [List.mem_singleton] at ha
  subst ha
  exact free_of r hp
theorem d_tup {x1} (h : DA X W es tr pr) : DE X W (.Tuple es x1 pos) (tTup tr) (qTup pr) := ⟨pe_tup h.pa, fun {B F Γ σ H fp} R EX Q r q k e => h.sa _ EX _ r q (fun ds Γ1 vs F1 H1 fp1 x1 r1 b1 h1 => ⟨by rw [b1.length]; exact h1.1, fun p hp => by
  obtain ⟨x2, r2, v2⟩ := new_tup r1 b1 hp
  exact k _ Γ1 _ _ _ fp1 (x1.trans x2) r2 v2 h1.2⟩) e⟩
theorem d_lst (h : DA X W es tr pr) : DE X W (.List es pos) (tLst tr) (qLst pr) := ⟨pe_lst h.pa, fun {B F Γ σ H fp} R EX Q r q k e => h.sa _ EX _ r q (fun ds Γ1 vs F1 H1 fp1 x1 r1 b1 h1 => ⟨by rw [b1.length]; exact h1.1, fun p hp => by
  obtain ⟨r2, v2⟩ := new_lst r1 b1 hp
  exact k _ Γ1 _ _ _ fp1 x1 r2 v2 h1.2⟩) e⟩
end
end PL

namespace PL
open PySem PySem.Spec PyProof.Rows L2

section
variable {B F : Hp} {Γ : Ev} {σ : L2.St} {H : Hp} {fp : Nat → List Addr} {v : V} {w : Wv}

/-! ### slots stored -/
/-- slot i holds a datum -/
theorem Rel.setSh (r : Rel B F Γ σ H fp) {d : D} (h : Rp F v d) (i : Nat) : Rel B F (Γ.set i (.sh d)) (σ.set i (some v)) H (dropF fp i) := by
  refine ⟨r.bx, r.fx, by rw [List.length_set, List.length_set]; exact r.len, fun j d' q => ?_, fun j u q => ?_, fun j a ha => r.nb j a (mem_dropF ha).2, fun j k a ha hb => r.dj j k a (mem_dropF ha).2 (mem_dropF hb).2, fun j a q => by
    obtain ⟨hj, q⟩ := ex_ne (fun _ => Sl.noConfusion) q
    rw [List.getElem?_set_ne hj]
    exact r.ex j a q⟩
  · by_cases hj : i = j
    · subst hj
      rw [List.getElem?_set] at q
      split at q
      · split at q
        · rename_i hl
          cases q
          exact ⟨v, by rw [List.getElem?_set_self (by rw [← r.len]; exact hl)], h⟩
        · cases q
      · rename_i hn
        exact absurd rfl hn
    · rw [List.getElem?_set_ne hj] at q
      obtain ⟨u, g1, g2⟩ := r.sh j d' q
      exact ⟨u, by rw [List.getElem?_set_ne hj]; exact g1, g2⟩
  · by_cases hj : i = j
    · subst hj
      rw [List.getElem?_set] at q
      split at q
      · split at q <;> cases q
      · rename_i hn
        exact absurd rfl hn
    · rw [List.getElem?_set_ne hj] at q
      obtain ⟨u, g1, g2⟩ := r.ow j _ q
      refine ⟨u, by rw [List.getElem?_set_ne hj]; exact g1, ?_⟩
      rw [dropF_ne (Ne.symm hj)]
      exact g2
/-- slot i holds an own object that nothing else holds -/
theorem Rel.setOw (r : Rel B F Γ σ H fp) {o : O} {f : List Addr} (h : RO F H v o f) (hf : ∀ a ∈ f, B a = none ∧ F a = none ∧ ∀ j, j ≠ i → a ∉ fp j) (i : Nat) (hi : ∀ a ∈ f, B a = none ∧ F a = none ∧ ∀ j, j ≠ i → a ∉ fp j) :
    Rel B F (Γ.set i (.ow o)) (σ.set i (some v)) H (putF fp i f) := by
  refine ⟨r.bx, r.fx, by rw [List.length_set, List.length_set]; exact r.len, fun j d' q => ?_, fun j u q => ?_, fun j a ha => ?_, fun j k a ha hb => ?_, fun j a q => by
    obtain ⟨hj, q⟩ := ex_ne (fun _ => Sl.noConfusion) q
    rw [List.getElem?_set_ne hj]
    exact r.ex j a q⟩
  · by_cases hj : i = j
    · subst hj
      rw [List.getElem?_set] at q
      split at q
      · split at q <;> cases q
      · rename_i hn
        exact absurd rfl hn
    · rw [List.getElem?_set_ne hj] at q
      obtain ⟨u, g1, g2⟩ := r.sh j d' q
      exact ⟨u, by rw [List.getElem?_set_ne hj]; exact g1, g2⟩
  · by_cases hj : i = j
    · subst hj
      rw [List.getElem?_set] at q
      split at q
      · split at q
        · rename_i hl
          cases q
          refine ⟨v, by rw [List.getElem?_set_self (by rw [← r.len]; exact hl)], ?_⟩
          rw [putF_same]
          exact h
        · cases q
      · rename_i hn
        exact absurd rfl hn
    · rw [List.getElem?_set_ne hj] at q
      obtain ⟨u, g1, g2⟩ := r.ow j _ q
      refine ⟨u, by rw [List.getElem?_set_ne hj]; exact g1, ?_⟩
      rw [putF_ne (Ne.symm hj)]
      exact g2
  · by_cases hj : j = i
    · subst hj
      rw [putF_same] at ha
      exact ⟨(hi a ha).1, (hi a ha).2.1, h.mem a ha⟩
    · rw [putF_ne hj] at ha
      exact r.nb j a ha
  · by_cases hj : j = i
    · subst hj
      by_cases hk : k = j
      · exact hk.symm
      · rw [putF_same] at ha
        rw [putF_ne hk] at hb
        exact absurd hb ((hi a ha).2.2 k hk)
    · by_cases hk : k = i
      · subst hk
        rw [putF_same] at hb
        rw [putF_ne hj] at ha
        exact absurd ha ((hi a hb).2.2 j hj)
      · rw [putF_ne hj] at ha
        rw [putF_ne hk] at hb
        exact r.dj j k a ha hb
def setSl (i : Nat) (w : Wv) (Γ : Ev) (k : Ev → Prop) : Prop :=
  match w with
  | .sh d => k (Γ.set i (.sh d))
  | .ow o => k (Γ.set i (.ow o))
  | .at j => match Γ[j]? with
    | some (.sh d) => k (Γ.set i (.sh d))
    | some (.ow o) => k ((Γ.set j (.sh o.toD)).set i (.sh o.toD))
    | _ => False
theorem setSl_ok {k : Ev → Prop} {i : Nat} (r : Rel B F Γ σ H fp) (h : RW B F Γ σ H fp v w) (q : setSl i w Γ k) : ∃ Γ' F' fp', Ext B F F' ∧ Rel B F' Γ' (σ.set i (some v)) H fp' ∧ k Γ' := by
  cases h with
  | sh h => exact ⟨_, F, _, .refl, r.setSh h i, q⟩
  | @ow o f h hf => exact ⟨_, F, _, .refl, r.setOw (i := i) h (fun a ha => ⟨(hf a ha).1, (hf a ha).2.1, fun j _ => (hf a ha).2.2 j⟩) i fun a ha => ⟨(hf a ha).1, (hf a ha).2.1, fun j _ => (hf a ha).2.2 j⟩, q⟩
  | @«at» j h =>
    unfold setSl at q
    simp only at q
    split at q
    · rename_i d e
      obtain ⟨u, h1, h2⟩ := r.sh j d e
      rw [h] at h1
      cases h1
      exact ⟨_, F, _, .refl, r.setSh h2 i, q⟩
    · rename_i o e
      obtain ⟨u, h1, x, r', h2⟩ := r.freezeAt e
      rw [h] at h1
      cases h1
      exact ⟨_, _, _, x, r'.setSh h2 i, q⟩
    · exact q.elim
end

/-! ### targets -/
/-- only the slots js change -/
def Chg (js : List Nat) (σ σ' : L2.St) : Prop := σ'.length = σ.length ∧ ∀ i, i ∉ js → σ'[i]? = σ[i]?
theorem Chg.trans {js ks : List Nat} {σ σ1 σ2 : L2.St} (a : Chg js σ σ1) (b : Chg ks σ1 σ2) : Chg (js ++ ks) σ σ2 :=
  ⟨b.1.trans a.1, fun i h => (b.2 i fun z => h (List.mem_append_right _ z)).trans (a.2 i fun z => h (List.mem_append_left _ z))⟩
abbrev QG := Wv → Ev → (Ev → Prop) → Prop
abbrev QGs := List D → Ev → (Ev → Prop) → Prop
def SG (g : TG) (q : QG) (js : List Nat) : Prop := ∀ {B F : Hp} {Γ : Ev} {σ : L2.St} {H : Hp} {fp : Nat → List Addr} {v : V} {w : Wv} (k : Ev → Prop) (Q : L2.St → Hp → Prop), Rel B F Γ σ H fp → RW B F Γ σ H fp v w → q w Γ k →
  (∀ Γ' F' σ' fp', Ext B F F' → Rel B F' Γ' σ' H fp' → Chg js σ σ' → k Γ' → Q σ' H) → g v σ H Q
def SGs (g : TGs) (q : QGs) (js : List Nat) : Prop := ∀ {B F : Hp} {Γ : Ev} {σ : L2.St} {H : Hp} {fp : Nat → List Addr} {vs : List V} {ds : List D} (k : Ev → Prop) (Q : L2.St → Hp → Prop), Rel B F Γ σ H fp → RpA F vs ds → q ds Γ k →
  (∀ Γ' F' σ' fp', Ext B F F' → Rel B F' Γ' σ' H fp' → Chg js σ σ' → k Γ' → Q σ' H) → g vs σ H Q
structure DG (X : Cx) (tg : Expr) (g : TG) (q : QG) (js : List Nat) : Prop where
  pg : PG X tg g
  sg : SG g q js
structure DGs (X : Cx) (tgs : List Expr) (g : TGs) (q : QGs) (js : List Nat) : Prop where
  pg : PGs X tgs g
  sg : SGs g q js
section
variable {X : Cx} {pos : Pos}
def qgN (i : Nat) : QG := fun w Γ k => setSl i w Γ k
theorem sg_name {i : Nat} : SG (gName i) (qgN i) [i] := fun {B F Γ σ H fp v w} k Q r h q c => by
  obtain ⟨Γ', F', fp', x, r', z⟩ := setSl_ok r h q
  exact c Γ' F' _ fp' x r' ⟨by rw [List.length_set], fun j hj => List.getElem?_set_ne fun e => hj (by simp [e])⟩ z
theorem dg_name {i : Nat} {x : Str} (hN : X.N.Nodup) (hi : X.N[i]? = some x := by rfl) (hx : Loc X.env.scope x := by first | exact Or.inl rfl | exact Or.inr rfl) (hf : X.fn x = true ∨ X.env.scope.names.lookup x = some .local := by first | exact .inl rfl | exact .inr rfl | assumption) :
    DG X (.Name x pos) (gName i) (qgN i) [i] := ⟨pg_name hN hi hx hf, sg_name⟩
def qgNil : QGs := fun ds Γ k => ds = [] ∧ k Γ
def qgCons (p : QG) (q : QGs) : QGs := fun ds Γ k => match ds with
  | d :: r => p (.sh d) Γ fun Γ' => q r Γ' k
  | [] => False
theorem dgs_nil : DGs X [] gNil qgNil [] := ⟨pgs_nil, fun {B F Γ σ H fp vs ds} k Q r h q c => by
  obtain ⟨rfl, q⟩ := q
  cases h
  exact ⟨rfl, c Γ F σ fp .refl r ⟨rfl, fun _ _ => rfl⟩ q⟩⟩
theorem dgs_cons {e : Expr} {es : List Expr} {g : TG} {u : TGs} {p : QG} {q : QGs} {js ks : List Nat} (h1 : DG X e g p js) (h2 : DGs X es u q ks)
    (hs : (assignEach (e :: es) X.env).map (·.2) = assign e X.env :: (assignEach es X.env).map (·.2) := by rfl) : DGs X (e :: es) (gCons g u) (qgCons p q) (js ++ ks) := ⟨pgs_cons h1.pg h2.pg hs, fun {B F Γ σ H fp vs ds} k Q r h z c => by
  cases h with
  | nil => exact z.elim
  | @cons v vs d ds h t =>
    refine ⟨v, vs, rfl, h1.sg _ _ r (.sh h) z fun Γ1 F1 σ1 fp1 x1 r1 c1 z1 => ?_⟩
    exact h2.sg _ _ r1 (t.mono x1.same) z1 fun Γ2 F2 σ2 fp2 x2 r2 c2 z2 => c Γ2 F2 σ2 fp2 (x1.trans x2) r2 (c1.trans c2) z2⟩
def qgTup (n : Nat) (q : QGs) : QG := fun w Γ k => bor w Γ fun d => match d with
  | .tuple ds => ds.length = n ∧ q ds Γ k
  | _ => False
theorem dg_tup {es : List Expr} {kk : Nat} {g : TGs} {q : QGs} {js : List Nat} {n : Nat} (hc : X.calm = true) (h : DGs X es g q js)
    (hn : (assignEach es X.env).length = n := by rfl) (hst : (assignEach es X.env).findIdx? (·.1) = none := by rfl) : DG X (.Tuple es kk pos) (gTup X.K n g) (qgTup n q) js := ⟨pg_tup hc h.pg hn hst, fun {B F Γ σ H fp v w} k Q r hw z c => by
  obtain ⟨d, b, z⟩ := bor_rb r hw z
  cases b with
  | tup _ e t => exact ⟨_, _, rfl, .inl (.inl e), by rw [t.length]; exact z.1, h.sg _ _ r t z.2 c⟩
  | _ => exact z.elim⟩
/-- a list of that length -/
def qgLst (n : Nat) (q : QGs) : QG := fun w Γ k => bor w Γ fun d => match d with
  | .list ds => ds.length = n ∧ q ds Γ k
  | _ => False
theorem dg_lst {es : List Expr} {kk : Nat} {g : TGs} {q : QGs} {js : List Nat} {n : Nat} (hc : X.calm = true) (h : DGs X es g q js)
    (hn : (assignEach es X.env).length = n := by rfl) (hst : (assignEach es X.env).findIdx? (·.1) = none := by rfl) : DG X (.Tuple es kk pos) (gLst X.K n g) (qgLst n q) js := ⟨pg_lst hc h.pg hn hst, fun {B F Γ σ H fp v w} k Q r hw z c => by
  obtain ⟨d, b, z⟩ := bor_rb r hw z
  cases b with
  | lst e t => exact ⟨_, _, rfl, .inl (.inl e), by rw [t.length]; exact z.1, h.sg _ _ r t z.2 c⟩
  | _ => exact z.elim⟩
end

/-! ### statements -/
section
variable {X : Cx} {W : WX} {pos : Pos} {e : Expr} {te : TE} {p : QE} {st : Stmt} {rest : List Stmt} {ts tu : TS} {ps pu : QS} {tt : TT} {pt : QT}
def qNext : QS := fun P Γ => P.nx Γ
def qSeq (p q : QS) : QS := fun P Γ => p { P with nx := q P } Γ
theorem ss_next : SS W tNext qNext := fun {B F Γ σ H fp} P D r h a => a.nx Γ F σ H fp .refl r h
theorem ss_seq (h1 : SS W ts ps) (h2 : SS W tu pu) : SS W (tSeq ts tu) (qSeq ps pu) := fun {B F Γ σ H fp} P D r h a =>
  h1 { P with nx := pu P } { D with nx := tu D } r h ⟨fun Γ' F' σ' H' fp' x r' q => h2 P D r' q (a.mono x), a.rt, a.bk, a.ct, a.ex⟩
theorem dss_nil : DSs X W [] tNext qNext := ⟨pss_nil, ss_next⟩
theorem dss_cons (h1 : DS X W st ts ps) (h2 : DSs X W rest tu pu) : DSs X W (st :: rest) (tSeq ts tu) (qSeq ps pu) := ⟨pss_cons h1.ps h2.ps, ss_seq h1.ss h2.ss⟩
theorem dss_one (h1 : DS X W st ts ps) : DSs X W [st] ts ps := ⟨pss_one h1.ps, h1.ss⟩
/-- slot i's own object is frozen ahead of a block -/
def qFrz (i : Nat) (p : QS) : QS := fun P Γ => match Γ[i]? with
  | some (.ow o) => p P (Γ.set i (.sh o.toD))
  | _ => p P Γ
theorem dss_frz (i : Nat) (h : DSs X W rest tu pu) : DSs X W rest tu (qFrz i pu) := ⟨h.ps, fun {B F Γ σ H fp} P D r q a => by
  unfold qFrz at q
  split at q
  · rename_i o e
    obtain ⟨v, h1, x, r', h2⟩ := r.freezeAt e
    exact h.ss P D r' q (a.mono x)
  · exact h.ss P D r q a⟩
theorem ds_pass : DS X W (.Pass pos) tNext qNext := ⟨ps_pass, ss_next⟩
def qBreak : QS := fun P Γ => P.bk Γ
def qCont : QS := fun P Γ => P.ct Γ
theorem ds_break : DS X W (.Break pos) tBreak qBreak := ⟨ps_break, fun {B F Γ σ H fp} P D r h a => a.bk Γ F σ H fp .refl r h⟩
theorem ds_continue : DS X W (.Continue pos) tCont qCont := ⟨ps_continue, fun {B F Γ σ H fp} P D r h a => a.ct Γ F σ H fp .refl r h⟩
def qDrop (p : QE) : QS := fun P Γ => p Γ (fun _ Γ1 => P.nx Γ1) P.ex
theorem ss_drop (h : SE W te p) : SS W (tDrop te) (qDrop p) := fun {B F Γ σ H fp} P D r q a => h _ _ _ r q (fun w Γ1 v F1 H1 fp1 x1 r1 _ h1 => a.nx Γ1 F1 σ H1 fp1 x1 r1 h1) a.afe
theorem ds_expr (he : DE X W e te p) (hs : swapsWith e none pos.line X.env = pure false := by rfl) : DS X W (.Expr e pos) (tDrop te) (qDrop p) := ⟨ps_expr he.pe hs, ss_drop he.se⟩
theorem ds_doc {x j pos pos'} : DS X W (.Expr (.Constant (.str x) j pos) pos') tNext qNext := ⟨ps_doc, ss_next⟩
def qRet (p : QE) : QS := fun P Γ => p Γ P.rt P.ex
theorem ds_ret (he : DE X W e te p) : DS X W (.Return (some e) pos) (tRet te) (qRet p) := ⟨ps_ret he.pe, fun {B F Γ σ H fp} P D r q a => he.se _ _ _ r q (fun w Γ1 v F1 H1 fp1 x1 r1 v1 h1 => a.rt w Γ1 v F1 σ H1 fp1 x1 r1 v1 h1) a.afe⟩
def qRetN : QS := fun P Γ => P.rt (.sh .none) Γ
theorem ds_retN : DS X W (.Return none pos) tRetN qRetN := ⟨ps_retN, fun {B F Γ σ H fp} P D r q a => a.rt _ Γ _ F σ H fp .refl r (.sh .non) q⟩
def qIfS (c : QT) (t u : QS) : QS := fun P Γ => c Γ (fun b Γ1 => Cif b (t P Γ1) (u P Γ1)) P.ex
theorem ds_if {c : Expr} {a b : List Stmt} (hc : DT X W c tt pt) (ha : DSs X W a ts ps) (hb : DSs X W b tu pu) : DS X W (.If c a b pos) (tIfS tt ts tu) (qIfS pt ps pu) := ⟨ps_if hc.pt ha.ps hb.ps, fun {B F Γ σ H fp} P D r q a => by
  refine hc.st _ _ _ r q (fun b Γ1 F1 H1 fp1 x1 r1 h1 => ?_) a.afe
  cases b with
  | true => exact ha.ss P D r1 (h1.t rfl) (a.mono x1)
  | false => exact hb.ss P D r1 (h1.f rfl) (a.mono x1)⟩
/-- target = value -/
def qAsg (p : QE) (g : QG) : QS := fun P Γ => p Γ (fun w Γ1 => g w Γ1 P.nx) P.ex
theorem ss_asg {tg : TG} {g : QG} {js : List Nat} (he : SE W te p) (hg : SG tg g js) : SS W (tAsg te tg) (qAsg p g) := fun {B F Γ σ H fp} P D r q a =>
  he _ _ _ r q (fun w Γ1 v F1 H1 fp1 x1 r1 v1 h1 => hg _ _ r1 v1 h1 fun Γ2 F2 σ2 fp2 x2 r2 _ h2 => a.nx Γ2 F2 σ2 H1 fp2 (x1.trans x2) r2 h2) a.afe
theorem ds_asg {tg : Expr} {g : TG} {q : QG} {js : List Nat} (he : DE X W e te p) (hg : DG X tg g q js) (hs : swapsWithSole [tg] e pos.line X.env = pure false := by rfl) (hw : swappedStores [tg] e X.env = pure none := by rfl)
    (h1 : (assignEach [tg] X.env).map (·.2) = [assign tg X.env] := by rfl) : DS X W (.Assign [tg] e pos) (tAsg te g) (qAsg p q) := ⟨ps_asg he.pe hg.pg hs hw h1, ss_asg he.se hg.sg⟩
theorem ds_set {i : Nat} {x : Str} {pos' : Pos} (hN : X.N.Nodup) (he : DE X W e te p) (hi : X.N[i]? = some x := by rfl) (hx : Loc X.env.scope x := by first | exact Or.inl rfl | exact Or.inr rfl) (hs : swapsWith e (some (.Name x pos')) pos.line X.env = pure false := by rfl)
    (hf : X.fn x = true ∨ X.env.scope.names.lookup x = some .local := by first | exact .inl rfl | exact .inr rfl | assumption) : DS X W (.Assign [.Name x pos'] e pos) (tAsg te (gName i)) (qAsg p (qgN i)) := ⟨ps_set hN hi hx he.pe hs hf, ss_asg he.se sg_name⟩
/-- name op= e, the name's value a datum -/
def qAug (i : Nat) (o : OP2) (p : QE) : QS := fun P Γ => match Γ[i]? with
  | some (.sh d1) => p Γ (fun w2 Γ1 => bor w2 Γ1 fun d2 => o d1 d2 fun w => setSl i w Γ1 P.nx) P.ex
  | _ => False
theorem ds_aug {i : Nat} {x : Str} {op : Operator} {r : R2} {o : OP2} {pos' : Pos} (hN : X.N.Nodup) (ho : OpR X (inplaceOp op) r) (hs : OpS r o) (he : DE X W e te p) (hi : X.N[i]? = some x := by rfl) (hx : Loc X.env.scope x := by first | exact Or.inl rfl | exact Or.inr rfl)
    (hf : X.fn x = true ∨ X.env.scope.names.lookup x = some .local := by first | exact .inl rfl | exact .inr rfl | assumption) : DS X W (.AugAssign (.Name x pos') op e pos) (tAug i te r) (qAug i o p) :=
  ⟨ps_aug hN hi hx he.pe (fun pins s σ H x y v u Q I rx ry h => ho pins s σ H x y v u Q I rx ry h) hf, fun {B F Γ σ H fp} P D rr q a => by
  unfold qAug at q
  split at q
  · rename_i d1 e1
    obtain ⟨v, h1, h2⟩ := rr.sh i d1 e1
    refine ⟨v, h1, he.se _ _ _ rr q (fun w2 Γ1 y F1 H1 fp1 x1 r1 v1 h3 => ?_) a.afe⟩
    obtain ⟨d2, b2, z⟩ := bor_rb r1 v1 h3
    refine hs _ _ r1 ((h2.mono x1.same).rb r1.fx) b2 z fun w v F2 H2 x2 r2 q2 kk => ?_
    obtain ⟨Γ3, F3, fp3, x3, r3, z3⟩ := setSl_ok r2 q2 kk
    exact a.nx Γ3 F3 _ H2 fp3 ((x1.trans x2).trans x3) r3 z3
  · exact q.elim⟩
/-- while, by an invariant with a measure -/
def qWhile (c : QT) (t : QS) : QS := fun P Γ => ∃ I : Nat → Ev → Prop, (∃ m, I m Γ) ∧ ∀ m Γ, I m Γ → c Γ (fun b Γ1 => Cif b (t { P with nx := fun Γ' => ∃ m', m' < m ∧ I m' Γ', ct := fun Γ' => ∃ m', m' < m ∧ I m' Γ', bk := P.nx } Γ1) (P.nx Γ1)) P.ex
theorem ds_while {c : Expr} {body : List Stmt} (hp : PassesOwn (model X.prog X.w) X.A X.env X.xe) (hc : DT X W c tt pt) (hb : DSs X W body ts ps) : DS X W (.While c body [] pos) (tWhile tt ts) (qWhile pt ps) := ⟨ps_while hp hc.pt hb.ps, fun {B F Γ σ H fp} P D r q a => by
  obtain ⟨I, ⟨m0, h0⟩, hs⟩ := q
  refine ⟨fun m σ' H' => ∃ Γ' F' fp', Ext B F F' ∧ Rel B F' Γ' σ' H' fp' ∧ I m Γ', ⟨m0, Γ, F, fp, .refl, r, h0⟩, ?_⟩
  rintro m σ' H' ⟨Γ', F', fp', x, r', hi⟩
  refine hc.st _ _ _ r' (hs m Γ' hi) (fun b Γ1 F1 H1 fp1 x1 r1 h1 => ?_) (a.mono x).afe
  cases b with
  | true =>
    refine ⟨fun σ2 H2 => ∃ m', m' < m ∧ ∃ Γ2 F2 fp2, Ext B F F2 ∧ Rel B F2 Γ2 σ2 H2 fp2 ∧ I m' Γ2, fun σ2 H2 h => h, hb.ss _ _ r1 (h1.t rfl) ?_⟩
    have am := a.mono (x.trans x1)
    exact ⟨fun Γ2 F2 σ2 H2 fp2 x2 r2 ⟨m', hm, q⟩ => ⟨m', hm, Γ2, F2, fp2, (x.trans x1).trans x2, r2, q⟩, am.rt, am.nx, fun Γ2 F2 σ2 H2 fp2 x2 r2 ⟨m', hm, q⟩ => ⟨m', hm, Γ2, F2, fp2, (x.trans x1).trans x2, r2, q⟩, am.ex⟩
  | false => exact (a.mono x).nx Γ1 F1 σ' H1 fp1 x1 r1 (h1.f rfl)⟩
end

/-! ### what is walked -/
abbrev QI := QA
/-- the iterator goes through the data ds -/
def ItOk (J : It) (F : Hp) (ds : List D) : Prop := ∀ (B F2 : Hp) (Γ2 : Ev) (σ2 : L2.St) (H2 : Hp) (fp2 : Nat → List Addr), Same F F2 → Rel B F2 Γ2 σ2 H2 fp2 → ∀ i,
  (∀ d, ds[i]? = some d → J.go i H2 ∧ ∀ x H3, J.yld i H2 x H3 → ∃ F3, Ext B F2 F3 ∧ Rel B F3 Γ2 σ2 H3 fp2 ∧ Rp F3 x d) ∧ (ds.length ≤ i → J.stop i H2)
def SI (W : WX) (wi : TI) (p : QI) : Prop := ∀ {B F : Hp} {Γ : Ev} {σ : L2.St} {H : Hp} {fp : Nat → List Addr} (R : List D → Ev → Prop) (EX : EXP) (Q : It → Hp → Prop), Rel B F Γ σ H fp → p Γ R EX →
  (∀ ds Γ' J F' H' fp', Ext B F F' → Rel B F' Γ' σ H' fp' → ItOk J F' ds → R ds Γ' → Q J H') → AfE W B F σ EX → wi σ H Q
structure DI (X : Cx) (W : WX) (tg iter : Expr) (wi : TI) (p : QI) : Prop where
  pi : PI X tg iter wi
  si : SI W wi p
section
variable {X : Cx} {W : WX} {pos : Pos} {e tg : Expr} {te : TE} {p : QE}
/-- over a list (taken for good) -/
def qiL (p : QE) : QI := fun Γ R E => p Γ (fun w Γ1 => shr w Γ1 fun d Γ2 => match d with
  | .list ds => R ds Γ2
  | _ => False) E
def qiT (p : QE) : QI := fun Γ R E => p Γ (fun w Γ1 => shr w Γ1 fun d Γ2 => match d with
  | .tuple ds => R ds Γ2
  | _ => False) E
def signD (c : Nat) : D := .str ⟨#[c]⟩
def qiS (p : QE) : QI := fun Γ R E => p Γ (fun w Γ1 => shr w Γ1 fun d Γ2 => match d with
  | .str x => R (x.cps.toList.map signD) Γ2
  | _ => False) E
theorem di_list (h : DE X W e te p) : DI X W tg e (iList X.K te) (qiL p) := ⟨pi_list h.pe, fun {B F Γ σ H fp} R EX Q r q k a => by
  refine h.se _ _ _ r q (fun w Γ1 v F1 H1 fp1 x1 r1 v1 h1 => ?_) a
  obtain ⟨d, Γ2, F2, fp2, x2, r2, b2, h2⟩ := shr_ok r1 v1 h1
  cases b2 with
  | @lst aa xs ds e2 t =>
    refine ⟨aa, rfl, ⟨xs, .inl (.inl (r2.fx _ _ e2))⟩, k ds Γ2 _ F2 H1 fp2 (x1.trans x2) r2 ?_ h2⟩
    intro B3 F3 Γ3 σ3 H3 fp3 s3 r3 i
    have hl : SqL X.K H3 aa xs := .inl (.inl ((s3.trans r3.fx) _ _ e2))
    refine ⟨fun d hd => ?_, fun hi => ⟨xs, hl, by rw [t.length]; exact hi⟩⟩
    obtain ⟨u, g1, g2⟩ := t.get hd
    exact ⟨⟨xs, u, hl, g1⟩, fun x H4 ⟨e4, f4⟩ => by
      subst e4
      have := f4 xs hl
      rw [g1] at this
      cases this
      exact ⟨F3, .refl, r3, g2.mono s3⟩⟩
  | _ => exact h2.elim⟩
theorem di_tup (h : DE X W e te p) : DI X W tg e (iTup X.K te) (qiT p) := ⟨pi_tup h.pe, fun {B F Γ σ H fp} R EX Q r q k a => by
  refine h.se _ _ _ r q (fun w Γ1 v F1 H1 fp1 x1 r1 v1 h1 => ?_) a
  obtain ⟨d, Γ2, F2, fp2, x2, r2, b2, h2⟩ := shr_ok r1 v1 h1
  cases b2 with
  | @tup aa xs ds e2 t =>
    refine ⟨aa, rfl, ⟨xs, .inl (.inl (r2.fx _ _ e2))⟩, k ds Γ2 _ F2 H1 fp2 (x1.trans x2) r2 ?_ h2⟩
    intro B3 F3 Γ3 σ3 H3 fp3 s3 r3 i
    have hl : SqT X.K H3 aa xs := .inl (.inl ((s3.trans r3.fx) _ _ e2))
    refine ⟨fun d hd => ?_, fun hi => ⟨xs, hl, by rw [t.length]; exact hi⟩⟩
    obtain ⟨u, g1, g2⟩ := t.get hd
    exact ⟨⟨xs, u, hl, g1⟩, fun x H4 ⟨e4, f4⟩ => by
      subst e4
      have := f4 xs hl
      rw [g1] at this
      cases this
      exact ⟨F3, .refl, r3, g2.mono s3⟩⟩
  | _ => exact h2.elim⟩
theorem strOk_sign {x : Str} (h : PyData.strOk x = true) {i c : Nat} (e : x.cps[i]? = some c) : PyData.strOk ⟨#[c]⟩ = true := by
  have h' : x.cps.all (· < 0x110000) = true := h
  rw [Array.all_eq_true] at h'
  obtain ⟨hi, he⟩ := Array.getElem?_eq_some_iff.mp e
  have := h' i hi
  rw [he] at this
  show (#[c] : Array Nat).all (· < 0x110000) = true
  simpa using this
theorem di_str (h : DE X W e te p) : DI X W tg e (iStr te) (qiS p) := ⟨pi_str h.pe, fun {B F Γ σ H fp} R EX Q r q k a => by
  refine h.se _ _ _ r q (fun w Γ1 v F1 H1 fp1 x1 r1 v1 h1 => ?_) a
  obtain ⟨d, Γ2, F2, fp2, x2, r2, b2, h2⟩ := shr_ok r1 v1 h1
  cases b2 with
  | str x ok =>
    refine ⟨x, rfl, k _ Γ2 _ F2 H1 fp2 (x1.trans x2) r2 ?_ h2⟩
    intro B3 F3 Γ3 σ3 H3 fp3 s3 r3 i
    refine ⟨fun d hd => ?_, fun hi => ?_⟩
    · rw [List.getElem?_map] at hd
      have hi : i < x.cps.size := by
        cases z : x.cps.toList[i]? with
        | none =>
          rw [z] at hd
          cases hd
        | some c =>
          have := (List.getElem?_eq_some_iff.mp z).1
          simpa using this
      refine ⟨hi, fun y H4 ⟨e4, c, hc, ey⟩ => ?_⟩
      subst e4 ey
      have hc' : x.cps.toList[i]? = some c := by rw [Array.getElem?_toList]; exact hc
      rw [hc'] at hd
      cases hd
      exact ⟨F3, .refl, r3, .str _ (strOk_sign ok hc)⟩
    · show x.cps.size ≤ i
      simpa using hi
  | _ => exact h2.elim⟩
/-- range(n), range(a, b) -/
def qiR1 (p : QA) : QI := fun Γ R E => p Γ (fun ds Γ1 => match ds with
  | [.int n] => -(2 ^ 62) ≤ n ∧ n < 2 ^ 62 ∧ R ((List.range n.toNat).map fun (i : Nat) => .int (i : Int)) Γ1
  | _ => False) E
def qiR2 (p : QA) : QI := fun Γ R E => p Γ (fun ds Γ1 => match ds with
  | [.int m, .int n] => (-(2 ^ 62) ≤ m ∧ m < 2 ^ 62 ∧ -(2 ^ 62) ≤ n ∧ n < 2 ^ 62) ∧ R ((List.range (n - m).toNat).map fun (i : Nat) => .int (m + (i : Int))) Γ1
  | _ => False) E
theorem it_range {F : Hp} (lo : Int) (n : Nat) (f : Nat → D) (hf : ∀ i, f i = .int (lo + (i : Int))) : ItOk (Itr lo n) F ((List.range n).map f) := fun B3 F3 Γ3 σ3 H3 fp3 s3 r3 i => by
  refine ⟨fun d hd => ?_, fun hi => show n ≤ i by simpa using hi⟩
  rw [List.getElem?_map] at hd
  have hi : i < n := by
    cases z : (List.range n)[i]? with
    | none =>
      rw [z] at hd
      cases hd
    | some c => simpa using (List.getElem?_eq_some_iff.mp z).1
  rw [List.getElem?_range hi] at hd
  refine ⟨hi, fun y H4 ⟨e4, ey⟩ => ?_⟩
  subst e4 ey
  have hd' : f i = d := Option.some.inj hd
  rw [← hd', hf]
  exact ⟨F3, .refl, r3, .int _⟩
theorem di_range1 {a : Expr} {ta : TA} {pa : QA} {p : Pos} (hm : X.mg "range" = none) (ha : DA X W [a] ta pa) (hg : Gl X "range" := by rfl) (hs : starEach [a] X.env = [(false, eval a X.env)] := by rfl) :
    DI X W tg (.Call (.Name "range" p) [a] [] pos) (iRng1 ta) (qiR1 pa) := ⟨pi_range1 hg hm ha.pa hs, fun {B F Γ σ H fp} R EX Q r q k e => by
  refine ha.sa _ _ _ r q (fun ds Γ1 vs F1 H1 fp1 x1 r1 b1 h1 => ?_) e
  split at h1
  · rename_i n
    cases b1 with
    | cons h t =>
      cases t
      cases h
      refine ⟨n, rfl, h1.1, h1.2.1, k _ Γ1 _ F1 H1 fp1 x1 r1 (it_range 0 _ _ fun i => by simp) h1.2.2⟩
  · exact h1.elim⟩
theorem di_range2 {a b : Expr} {ta : TA} {pa : QA} {p : Pos} (hm : X.mg "range" = none) (ha : DA X W [a, b] ta pa) (hg : Gl X "range" := by rfl) (hs : starEach [a, b] X.env = [(false, eval a X.env), (false, eval b X.env)] := by rfl) (hs2 : starEach [b] X.env = [(false, eval b X.env)] := by rfl) :
    DI X W tg (.Call (.Name "range" p) [a, b] [] pos) (iRng2 ta) (qiR2 pa) := ⟨pi_range2 hg hm ha.pa hs hs2, fun {B F Γ σ H fp} R EX Q r q k e => by
  refine ha.sa _ _ _ r q (fun ds Γ1 vs F1 H1 fp1 x1 r1 b1 h1 => ?_) e
  split at h1
  · rename_i m n
    cases b1 with
    | cons h t =>
      cases t with
      | cons h' t' =>
        cases t'
        cases h
        cases h'
        exact ⟨m, n, rfl, h1.1, k _ Γ1 _ F1 H1 fp1 x1 r1 (it_range m _ _ fun _ => rfl) h1.2⟩
  · exact h1.elim⟩
/-- enumerate(list) -/
def enumD (n : Nat) : List D → List D
  | [] => []
  | d :: r => .tuple [.int n, d] :: enumD (n + 1) r
theorem enumD_get : ∀ (ds : List D) (n i : Nat), (enumD n ds)[i]? = ds[i]?.map fun d => .tuple [.int ((n + i : Nat) : Int), d]
  | [], n, i => by simp [enumD]
  | d :: r, n, 0 => by simp [enumD]
  | d :: r, n, i + 1 => by
    simp only [enumD, List.getElem?_cons_succ]
    rw [enumD_get r (n + 1) i]
    have e : n + 1 + i = n + (i + 1) := by omega
    rw [e]
theorem enumD_length : ∀ (ds : List D) (n : Nat), (enumD n ds).length = ds.length
  | [], _ => rfl
  | _ :: r, n => congrArg (· + 1) (enumD_length r (n + 1))
def qiE (p : QA) : QI := fun Γ R E => p Γ (fun ds Γ1 => match ds with
  | [.list xs] => R (enumD 0 xs) Γ1
  | _ => False) E
theorem di_enum {ta : TA} {pa : QA} {p tpos : Pos} {elts : List Expr} {kk : Nat} (hm : X.mg "enumerate" = none) (ha : DA X W [e] ta pa) (hg : Gl X "enumerate" := by rfl) (hs : starEach [e] X.env = [(false, eval e X.env)] := by rfl) :
    DI X W (.Tuple elts kk tpos) (.Call (.Name "enumerate" p) [e] [] pos) (iEnum X.K ta) (qiE pa) := ⟨pi_enum hg hm ha.pa hs, fun {B F Γ σ H fp} R EX Q r q k e => by
  refine ha.sa _ _ _ r q (fun ds Γ1 vs F1 H1 fp1 x1 r1 b1 h1 => ?_) e
  split at h1
  · rename_i xs
    cases b1 with
    | cons h t =>
      cases t
      cases h with
      | @lst aa vs ds e2 t =>
        refine ⟨aa, vs, rfl, .inl (.inl (r1.fx _ _ e2)), k _ Γ1 _ F1 H1 fp1 x1 r1 ?_ h1⟩
        intro B3 F3 Γ3 σ3 H3 fp3 s3 r3 i
        have hl : SqL X.K H3 aa vs := .inl (.inl ((s3.trans r3.fx) _ _ e2))
        refine ⟨fun d hd => ?_, fun hi => ⟨vs, hl, by rw [t.length, ← enumD_length xs 0]; exact hi⟩⟩
        rw [enumD_get] at hd
        cases z : xs[i]? with
        | none =>
          rw [z] at hd
          cases hd
        | some c =>
          rw [z] at hd
          obtain ⟨u, g1, g2⟩ := t.get z
          refine ⟨⟨vs, u, hl, g1⟩, fun y H4 ⟨T, x, ey, nT, e4, f4⟩ => ?_⟩
          have := f4 vs hl
          rw [g1] at this
          cases this
          subst ey e4
          obtain ⟨x5, r5⟩ := r3.newF (o := .tup [.int (i : Nat), u]) nT
          have hd' : PyData.tuple [.int ((0 + i : Nat) : Int), c] = d := Option.some.inj hd
          rw [← hd', Nat.zero_add]
          exact ⟨_, x5, r5, .tup upd_same (.cons (.int _) (.cons ((g2.mono s3).mono x5.same) .nil))⟩
  · exact h1.elim⟩
/-- zip(list, list) -/
def zipD : List D → List D → List D
  | a :: r, b :: s => .tuple [a, b] :: zipD r s
  | _, _ => []
theorem zipD_get : ∀ (xs ys : List D) (i : Nat), (zipD xs ys)[i]? = (xs[i]?.bind fun a => ys[i]?.map fun b => .tuple [a, b])
  | [], ys, i => by simp [zipD]
  | a :: r, [], i => by simp [zipD]
  | a :: r, b :: s, 0 => by simp [zipD]
  | a :: r, b :: s, i + 1 => by
    simp only [zipD, List.getElem?_cons_succ]
    exact zipD_get r s i
theorem zipD_length : ∀ (xs ys : List D), (zipD xs ys).length = min xs.length ys.length
  | [], ys => by simp [zipD]
  | a :: r, [] => by simp [zipD]
  | a :: r, b :: s => by
    simp only [zipD, List.length_cons, zipD_length r s]
    omega
def qiZ (p : QA) : QI := fun Γ R E => p Γ (fun ds Γ1 => match ds with
  | [.list xs, .list ys] => R (zipD xs ys) Γ1
  | [.tuple xs, .tuple ys] => R (zipD xs ys) Γ1
  | _ => False) E
theorem di_zip {e2 : Expr} {ta : TA} {pa : QA} {p tpos : Pos} {elts : List Expr} {kk : Nat} (hm : X.mg "zip" = none) (ha : DA X W [e, e2] ta pa) (hg : Gl X "zip" := by rfl)
    (hs : starEach [e, e2] X.env = (false, eval e X.env) :: starEach [e2] X.env := by rfl) (hpl : (backTo pos (starEach [e2] X.env)).any (·.1) = false := by rfl) :
    DI X W (.Tuple elts kk tpos) (.Call (.Name "zip" p) [e, e2] [] pos) (RZ.iZipA X.K ta) (qiZ pa) := ⟨RZ.pi_zipA hg hm ha.pa hs hpl, fun {B F Γ σ H fp} R EX Q r q k e => by
  refine ha.sa _ _ _ r q (fun ds Γ1 vs F1 H1 fp1 x1 r1 b1 h1 => ?_) e
  split at h1
  · rename_i xs ys
    cases b1 with
    | cons h t =>
      cases t with
      | cons h' t' =>
        cases t'
        cases h with
        | @lst aa vs ds e2 t =>
          cases h' with
          | @lst ba ws ds' e3 t3 =>
            refine ⟨aa, ba, vs, ws, rfl, .inl ⟨.inl (.inl (r1.fx _ _ e2)), .inl (.inl (r1.fx _ _ e3)), k _ Γ1 _ F1 H1 fp1 x1 r1 ?_ h1⟩⟩
            intro B3 F3 Γ3 σ3 H3 fp3 s3 r3 i
            have hl : SqL X.K H3 aa vs := .inl (.inl ((s3.trans r3.fx) _ _ e2))
            have hl2 : SqL X.K H3 ba ws := .inl (.inl ((s3.trans r3.fx) _ _ e3))
            refine ⟨fun d hd => ?_, fun hi => ⟨vs, ws, hl, hl2, by rw [zipD_length] at hi; rw [t.length, t3.length]; omega⟩⟩
            rw [zipD_get] at hd
            cases z : xs[i]? with
            | none =>
              rw [z] at hd
              cases hd
            | some c =>
              rw [z] at hd
              cases z2 : ys[i]? with
              | none =>
                rw [z2] at hd
                cases hd
              | some c2 =>
                rw [z2] at hd
                obtain ⟨u, g1, g2⟩ := t.get z
                obtain ⟨u2, g3, g4⟩ := t3.get z2
                refine ⟨⟨vs, ws, u, u2, hl, hl2, g1, g3⟩, fun y H4 ⟨T, x, x', ey, nT, e4, f4, f5⟩ => ?_⟩
                have := f4 vs hl
                rw [g1] at this
                cases this
                have := f5 ws hl2
                rw [g3] at this
                cases this
                subst ey e4
                obtain ⟨x5, r5⟩ := r3.newF (o := .tup [u, u2]) nT
                have hd' : PyData.tuple [c, c2] = d := Option.some.inj hd
                rw [← hd']
                exact ⟨_, x5, r5, .tup upd_same (.cons ((g2.mono s3).mono x5.same) (.cons ((g4.mono s3).mono x5.same) .nil))⟩
  · rename_i xs ys
    cases b1 with
    | cons h t =>
      cases t with
      | cons h' t' =>
        cases t'
        cases h with
        | @tup aa vs ds e2 t =>
          cases h' with
          | @tup ba ws ds' e3 t3 =>
            refine ⟨aa, ba, vs, ws, rfl, .inr ⟨.inl (.inl (r1.fx _ _ e2)), .inl (.inl (r1.fx _ _ e3)), k _ Γ1 _ F1 H1 fp1 x1 r1 ?_ h1⟩⟩
            intro B3 F3 Γ3 σ3 H3 fp3 s3 r3 i
            have hl : SqT X.K H3 aa vs := .inl (.inl ((s3.trans r3.fx) _ _ e2))
            have hl2 : SqT X.K H3 ba ws := .inl (.inl ((s3.trans r3.fx) _ _ e3))
            refine ⟨fun d hd => ?_, fun hi => ⟨vs, ws, hl, hl2, by rw [zipD_length] at hi; rw [t.length, t3.length]; omega⟩⟩
            rw [zipD_get] at hd
            cases z : xs[i]? with
            | none =>
              rw [z] at hd
              cases hd
            | some c =>
              rw [z] at hd
              cases z2 : ys[i]? with
              | none =>
                rw [z2] at hd
                cases hd
              | some c2 =>
                rw [z2] at hd
                obtain ⟨u, g1, g2⟩ := t.get z
                obtain ⟨u2, g3, g4⟩ := t3.get z2
                refine ⟨⟨vs, ws, u, u2, hl, hl2, g1, g3⟩, fun y H4 ⟨T, x, x', ey, nT, e4, f4, f5⟩ => ?_⟩
                have := f4 vs hl
                rw [g1] at this
                cases this
                have := f5 ws hl2
                rw [g3] at this
                cases this
                subst ey e4
                obtain ⟨x5, r5⟩ := r3.newF (o := .tup [u, u2]) nT
                have hd' : PyData.tuple [c, c2] = d := Option.some.inj hd
                rw [← hd']
                exact ⟨_, x5, r5, .tup upd_same (.cons ((g2.mono s3).mono x5.same) (.cons ((g4.mono s3).mono x5.same) .nil))⟩
  · exact h1.elim⟩
end

/-! ### for -/
def forGo (g : QG) (t : QS) (P : PEnds) : List D → Ev → Prop
  | [], Γ => P.nx Γ
  | d :: r, Γ => g (.sh d) Γ fun Γ1 => t { P with nx := forGo g t P r, ct := forGo g t P r, bk := P.nx } Γ1
def qFor (i : QI) (g : QG) (t : QS) : QS := fun P Γ => i Γ (fun ds Γ1 => forGo g t P ds Γ1) P.ex
section
variable {X : Cx} {W : WX} {pos : Pos} {ts : TS} {ps : QS}
theorem ds_for {tg iter : Expr} {body : List Stmt} {wi : TI} {qi : QI} {g : TG} {qg : QG} {js : List Nat} (hp : PassesOwn (model X.prog X.w) X.A X.env X.xe) (hc : X.calm = true) (hi : DI X W tg iter wi qi) (hg : DG X tg g qg js) (hb : DSs X W body ts ps)
    (hs : ∀ x, foldedSetIterable iter X.env x = pure x := by intro _; rfl) : DS X W (.For tg iter body [] pos) (tFor wi g ts) (qFor qi qg ps) := ⟨ps_for hp hc hi.pi hg.pg hb.ps hs, fun {B F Γ σ H fp} P D r q a => by
  refine hi.si _ _ _ r q (fun ds Γ1 J F1 H1 fp1 x1 r1 ok h1 => ?_) a.afe
  refine ⟨fun i m σ' H' => m + i = ds.length ∧ ∃ Γ' F' fp', Ext B F1 F' ∧ Rel B F' Γ' σ' H' fp' ∧ forGo qg ps P (ds.drop i) Γ', ⟨ds.length, rfl, Γ1, F1, fp1, .refl, r1, h1⟩, ?_⟩
  rintro i m σ' H' ⟨hm, Γ', F', fp', x, r', hf⟩
  obtain ⟨o1, o2⟩ := ok B F' Γ' σ' H' fp' x.same r' i
  by_cases hlt : i < ds.length
  · obtain ⟨go, yld⟩ := o1 ds[i] (List.getElem?_eq_getElem hlt)
    refine .inr ⟨go, fun σ2 H2 => ∃ m', m' < m ∧ (m' + (i + 1) = ds.length ∧ ∃ Γ' F' fp', Ext B F1 F' ∧ Rel B F' Γ' σ2 H2 fp' ∧ forGo qg ps P (ds.drop (i + 1)) Γ'), fun σ2 H2 h => h, fun y H2 hy => ?_⟩
    obtain ⟨F2, x2, r2, b2⟩ := yld y H2 hy
    rw [List.drop_eq_getElem_cons hlt] at hf
    refine hg.sg _ _ r2 (.sh b2) hf fun Γ3 F3 σ3 fp3 x3 r3 _ h3 => ?_
    have xx := (x.trans x2).trans x3
    have am := a.mono (x1.trans xx)
    refine hb.ss _ _ r3 h3 ⟨fun Γ4 F4 σ4 H4 fp4 x4 r4 h4 => ⟨m - 1, by omega, by omega, Γ4, F4, fp4, xx.trans x4, r4, h4⟩, am.rt, am.nx, fun Γ4 F4 σ4 H4 fp4 x4 r4 h4 => ⟨m - 1, by omega, by omega, Γ4, F4, fp4, xx.trans x4, r4, h4⟩, am.ex⟩
  · refine .inl ⟨o2 (by omega), ?_⟩
    rw [List.drop_of_length_le (by omega)] at hf
    exact a.nx Γ' F' σ' H' fp' (x1.trans x) r' hf⟩
end
end PL

namespace PL
open PySem PySem.Spec PyProof.Rows L2

/-! ### comprehensions -/
/-- the slots vs forgotten; put back as they were in Γ0 -/
def wipEv (vs : List Nat) : Ev → Ev := fun Γ => vs.foldr (fun i Γ => Γ.set i .un) Γ
def backEv (Γ0 : Ev) (vs : List Nat) : Ev → Ev := fun Γ => vs.foldr (fun i Γ => Γ.set i ((Γ0[i]?).getD .un)) Γ
def isOw : Option Sl → Bool
  | some (.ow _) => true
  | _ => false
def noOw (Γ : Ev) (vs : List Nat) : Bool := vs.all fun i => !isOw Γ[i]?
theorem wipEv_length (Γ : Ev) : ∀ vs : List Nat, (wipEv vs Γ).length = Γ.length
  | [] => rfl
  | v :: vs => by
    show ((wipEv vs Γ).set v .un).length = _
    rw [List.length_set, wipEv_length Γ vs]
theorem backEv_length (Γ0 Γ : Ev) : ∀ vs : List Nat, (backEv Γ0 vs Γ).length = Γ.length
  | [] => rfl
  | v :: vs => by
    show ((backEv Γ0 vs Γ).set v _).length = _
    rw [List.length_set, backEv_length Γ0 Γ vs]
theorem wipEv_get (Γ : Ev) : ∀ (vs : List Nat) (i : Nat), (i ∈ vs ∧ ((wipEv vs Γ)[i]? = some .un ∨ (wipEv vs Γ)[i]? = none)) ∨ (i ∉ vs ∧ (wipEv vs Γ)[i]? = Γ[i]?)
  | [], i => .inr ⟨by simp, rfl⟩
  | v :: vs, i => by
    show (i ∈ v :: vs ∧ (((wipEv vs Γ).set v .un)[i]? = some .un ∨ ((wipEv vs Γ).set v .un)[i]? = none)) ∨ (i ∉ v :: vs ∧ ((wipEv vs Γ).set v .un)[i]? = Γ[i]?)
    by_cases e : v = i
    · subst e
      refine .inl ⟨List.mem_cons_self, ?_⟩
      rw [List.getElem?_set]
      simp only [if_true]
      split
      · exact .inl rfl
      · exact .inr rfl
    · rw [List.getElem?_set_ne e]
      rcases wipEv_get Γ vs i with ⟨h, q⟩ | ⟨h, q⟩
      · exact .inl ⟨List.mem_cons_of_mem _ h, q⟩
      · exact .inr ⟨fun z => by
          rcases List.mem_cons.mp z with z | z
          · exact e z.symm
          · exact h z, q⟩
theorem backEv_get (Γ0 Γ : Ev) (hl : Γ0.length = Γ.length) : ∀ (vs : List Nat) (i : Nat), (i ∈ vs ∧ (backEv Γ0 vs Γ)[i]? = Γ0[i]?) ∨ (i ∉ vs ∧ (backEv Γ0 vs Γ)[i]? = Γ[i]?)
  | [], i => .inr ⟨by simp, rfl⟩
  | v :: vs, i => by
    show (i ∈ v :: vs ∧ ((backEv Γ0 vs Γ).set v ((Γ0[v]?).getD .un))[i]? = Γ0[i]?) ∨ (i ∉ v :: vs ∧ ((backEv Γ0 vs Γ).set v ((Γ0[v]?).getD .un))[i]? = Γ[i]?)
    by_cases e : v = i
    · subst e
      refine .inl ⟨List.mem_cons_self, ?_⟩
      rw [List.getElem?_set]
      simp only [if_true]
      rw [backEv_length]
      split
      · rename_i h
        rw [← hl] at h
        rw [List.getElem?_eq_getElem h]
        rfl
      · rename_i h
        rw [← hl] at h
        rw [List.getElem?_eq_none (by omega)]
    · rw [List.getElem?_set_ne e]
      rcases backEv_get Γ0 Γ hl vs i with ⟨h, q⟩ | ⟨h, q⟩
      · exact .inl ⟨List.mem_cons_of_mem _ h, q⟩
      · exact .inr ⟨fun z => by
          rcases List.mem_cons.mp z with z | z
          · exact e z.symm
          · exact h z, q⟩
theorem wipe_get (σ : L2.St) : ∀ (vs : List Nat) (i : Nat), (i ∈ vs ∧ ((wipe σ vs)[i]? = some none ∨ (wipe σ vs)[i]? = none)) ∨ (i ∉ vs ∧ (wipe σ vs)[i]? = σ[i]?)
  | [], i => .inr ⟨by simp, rfl⟩
  | v :: vs, i => by
    show (i ∈ v :: vs ∧ (((wipe σ vs).set v none)[i]? = some none ∨ ((wipe σ vs).set v none)[i]? = none)) ∨ (i ∉ v :: vs ∧ ((wipe σ vs).set v none)[i]? = σ[i]?)
    by_cases e : v = i
    · subst e
      refine .inl ⟨List.mem_cons_self, ?_⟩
      rw [List.getElem?_set]
      simp only [if_true]
      split
      · exact .inl rfl
      · exact .inr rfl
    · rw [List.getElem?_set_ne e]
      rcases wipe_get σ vs i with ⟨h, q⟩ | ⟨h, q⟩
      · exact .inl ⟨List.mem_cons_of_mem _ h, q⟩
      · exact .inr ⟨fun z => by
          rcases List.mem_cons.mp z with z | z
          · exact e z.symm
          · exact h z, q⟩
/-- what the block's targets do is forgotten by wiping -/
theorem wipe_chg {σ σ2 : L2.St} {js vs : List Nat} (c : Chg js (wipe σ vs) σ2) (hj : ∀ j ∈ js, j ∈ vs) : wipe σ2 vs = wipe σ vs := by
  apply List.ext_getElem?
  intro i
  have hl : σ2.length = σ.length := by rw [c.1, wipe_length]
  rcases wipe_get σ2 vs i with ⟨h, q⟩ | ⟨h, q⟩
  · rcases wipe_get σ vs i with ⟨h', q'⟩ | ⟨h', q'⟩
    · by_cases hi : i < σ.length
      · have e1 : (wipe σ2 vs)[i]? ≠ none := by
          rw [List.getElem?_eq_getElem (by rw [wipe_length]; omega)]
          exact fun z => nomatch z
        have e2 : (wipe σ vs)[i]? ≠ none := by
          rw [List.getElem?_eq_getElem (by rw [wipe_length]; omega)]
          exact fun z => nomatch z
        rcases q with q | q
        · rcases q' with q' | q'
          · rw [q, q']
          · exact absurd q' e2
        · exact absurd q e1
      · rw [List.getElem?_eq_none (by rw [wipe_length]; omega), List.getElem?_eq_none (by rw [wipe_length]; omega)]
    · exact absurd h h'
  · rw [q]
    exact c.2 i fun z => h (hj i z)
section
variable {B F : Hp} {Γ Γ' : Ev} {σ σ' : L2.St} {H : Hp} {fp : Nat → List Addr}
/-- fewer slots are known -/
theorem Rel.sub (r : Rel B F Γ σ H fp) (hl : Γ'.length = σ'.length) (h : ∀ (i : Nat) (s : Sl), Γ'[i]? = some s → s = .un ∨ (Γ[i]? = some s ∧ σ'[i]? = σ[i]?)) : Rel B F Γ' σ' H fp := by
  refine ⟨r.bx, r.fx, hl, fun i d e => ?_, fun i o e => ?_, r.nb, r.dj, fun i a e => ?_⟩
  · rcases h i _ e with q | ⟨q, z⟩
    · cases q
    · rw [z]
      exact r.sh i d q
  · rcases h i _ e with q | ⟨q, z⟩
    · cases q
    · rw [z]
      exact r.ow i o q
  · rcases h i _ e with q | ⟨q, z⟩
    · cases q
    · rw [z]
      exact r.ex i a q
theorem Rel.wip (r : Rel B F Γ σ H fp) (vs : List Nat) : Rel B F (wipEv vs Γ) (wipe σ vs) H fp := by
  refine r.sub (by rw [wipEv_length, wipe_length]; exact r.len) fun i s e => ?_
  rcases wipEv_get Γ vs i with ⟨h, q⟩ | ⟨h, q⟩
  · rcases q with q | q
    · rw [q] at e
      exact .inl (Option.some.inj e).symm
    · rw [q] at e
      cases e
  · rw [q] at e
    rcases wipe_get σ vs i with ⟨h', _⟩ | ⟨_, q'⟩
    · exact absurd h' h
    · exact .inr ⟨e, q'⟩
/-- behind the block: its slots as they were -/
theorem Rel.back {Γ2 : Ev} {F2 H2 : Hp} {fp2 : Nat → List Addr} {vs : List Nat} (r : Rel B F Γ σ H fp) (ho : noOw Γ vs = true) (x : Same F F2) (r2 : Rel B F2 Γ2 (wipe σ vs) H2 fp2) : Rel B F2 (backEv Γ vs Γ2) σ H2 fp2 := by
  have hl : Γ.length = Γ2.length := by rw [r.len, r2.len, wipe_length]
  refine ⟨r2.bx, r2.fx, by rw [backEv_length, r2.len, wipe_length], fun i d e => ?_, fun i o e => ?_, r2.nb, r2.dj, fun i a e => ?_⟩
  · rcases backEv_get Γ Γ2 hl vs i with ⟨h, q⟩ | ⟨h, q⟩
    · rw [q] at e
      obtain ⟨v, h1, h2⟩ := r.sh i d e
      exact ⟨v, h1, h2.mono x⟩
    · rw [q] at e
      obtain ⟨v, h1, h2⟩ := r2.sh i d e
      rcases wipe_get σ vs i with ⟨h', _⟩ | ⟨_, q'⟩
      · exact absurd h' h
      · exact ⟨v, by rw [← q']; exact h1, h2⟩
  · rcases backEv_get Γ Γ2 hl vs i with ⟨h, q⟩ | ⟨h, q⟩
    · rw [q] at e
      unfold noOw at ho
      rw [List.all_eq_true] at ho
      have := ho i h
      rw [e] at this
      cases this
    · rw [q] at e
      obtain ⟨v, h1, h2⟩ := r2.ow i o e
      rcases wipe_get σ vs i with ⟨h', _⟩ | ⟨_, q'⟩
      · exact absurd h' h
      · exact ⟨v, by rw [← q']; exact h1, h2⟩
  · rcases backEv_get Γ Γ2 hl vs i with ⟨h, q⟩ | ⟨h, q⟩
    · rw [q] at e
      exact r.ex i a e
    · rw [q] at e
      have h1 := r2.ex i a e
      rcases wipe_get σ vs i with ⟨h', _⟩ | ⟨_, q'⟩
      · exact absurd h' h
      · rw [← q']
        exact h1
/-- an own object that no slot holds -/
def OwnV (B F H : Hp) (fp : Nat → List Addr) (v : V) (o : O) : Prop := ∃ f, RO F H v o f ∧ ∀ a ∈ f, B a = none ∧ F a = none ∧ ∀ i, a ∉ fp i
theorem OwnV.rw {v : V} {o : O} (h : OwnV B F H fp v o) : RW B F Γ σ H fp v (.ow o) := by
  obtain ⟨f, h1, h2⟩ := h
  exact .ow h1 h2
theorem RW.own {v : V} {o : O} (h : RW B F Γ σ H fp v (.ow o)) : OwnV B F H fp v o := by
  cases h with
  | ow h1 h2 => exact ⟨_, h1, h2⟩
/-- it is held while something else is worked out -/
theorem Rel.hold {v : V} {o : O} (r : Rel B F Γ σ H fp) (h : OwnV B F H fp v o) :
    ∃ B', Rel B' F Γ σ H fp ∧ ∀ F2 Γ2 σ2 H2 fp2, Ext B' F F2 → Rel B' F2 Γ2 σ2 H2 fp2 → Ext B F F2 ∧ Rel B F2 Γ2 σ2 H2 fp2 ∧ OwnV B F2 H2 fp2 v o := by
  obtain ⟨f, h, hf⟩ := h
  have nB : ∀ a ∈ f, B a = none := fun a ha => (hf a ha).1
  have bb : Same B (frz B H f) := frz_same nB
  have bn : ∀ a, frz B H f a = none → a ∉ f ∧ B a = none := fun a e => by
    have nf : a ∉ f := fun z => by
      unfold frz at e
      rw [if_pos z] at e
      exact h.mem a z e
    refine ⟨nf, ?_⟩
    unfold frz at e
    rw [if_neg nf] at e
    exact e
  refine ⟨frz B H f, ⟨frz_sub r.bx, r.fx, r.len, r.sh, r.ow, fun i a ha => ?_, r.dj, r.ex⟩, fun F2 Γ2 σ2 H2 fp2 x r2 => ⟨⟨x.same, fun a q e => (bn a (x.new a q e)).2⟩, ⟨bb.trans r2.bx, r2.fx, r2.len, r2.sh, r2.ow, fun i a ha => ?_, r2.dj, r2.ex⟩, f, ?_, fun a ha => ⟨nB a ha, ?_, fun i hi => ?_⟩⟩⟩
  · obtain ⟨b, c, d⟩ := r.nb i a ha
    refine ⟨?_, c, d⟩
    unfold frz
    rw [if_neg fun z => (hf a z).2.2 i ha]
    exact b
  · obtain ⟨b, c, d⟩ := r2.nb i a ha
    exact ⟨(bn a b).2, c, d⟩
  · refine h.mono x.same fun a ha => ?_
    cases q : H a with
    | none => exact absurd q (h.mem a ha)
    | some u => exact r2.bx a u (by unfold frz; rw [if_pos ha]; exact q)
  · cases q : F2 a with
    | none => rfl
    | some u => exact absurd ha (bn a (x.new a (by rw [q]; exact fun z => nomatch z) (hf a ha).2.1)).1
  · exact (bn a (r2.nb i a hi).1).1 ha
/-- an item appended to a list that only this value holds -/
theorem own_app {Dl : Addr} {acc : List D} {y : V} {d : D} (r : Rel B F Γ σ H fp) (h : OwnV B F H fp (.ref Dl) (.l acc)) (hy : Rp F y d) :
    ∃ xs, H Dl = some (.lst xs) ∧ xs.length = acc.length ∧ Rel B F Γ σ (upd H Dl (.lst (xs ++ [y]))) fp ∧ OwnV B F (upd H Dl (.lst (xs ++ [y]))) fp (.ref Dl) (.l (acc ++ [d])) := by
  obtain ⟨f, h, hf⟩ := h
  cases h with
  | @l a xs ds e t =>
    obtain ⟨b1, b2, b3⟩ := hf Dl (by simp)
    refine ⟨xs, e, t.length, ⟨fun a u q => ?_, fun a u q => ?_, r.len, r.sh, fun i o q => ?_, fun i a ha => ?_, r.dj, r.ex⟩, [Dl], .l upd_same (t.append (.cons hy .nil)), hf⟩
    · rw [upd_ne fun z => by subst z; rw [b1] at q; cases q]
      exact r.bx a u q
    · rw [upd_ne fun z => by subst z; rw [b2] at q; cases q]
      exact r.fx a u q
    · obtain ⟨v, h1, h2⟩ := r.ow i o q
      exact ⟨v, h1, h2.mono (Same.refl F) fun a ha => upd_ne fun z => b3 i (by rw [← z]; exact ha)⟩
    · obtain ⟨c1, c2, c3⟩ := r.nb i a ha
      refine ⟨c1, c2, ?_⟩
      rw [upd_ne fun z => b3 i (by rw [← z]; exact ha)]
      exact c3
end

def noEX : EXP := fun _ _ => False
/-- the turns of a list comprehension -/
def lcGo (vs : List Nat) (g : QG) (t : QT) (p : QE) (k : List D → Ev → Prop) : List D → List D → Ev → Prop
  | [], acc, Γ => k acc Γ
  | d :: r, acc, Γ => g (.sh d) Γ fun Γ1 => t Γ1 (fun b Γ2 => Cif b (p Γ2 (fun w Γ3 => shr w Γ3 fun y Γ4 => acc.length < sizeLine ∧ lcGo vs g t p k r (acc ++ [y]) (wipEv vs Γ4)) noEX) (lcGo vs g t p k r acc (wipEv vs Γ2))) noEX
def qLc (vs : List Nat) (i : QI) (g : QG) (t : QT) (p : QE) : QE := fun Γ R E => i Γ (fun ds Γ1 => noOw Γ1 vs = true ∧ lcGo vs g t p (fun acc Γ2 => R (.ow (.l acc)) (backEv Γ1 vs Γ2)) ds [] (wipEv vs Γ1)) E
section
variable {W : WX} {wi : TI} {qi : QI} {g : TG} {qg : QG} {js : List Nat} {tt : TT} {qt : QT} {te : TE} {qe : QE} {vs : List Nat}
theorem afe_no {W : WX} {B F : Hp} {σ : L2.St} : AfE W B F σ noEX := fun _ _ _ _ _ _ _ h => h.elim
theorem se_lc (hi : SI W wi qi) (hg : SG g qg js) (ht : ST (fun _ _ _ _ => False) tt qt) (he : SE (fun _ _ _ _ => False) te qe) (hj : ∀ j ∈ js, j ∈ vs) : SE W (tLc wi g tt te vs) (qLc vs qi qg qt qe) := fun {B F Γ σ H fp} R EX Q r q k e => by
  refine hi _ _ _ r q (fun ds Γ1 J F1 H1 fp1 x1 r1 ok h1 => ?_) e
  obtain ⟨ho, h1⟩ := h1
  intro Dl hD
  have r2 : Rel B F1 (wipEv vs Γ1) (wipe σ vs) H1 fp1 := r1.wip vs
  obtain ⟨r3, v3⟩ := new_lst r2 (.nil) hD
  refine ⟨fun i m H' => m + i = ds.length ∧ ∃ Γ' F' fp' acc, Ext B F1 F' ∧ Rel B F' Γ' (wipe σ vs) H' fp' ∧ OwnV B F' H' fp' (.ref Dl) (.l acc) ∧
    lcGo vs qg qt qe (fun acc Γ2 => R (.ow (.l acc)) (backEv Γ1 vs Γ2)) (ds.drop i) acc Γ', ⟨ds.length, rfl, _, F1, fp1, [], .refl, r3, v3.own, h1⟩, ?_⟩
  rintro i m H' ⟨hm, Γ', F', fp', acc, x, r', v', hf⟩
  obtain ⟨o1, o2⟩ := ok B F' Γ' _ H' fp' x.same r' i
  by_cases hlt : i < ds.length
  · obtain ⟨B', rB, gd⟩ := r'.hold v'
    obtain ⟨go, yld⟩ := (ok B' F' Γ' _ H' fp' x.same rB i).1 ds[i] (List.getElem?_eq_getElem hlt)
    refine .inr ⟨go, fun H2 => ∃ m', m' < m ∧ (m' + (i + 1) = ds.length ∧ ∃ Γ' F' fp' acc, Ext B F1 F' ∧ Rel B F' Γ' (wipe σ vs) H2 fp' ∧ OwnV B F' H2 fp' (.ref Dl) (.l acc) ∧
      lcGo vs qg qt qe (fun acc Γ2 => R (.ow (.l acc)) (backEv Γ1 vs Γ2)) (ds.drop (i + 1)) acc Γ'), fun H2 h => h, fun y H2 hy => ?_⟩
    obtain ⟨F2, x2, r2, b2⟩ := yld y H2 hy
    rw [List.drop_eq_getElem_cons hlt] at hf
    refine hg _ _ r2 (.sh b2) hf fun Γ3 F3 σ3 fp3 x3 r3 c3 h3 => ?_
    have hw : wipe σ3 vs = wipe σ vs := wipe_chg c3 hj
    refine ⟨hw, ht _ noEX _ r3 h3 (fun b Γ4 F4 H4 fp4 x4 r4 h4 => ?_) afe_no⟩
    have x24 := (x2.trans x3).trans x4
    cases b with
    | true =>
      refine he _ noEX _ r4 (h4.t rfl) (fun w5 Γ5 z F5 H5 fp5 x5 r5 v5 h5 => ?_) afe_no
      obtain ⟨d6, Γ6, F6, fp6, x6, r6, b6, hsz, h6⟩ := shr_ok r5 v5 h5
      have r7 := r6.wip vs
      rw [hw] at r7
      obtain ⟨y8, r8, v8⟩ := gd F6 _ _ H5 fp6 ((x24.trans x5).trans x6) r7
      obtain ⟨xs, e9, l9, r9, v9⟩ := own_app r8 v8 b6
      exact ⟨xs, e9, by rw [l9]; exact hsz, m - 1, by omega, by omega, _, F6, fp6, _, x.trans y8, r9, v9, h6⟩
    | false =>
      have r7 := r4.wip vs
      rw [hw] at r7
      obtain ⟨y8, r8, v8⟩ := gd F4 _ _ H4 fp4 x24 r7
      exact ⟨m - 1, by omega, by omega, _, F4, fp4, acc, x.trans y8, r8, v8, h4.f rfl⟩
  · refine .inl ⟨o2 (by omega), ?_⟩
    rw [List.drop_of_length_le (by omega)] at hf
    exact k _ _ _ F' H' fp' (x1.trans x) (r1.back ho x.same r') v'.rw hf
end

section
variable {X : Cx} {W : WX} {pos : Pos} {e tg iter elt : Expr} {wi : TI} {qi : QI} {g : TG} {qg : QG} {js : List Nat} {tt : TT} {qt : QT} {te : TE} {qe : QE} {ifs : List Expr} {scope : Scope} {own : List (Str × Nat)}
abbrev W0 : WX := fun _ _ _ _ => False
structure DTs (X : Cx) (W : WX) (ifs : List Expr) (tt : TT) (p : QT) : Prop where
  pt : PTs X ifs tt
  st : ST W tt p
def qYes : QT := fun Γ R _ => R true Γ
theorem dts_nil : DTs X W [] tYes qYes := ⟨pts_nil, fun {B F Γ σ H fp} R EX Q r h k _ => k true Γ F H fp .refl r h⟩
theorem dts_one {c : Expr} (h : DT X W c tt qt) : DTs X W [c] tt qt := ⟨pts_one h.pt, h.st⟩
theorem d_lc (hc : X.calm = true) (hN : X.N.Nodup) (hi : DI X W tg iter wi qi) (ok : BlkOk X.N X.env.scope scope own)
    (hg : ∀ (s : Shared) (H : Hp) (C : Addr) (cl : List (Str × Addr)) (fp : List Addr), DG (X.blk s H scope (compEnvC scope cl C X.env) fp) tg g qg js)
    (ht : ∀ (s : Shared) (H : Hp) (C : Addr) (cl : List (Str × Addr)) (fp : List Addr), DTs (X.blk s H scope (compEnvC scope cl C X.env) fp) W0 ifs tt qt)
    (he : ∀ (s : Shared) (H : Hp) (C : Addr) (cl : List (Str × Addr)) (fp : List Addr), DE (X.blk s H scope (compEnvC scope cl C X.env) fp) W0 elt te qe) (hj : (∀ j ∈ js, j ∈ own.map (·.2)) := by decide) (hs : ∀ x, foldedSetIterable iter X.env x = pure x := by intro _; rfl) :
    DE X W (.ListComp elt [⟨tg, iter, ifs, 0⟩] scope pos) (tLc wi g tt te (own.map (·.2))) (qLc (own.map (·.2)) qi qg qt qe) :=
  ⟨pe_lc hc hN hi.pi ok (fun s H C cl fp => (hg s H C cl fp).pg) (fun s H C cl fp => (ht s H C cl fp).pt) (fun s H C cl fp => (he s H C cl fp).pe) hs,
   se_lc hi.si (hg ({} : Shared) (fun _ => none) 0 [] []).sg (ht ({} : Shared) (fun _ => none) 0 [] []).st (he ({} : Shared) (fun _ => none) 0 [] []).se hj⟩
/-- name = [..] on one line -/
theorem ds_setLc {i : Nat} {y : Str} {py spos : Pos} (hc : X.calm = true) (hN : X.N.Nodup) (hi : DI X W tg iter wi qi) (ok : BlkOk X.N X.env.scope scope own)
    (hg : ∀ (s : Shared) (H : Hp) (C : Addr) (cl : List (Str × Addr)) (fp : List Addr), DG (X.blk s H scope (compEnvC scope cl C X.env) fp) tg g qg js)
    (ht : ∀ (s : Shared) (H : Hp) (C : Addr) (cl : List (Str × Addr)) (fp : List Addr), DTs (X.blk s H scope (compEnvC scope cl C X.env) fp) W0 ifs tt qt)
    (he : ∀ (s : Shared) (H : Hp) (C : Addr) (cl : List (Str × Addr)) (fp : List Addr), DE (X.blk s H scope (compEnvC scope cl C X.env) fp) W0 elt te qe)
    (hsw : swapsWith (.ListComp elt [⟨tg, iter, ifs, 0⟩] scope pos) (some (.Name y py)) spos.line X.env = pure true)
    (hy : X.N[i]? = some y := by rfl) (hyl : X.env.scope.names.lookup y = some .local := by rfl) (hj : (∀ j ∈ js, j ∈ own.map (·.2)) := by decide) (hs : ∀ x, foldedSetIterable iter X.env x = pure x := by intro _; rfl) :
    DS X W (.Assign [.Name y py] (.ListComp elt [⟨tg, iter, ifs, 0⟩] scope pos) spos) (tAsg (tLc wi g tt te (own.map (·.2))) (gName i)) (qAsg (qLc (own.map (·.2)) qi qg qt qe) (qgN i)) :=
  ⟨ps_setLc hc hN hy hyl hsw hi.pi ok (fun s H C cl fp => (hg s H C cl fp).pg) (fun s H C cl fp => (ht s H C cl fp).pt) (fun s H C cl fp => (he s H C cl fp).pe) hs,
   ss_asg (se_lc hi.si (hg ({} : Shared) (fun _ => none) 0 [] []).sg (ht ({} : Shared) (fun _ => none) 0 [] []).st (he ({} : Shared) (fun _ => none) 0 [] []).se hj) sg_name⟩
end
end PL

namespace PL
open PySem PySem.Spec PyProof.Rows L2

/-! ### a def's promise, over data -/
abbrev PD := List D → (Wv → Prop) → Prop
inductive RR (B F H : Hp) (v : V) : Wv → Prop
  | sh {d : D} : Rp F v d → RR B F H v (.sh d)
  | ow {o : O} {f : List Addr} : RO F H v o f → (∀ a ∈ f, B a = none ∧ F a = none) → RR B F H v (.ow o)
def spD (n : Nat) (p : PD) : Sp := fun vs H Q _ => ∃ (F : Hp) (ds : List D) (R : Wv → Prop), Same F H ∧ RpA F vs ds ∧ ds.length = n ∧ p ds R ∧ ∀ w v F' H', Ext H F F' → Same H H' → Same F' H' → RR H F' H' v w → R w → Q v H'
def qCall (n : Nat) (p : PD) (a : QA) : QE := fun Γ R E => a Γ (fun ds Γ1 => ds.length = n ∧ p ds fun w => R w Γ1) E
theorem se_call {W : WX} {ta : TA} {pa : QA} {n : Nat} {p : PD} {E : XK} (ha : SA W ta pa) : SE W (tCall (spD n p) [] E ta) (qCall n p pa) := fun {B F Γ σ H fp} R EX Q r q k e => by
  refine ha _ _ _ r q (fun ds Γ1 vs F1 H1 fp1 x1 r1 b1 h1 => ?_) e
  rw [List.append_nil]
  refine ⟨F1, ds, _, r1.fx, b1, h1.1, h1.2, fun w v F2 H2 x2 s2 f2 rr hw => ?_⟩
  have nf : ∀ a, H1 a ≠ none → F1 a = none → F2 a = none := fun a h e => by
    cases z : F2 a with
    | none => rfl
    | some u => exact absurd (x2.new a (by rw [z]; exact fun z => nomatch z) e) h
  have r2 : Rel B F2 Γ1 σ H2 fp1 := ⟨r1.bx.trans s2, f2, r1.len, fun i d e => by
    obtain ⟨v, g1, g2⟩ := r1.sh i d e
    exact ⟨v, g1, g2.mono x2.same⟩, fun i o e => by
    obtain ⟨v, g1, g2⟩ := r1.ow i o e
    refine ⟨v, g1, g2.mono x2.same fun a ha => ?_⟩
    cases z : H1 a with
    | none => exact absurd z (r1.nb i a ha).2.2
    | some u => exact s2 a u z, fun i a ha => by
    obtain ⟨b, c, d⟩ := r1.nb i a ha
    refine ⟨b, nf a d c, fun z => d (s2.free z)⟩, r1.dj, r1.ex⟩
  have xx : Ext B F1 F2 := ⟨x2.same, fun a h e => r1.bx.free (x2.new a h e)⟩
  refine k w Γ1 v F2 H2 fp1 (x1.trans xx) r2 ?_ hw
  cases rr with
  | sh h => exact .sh h
  | @ow o f h hf =>
    refine .ow h fun a ha => ⟨r1.bx.free (hf a ha).1, (hf a ha).2, fun i hi => ?_⟩
    exact (r1.nb i a hi).2.2 (hf a ha).1
/-- a def that may be called by its name -/
structure Cal (P : Program) (w : World) (K : PySem.W.Frag) (mg : Str → Option Value) (base : Heap) (k : Nat) (x : Str) (sp : Sp) : Prop where
  ex : ∃ (f : Addr) (fd : FuncData) (ps : List Str), FnOk P w K mg base CX0 k f fd ps sp ∧ mg x = some (.ref f) ∧ PySem.W.keepIn K (.ref f) = true ∧ Binds K fd ps []
section
variable {X : Cx} {W : WX} {pos p : Pos} {e : Expr} {es : List Expr} {ta : TA} {pa : QA} {n : Nat} {q : PD} {x : Str} {j k : Nat}
theorem d_call (c : Cal X.prog X.w X.K X.mg X.base k x (spD n q)) (hr : Room j X.A) (ha : DA X W (e :: es) ta pa) (hk : k ≤ j := by decide) (hg : Gl X x := by rfl) (hdb : (x == ("__debug__" : Str)) = false := by decide)
    (he : starEach (e :: es) X.env = (false, eval e X.env) :: starEach es X.env := by rfl) (hpl : (backTo pos (starEach es X.env)).any (·.1) = false := by rfl) :
    DE X W (.Call (.Name x p) (e :: es) [] pos) (tCall (spD n q) [] E0 ta) (qCall n q pa) := ⟨by
  obtain ⟨f, fd, ps, F, hm, kp, b⟩ := c.ex
  exact pe_call F (hr.mono hk) hg hm kp b .nil pass0 ha.pa hdb he hpl, se_call ha.sa⟩
theorem d_call0 (c : Cal X.prog X.w X.K X.mg X.base k x (spD n q)) (hr : Room j X.A) (hk : k ≤ j := by decide) (hg : Gl X x := by rfl) (hdb : (x == ("__debug__" : Str)) = false := by decide) :
    DE X W (.Call (.Name x p) [] [] pos) (tCall (spD n q) [] E0 tNil) (qCall n q qNil) := ⟨by
  obtain ⟨f, fd, ps, F, hm, kp, b⟩ := c.ex
  exact pe_call0 F (hr.mono hk) hg hm kp b .nil pass0 hdb, se_call (fun {B F Γ σ H fp} R EX Q r h k _ => k [] Γ [] F H fp .refl r .nil h)⟩
end
/-- the ends of a def -/
def retW (R : Wv → Prop) : Wv → Ev → Prop := fun w Γ => match w with
  | .sh d => R (.sh d)
  | .ow o => R (.ow o)
  | .at i => match Γ[i]? with
    | some (.sh d) => R (.sh d)
    | some (.ow o) => R (.ow o)
    | _ => False
def endsOf (R : Wv → Prop) : PEnds := ⟨fun _ => R (.sh .none), retW R, fun _ => False, fun _ => False, fun _ _ => False⟩
def startEv (n : Nat) (ds : List D) : Ev := ds.map .sh ++ List.replicate (n - ds.length) .un
theorem rel_start {F H : Hp} {N : List Str} {vs : List V} {ds : List D} (f : Same F H) (b : RpA F vs ds) (hl : ds.length ≤ N.length) : Rel H F (startEv N.length ds) (L2.start N vs) H (fun _ => []) := by
  have e := b.length
  refine ⟨Same.refl H, f, by simp [startEv, L2.start, e], fun i d q => ?_, fun i o q => ?_, fun i a h => by simp at h, fun i j a h => by simp at h, fun i a q => ?_⟩
  · unfold startEv at q
    rw [List.getElem?_append] at q
    split at q
    · rename_i hi
      rw [List.getElem?_map] at q
      cases z : ds[i]? with
      | none =>
        rw [z] at q
        cases q
      | some d' =>
        rw [z] at q
        cases q
        obtain ⟨v, g1, g2⟩ := b.get z
        refine ⟨v, ?_, g2⟩
        unfold L2.start
        rw [List.getElem?_append_left (by simpa [e] using hi), List.getElem?_map, g1]
        rfl
    · rw [List.getElem?_replicate] at q
      split at q <;> cases q
  · unfold startEv at q
    rw [List.getElem?_append] at q
    split at q
    · rw [List.getElem?_map] at q
      cases z : ds[i]? with
      | none =>
        rw [z] at q
        cases q
      | some d' =>
        rw [z] at q
        cases q
    · rw [List.getElem?_replicate] at q
      split at q <;> cases q
  · unfold startEv at q
    rw [List.getElem?_append] at q
    split at q
    · rw [List.getElem?_map] at q
      cases z : ds[i]? with
      | none =>
        rw [z] at q
        cases q
      | some d' =>
        rw [z] at q
        cases q
    · rw [List.getElem?_replicate] at q
      split at q <;> cases q
section
variable {P : Program} {w : World} {K : PySem.W.Frag} {mg : Str → Option Value} {base : Heap}
/-- the binding of n positional arguments -/
theorem cal_mk {x : Str} {st : Stmt} {f : Addr} {fd : FuncData} {N ps : List Str} {k : Nat} {q : PD} (F : L2.Fun K x x st f fd) (hm : mg x = some (.ref f)) (b : Binds K fd ps []) (S : L2.FnScope N ps (L2.defScope st))
    (hbody : ∀ (cdv : Value) (A : Around) (outer : List Env) (s : Shared) (H : Hp) (E : XK), Room k (A.deeper (envOfC x (L2.defScope st) s.heap.objs.size f cdv)) →
      ∃ t p', DSs (cxOf CX0 P w K mg base N x (L2.defScope st) f cdv A outer s H E).nox W0 (L2.defBody st) t p' ∧ ∀ ds R, ds.length = ps.length → q ds R → p' (endsOf R) (startEv N.length ds)) :
    Cal P w K mg base (k + 1) x (spD ps.length q) := by
  have hN : ps.length ≤ N.length := by
    have := congrArg List.length S.pre
    rw [List.length_take] at this
    omega
  refine ⟨f, fd, ps, L2.Fun.ok F S (fun vs H Q E h => ?_) fun cdv A outer s H vs Q E hr h => ?_, hm, F.kp, b⟩
  · obtain ⟨F, ds, R, _, b, hl, _⟩ := h
    rw [b.length, hl]
  · obtain ⟨t, p', hd, hq⟩ := hbody cdv A outer s H E hr
    obtain ⟨F0, ds, R, f0, b, hl, h1, h2⟩ := h
    refine ⟨t, hd.ps, hd.ss (endsOf R) _ (rel_start f0 b (by omega)) (hq ds R hl h1) ⟨fun Γ' F' σ' H' fp' x r z => ?_, fun w Γ' v F' σ' H' fp' x r rw z => ?_, fun _ _ _ _ _ _ _ z => z.elim, fun _ _ _ _ _ _ _ z => z.elim, fun _ _ _ _ _ _ _ _ z => z.elim⟩⟩
    · exact h2 _ _ F' H' x r.bx r.fx (.sh .non) z
    · cases rw with
      | sh h => exact h2 _ _ F' H' x r.bx r.fx (.sh h) z
      | ow h hf => exact h2 _ _ F' H' x r.bx r.fx (.ow h fun a ha => ⟨(hf a ha).1, (hf a ha).2.1⟩) z
      | @«at» i h =>
        unfold endsOf retW at z
        simp only at z
        split at z
        · rename_i d e
          obtain ⟨u, g1, g2⟩ := r.sh i d e
          rw [h] at g1
          cases g1
          exact h2 _ _ F' H' x r.bx r.fx (.sh g2) z
        · rename_i o e
          obtain ⟨u, g1, g2⟩ := r.ow i o e
          rw [h] at g1
          cases g1
          exact h2 _ _ F' H' x r.bx r.fx (.ow g2 fun a ha => ⟨(r.nb i a ha).1, (r.nb i a ha).2.1⟩) z
        · exact z.elim
end

/-! ### operators -/
section
variable {X : Cx}
theorem OpS.or {r r' : R2} {o : OP2} (h : OpS r o) : OpS (fun x y H Q => r x y H Q ∨ r' x y H Q) o := fun {B F Γ σ H fp x y d1 d2} k Q rr b1 b2 z c => .inl (h k Q rr b1 b2 z c)
/-- a scalar result -/
theorem op_sc {B F : Hp} {Γ : Ev} {σ : L2.St} {H : Hp} {fp : Nat → List Addr} {k : Wv → Prop} {Q : VK} {v : V} {d : D} (r : Rel B F Γ σ H fp) (h : Rp F v d) (c : ∀ w v F' H', Ext B F F' → Rel B F' Γ σ H' fp → RW B F' Γ σ H' fp v w → k w → Q v H') (z : k (.sh d)) : Q v H :=
  c _ v F H .refl r (.sh h) z

def rAdd : R2 := fun x y H Q => rI0 (fun i j => .int (i + j)) x y H Q ∨ (∃ i j, x = .str i ∧ y = .str j ∧ i.length + j.length ≤ sizeLine ∧ Q (.str (i ++ j)) H) ∨ rCat x y H Q
def rAddT (K : PySem.W.Frag) : R2 := fun x y H Q => rAdd x y H Q ∨ rCatA K x y H Q
theorem or_add : OpR X (binaryOp .Add) (rAddT X.K) := OpR.or (OpR.or op_add (OpR.or op_add_str op_cat)) op_catA
def opAdd : OP2 := fun d1 d2 k => match d1, d2 with
  | .int i, .int j => k (.sh (.int (i + j)))
  | .str a, .str b => a.length + b.length ≤ sizeLine ∧ k (.sh (.str (a ++ b)))
  | .list xs, .list ys => xs.length + ys.length ≤ sizeLine ∧ k (.ow (.l (xs ++ ys)))
  | .tuple xs, .tuple ys => xs.length + ys.length ≤ sizeLine ∧ k (.sh (.tuple (xs ++ ys)))
  | _, _ => False
theorem strOk_app {a b : Str} (h : PyData.strOk a = true) (h' : PyData.strOk b = true) : PyData.strOk (a ++ b) = true := by
  show (a.cps ++ b.cps).all (· < 0x110000) = true
  rw [Array.all_append]
  exact Bool.and_eq_true_iff.mpr ⟨h, h'⟩
theorem os_add {K : PySem.W.Frag} : OpS (rAddT K) opAdd := fun {B F Γ σ H fp x y d1 d2} k Q r b1 b2 z c => by
  cases b1 with
  | int i =>
    cases b2 with
    | int j => exact .inl (.inl ⟨i, j, rfl, rfl, op_sc r (.int _) c z⟩)
    | _ => exact z.elim
  | str a ha =>
    cases b2 with
    | str b hb => exact .inl (.inr (.inl ⟨a, b, rfl, rfl, z.1, op_sc r (.str _ (strOk_app ha hb)) c z.2⟩))
    | _ => exact z.elim
  | @lst a xs ds e t =>
    cases b2 with
    | @lst b ys es e' t' =>
      refine .inl (.inr (.inr ⟨a, b, xs, ys, rfl, rfl, e, e', by rw [t.length, t'.length]; exact z.1, fun p hp => ?_⟩))
      obtain ⟨r', v'⟩ := new_lst r (t.append t') hp
      exact c _ _ F _ .refl r' v' z.2
    | _ => exact z.elim
  | @tup a xs ds e e0 t =>
    cases b2 with
    | @tup b ys es e' e0' t' =>
      refine .inr ⟨a, b, xs, ys, rfl, rfl, .inl (.inl e0), .inl (.inl e0'), by rw [t.length, t'.length]; exact z.1, fun h => ?_, fun h h' => ?_, fun h h' p hp => ?_⟩
      · subst h
        cases t
        exact c _ _ F H .refl r (.sh (.tup e' t')) z.2
      · subst h'
        cases t'
        have z2 := z.2
        rw [List.append_nil] at z2
        exact c _ _ F H .refl r (.sh (.tup e t)) z2
      · obtain ⟨x', r', v'⟩ := new_tup r (t.append t') hp
        exact c _ _ _ _ x' r' v' z.2
    | _ => exact z.elim
  | _ => cases b2 <;> exact z.elim
theorem d_add {W : WX} {pos : Pos} {a b : Expr} {ta tb : TE} {pa pb : QE} (ha : DE X W a ta pa) (hb : DE X W b tb pb) : DE X W (.BinOp a .Add b pos) (tOp (rAddT X.K) ta tb) (qOp opAdd pa pb) := d_op or_add os_add ha hb

/-- two ints -/
def opI2 (C : Int → Int → Prop) (f : Int → Int → D) : OP2 := fun d1 d2 k => match d1, d2 with
  | .int i, .int j => C i j ∧ k (.sh (f i j))
  | _, _ => False
theorem os_I {C : Int → Int → Prop} {g : Int → Int → V} {f : Int → Int → D} (h : ∀ F i j, Rp F (g i j) (f i j)) : OpS (rI C g) (opI2 C f) := fun {B F Γ σ H fp x y d1 d2} k Q r b1 b2 z c => by
  cases b1 with
  | int i =>
    cases b2 with
    | int j => exact ⟨i, j, rfl, rfl, z.1, op_sc r (h F i j) c z.2⟩
    | _ => exact z.elim
  | _ => cases b2 <;> exact z.elim
def opI20 (f : Int → Int → D) : OP2 := fun d1 d2 k => match d1, d2 with
  | .int i, .int j => k (.sh (f i j))
  | _, _ => False
theorem os_I0 {g : Int → Int → V} {f : Int → Int → D} (h : ∀ F i j, Rp F (g i j) (f i j)) : OpS (rI0 g) (opI20 f) := fun {B F Γ σ H fp x y d1 d2} k Q r b1 b2 z c => by
  cases b1 with
  | int i =>
    cases b2 with
    | int j => exact ⟨i, j, rfl, rfl, op_sc r (h F i j) c z⟩
    | _ => exact z.elim
  | _ => cases b2 <;> exact z.elim
variable {W : WX} {pos : Pos} {a b : Expr} {ta tb : TE} {pa pb : QE}
abbrev opSub : OP2 := opI20 fun i j => .int (i - j)
theorem d_sub (ha : DE X W a ta pa) (hb : DE X W b tb pb) : DE X W (.BinOp a .Sub b pos) (tOp (rI0 fun i j => .int (i - j)) ta tb) (qOp opSub pa pb) := d_op op_sub (os_I0 fun _ _ _ => .int _) ha hb
abbrev opMod : OP2 := opI2 (fun _ j => 0 < j) fun i j => .int (i % j)
theorem d_mod (ha : DE X W a ta pa) (hb : DE X W b tb pb) : DE X W (.BinOp a .Mod b pos) (tOp (rI (fun _ j => 0 < j) fun i j => .int (i % j)) ta tb) (qOp opMod pa pb) := d_op op_mod (os_I fun _ _ _ => .int _) ha hb
abbrev opFdiv : OP2 := opI2 CDiv fun i j => .int (i / j)
theorem d_fdiv (ha : DE X W a ta pa) (hb : DE X W b tb pb) : DE X W (.BinOp a .FloorDiv b pos) (tOp (rI CDiv fun i j => .int (i / j)) ta tb) (qOp opFdiv pa pb) := d_op op_fdiv (os_I fun _ _ _ => .int _) ha hb
abbrev opPow : OP2 := opI2 CPow fun i j => .int (i ^ j.toNat)
theorem d_pow (ha : DE X W a ta pa) (hb : DE X W b tb pb) : DE X W (.BinOp a .Pow b pos) (tOp (rI CPow fun i j => .int (i ^ j.toNat)) ta tb) (qOp opPow pa pb) := d_op op_pow (os_I fun _ _ _ => .int _) ha hb
/-- -x -/
def opNeg : OP1 := fun d k => match d with
  | .int i => k (.sh (.int (-i)))
  | _ => False
theorem us_neg : UnS (rU fun i => .int (-i)) opNeg := fun {B F Γ σ H fp x d} k Q r b z c => by
  cases b with
  | int i => exact ⟨i, rfl, op_sc r (.int _) c z⟩
  | _ => exact z.elim
theorem d_neg (ha : DE X W a ta pa) : DE X W (.UnaryOp .USub a pos) (tUn (rU fun i => .int (-i)) ta) (qUn opNeg pa) := d_un un_neg us_neg ha

/-! ### int * int, text * int, list * int -/
def rMulStr : R2 := fun x y H Q => ∃ a n, x = .str a ∧ y = .int n ∧ MulOk a n ∧ Q (.str (Txt.mul a n)) H
theorem op_mulStr : OpR X (binaryOp .Mult) rMulStr := by
  intro pins s σ H x y v u Q I rx ry h
  obtain ⟨a, n, rfl, rfl, ok, q⟩ := h
  obtain ⟨t, rfl⟩ := rx
  obtain ⟨t', rfl⟩ := ry
  exact SB.mul ok fun t2 k => ⟨.str _, H, I.tok _, ⟨_, rfl⟩, q⟩
def rMul : R2 := fun x y H Q => (rI CMul (fun i j => .int (i * j)) x y H Q ∨ rMulStr x y H Q) ∨ rRep x y H Q
theorem or_mul : OpR X (binaryOp .Mult) rMul := OpR.or (OpR.or op_mul op_mulStr) op_rep
def opMul : OP2 := fun d1 d2 k => match d1, d2 with
  | .int i, .int j => CMul i j ∧ k (.sh (.int (i * j)))
  | .str a, .int n => n < 2 ^ 20 ∧ -(2 ^ 20) < n ∧ a.length * n.toNat ≤ 2 ^ 20 ∧ k (.sh (.str (Txt.mul a n)))
  | .list xs, .int n => n < 2 ^ 20 ∧ -(2 ^ 20) < n ∧ xs.length * n.toNat ≤ 2 ^ 20 ∧ k (.ow (.l (List.replicate n.toNat xs).flatten))
  | _, _ => False
theorem mulOk_of {a : Str} {n : Int} (h1 : n < 2 ^ 20) (h2 : -(2 ^ 20) < n) (h3 : a.length * n.toNat ≤ 2 ^ 20) : MulOk a n := by
  refine ⟨?_, fun h _ => ?_, fun h _ => ?_⟩
  · rw [decide_eq_false (by omega), decide_eq_false (by omega)]
    rfl
  · intro z
    have hn : 1 ≤ n := by omega
    have e : (a.length : Int) ≤ 2 ^ 20 := by
      have : a.length * 1 ≤ a.length * n.toNat := Nat.mul_le_mul_left _ (by omega)
      omega
    have e2 : (2 ^ 63 - 1) / n ≥ (2 ^ 63 - 1) / 2 ^ 20 := by
      apply Int.le_ediv_of_mul_le (by omega)
      have : ((2 ^ 63 - 1) / 2 ^ 20 : Int) * n ≤ ((2 ^ 63 - 1) / 2 ^ 20) * 2 ^ 20 := Int.mul_le_mul_of_nonneg_left (by omega) (by decide)
      omega
    omega
  · unfold Builtin.Str.tooLong
    exact decide_eq_false (by
      have : (sizeLine : Nat) = 16777216 := by decide
      omega)
theorem strOk_mul {a : Str} (h : PyData.strOk a = true) (n : Int) : PyData.strOk (Txt.mul a n) = true := by
  unfold Txt.mul
  split
  · decide +kernel
  · split
    · exact h
    · have f : ∀ (m : Nat) (x : Array Nat), x.all (· < 0x110000) = true → ((List.replicate m a.cps).foldl (· ++ ·) x).all (· < 0x110000) = true := by
        intro m
        induction m with
        | zero => intro x hx; exact hx
        | succ m ih =>
          intro x hx
          rw [List.replicate_succ, List.foldl_cons]
          exact ih _ (by rw [Array.all_append]; exact Bool.and_eq_true_iff.mpr ⟨hx, h⟩)
      exact f _ _ (by decide +kernel)
theorem os_mul : OpS rMul opMul := fun {B F Γ σ H fp x y d1 d2} k Q r b1 b2 z c => by
  cases b1 with
  | int i =>
    cases b2 with
    | int j => exact .inl (.inl ⟨i, j, rfl, rfl, z.1, op_sc r (.int _) c z.2⟩)
    | _ => exact z.elim
  | str a ha =>
    cases b2 with
    | int n => exact .inl (.inr ⟨a, n, rfl, rfl, mulOk_of z.1 z.2.1 z.2.2.1, op_sc r (.str _ (strOk_mul ha n)) c z.2.2.2⟩)
    | _ => exact z.elim
  | @lst a xs ds e t =>
    cases b2 with
    | int n =>
      obtain ⟨z1, z2, z3, z4⟩ := z
      refine .inr ⟨a, n, xs, rfl, rfl, e, by omega, by omega, by rw [t.length]; exact Nat.le_trans z3 (by decide), fun p hp => ?_⟩
      obtain ⟨r', v'⟩ := new_lst r (t.rep n.toNat) hp
      exact c _ _ F _ .refl r' v' z4
    | _ => exact z.elim
  | _ => cases b2 <;> exact z.elim
theorem d_mul (ha : DE X W a ta pa) (hb : DE X W b tb pb) : DE X W (.BinOp a .Mult b pos) (tOp rMul ta tb) (qOp opMul pa pb) := d_op or_mul os_mul ha hb

/-! ### comparisons -/
def opEq : OP2 := fun d1 d2 k => (flat 60 d1 && flat 60 d2) = true ∧ k (.sh (.bool (PyData.eqv d1 d2)))
def opNe : OP2 := fun d1 d2 k => (flat 60 d1 && flat 60 d2) = true ∧ k (.sh (.bool (!PyData.eqv d1 d2)))
theorem os_eq {K : PySem.W.Frag} : OpS (rEqD K) opEq := fun {B F Γ σ H fp x y d1 d2} k Q r b1 b2 z c => by
  obtain ⟨f1, f2⟩ := Bool.and_eq_true_iff.mp z.1
  have q1 := b1.rp r.fx
  have q2 := b2.rp r.fx
  exact ⟨d1, d2, q1.dpf f1, q2.dpf f2, q1.shaped f1, q2.shaped f2, op_sc r (.bl _) c z.2⟩
theorem os_ne {K : PySem.W.Frag} : OpS (rNeD K) opNe := fun {B F Γ σ H fp x y d1 d2} k Q r b1 b2 z c => by
  obtain ⟨f1, f2⟩ := Bool.and_eq_true_iff.mp z.1
  have q1 := b1.rp r.fx
  have q2 := b2.rp r.fx
  exact ⟨d1, d2, q1.dpf f1, q2.dpf f2, q1.shaped f1, q2.shaped f2, op_sc r (.bl _) c z.2⟩
theorem or_eq {j : Nat} (hr : Room j X.A) : OpR X (compareOp .Eq) (rEqD X.K) := op_eqD hr.units
theorem or_ne {j : Nat} (hr : Room j X.A) : OpR X (compareOp .NotEq) (rNeD X.K) := op_neD hr.units
/-- orders of ints and of texts -/
def opOrd (f : Int → Int → Bool) (g : Str → Str → Bool) : OP2 := fun d1 d2 k => match d1, d2 with
  | .int i, .int j => k (.sh (.bool (f i j)))
  | .str a, .str b => k (.sh (.bool (g a b)))
  | _, _ => False
def rOrd (f : Int → Int → Bool) (g : Str → Str → Bool) : R2 := fun x y H Q => rI0 (fun i j => .bl (f i j)) x y H Q ∨ ∃ i j, x = .str i ∧ y = .str j ∧ Q (.bl (g i j)) H
theorem os_ord {f : Int → Int → Bool} {g : Str → Str → Bool} : OpS (rOrd f g) (opOrd f g) := fun {B F Γ σ H fp x y d1 d2} k Q r b1 b2 z c => by
  cases b1 with
  | int i =>
    cases b2 with
    | int j => exact .inl ⟨i, j, rfl, rfl, op_sc r (.bl _) c z⟩
    | _ => exact z.elim
  | str a ha =>
    cases b2 with
    | str b hb => exact .inr ⟨a, b, rfl, rfl, op_sc r (.bl _) c z⟩
    | _ => exact z.elim
  | _ => cases b2 <;> exact z.elim
def sLt (a b : Str) : Bool := decide (a.cps.toList < b.cps.toList)
abbrev opLt : OP2 := opOrd (fun i j => decide (i < j)) sLt
abbrev opLe : OP2 := opOrd (fun i j => decide (i ≤ j)) fun a b => !sLt b a
abbrev opGt : OP2 := opOrd (fun i j => decide (j < i)) fun a b => sLt b a
abbrev opGe : OP2 := opOrd (fun i j => decide (j ≤ i)) fun a b => !sLt a b
theorem or_lt : OpR X (compareOp .Lt) (rOrd (fun i j => decide (i < j)) sLt) := OpR.or op_lt op_lt_str
theorem or_le : OpR X (compareOp .LtE) (rOrd (fun i j => decide (i ≤ j)) fun a b => !sLt b a) := OpR.or op_le op_le_str
theorem or_gt : OpR X (compareOp .Gt) (rOrd (fun i j => decide (j < i)) fun a b => sLt b a) := OpR.or op_gt op_gt_str
theorem or_ge : OpR X (compareOp .GtE) (rOrd (fun i j => decide (j ≤ i)) fun a b => !sLt a b) := OpR.or op_ge op_ge_str
/-- is None, is not None -/
def isNone : D → Bool
  | .none => true
  | _ => false
def opIs : OP2 := fun d1 d2 k => match d2 with
  | .none => k (.sh (.bool (isNone d1)))
  | _ => False
def opIsNot : OP2 := fun d1 d2 k => match d2 with
  | .none => k (.sh (.bool (!isNone d1)))
  | _ => False
theorem Rb.isNone {F H : Hp} {v : V} {d : D} (h : Rb F H v d) : decide (v = .non) = PL.isNone d := by cases h <;> first | rfl | simp [PL.isNone]
abbrev rIs : R2 := fun x y H Q => y = .non ∧ Q (.bl (decide (x = .non))) H
abbrev rIsNot : R2 := fun x y H Q => y = .non ∧ Q (.bl (!decide (x = .non))) H
theorem os_is : OpS rIs opIs := fun {B F Γ σ H fp x y d1 d2} k Q r b1 b2 z c => by
  cases b2 with
  | non => exact ⟨rfl, op_sc r (by rw [b1.isNone]; exact .bl _) c z⟩
  | _ => exact z.elim
theorem os_isNot : OpS rIsNot opIsNot := fun {B F Γ σ H fp x y d1 d2} k Q r b1 b2 z c => by
  cases b2 with
  | non => exact ⟨rfl, op_sc r (by rw [b1.isNone]; exact .bl _) c z⟩
  | _ => exact z.elim
end
end PL

namespace PL
open PySem PySem.Spec PyProof.Rows L2

section
variable {X : Cx} {W : WX} {pos p : Pos} {a b e : Expr} {ta tb te : TE} {pa pb pe : QE}

/-! ### in, not in: a list, a text -/
def inD (d : D) (ds : List D) : Bool := ds.any fun z => PyData.eqv z d
def opInW (f : Bool → Bool) : OP2 := fun d1 d2 k => match d2 with
  | .list ds => (flat 60 d1 && flat 60 (.list ds)) = true ∧ k (.sh (.bool (f (inD d1 ds))))
  | .str y => (match d1 with
    | .str x => (match x.cps.toList with
      | [c] => k (.sh (.bool (f (decide (c ∈ y.cps.toList)))))
      | _ => False)
    | _ => False)
  | _ => False
def rInSg (f : Bool → Bool) : R2 := fun x y H Q => ∃ (c : Nat) (z : Str), x = .str ⟨#[c]⟩ ∧ y = .str z ∧ Q (.bl (f (decide (c ∈ z.cps.toList)))) H
def rInDg (K : PySem.W.Frag) (f : Bool → Bool) : R2 := fun x y H Q => ∃ d ds, Dp K H x d ∧ Dp K H y (.list ds) ∧ SeqAt.shaped d = true ∧ SeqAt.shaped (.list ds) = true ∧ Q (.bl (f (ds.any fun z => PyData.eqv z d))) H
def rInW (K : PySem.W.Frag) (f : Bool → Bool) : R2 := fun x y H Q => rInDg K f x y H Q ∨ rInSg f x y H Q
theorem os_in {K : PySem.W.Frag} {f : Bool → Bool} : OpS (rInW K f) (opInW f) := fun {B F Γ σ H fp x y d1 d2} k Q r b1 b2 z c => by
  cases b2 with
  | @lst a xs ds e t =>
    obtain ⟨f1, f2⟩ := Bool.and_eq_true_iff.mp z.1
    have q1 := b1.rp r.fx
    have q2 := (Rb.lst e t).rp r.fx
    exact .inl ⟨d1, ds, q1.dpf f1, q2.dpf f2, q1.shaped f1, q2.shaped f2, op_sc r (.bl _) c z.2⟩
  | str y hy =>
    cases b1 with
    | str x hx =>
      unfold opInW at z
      simp only at z
      split at z
      · rename_i ch hc
        refine .inr ⟨ch, y, ?_, rfl, op_sc r (.bl _) c z⟩
        obtain ⟨⟨l⟩⟩ := x
        simp only at hc
        rw [hc]
      · exact z.elim
    | _ => exact z.elim
  | _ => exact z.elim
theorem or_in {j : Nat} (hr : Room j X.A) : OpR X (compareOp .In) (rInW X.K id) := OpR.or (fun pins s σ H x y v u Q I rx ry h => op_inD (by have := hr.un; omega) pins s σ H x y v u Q I rx ry h) (fun pins s σ H x y v u Q I rx ry h => op_in_sign pins s σ H x y v u Q I rx ry h)
theorem or_notIn {j : Nat} (hr : Room j X.A) : OpR X (compareOp .NotIn) (rInW X.K not) := OpR.or (fun pins s σ H x y v u Q I rx ry h => op_notInD (by have := hr.un; omega) pins s σ H x y v u Q I rx ry h) (fun pins s σ H x y v u Q I rx ry h => op_notIn_sign pins s σ H x y v u Q I rx ry h)

/-! ### subscripts -/
/-- the script's items -/
def scrOf : D → Option (List D)
  | .dict [(.none, .list ds)] => some ds
  | _ => none
theorem Rb.scr {F H : Hp} {v : V} {d : D} {ds : List D} (h : Rb F H v d) (e : scrOf d = some ds) : ∃ a o xs, v = .ref a ∧ H a = some (.frz o (.lst xs)) ∧ RpA F xs ds := by
  cases h with
  | @fz a o xs ds' e' t =>
    cases e
    exact ⟨a, o, xs, rfl, e', t⟩
  | dk e' t =>
    cases t with
    | nil => cases e
    | @cons k _ _ d _ _ r =>
      cases r with
      | nil => cases k <;> cases d <;> cases e
      | cons => cases k <;> cases d <;> cases e
  | dt e' t =>
    cases t with
    | nil => cases e
    | @cons k _ _ d _ _ r =>
      cases r with
      | nil => cases d <;> cases e
      | cons => cases d <;> cases e
  | _ => cases e
/-- an item by its place, from the end too -/
def ixD {α : Type} (ds : List α) : Int → Option α
  | .ofNat n => ds[n]?
  | .negSucc n => if n < ds.length then ds[ds.length - 1 - n]? else none
theorem ixD_eq {α : Type} (ds : List α) (i : Int) : L2.atI ds i = ixD ds i := by
  unfold L2.atI ixN
  cases i with
  | ofNat n =>
    show (if 0 ≤ (n : Int) then (if (n : Int) < ds.length then some ((n : Int)).toNat else none) else _).bind _ = ds[n]?
    rw [if_pos (by omega)]
    by_cases h : n < ds.length
    · rw [if_pos (by omega)]
      simp
    · rw [if_neg (by omega), List.getElem?_eq_none (by omega)]
      rfl
  | negSucc n =>
    rw [if_neg (by omega)]
    show _ = if n < ds.length then ds[ds.length - 1 - n]? else none
    by_cases h : n < ds.length
    · rw [if_pos (by omega), if_pos h]
      show ds[(Int.negSucc n + (ds.length : Int)).toNat]? = _
      congr 1
      omega
    · rw [if_neg (by omega), if_neg h]
      rfl
def opIx : OP2 := fun d1 d2 k => match d2 with
  | .int i => (match d1 with
    | .list ds => (match ixD ds i with
      | some d => k (.sh d)
      | none => False)
    | .tuple ds => (match ixD ds i with
      | some d => k (.sh d)
      | none => False)
    | .str x => x.length ≤ sizeLine ∧ (match ixD x.cps.toList i with
      | some c => k (.sh (signD c))
      | none => False)
    | d => (match scrOf d with
      | some ds => (match ixD ds i with
        | some d => k (.sh d)
        | none => False)
      | none => False))
  | _ => False
theorem RpA.atI {F : Hp} {vs : List V} {ds : List D} {i : Int} {d : D} (h : RpA F vs ds) (e : L2.atI ds i = some d) : ∃ v, L2.atI vs i = some v ∧ Rp F v d := by
  unfold L2.atI at e ⊢
  rw [h.length]
  cases z : ixN ds.length i with
  | none =>
    rw [z] at e
    cases e
  | some j =>
    rw [z] at e
    obtain ⟨v, h1, h2⟩ := h.get (show ds[j]? = some d from e)
    exact ⟨v, h1, h2⟩
theorem RpA.ixD {F : Hp} {vs : List V} {ds : List D} {i : Int} {d : D} (h : RpA F vs ds) (e : PL.ixD ds i = some d) : ∃ v, L2.atI vs i = some v ∧ Rp F v d := h.atI ((ixD_eq ds i).trans e)
theorem ix_scr {K : PySem.W.Frag} {B F : Hp} {Γ : Ev} {σ : L2.St} {H : Hp} {fp : Nat → List Addr} {x : V} {d1 : D} {i : Int} {k : Wv → Prop} {Q : VK} (r : Rel B F Γ σ H fp) (b1 : Rb F H x d1)
    (z : match scrOf d1 with | some ds => (match PL.ixD ds i with | some d => k (.sh d) | none => False) | none => False) (c : ∀ w v F' H', Ext B F F' → Rel B F' Γ σ H' fp → RW B F' Γ σ H' fp v w → k w → Q v H') : rIx K x (.int i) H Q := by
  split at z
  · rename_i ds hs
    obtain ⟨a, o, xs, rfl, e, t⟩ := b1.scr hs
    split at z
    · rename_i d hd
      obtain ⟨v, h1, h2⟩ := t.ixD hd
      exact .inl ⟨a, xs, i, v, rfl, rfl, .inl (.inr ⟨o, e⟩), h1, op_sc r h2 c z⟩
    · exact z.elim
  · exact z.elim
theorem os_ix {K : PySem.W.Frag} : OpS (rIx K) opIx := fun {B F Γ σ H fp x y d1 d2} k Q r b1 b2 z c => by
  cases b2 with
  | int i =>
    cases b1 with
    | @lst a xs ds e t =>
      unfold opIx at z
      simp only at z
      split at z
      · rename_i d hd
        obtain ⟨v, h1, h2⟩ := t.ixD hd
        exact .inl ⟨a, xs, i, v, rfl, rfl, .inl (.inl e), h1, op_sc r h2 c z⟩
      · exact z.elim
    | @tup a xs ds e0 e t =>
      unfold opIx at z
      simp only at z
      split at z
      · rename_i d hd
        obtain ⟨v, h1, h2⟩ := t.ixD hd
        exact .inr (.inl ⟨a, xs, i, v, rfl, rfl, .inl (.inl e), h1, op_sc r h2 c z⟩)
      · exact z.elim
    | str x hx =>
      unfold opIx at z
      simp only at z
      obtain ⟨z1, z⟩ := z
      split at z
      · rename_i ch hd
        refine .inr (.inr ⟨x, i, ch, rfl, rfl, z1, (ixD_eq _ _).trans hd, op_sc r (.str _ ?_) c z⟩)
        rw [← ixD_eq] at hd
        unfold L2.atI at hd
        cases y : ixN x.cps.toList.length i with
        | none =>
          rw [y] at hd
          cases hd
        | some j =>
          rw [y] at hd
          exact strOk_sign hx (i := j) (by rw [← Array.getElem?_toList]; exact hd)
      · exact z.elim
    | fz e t => exact ix_scr r (.fz e t) z c
    | dk e t => exact ix_scr r (.dk e t) z c
    | dt e t => exact ix_scr r (.dt e t) z c
    | _ => exact z.elim
  | _ => exact z.elim
theorem d_sub_ix (ha : DE X W a ta pa) (hb : DE X W b tb pb) (hx : PlainIx b := by exact fun _ _ => rfl) : DE X W (.Subscript a b pos) (tOp (rIx X.K) ta tb) (qOp opIx pa pb) := d_ix ix_seq os_ix ha hb hx

/-! ### slices -/
abbrev QO := Ev → (Option Int → Ev → Prop) → EXP → Prop
def SO (W : WX) (to : TO) (q : QO) : Prop := ∀ {B F : Hp} {Γ : Ev} {σ : L2.St} {H : Hp} {fp : Nat → List Addr} (R : Option Int → Ev → Prop) (EX : EXP) (Q : Option Int → Hp → Prop), Rel B F Γ σ H fp → q Γ R EX →
  (∀ o Γ' F' H' fp', Ext B F F' → Rel B F' Γ' σ H' fp' → R o Γ' → Q o H') → AfE W B F σ EX → to σ H Q
structure DO (X : Cx) (W : WX) (e : Option Expr) (to : TO) (q : QO) : Prop where
  po : PO X e to
  so : SO W to q
def qoN : QO := fun Γ R _ => R none Γ
def qoS (p : QE) : QO := fun Γ R E => p Γ (fun w Γ1 => match w with
  | .sh (.int i) => R (some i) Γ1
  | _ => False) E
theorem do_none : DO X W none tNoPart qoN := ⟨po_none, fun {B F Γ σ H fp} R EX Q r h k _ => k none Γ F H fp .refl r h⟩
theorem do_some (h : DE X W e te pe) : DO X W (some e) (tPart te) (qoS pe) := ⟨po_some h.pe, fun {B F Γ σ H fp} R EX Q r q k a => by
  refine h.se _ _ _ r q (fun w Γ1 v F1 H1 fp1 x1 r1 v1 h1 => ?_) a
  split at h1
  · rename_i i
    cases v1 with
    | sh z =>
      cases z
      exact ⟨i, rfl, k _ Γ1 F1 H1 fp1 x1 r1 h1⟩
  · exact h1.elim⟩
def cutD (xs : List D) (lo hi : Option Int) : List D := (xs.drop (HT.sIx xs.length 0 lo)).take (HT.sIx xs.length xs.length hi - HT.sIx xs.length 0 lo)
theorem RpA.cut {F : Hp} {vs : List V} {ds : List D} (h : RpA F vs ds) (lo hi : Option Int) : RpA F (cutV vs lo hi) (cutD ds lo hi) := by
  unfold cutV cutD
  rw [h.length]
  exact (h.drop _).take _
def opSl (d : D) (lo hi : Option Int) (k : Wv → Prop) : Prop := match d with
  | .list ds => k (.ow (.l (cutD ds lo hi)))
  | .tuple ds => k (.sh (.tuple (cutD ds lo hi)))
  | .str x => x.length ≤ sizeLine ∧ k (.sh (.str (cutS x lo hi)))
  | _ => False
def rSlW (K : PySem.W.Frag) : V → Option Int → Option Int → Hp → VK → Prop := fun x lo hi H Q => (rSlL K x lo hi H Q ∨ rSlA K x lo hi H Q) ∨ rSlS x lo hi H Q
theorem sl_w : SlR X (rSlW X.K) := SlR.or (SlR.or sl_list sl_tupA) sl_str
def qSl (p : QE) (l h : QO) : QE := fun Γ R E => p Γ (fun w Γ1 => l Γ1 (fun lo Γ2 => h Γ2 (fun hi Γ3 => bor w Γ3 fun d => opSl d lo hi fun w => R w Γ3) E) E) E
theorem strOk_of {x y : Str} (h : PyData.strOk x = true) (e : ∀ c ∈ y.cps.toList, c ∈ x.cps.toList) : PyData.strOk y = true := by
  have h' : x.cps.all (· < 0x110000) = true := h
  show y.cps.all (· < 0x110000) = true
  rw [Array.all_eq_true'] at h' ⊢
  intro c hc
  exact h' c (by simpa using e c (by simpa using hc))
theorem strOk_cut {x : Str} (h : PyData.strOk x = true) (lo hi : Option Int) : PyData.strOk (cutS x lo hi) = true := strOk_of h fun c hc => by
  unfold cutS at hc
  simp only at hc
  exact List.mem_of_mem_drop (List.mem_of_mem_take hc)
theorem cutV_full {vs : List V} {lo hi : Option Int} (h : HT.sIx vs.length 0 lo = 0 ∧ HT.sIx vs.length vs.length hi = vs.length) : cutV vs lo hi = vs := by
  unfold cutV
  rw [h.1, h.2]
  simp
theorem d_slice {lo hi : Option Expr} {tl th : TO} {ql qh : QO} {p2 : Pos} (he : DE X W e te pe) (hl : DO X W lo tl ql) (hh : DO X W hi th qh) : DE X W (.Subscript e (.Slice lo hi none p2) pos) (tSl (rSlW X.K) te tl th) (qSl pe ql qh) := ⟨pe_slice sl_w he.pe hl.po hh.po, fun {B F Γ σ H fp} R EX Q r q k a => by
  refine he.se _ EX _ r q (fun w Γ1 v F1 H1 fp1 x1 r1 v1 h1 => ?_) a
  obtain ⟨B', r1', g⟩ := r1.guard v1
  have cv : ∀ {F Γ H fp}, Ext B' F1 F → Rel B' F Γ σ H fp → AfE W B' F σ EX := fun {F2 Γ2 H2 fp2} x2 r2 c Γ' F' H' fp' x3 r3 q => by
    obtain ⟨x4, r4, _, _⟩ := g F' Γ' H' fp' (x2.trans x3) r3
    exact a c Γ' F' H' fp' (x1.trans x4) r4 q
  refine hl.so _ EX _ r1' h1 (fun l Γ2 F2 H2 fp2 x2 r2 h2 => ?_) (cv .refl r1')
  refine hh.so _ EX _ r2 h2 (fun u Γ3 F3 H3 fp3 x3 r3 h3 => ?_) (cv x2 r2)
  obtain ⟨x4, r4, v4, _⟩ := g F3 Γ3 H3 fp3 (x2.trans x3) r3
  obtain ⟨d, b, z⟩ := bor_rb r4 v4 h3
  cases b with
  | @lst a xs ds e t =>
    refine .inl (.inl ⟨a, xs, rfl, .inl (.inl e), fun p hp => ?_⟩)
    obtain ⟨r5, v5⟩ := new_lst r4 (t.cut l u) hp
    exact k _ Γ3 _ F3 _ fp3 (x1.trans x4) r5 v5 z
  | @tup a xs ds e0 e t =>
    refine .inl (.inr ⟨a, xs, rfl, .inl (.inl e), fun h => ?_, fun h p hp => ?_⟩)
    · have e1 : cutD ds l u = ds := by
        have := h
        rw [t.length] at this
        unfold cutD
        rw [this.1, this.2]
        simp
      have z' : R (.sh (.tuple (cutD ds l u))) Γ3 := z
      rw [e1] at z'
      exact k _ Γ3 _ F3 H3 fp3 (x1.trans x4) r4 (.sh (.tup e0 t)) z'
    · obtain ⟨x5, r5, v5⟩ := new_tup r4 (t.cut l u) hp
      exact k _ Γ3 _ _ _ fp3 ((x1.trans x4).trans x5) r5 v5 z
  | str x hx => exact .inr ⟨x, rfl, z.1, k _ Γ3 _ F3 H3 fp3 (x1.trans x4) r4 (.sh (.str _ (strOk_cut hx l u))) z.2⟩
  | _ => exact z.elim⟩
/-- xs[::-1] of a list -/
def opRevL : OP1 := fun d k => match d with
  | .list ds => k (.ow (.l ds.reverse))
  | _ => False
theorem d_revL {k : Nat} {p1 p2 p3 : Pos} (he : DE X W e te pe) : DE X W (.Subscript e (.Slice none none (some (.UnaryOp .USub (.Constant (.int 1) k p1) p2)) p3) pos) (tRevL X.K te) (qUn opRevL pe) := ⟨pe_revL he.pe, fun {B F Γ σ H fp} R EX Q r q c a => by
  refine he.se _ EX _ r q (fun w Γ1 v F1 H1 fp1 x1 r1 v1 h1 => ?_) a
  obtain ⟨d, b, z⟩ := bor_rb r1 v1 h1
  cases b with
  | @lst a xs ds e t =>
    refine ⟨a, xs, rfl, .inl (.inl e), fun p hp => ?_⟩
    obtain ⟨r5, v5⟩ := new_lst r1 t.reverse hp
    exact c _ Γ1 _ F1 _ fp1 x1 r5 v5 z
  | _ => exact z.elim⟩

/-! ### built-in functions of one argument that is looked at -/
theorem se_call1 {r : List V → Hp → VK → Prop} {o : OP1} (hs : UnS (fun x H Q => r [x] H Q) o) (ha : SE W ta pa) : SE W (tCB r (tCons ta tNil)) (qUn o pa) := fun {B F Γ σ H fp} R EX Q rr h k e => by
  refine ha _ _ _ rr h (fun w1 Γ1 x F1 H1 fp1 x1 r1 v1 h1 => ?_) e
  obtain ⟨d, b, z⟩ := bor_rb r1 v1 h1
  exact hs _ Q r1 b z fun w v F2 H2 x2 r2 q2 kk => k w Γ1 v F2 H2 fp1 (x1.trans x2) r2 q2 kk
theorem d_bi1 {id : String} {x : Str} {r : List V → Hp → VK → Prop} {o : OP1} (hc : CallR X (.builtin id) r) (hs : UnS (fun x H Q => r [x] H Q) o) (hm : X.mg x = none) (hv : bootBuiltins x = some (.builtin id)) (ha : DE X W a ta pa) (hg : Gl X x := by rfl)
    (hn : x ≠ "__name__" := by decide) (hdb : (x == ("__debug__" : Str)) = false := by decide) (he : starEach [a] X.env = (false, eval a X.env) :: starEach [] X.env := by rfl) (hpl : (backTo pos (starEach [] X.env)).any (·.1) = false := by rfl) :
    DE X W (.Call (.Name x p) [a] [] pos) (tCB r (tCons ta tNil)) (qUn o pa) := ⟨pe_callB hc hg hm hv (pa_cons ha.pe pa_nil he) hn hdb he hpl, se_call1 hs ha.se⟩
theorem d_ty1 {T : String} {x : Str} {r : List V → Hp → VK → Prop} {o : OP1} (hc : CallR X (.type T) r) (hs : UnS (fun x H Q => r [x] H Q) o) (hm : X.mg x = none) (hv : bootBuiltins x = some (.type T)) (ha : DE X W a ta pa) (hg : Gl X x := by rfl)
    (hn : x ≠ "__name__" := by decide) (hdb : (x == ("__debug__" : Str)) = false := by decide) (he : starEach [a] X.env = (false, eval a X.env) :: starEach [] X.env := by rfl) (hpl : (backTo pos (starEach [] X.env)).any (·.1) = false := by rfl) :
    DE X W (.Call (.Name x p) [a] [] pos) (tCB r (tCons ta tNil)) (qUn o pa) := ⟨pe_callTy hc hg hm hv (pa_cons ha.pe pa_nil he) hn hdb he hpl, se_call1 hs ha.se⟩
/-- len -/
abbrev rLenW (K : PySem.W.Frag) : List V → Hp → VK → Prop := fun xs H Q => ∃ x n, xs = [x] ∧ LenV K x H n ∧ Q (.int n) H
abbrev rIntW : List V → Hp → VK → Prop := fun xs H Q => (∃ i, xs = [.int i] ∧ Q (.int i) H) ∨ ∃ k, xs = [.bl k] ∧ Q (.int (if k then 1 else 0)) H
abbrev rListW (K : PySem.W.Frag) : List V → Hp → VK → Prop := fun xs H Q => ∃ p ys, xs = [.ref p] ∧ (SqL K H p ys ∨ SqT K H p ys) ∧ ∀ l, H l = none → Q (.ref l) (upd H l (.lst ys))
abbrev rTupleW (K : PySem.W.Frag) : List V → Hp → VK → Prop := fun xs H Q => ∃ p ys, xs = [.ref p] ∧ ((SqL K H p ys ∧ ∀ l, H l = none → Q (.ref l) (upd H l (.tup ys))) ∨ (SqT K H p ys ∧ Q (.ref p) H))
def opLen : OP1 := fun d k => match d with
  | .str x => x.length ≤ sizeLine ∧ k (.sh (.int x.length))
  | .list ds => k (.sh (.int ds.length))
  | .tuple ds => k (.sh (.int ds.length))
  | d => (match scrOf d with
    | some ds => k (.sh (.int ds.length))
    | none => False)
theorem len_scr {K : PySem.W.Frag} {B F : Hp} {Γ : Ev} {σ : L2.St} {H : Hp} {fp : Nat → List Addr} {x : V} {d : D} {k : Wv → Prop} {Q : VK} (r : Rel B F Γ σ H fp) (b : Rb F H x d)
    (z : match scrOf d with | some ds => k (.sh (.int ds.length)) | none => False) (c : ∀ w v F' H', Ext B F F' → Rel B F' Γ σ H' fp → RW B F' Γ σ H' fp v w → k w → Q v H') : ∃ y n, [x] = [y] ∧ LenV K y H n ∧ Q (.int n) H := by
  split at z
  · rename_i ds hs
    obtain ⟨a, o, xs, rfl, e, t⟩ := b.scr hs
    exact ⟨_, xs.length, rfl, .inl ⟨xs, .inl (.inr ⟨o, e⟩), rfl⟩, op_sc r (.int _) c (by rw [t.length]; exact z)⟩
  · exact z.elim
theorem us_len {K : PySem.W.Frag} : UnS (fun x H Q => rLenW K [x] H Q) opLen := fun {B F Γ σ H fp x d} k Q r b z c => by
  cases b with
  | str x hx => exact ⟨_, x.length, rfl, ⟨z.1, rfl⟩, op_sc r (.int _) c z.2⟩
  | @lst a xs ds e t => exact ⟨_, xs.length, rfl, .inl ⟨xs, .inl (.inl e), rfl⟩, op_sc r (.int _) c (by rw [t.length]; exact z)⟩
  | @tup a xs ds e0 e t => exact ⟨_, xs.length, rfl, .inr ⟨xs, .inl (.inl e), rfl⟩, op_sc r (.int _) c (by rw [t.length]; exact z)⟩
  | fz e t => exact len_scr r (.fz e t) z c
  | dk e t => exact len_scr r (.dk e t) z c
  | dt e t => exact len_scr r (.dt e t) z c
  | _ => exact z.elim
theorem d_len (hm : X.mg "len" = none) (ha : DE X W a ta pa) (hg : Gl X "len" := by rfl) (he : starEach [a] X.env = (false, eval a X.env) :: starEach [] X.env := by rfl) (hpl : (backTo pos (starEach [] X.env)).any (·.1) = false := by rfl) :
    DE X W (.Call (.Name "len" p) [a] [] pos) (tCB (rLenW X.K) (tCons ta tNil)) (qUn opLen pa) := d_bi1 call_len us_len hm PySem.boot_len ha hg (by decide) (by decide) he hpl
/-- int of an int, of a bool -/
def opInt : OP1 := fun d k => match d with
  | .int i => k (.sh (.int i))
  | .bool b => k (.sh (.int (if b then 1 else 0)))
  | _ => False
theorem us_int : UnS (fun x H Q => rIntW [x] H Q) opInt := fun {B F Γ σ H fp x d} k Q r b z c => by
  cases b with
  | int i => exact .inl ⟨i, rfl, op_sc r (.int _) c z⟩
  | bl i => exact .inr ⟨i, rfl, op_sc r (.int _) c z⟩
  | _ => exact z.elim
theorem d_int1 (hm : X.mg "int" = none) (ha : DE X W a ta pa) (hg : Gl X "int" := by rfl) (he : starEach [a] X.env = (false, eval a X.env) :: starEach [] X.env := by rfl) (hpl : (backTo pos (starEach [] X.env)).any (·.1) = false := by rfl) :
    DE X W (.Call (.Name "int" p) [a] [] pos) (tCB (rIntW) (tCons ta tNil)) (qUn opInt pa) := d_ty1 call_int1 us_int hm (by decide +kernel) ha hg (by decide) (by decide) he hpl
/-- list(xs), tuple(xs) -/
def opList : OP1 := fun d k => match d with
  | .list ds => k (.ow (.l ds))
  | .tuple ds => k (.ow (.l ds))
  | _ => False
theorem us_list {K : PySem.W.Frag} : UnS (fun x H Q => rListW K [x] H Q) opList := fun {B F Γ σ H fp x d} k Q r b z c => by
  cases b with
  | @lst a xs ds e t =>
    refine ⟨a, xs, rfl, .inl (.inl (.inl e)), fun p hp => ?_⟩
    obtain ⟨r5, v5⟩ := new_lst r t hp
    exact c _ _ F _ .refl r5 v5 z
  | @tup a xs ds e0 e t =>
    refine ⟨a, xs, rfl, .inr (.inl (.inl e)), fun p hp => ?_⟩
    obtain ⟨r5, v5⟩ := new_lst r t hp
    exact c _ _ F _ .refl r5 v5 z
  | _ => exact z.elim
theorem d_list1 (hm : X.mg "list" = none) (ha : DE X W a ta pa) (hg : Gl X "list" := by rfl) (he : starEach [a] X.env = (false, eval a X.env) :: starEach [] X.env := by rfl) (hpl : (backTo pos (starEach [] X.env)).any (·.1) = false := by rfl) :
    DE X W (.Call (.Name "list" p) [a] [] pos) (tCB (rListW X.K) (tCons ta tNil)) (qUn opList pa) := d_ty1 call_list_of us_list hm (by decide +kernel) ha hg (by decide) (by decide) he hpl
def opTuple : OP1 := fun d k => match d with
  | .list ds => k (.sh (.tuple ds))
  | .tuple ds => k (.sh (.tuple ds))
  | _ => False
theorem us_tuple {K : PySem.W.Frag} : UnS (fun x H Q => rTupleW K [x] H Q) opTuple := fun {B F Γ σ H fp x d} k Q r b z c => by
  cases b with
  | @lst a xs ds e t =>
    refine ⟨a, xs, rfl, .inl ⟨.inl (.inl e), fun p hp => ?_⟩⟩
    obtain ⟨x5, r5, v5⟩ := new_tup r t hp
    exact c _ _ _ _ x5 r5 v5 z
  | @tup a xs ds e0 e t => exact ⟨a, xs, rfl, .inr ⟨.inl (.inl e), op_sc r (.tup e0 t) c z⟩⟩
  | _ => exact z.elim
theorem d_tuple1 (hm : X.mg "tuple" = none) (ha : DE X W a ta pa) (hg : Gl X "tuple" := by rfl) (he : starEach [a] X.env = (false, eval a X.env) :: starEach [] X.env := by rfl) (hpl : (backTo pos (starEach [] X.env)).any (·.1) = false := by rfl) :
    DE X W (.Call (.Name "tuple" p) [a] [] pos) (tCB (rTupleW X.K) (tCons ta tNil)) (qUn opTuple pa) := d_ty1 call_tuple_of us_tuple hm (by decide +kernel) ha hg (by decide) (by decide) he hpl
/-- ints of a row of data -/
def intsOf : List D → Option (List Int)
  | [] => some []
  | .int i :: r => (intsOf r).map (i :: ·)
  | _ => none
def boolsOf : List D → Option (List Bool)
  | [] => some []
  | .bool i :: r => (boolsOf r).map (i :: ·)
  | _ => none
def strsOf : List D → Option (List Str)
  | [] => some []
  | .str i :: r => (strsOf r).map (i :: ·)
  | _ => none
theorem intsOf_map : ∀ ns : List Int, intsOf (ns.map .int) = some ns
  | [] => rfl
  | n :: r => by simp [intsOf, intsOf_map r]
theorem boolsOf_map : ∀ ns : List Bool, boolsOf (ns.map .bool) = some ns
  | [] => rfl
  | n :: r => by simp [boolsOf, boolsOf_map r]
theorem strsOf_map : ∀ ns : List Str, strsOf (ns.map .str) = some ns
  | [] => rfl
  | n :: r => by simp [strsOf, strsOf_map r]
theorem ints_rp {F : Hp} : ∀ {vs : List V} {ds : List D} {ns : List Int}, RpA F vs ds → intsOf ds = some ns → vs = ns.map V.int
  | _, _, _, .nil, e => by
    cases e
    rfl
  | _, _, ns, .cons (d := d) h r, e => by
    cases h with
    | int i =>
      simp only [intsOf, Option.map_eq_some_iff] at e
      obtain ⟨m, e1, rfl⟩ := e
      rw [ints_rp r e1]
      rfl
    | _ => simp [intsOf] at e
theorem bools_rp {F : Hp} : ∀ {vs : List V} {ds : List D} {ns : List Bool}, RpA F vs ds → boolsOf ds = some ns → vs = ns.map V.bl
  | _, _, _, .nil, e => by
    cases e
    rfl
  | _, _, ns, .cons (d := d) h r, e => by
    cases h with
    | bl i =>
      simp only [boolsOf, Option.map_eq_some_iff] at e
      obtain ⟨m, e1, rfl⟩ := e
      rw [bools_rp r e1]
      rfl
    | _ => simp [boolsOf] at e
theorem strs_rp {F : Hp} : ∀ {vs : List V} {ds : List D} {ns : List Str}, RpA F vs ds → strsOf ds = some ns → vs = ns.map V.str ∧ ∀ x ∈ ns, PyData.strOk x = true
  | _, _, _, .nil, e => by
    cases e
    exact ⟨rfl, fun _ h => by simp at h⟩
  | _, _, ns, .cons (d := d) h r, e => by
    cases h with
    | str i hi =>
      simp only [strsOf, Option.map_eq_some_iff] at e
      obtain ⟨m, e1, rfl⟩ := e
      obtain ⟨e2, e3⟩ := strs_rp r e1
      rw [e2]
      refine ⟨rfl, fun x hx => ?_⟩
      rcases List.mem_cons.mp hx with rfl | hx
      · exact hi
      · exact e3 x hx
    | _ => simp [strsOf] at e
/-- sum, any, all of a list -/
def opSum : OP1 := fun d k => match d with
  | .list ds => (match intsOf ds with
    | some ns => k (.sh (.int ns.sum))
    | none => False)
  | _ => False
theorem us_sum {K : PySem.W.Frag} : UnS (fun x H Q => rSum K [x] H Q) opSum := fun {B F Γ σ H fp x d} k Q r b z c => by
  cases b with
  | @lst a xs ds e t =>
    unfold opSum at z
    simp only at z
    split at z
    · rename_i ns hn
      have := ints_rp t hn
      subst this
      exact ⟨a, ns, rfl, .inl (.inl e), op_sc r (.int _) c z⟩
    · exact z.elim
  | _ => exact z.elim
theorem d_sum (hc : X.calm = true) (hm : X.mg "sum" = none) (ha : DE X W a ta pa) (hg : Gl X "sum" := by rfl) (he : starEach [a] X.env = (false, eval a X.env) :: starEach [] X.env := by rfl) (hpl : (backTo pos (starEach [] X.env)).any (·.1) = false := by rfl) :
    DE X W (.Call (.Name "sum" p) [a] [] pos) (tCB (rSum X.K) (tCons ta tNil)) (qUn opSum pa) := d_bi1 (cr_sum hc) us_sum hm (by decide +kernel) ha hg (by decide) (by decide) he hpl
def opAny : OP1 := fun d k => match d with
  | .list ds => (match boolsOf ds with
    | some bs => k (.sh (.bool (bs.any id)))
    | none => False)
  | _ => False
def opAll : OP1 := fun d k => match d with
  | .list ds => (match boolsOf ds with
    | some bs => k (.sh (.bool (bs.all id)))
    | none => False)
  | _ => False
theorem us_any {K : PySem.W.Frag} : UnS (fun x H Q => rAny K [x] H Q) opAny := fun {B F Γ σ H fp x d} k Q r b z c => by
  cases b with
  | @lst a xs ds e t =>
    unfold opAny at z
    simp only at z
    split at z
    · rename_i ns hn
      have := bools_rp t hn
      subst this
      exact ⟨a, ns, rfl, .inl (.inl e), op_sc r (.bl _) c z⟩
    · exact z.elim
  | _ => exact z.elim
theorem us_all {K : PySem.W.Frag} : UnS (fun x H Q => rAll K [x] H Q) opAll := fun {B F Γ σ H fp x d} k Q r b z c => by
  cases b with
  | @lst a xs ds e t =>
    unfold opAll at z
    simp only at z
    split at z
    · rename_i ns hn
      have := bools_rp t hn
      subst this
      exact ⟨a, ns, rfl, .inl (.inl e), op_sc r (.bl _) c z⟩
    · exact z.elim
  | _ => exact z.elim
theorem d_any (hc : X.calm = true) (hm : X.mg "any" = none) (ha : DE X W a ta pa) (hg : Gl X "any" := by rfl) (he : starEach [a] X.env = (false, eval a X.env) :: starEach [] X.env := by rfl) (hpl : (backTo pos (starEach [] X.env)).any (·.1) = false := by rfl) :
    DE X W (.Call (.Name "any" p) [a] [] pos) (tCB (rAny X.K) (tCons ta tNil)) (qUn opAny pa) := d_bi1 (cr_any hc) us_any hm (by decide +kernel) ha hg (by decide) (by decide) he hpl
theorem d_all (hc : X.calm = true) (hm : X.mg "all" = none) (ha : DE X W a ta pa) (hg : Gl X "all" := by rfl) (he : starEach [a] X.env = (false, eval a X.env) :: starEach [] X.env := by rfl) (hpl : (backTo pos (starEach [] X.env)).any (·.1) = false := by rfl) :
    DE X W (.Call (.Name "all" p) [a] [] pos) (tCB (rAll X.K) (tCons ta tNil)) (qUn opAll pa) := d_bi1 (cr_all hc) us_all hm (by decide +kernel) ha hg (by decide) (by decide) he hpl
/-- isinstance of a built-in class -/
def tyName : D → String
  | .none => "NoneType"
  | .bool _ => "bool"
  | .int _ => "int"
  | .str _ => "str"
  | .list _ => "list"
  | .tuple _ => "tuple"
  | .dict _ => "dict"
def isInst (T : String) (d : D) : Bool := tyName d == T || (tyName d == "bool" && T == "int")
def opIsi (T : String) : OP1 := fun d k => (scrOf d).isNone = true ∧ k (.sh (.bool (isInst T d)))
theorem kit_all : ∀ a ∈ ["NoneType", "bool", "int", "str", "list", "tuple", "dict"], ∀ T ∈ ["bool", "int", "str", "list", "tuple", "dict"], kitB a T = some (a == T || (a == "bool" && T == "int")) := by decide +kernel
theorem Rb.ty {K : PySem.W.Frag} {F H : Hp} {v : V} {d : D} (h : Rb F H v d) (hn : (scrOf d).isNone = true) : TyX K H v (.type (tyName d)) := by
  cases h with
  | non => exact .base .non
  | bl b => exact .base (.bl b)
  | int i => exact .base (.int i)
  | str x _ => exact .base (.str x)
  | lst e t => exact .base (.lst e)
  | tup e0 e t => exact .base (.tup e)
  | dk e t => exact .base (.dK e)
  | dt e t => exact .base (.dT e)
  | fz e t => cases hn
theorem d_isi {T : String} {x2 : Str} {p2 : Pos} (hT : T ∈ ["bool", "int", "str", "list", "tuple", "dict"]) (hm : X.mg "isinstance" = none) (hm2 : X.mg x2 = none) (hv2 : bootBuiltins x2 = some (.type T)) (ha : DE X W a ta pa) (hg : Gl X "isinstance" := by rfl) (hg2 : Gl X x2 := by rfl)
    (hn2 : x2 ≠ "__name__" := by decide) (hd2 : (x2 == ("__debug__" : Str)) = false := by decide) (he : starEach [a, .Name x2 p2] X.env = (false, eval a X.env) :: starEach [.Name x2 p2] X.env := by rfl) (hpl : (backTo pos (starEach [.Name x2 p2] X.env)).any (·.1) = false := by rfl)
    (he2 : starEach [.Name x2 p2] X.env = (false, eval (.Name x2 p2) X.env) :: starEach [] X.env := by rfl) :
    DE X W (.Call (.Name "isinstance" p) [a, .Name x2 p2] [] pos) (tCB (rIsi X.K) (tCons ta (tCons (tC (.ty T)) tNil))) (qUn (opIsi T) pa) :=
  ⟨pe_callB call_isi hg hm (by decide +kernel) (pa_cons ha.pe (pa_cons (pe_bltn hg2 hm2 hv2 rfl hn2 hd2) pa_nil he2) he) (by decide) (by decide) he hpl, fun {B F Γ σ H fp} R EX Q rr h k e => by
  refine ha.se _ _ _ rr h (fun w1 Γ1 x F1 H1 fp1 x1 r1 v1 h1 => ?_) e
  obtain ⟨d, b, z⟩ := bor_rb r1 v1 h1
  have hk : kitB (tyName d) T = some (isInst T d) := kit_all (tyName d) (by cases d <;> simp [tyName]) T hT
  exact ⟨x, .ty T, _, _, isInst T d, rfl, .ty T, b.ty z.1, kit_ty hk, k _ Γ1 _ F1 H1 fp1 x1 r1 (.sh (.bl _)) z.2⟩⟩

/-! ### xs.append(e) as a statement or value -/
theorem Rel.mutL {B F : Hp} {Γ : Ev} {σ : L2.St} {H : Hp} {fp : Nat → List Addr} {i : Nat} {ds ds' : List D} {v : V} {xs' : List V} (r : Rel B F Γ σ H fp) (e : Γ[i]? = some (.ow (.l ds))) (hv : σ[i]? = some (some v)) (t' : RpA F xs' ds') :
    ∃ a xs, v = .ref a ∧ H a = some (.lst xs) ∧ RpA F xs ds ∧ Rel B F (Γ.set i (.ow (.l ds'))) σ (upd H a (.lst xs')) fp := by
  obtain ⟨u, h1, h2⟩ := r.ow i _ e
  rw [hv] at h1
  cases h1
  generalize hf : fp i = f at h2
  cases h2 with
  | @l a xs ds e2 t =>
    have hm : a ∈ fp i := by rw [hf]; simp
    obtain ⟨b1, b2, b3⟩ := r.nb i a hm
    refine ⟨a, xs, rfl, e2, t, fun c o q => ?_, fun c o q => ?_, by rw [List.length_set]; exact r.len, fun j d q => ?_, fun j o q => ?_, fun j c hc => ?_, r.dj, fun j a q => r.ex j a (ex_ne (fun _ => Sl.noConfusion) q).2⟩
    · rw [upd_ne fun z => by subst z; rw [b1] at q; cases q]
      exact r.bx c o q
    · rw [upd_ne fun z => by subst z; rw [b2] at q; cases q]
      exact r.fx c o q
    · by_cases hj : i = j
      · subst hj
        rw [List.getElem?_set_self (List.getElem?_eq_some_iff.mp e).1] at q
        cases q
      · rw [List.getElem?_set_ne hj] at q
        exact r.sh j d q
    · by_cases hj : i = j
      · subst hj
        rw [List.getElem?_set_self (List.getElem?_eq_some_iff.mp e).1] at q
        cases q
        refine ⟨_, hv, ?_⟩
        rw [hf]
        exact .l upd_same t'
      · rw [List.getElem?_set_ne hj] at q
        obtain ⟨w, g1, g2⟩ := r.ow j o q
        exact ⟨w, g1, g2.mono (Same.refl F) fun c hc => upd_ne fun z => hj (r.dj i j c (z ▸ hm) hc)⟩
    · obtain ⟨c1, c2, c3⟩ := r.nb j c hc
      refine ⟨c1, c2, ?_⟩
      unfold upd
      split
      · exact fun z => nomatch z
      · exact c3
def isOwL : Option Sl → Bool
  | some (.ow (.l _)) => true
  | _ => false
def qApp (i : Nat) (p : QE) : QE := fun Γ R E => isOwL Γ[i]? = true ∧ p Γ (fun w Γ1 => shr w Γ1 fun d Γ2 => match Γ2[i]? with
  | some (.ow (.l ds)) => ds.length < sizeLine ∧ R (.sh .none) (Γ2.set i (.ow (.l (ds ++ [d]))))
  | _ => False) E
theorem own_ty {K : PySem.W.Frag} {B F : Hp} {Γ : Ev} {σ : L2.St} {H : Hp} {fp : Nat → List Addr} {i : Nat} (r : Rel B F Γ σ H fp) (h : isOwL Γ[i]? = true) : ∃ v, σ[i]? = some (some v) ∧ tyV K "list" v H := by
  unfold isOwL at h
  split at h
  · rename_i ds e
    obtain ⟨v, h1, h2⟩ := r.ow i _ e
    generalize fp i = f at h2
    cases h2 with
    | @l a xs ds e t => exact ⟨_, h1, .inl ⟨rfl, xs, .inl (.inl e)⟩⟩
  · cases h
theorem se_append {K : PySem.W.Frag} {i : Nat} (ha : SE W ta pa) : SE W (tBM K "list" rAppend (tVar i) (tCons ta tNil)) (qApp i pa) := fun {B F Γ σ H fp} R EX Q r q k e => by
  obtain ⟨v, h1, h2⟩ := own_ty (K := K) r q.1
  refine ⟨v, h1, h2, ha _ _ _ r q.2 (fun w Γ1 y F1 H1 fp1 x1 r1 v1 h3 => ?_) e⟩
  obtain ⟨d, Γ2, F2, fp2, x2, r2, b2, h4⟩ := shr_ok r1 v1 h3
  split at h4
  · rename_i ds hd
    obtain ⟨v', e1, _⟩ := r2.ow i _ hd
    rw [h1] at e1
    cases e1
    obtain ⟨u, z1, z2⟩ := r2.ow i _ hd
    rw [h1] at z1
    cases z1
    generalize hf : fp2 i = f at z2
    cases z2 with
    | @l a xs ds e5 t5 =>
      obtain ⟨a', xs', ea, e6, t6, r6⟩ := r2.mutL hd h1 (t5.append (.cons b2 .nil))
      cases ea
      exact ⟨a, xs, y, rfl, rfl, e5, by rw [t5.length]; exact h4.1, k _ _ _ F2 _ fp2 (x1.trans x2) r6 (.sh .non) h4.2⟩
  · exact h4.elim
theorem d_append (i : Nat) {x : Str} {px apos : Pos} (ha : DE X W a ta pa) (hN : X.N[i]? = some x := by rfl) (hv : Vis X.env.scope x := by first | exact Or.inl rfl | exact Or.inr (Or.inl rfl) | exact Or.inr (Or.inr rfl)) (hd : (x == ("__debug__" : Str)) = false := by decide)
    (hcd : (x == ("__classdict__" : Str)) = false := by decide) (hbase : attributeBase (.Name x px) "append" X.env (eval (.Name x px) X.env) = eval (.Name x px) X.env := by rfl)
    (hfew : ((backTo pos (starEach [a] X.env)).all (fun x => !x.1) && (backToKw pos (keywordEach [] X.env)).all (fun x => x.1.isSome) && decide ([a].length + ([] : List Keyword).length + (if ([] : List Keyword).isEmpty then 0 else 1) < 30)) = true := by rfl)
    (hline : (apos.endLine == pos.line) = true := by rfl) (hs : starEach [a] X.env = (false, eval a X.env) :: starEach [] X.env := by rfl) (hpl : (backTo pos (starEach [] X.env)).any (·.1) = false := by rfl) :
    DE X W (.Call (.Attribute (.Name x px) "append" apos) [a] [] pos) (tBM X.K "list" rAppend (tVar i) (tCons ta tNil)) (qApp i pa) :=
  ⟨pe_bm PySem.F.plainAttrs_list PySem.F.slot_list_append PySem.F.type_list_append mt_append (pe_var hN hv hd hcd) (pa_cons ha.pe pa_nil hs) hbase hfew hline hs hpl, se_append ha.se⟩
/-- xs[i] = e, xs an own list -/
def qgSetL (i : Nat) (pi : QE) : QG := fun w Γ k => shr w Γ fun d Γ1 => pi Γ1 (fun w2 Γ2 => bor w2 Γ2 fun d2 => match d2 with
  | .int j => (match Γ2[i]? with
    | some (.ow (.l ds)) => (match ixN ds.length j with
      | some n => k (Γ2.set i (.ow (.l (ds.set n d))))
      | none => False)
    | _ => False)
  | _ => False) noEX
end
end PL

namespace PL
open PySem PySem.Spec PyProof.Rows L2

/-! ### dicts -/
def lookD (ds : List (D × D)) (k : D) : Option D := (ds.find? fun p => PyData.eqv p.1 k).map (·.2)
def putD (ds : List (D × D)) (k v : D) : List (D × D) := if (ds.any fun p => PyData.eqv p.1 k) = true then ds.map (fun p => if PyData.eqv p.1 k = true then (p.1, v) else p) else ds ++ [(k, v)]
theorem eqv_keyD (k j : Key) : PyData.eqv (keyD k) (keyD j) = decide (k = j) := by
  cases k with
  | inl a =>
    cases j with
    | inl b =>
      show PyData.eqv (.int a) (.int b) = _
      rw [PyData.eqv, key_ll]
    | inr b =>
      show PyData.eqv (.int a) (.str b) = _
      rw [PyData.eqv, key_lr]
  | inr a =>
    cases j with
    | inl b =>
      show PyData.eqv (.str a) (.int b) = _
      rw [PyData.eqv, key_rl]
    | inr b =>
      show PyData.eqv (.str a) (.str b) = _
      rw [PyData.eqv, key_rr, Bool.beq_eq_decide_eq]
theorem eqv_keysD : ∀ k j : List Key, PyData.eqvAll (k.map keyD) (j.map keyD) = decide (k = j)
  | [], [] => by simp [PyData.eqvAll]
  | [], _ :: _ => by simp [PyData.eqvAll]
  | _ :: _, [] => by simp [PyData.eqvAll]
  | a :: k, b :: j => by
    simp only [List.map_cons, PyData.eqvAll, eqv_keyD, eqv_keysD k j]
    by_cases h : a = b
    · by_cases h2 : k = j
      · simp [h, h2]
      · simp [h, h2]
    · simp [h]
theorem eqv_keyT (k j : List Key) : PyData.eqv (.tuple (k.map keyD)) (.tuple (j.map keyD)) = decide (k = j) := by
  rw [PyData.eqv, eqv_keysD]
section
variable {F : Hp}
theorem RpK.look : ∀ {kvs : List (Key × V)} {ds : List (D × D)} (k : Key), RpK F kvs ds → (lookD ds (keyD k) = none ∧ valV kvs k = none) ∨ ∃ v d, lookD ds (keyD k) = some d ∧ valV kvs k = some v ∧ Rp F v d
  | _, _, k, .nil => .inl ⟨rfl, rfl⟩
  | _, _, k, .cons (k := j) (v := v) (d := d) h r => by
    unfold lookD
    rw [List.find?_cons]
    simp only [eqv_keyD]
    by_cases e : j = k
    · rw [decide_eq_true e]
      exact .inr ⟨v, d, rfl, valV_pos e, h⟩
    · rw [decide_eq_false e, valV_neg (p := (j, v)) e]
      exact RpK.look k r
theorem RpT.look : ∀ {kvs : List (List Key × V)} {ds : List (D × D)} (k : List Key), RpT F kvs ds → (lookD ds (.tuple (k.map keyD)) = none ∧ valV kvs k = none) ∨ ∃ v d, lookD ds (.tuple (k.map keyD)) = some d ∧ valV kvs k = some v ∧ Rp F v d
  | _, _, k, .nil => .inl ⟨rfl, rfl⟩
  | _, _, k, .cons (k := j) (v := v) (d := d) h r => by
    unfold lookD
    rw [List.find?_cons]
    simp only [eqv_keyT]
    by_cases e : j = k
    · rw [decide_eq_true e]
      exact .inr ⟨v, d, rfl, valV_pos e, h⟩
    · rw [decide_eq_false e, valV_neg (p := (j, v)) e]
      exact RpT.look k r
theorem RpK.any : ∀ {kvs : List (Key × V)} {ds : List (D × D)} (k : Key), RpK F kvs ds → (ds.any fun p => PyData.eqv p.1 (keyD k)) = kvs.any fun p => decide (p.1 = k)
  | _, _, k, .nil => rfl
  | _, _, k, .cons (k := j) h r => by
    simp only [List.any_cons, eqv_keyD, RpK.any k r]
theorem RpT.any : ∀ {kvs : List (List Key × V)} {ds : List (D × D)} (k : List Key), RpT F kvs ds → (ds.any fun p => PyData.eqv p.1 (.tuple (k.map keyD))) = kvs.any fun p => decide (p.1 = k)
  | _, _, k, .nil => rfl
  | _, _, k, .cons (k := j) h r => by
    simp only [List.any_cons, eqv_keyT, RpT.any k r]
theorem RpK.app : ∀ {kvs : List (Key × V)} {ds : List (D × D)} {k : Key} {v : V} {d : D}, RpK F kvs ds → Rp F v d → RpK F (kvs ++ [(k, v)]) (ds ++ [(keyD k, d)])
  | _, _, _, _, _, .nil, h => .cons h .nil
  | _, _, _, _, _, .cons h r, h' => .cons h (RpK.app r h')
theorem RpT.app : ∀ {kvs : List (List Key × V)} {ds : List (D × D)} {k : List Key} {v : V} {d : D}, RpT F kvs ds → Rp F v d → RpT F (kvs ++ [(k, v)]) (ds ++ [(.tuple (k.map keyD), d)])
  | _, _, _, _, _, .nil, h => .cons h .nil
  | _, _, _, _, _, .cons h r, h' => .cons h (RpT.app r h')
theorem RpK.upd {k : Key} {y : V} {z : D} (hy : Rp F y z) : ∀ {kvs : List (Key × V)} {ds : List (D × D)}, RpK F kvs ds → RpK F (kvs.map fun kv => if kv.1 = k then (kv.1, y) else kv) (ds.map fun p => if PyData.eqv p.1 (keyD k) = true then (p.1, z) else p)
  | _, _, .nil => .nil
  | _, _, .cons (k := j) (v := v) (d := d) h r => by
    simp only [List.map_cons, eqv_keyD]
    by_cases e : j = k
    · rw [if_pos e, if_pos (decide_eq_true e)]
      exact .cons hy (RpK.upd hy r)
    · rw [if_neg e, if_neg (by simp [e])]
      exact .cons h (RpK.upd hy r)
theorem RpT.upd {k : List Key} {y : V} {z : D} (hy : Rp F y z) : ∀ {kvs : List (List Key × V)} {ds : List (D × D)}, RpT F kvs ds → RpT F (kvs.map fun kv => if kv.1 = k then (kv.1, y) else kv) (ds.map fun p => if PyData.eqv p.1 (.tuple (k.map keyD)) = true then (p.1, z) else p)
  | _, _, .nil => .nil
  | _, _, .cons (k := j) (v := v) (d := d) h r => by
    simp only [List.map_cons, eqv_keyT]
    by_cases e : j = k
    · rw [if_pos e, if_pos (decide_eq_true e)]
      exact .cons hy (RpT.upd hy r)
    · rw [if_neg e, if_neg (by simp [e])]
      exact .cons h (RpT.upd hy r)
theorem RpK.put {kvs : List (Key × V)} {ds : List (D × D)} {k : Key} {v : V} {d : D} (r : RpK F kvs ds) (h : Rp F v d) : RpK F (putK kvs k v) (putD ds (keyD k) d) := by
  unfold putK putD
  rw [r.any k]
  split
  · exact r.upd h
  · exact r.app h
theorem RpT.put {kvs : List (List Key × V)} {ds : List (D × D)} {k : List Key} {v : V} {d : D} (r : RpT F kvs ds) (h : Rp F v d) : RpT F (putK kvs k v) (putD ds (.tuple (k.map keyD)) d) := by
  unfold putK putD
  rw [r.any k]
  split
  · exact r.upd h
  · exact r.app h
theorem RpK.length : ∀ {kvs : List (Key × V)} {ds : List (D × D)}, RpK F kvs ds → kvs.length = ds.length
  | _, _, .nil => rfl
  | _, _, .cons _ r => congrArg (· + 1) (RpK.length r)
theorem RpT.length : ∀ {kvs : List (List Key × V)} {ds : List (D × D)}, RpT F kvs ds → kvs.length = ds.length
  | _, _, .nil => rfl
  | _, _, .cons _ r => congrArg (· + 1) (RpT.length r)
end
/-- which kind of keys -/
def keyK : D → Bool
  | .int _ => true
  | .str _ => true
  | _ => false
def keyT : D → Bool
  | .tuple ds => ds.all keyK
  | _ => false
theorem Rp.keyK {F : Hp} {y : V} {d : D} (h : Rp F y d) (e : PL.keyK d = true) : ∃ k : Key, y = kV k ∧ d = keyD k := by
  cases h with
  | int i => exact ⟨.inl i, rfl, rfl⟩
  | str x _ => exact ⟨.inr x, rfl, rfl⟩
  | _ => cases e
theorem RpA.keyK {F : Hp} : ∀ {vs : List V} {ds : List D}, RpA F vs ds → ds.all PL.keyK = true → ∃ ks : List Key, vs = ks.map kV ∧ ds = ks.map keyD
  | _, _, .nil, _ => ⟨[], rfl, rfl⟩
  | _, _, .cons h r, e => by
    simp only [List.all_cons, Bool.and_eq_true] at e
    obtain ⟨k, rfl, rfl⟩ := h.keyK e.1
    obtain ⟨ks, rfl, rfl⟩ := RpA.keyK r e.2
    exact ⟨k :: ks, rfl, rfl⟩
theorem Rp.keyT {F : Hp} {y : V} {d : D} (h : Rp F y d) (e : PL.keyT d = true) : ∃ (q : Addr) (k : List Key), y = .ref q ∧ F q = some (.tup (k.map kV)) ∧ d = .tuple (k.map keyD) := by
  cases h with
  | @tup a xs ds e0 t =>
    obtain ⟨ks, rfl, rfl⟩ := t.keyK e
    exact ⟨a, ks, rfl, e0, rfl⟩
  | _ => cases e
def kindOf : List (D × D) → Option Bool
  | [] => none
  | p :: _ => if keyK p.1 = true then some false else if keyT p.1 = true then some true else none
theorem keyK_D (k : Key) : keyK (keyD k) = true := by cases k <;> rfl
theorem keyT_D (k : List Key) : keyT (.tuple (k.map keyD)) = true := by
  show (k.map keyD).all keyK = true
  rw [List.all_eq_true]
  intro x hx
  obtain ⟨j, _, rfl⟩ := List.mem_map.mp hx
  exact keyK_D j
/-- a dict: has it tuples as keys, its pairs -/
def dic (w : Wv) (Γ : Ev) : Option (Bool × List (D × D)) := match w with
  | .ow (.k ds) => some (false, ds)
  | .ow (.t ds) => some (true, ds)
  | .sh (.dict ds) => (kindOf ds).map (·, ds)
  | .at i => (match Γ[i]? with
    | some (.ow (.k ds)) => some (false, ds)
    | some (.ow (.t ds)) => some (true, ds)
    | some (.sh (.dict ds)) => (kindOf ds).map (·, ds)
    | _ => none)
  | _ => none
def IsDic (F H : Hp) (b : Bool) (a : Addr) (ds : List (D × D)) : Prop := if b = true then ∃ kvs, H a = some (.dT kvs) ∧ RpT F kvs ds else ∃ kvs, H a = some (.dK kvs) ∧ RpK F kvs ds
theorem dic_sh {F H : Hp} {v : V} {b : Bool} {ds ds' : List (D × D)} (h : Rp F v (.dict ds)) (s : Same F H) (e : (kindOf ds).map (·, ds) = some (b, ds')) : ∃ a, v = .ref a ∧ IsDic F H b a ds' := by
  cases h with
  | @dk a kvs ds e1 t =>
    cases t with
    | nil => cases e
    | @cons k v r d ds h r =>
      simp only [kindOf, keyK_D, if_true, Option.map_some, Option.some.injEq, Prod.mk.injEq] at e
      obtain ⟨rfl, rfl⟩ := e
      refine ⟨a, rfl, ?_⟩
      unfold IsDic
      rw [if_neg Bool.false_ne_true]
      exact ⟨_, s _ _ e1, .cons h r⟩
  | @dt a kvs ds e1 t =>
    cases t with
    | nil => cases e
    | @cons k v r d ds h r =>
      have n : keyK (.tuple (k.map keyD)) = false := rfl
      simp only [kindOf, n, keyT_D, Bool.false_eq_true, if_false, if_true, Option.map_some, Option.some.injEq, Prod.mk.injEq] at e
      obtain ⟨rfl, rfl⟩ := e
      refine ⟨a, rfl, ?_⟩
      unfold IsDic
      rw [if_pos rfl]
      exact ⟨_, s _ _ e1, .cons h r⟩
  | fz e1 t => cases e
section
variable {B F : Hp} {Γ : Ev} {σ : L2.St} {H : Hp} {fp : Nat → List Addr} {v : V} {w : Wv} {b : Bool} {ds : List (D × D)}
theorem dic_ro {o : O} {f : List Addr} (h : RO F H v o f) : (∀ ds, o = .k ds → ∃ a, v = .ref a ∧ IsDic F H false a ds) ∧ (∀ ds, o = .t ds → ∃ a, v = .ref a ∧ IsDic F H true a ds) := by
  cases h with
  | l _ _ => exact ⟨(fun _ e => nomatch e), (fun _ e => nomatch e)⟩
  | @k a kvs ds e t => exact ⟨fun _ q => by
      cases q
      exact ⟨a, rfl, by
        unfold IsDic
        rw [if_neg Bool.false_ne_true]
        exact ⟨kvs, e, t⟩⟩, fun _ e => nomatch e⟩
  | @t a kvs ds e t => exact ⟨(fun _ e => nomatch e), fun _ q => by
      cases q
      exact ⟨a, rfl, by
        unfold IsDic
        rw [if_pos rfl]
        exact ⟨kvs, e, t⟩⟩⟩
theorem dic_ok (r : Rel B F Γ σ H fp) (h : RW B F Γ σ H fp v w) (e : dic w Γ = some (b, ds)) : ∃ a, v = .ref a ∧ IsDic F H b a ds := by
  cases h with
  | @sh d h =>
    cases d with
    | dict ds0 => exact dic_sh h r.fx e
    | _ => cases e
  | @ow o f h hf =>
    cases o with
    | l _ => cases e
    | k ds0 =>
      cases e
      exact (dic_ro h).1 _ rfl
    | t ds0 =>
      cases e
      exact (dic_ro h).2 _ rfl
  | @«at» i h =>
    unfold dic at e
    simp only at e
    split at e
    · rename_i ds0 q
      cases e
      obtain ⟨u, h1, h2⟩ := r.ow i _ q
      rw [h] at h1
      cases h1
      exact (dic_ro h2).1 _ rfl
    · rename_i ds0 q
      cases e
      obtain ⟨u, h1, h2⟩ := r.ow i _ q
      rw [h] at h1
      cases h1
      exact (dic_ro h2).2 _ rfl
    · rename_i ds0 q
      obtain ⟨u, h1, h2⟩ := r.sh i _ q
      rw [h] at h1
      cases h1
      exact dic_sh h2 r.fx e
    · cases e
/-- the key y asked of a dict -/
theorem dic_get {a : Addr} {y : V} {k : D} (d : IsDic F H b a ds) (s : Same F H) (hy : Rp H y k) (hk : (if b = true then keyT k else keyK k) = true) :
    ∃ o, DGet H a y o ∧ ((lookD ds k = none ∧ o = none) ∨ ∃ v e, lookD ds k = some e ∧ o = some v ∧ Rp F v e) := by
  cases b with
  | true =>
    obtain ⟨kvs, e, t⟩ := d
    obtain ⟨q, ks, rfl, e2, rfl⟩ := hy.keyT hk
    refine ⟨_, .t e e2, ?_⟩
    rcases t.look ks with ⟨h1, h2⟩ | ⟨v, x, h1, h2, h3⟩
    · exact .inl ⟨h1, h2⟩
    · exact .inr ⟨v, x, h1, h2, h3⟩
  | false =>
    obtain ⟨kvs, e, t⟩ := d
    obtain ⟨ks, rfl, rfl⟩ := hy.keyK hk
    refine ⟨_, .k e, ?_⟩
    rcases t.look ks with ⟨h1, h2⟩ | ⟨v, x, h1, h2, h3⟩
    · exact .inl ⟨h1, h2⟩
    · exact .inr ⟨v, x, h1, h2, h3⟩
theorem dic_isD {a : Addr} (d : IsDic F H b a ds) : IsD H a := by
  cases b with
  | true =>
    obtain ⟨kvs, e, t⟩ := d
    exact .inr ⟨kvs, .inl e⟩
  | false =>
    obtain ⟨kvs, e, t⟩ := d
    exact .inl ⟨kvs, .inl e⟩
/-- slot i's own dict gets a pair -/
theorem Rel.putS {i : Nat} {y z : V} {k e : D} (r : Rel B F Γ σ H fp) (hv : σ[i]? = some (some v)) (hy : Rp F y k) (hz : Rp F z e) (hl : ds.length < sizeLine) :
    (Γ[i]? = some (.ow (.k ds)) → keyK k = true → ∃ a H', v = .ref a ∧ DPut H a y z H' ∧ Rel B F (Γ.set i (.ow (.k (putD ds k e)))) σ H' fp) ∧
    (Γ[i]? = some (.ow (.t ds)) → keyT k = true → ∃ a H', v = .ref a ∧ DPut H a y z H' ∧ Rel B F (Γ.set i (.ow (.t (putD ds k e)))) σ H' fp) := by
  have gen : ∀ {o o' : O} {a : Addr} {u : HO}, Γ[i]? = some (.ow o) → RO F H v o (fp i) → v = .ref a → fp i = [a] → RO F (upd H a u) v o' [a] → Rel B F (Γ.set i (.ow o')) σ (upd H a u) fp := by
    intro o o' a u e h2 ea hf h3
    have hm : a ∈ fp i := by rw [hf]; simp
    obtain ⟨b1, b2, b3⟩ := r.nb i a hm
    refine ⟨fun c o q => ?_, fun c o q => ?_, by rw [List.length_set]; exact r.len, fun j d q => ?_, fun j o q => ?_, fun j c hc => ?_, r.dj, fun j a q => r.ex j a (ex_ne (fun _ => Sl.noConfusion) q).2⟩
    · rw [upd_ne fun z => by subst z; rw [b1] at q; cases q]
      exact r.bx c o q
    · rw [upd_ne fun z => by subst z; rw [b2] at q; cases q]
      exact r.fx c o q
    · by_cases hj : i = j
      · subst hj
        rw [List.getElem?_set_self (List.getElem?_eq_some_iff.mp e).1] at q
        cases q
      · rw [List.getElem?_set_ne hj] at q
        exact r.sh j d q
    · by_cases hj : i = j
      · subst hj
        rw [List.getElem?_set_self (List.getElem?_eq_some_iff.mp e).1] at q
        cases q
        refine ⟨_, hv, ?_⟩
        rw [hf]
        exact h3
      · rw [List.getElem?_set_ne hj] at q
        obtain ⟨w, g1, g2⟩ := r.ow j o q
        exact ⟨w, g1, g2.mono (Same.refl F) fun c hc => upd_ne fun z => hj (r.dj i j c (z ▸ hm) hc)⟩
    · obtain ⟨c1, c2, c3⟩ := r.nb j c hc
      refine ⟨c1, c2, ?_⟩
      unfold upd
      split
      · exact fun z => nomatch z
      · exact c3
  refine ⟨fun q hk => ?_, fun q hk => ?_⟩
  · obtain ⟨u, h1, h2⟩ := r.ow i _ q
    rw [hv] at h1
    cases h1
    generalize hf : fp i = f at h2
    cases h2 with
    | @k a kvs ds e1 t =>
      obtain ⟨ks, rfl, rfl⟩ := hy.keyK hk
      refine ⟨a, _, rfl, .k e1 (by rw [t.length]; exact hl), gen q (hf ▸ .k e1 t) rfl hf (.k upd_same (t.put hz))⟩
  · obtain ⟨u, h1, h2⟩ := r.ow i _ q
    rw [hv] at h1
    cases h1
    generalize hf : fp i = f at h2
    cases h2 with
    | @t a kvs ds e1 t =>
      obtain ⟨q2, ks, rfl, e2, rfl⟩ := hy.keyT hk
      refine ⟨a, _, rfl, .t e1 (r.fx _ _ e2) (by rw [t.length]; exact hl), gen q (hf ▸ .t e1 t) rfl hf (.t upd_same (t.put hz))⟩
end
section
variable {X : Cx} {W : WX} {pos p : Pos} {a b e f : Expr} {ta tb te tf : TE} {pa pb pe pf : QE}
theorem new_k {B F : Hp} {Γ : Ev} {σ : L2.St} {H : Hp} {fp : Nat → List Addr} {p : Addr} (r : Rel B F Γ σ H fp) (hp : H p = none) :
    Rel B F Γ σ (upd H p (.dK [])) fp ∧ RW B F Γ σ (upd H p (.dK [])) fp (.ref p) (.ow (.k [])) := by
  refine ⟨r.new hp, .ow (.k upd_same .nil) fun a ha => ?_⟩
  simp only [List.mem_singleton] at ha
  subst ha
  exact free_of r hp
theorem new_t {B F : Hp} {Γ : Ev} {σ : L2.St} {H : Hp} {fp : Nat → List Addr} {p : Addr} (r : Rel B F Γ σ H fp) (hp : H p = none) :
    Rel B F Γ σ (upd H p (.dT [])) fp ∧ RW B F Γ σ (upd H p (.dT [])) fp (.ref p) (.ow (.t [])) := by
  refine ⟨r.new hp, .ow (.t upd_same .nil) fun a ha => ?_⟩
  simp only [List.mem_singleton] at ha
  subst ha
  exact free_of r hp
def qOwn (o : O) : QE := fun Γ R _ => R (.ow o) Γ
theorem d_dK : DE X W (.Dict [] [] pos) tDNewK (qOwn (.k [])) := ⟨pe_dnewK, fun {B F Γ σ H fp} R EX Q r q k _ p hp => by
  obtain ⟨r', v'⟩ := new_k r hp
  exact k _ Γ _ F _ fp .refl r' v' q⟩
theorem d_dT : DE X W (.Dict [] [] pos) tDNewT (qOwn (.t [])) := ⟨pe_dnewT, fun {B F Γ σ H fp} R EX Q r q k _ p hp => by
  obtain ⟨r', v'⟩ := new_t r hp
  exact k _ Γ _ F _ fp .refl r' v' q⟩
/-- y in d, y not in d -/
def dget (w : Wv) (Γ : Ev) (dk : D) (k : Option D → Prop) : Prop := match dic w Γ with
  | some (b, ds) => (if b = true then keyT dk else keyK dk) = true ∧ k (lookD ds dk)
  | none => False
theorem dget_ok {B F : Hp} {Γ : Ev} {σ : L2.St} {H : Hp} {fp : Nat → List Addr} {v y : V} {w : Wv} {dk : D} {k : Option D → Prop} (r : Rel B F Γ σ H fp) (h : RW B F Γ σ H fp v w) (hy : Rb F H y dk) (q : dget w Γ dk k) :
    ∃ a o, v = .ref a ∧ IsD H a ∧ DGet H a y o ∧ ((o = none ∧ k none) ∨ ∃ u x, o = some u ∧ Rp F u x ∧ k (some x)) := by
  unfold dget at q
  split at q
  · rename_i b ds e
    obtain ⟨a, rfl, d⟩ := dic_ok r h e
    obtain ⟨o, g, z⟩ := dic_get d r.fx (hy.rp r.fx) q.1
    refine ⟨a, o, rfl, dic_isD d, g, ?_⟩
    rcases z with ⟨z1, z2⟩ | ⟨u, x, z1, z2, z3⟩
    · exact .inl ⟨z2, by rw [← z1]; exact q.2⟩
    · exact .inr ⟨u, x, z2, z3, by rw [← z1]; exact q.2⟩
  · exact q.elim
def qDIn (g : Bool → Bool) (py pd : QE) : QE := fun Γ R E => py Γ (fun w1 Γ1 => pd Γ1 (fun w2 Γ2 => bor w1 Γ2 fun dk => dget w2 Γ2 dk fun o => R (.sh (.bool (g o.isSome))) Γ2) E) E
theorem se_din {g : Bool → Bool} (ha : SE W ta pa) (hb : SE W tb pb) : SE W (tOp (fun y x H Q => ∃ a o, x = .ref a ∧ DGet H a y o ∧ Q (.bl (g o.isSome)) H) ta tb) (qDIn g pa pb) := fun {B F Γ σ H fp} R EX Q rr h k e => by
  refine se_two ha hb rr h (Z := fun w1 w2 Γ2 => bor w1 Γ2 fun dk => dget w2 Γ2 dk fun o => R (.sh (.bool (g o.isSome))) Γ2) (fun w1 w2 Γ' x y F' H' fp' x1 r1 v1 v2 z => ?_) e
  obtain ⟨dk, b1, z⟩ := bor_rb r1 v1 z
  obtain ⟨a, o, rfl, _, gg, z⟩ := dget_ok r1 v2 b1 z
  refine ⟨a, o, rfl, gg, ?_⟩
  rcases z with ⟨rfl, z⟩ | ⟨u, x, rfl, _, z⟩
  · exact k _ Γ' _ F' H' fp' x1 r1 (.sh (.bl _)) z
  · exact k _ Γ' _ F' H' fp' x1 r1 (.sh (.bl _)) z
theorem d_din {j : Nat} (hr : Room j X.A) (ha : DE X W a ta pa) (hb : DE X W b tb pb) (hm : behindInMarks .In b = false := by with_unfolding_all rfl) : DE X W (.Compare a [.In] [b] pos) (tDIn ta tb) (qDIn id pa pb) := ⟨pe_cmp (pc_din (hu_of hr) ha.pe hb.pe) hm, se_din (g := id) ha.se hb.se⟩
theorem d_dnotin {j : Nat} (hr : Room j X.A) (ha : DE X W a ta pa) (hb : DE X W b tb pb) (hm : behindInMarks .NotIn b = false := by with_unfolding_all rfl) : DE X W (.Compare a [.NotIn] [b] pos) (tDNotIn ta tb) (qDIn not pa pb) := ⟨pe_cmp (pc_dnotin (hu_of hr) ha.pe hb.pe) hm, se_din (g := not) ha.se hb.se⟩
theorem d_tdin {j : Nat} (hr : Room j X.A) (ha : DE X W a ta pa) (hb : DE X W b tb pb) (hm : behindInMarks .In b = false := by with_unfolding_all rfl) : DT X W (.Compare a [.In] [b] pos) (tB (tDIn ta tb)) (qB (qDIn id pa pb)) := ⟨pt_cmp (pc_din (hu_of hr) ha.pe hb.pe) hm, st_tt (se_din (g := id) ha.se hb.se)⟩
theorem d_tdnotin {j : Nat} (hr : Room j X.A) (ha : DE X W a ta pa) (hb : DE X W b tb pb) (hm : behindInMarks .NotIn b = false := by with_unfolding_all rfl) : DT X W (.Compare a [.NotIn] [b] pos) (tB (tDNotIn ta tb)) (qB (qDIn not pa pb)) := ⟨pt_cmp (pc_dnotin (hu_of hr) ha.pe hb.pe) hm, st_tt (se_din (g := not) ha.se hb.se)⟩
/-- d[k] -/
def qDGet (pd py : QE) : QE := fun Γ R E => pd Γ (fun w1 Γ1 => py Γ1 (fun w2 Γ2 => bor w2 Γ2 fun dk => dget w1 Γ2 dk fun o => match o with
  | some d => R (.sh d) Γ2
  | none => False) E) E
theorem d_dget {j : Nat} (hr : Room j X.A) (ha : DE X W a ta pa) (hb : DE X W b tb pb) (hs : NoSl b := by exact fun _ _ => rfl) : DE X W (.Subscript a b pos) (tDGet ta tb) (qDGet pa pb) := ⟨pe_dget (hu_of hr) ha.pe hb.pe hs, fun {B F Γ σ H fp} R EX Q rr h k e => by
  refine se_two ha.se hb.se rr h (Z := fun w1 w2 Γ2 => bor w2 Γ2 fun dk => dget w1 Γ2 dk fun o => match o with
    | some d => R (.sh d) Γ2
    | none => False) (fun w1 w2 Γ' x y F' H' fp' x1 r1 v1 v2 z => ?_) e
  obtain ⟨dk, b1, z⟩ := bor_rb r1 v2 z
  obtain ⟨a, o, rfl, _, gg, z⟩ := dget_ok r1 v1 b1 z
  rcases z with ⟨rfl, z⟩ | ⟨u, x, rfl, hu, z⟩
  · exact z.elim
  · exact ⟨a, u, rfl, gg, k _ Γ' _ F' H' fp' x1 r1 (.sh hu) z⟩⟩
/-- d[k] = v, d an own dict -/
def isOwD : Option Sl → Bool
  | some (.ow (.k _)) => true
  | some (.ow (.t _)) => true
  | _ => false
def qDPut (i : Nat) (py pv : QE) : QS := fun P Γ => pv Γ (fun w Γ1 => shr w Γ1 fun d Γ2 => isOwD Γ2[i]? = true ∧ py Γ2 (fun w2 Γ3 => shr w2 Γ3 fun dk Γ4 => match Γ4[i]? with
  | some (.ow (.k ds)) => keyK dk = true ∧ ds.length < sizeLine ∧ P.nx (Γ4.set i (.ow (.k (putD ds dk d))))
  | some (.ow (.t ds)) => keyT dk = true ∧ ds.length < sizeLine ∧ P.nx (Γ4.set i (.ow (.t (putD ds dk d))))
  | _ => False) P.ex) P.ex
theorem ds_dput (i : Nat) {j : Nat} {x : Str} {px pos' : Pos} (hr : Room j X.A) (hi : DE X W b tb pb) (hv : DE X W e te pe) (hs : swapsWith e (some (.Subscript (.Name x px) b pos')) pos.line X.env = pure false := by rfl) (hN : X.N[i]? = some x := by rfl)
    (hvis : Vis X.env.scope x := by first | exact Or.inl rfl | exact Or.inr (Or.inl rfl) | exact Or.inr (Or.inr rfl)) (hd : (x == ("__debug__" : Str)) = false := by decide) (hcd : (x == ("__classdict__" : Str)) = false := by decide) :
    DS X W (.Assign [.Subscript (.Name x px) b pos'] e pos) (sDPut (tVar i) tb te) (qDPut i pb pe) := ⟨ps_dput (hu_of hr) (pe_var hN hvis hd hcd) hi.pe hv.pe hs, fun {B F Γ σ H fp} P D r q a => by
  refine hv.se _ _ _ r q (fun w Γ1 v F1 H1 fp1 x1 r1 v1 h1 => ?_) a.afe
  obtain ⟨d, Γ2, F2, fp2, x2, r2, b2, ho, h2⟩ := shr_ok r1 v1 h1
  have hσ : ∃ u, σ[i]? = some (some u) := by
    unfold isOwD at ho
    split at ho
    · rename_i q
      obtain ⟨u, z, _⟩ := r2.ow i _ q
      exact ⟨u, z⟩
    · rename_i q
      obtain ⟨u, z, _⟩ := r2.ow i _ q
      exact ⟨u, z⟩
    · cases ho
  obtain ⟨u, hu⟩ := hσ
  refine ⟨u, hu, hi.se _ _ _ r2 h2 (fun w2 Γ3 y F3 H3 fp3 x3 r3 v3 h3 => ?_) (a.mono (x1.trans x2)).afe⟩
  obtain ⟨dk, Γ4, F4, fp4, x4, r4, b4, h4⟩ := shr_ok r3 v3 h3
  have b2' := (b2.mono x3.same).mono x4.same
  have xx := ((x1.trans x2).trans x3).trans x4
  split at h4
  · rename_i ds q
    obtain ⟨h5, h6, h7⟩ := h4
    obtain ⟨ad, H', ea, g, r5⟩ := (r4.putS (v := u) hu b4 b2' h6).1 q h5
    exact ⟨ad, H', ea, g, a.nx _ F4 σ H' fp4 xx r5 h7⟩
  · rename_i ds q
    obtain ⟨h5, h6, h7⟩ := h4
    obtain ⟨ad, H', ea, g, r5⟩ := (r4.putS (v := u) hu b4 b2' h6).2 q h5
    exact ⟨ad, H', ea, g, a.nx _ F4 σ H' fp4 xx r5 h7⟩
  · exact h4.elim⟩
/-- d.get(k), d.get(k, x) -/
def qGet1 (pd py : QE) : QE := fun Γ R E => pd Γ (fun w1 Γ1 => (dic w1 Γ1).isSome = true ∧ py Γ1 (fun w2 Γ2 => bor w2 Γ2 fun dk => dget w1 Γ2 dk fun o => R (.sh (o.getD .none)) Γ2) E) E
theorem d_get1 {j : Nat} {apos : Pos} (hr : Room j X.A) (ha : DE X W a ta pa) (hb : DE X W b tb pb) (m : M1 X a "get" apos b pos := by exact ⟨rfl, rfl, rfl, rfl⟩) : DE X W (.Call (.Attribute a "get" apos) [b] [] pos) (tDGet1 ta tb) (qGet1 pa pb) := ⟨pe_dget1 (hu_of hr) ha.pe hb.pe m, fun {B F Γ σ H fp} R EX Q rr h k e => by
  refine ha.se _ EX _ rr h (fun w1 Γ1 x F1 H1 fp1 x1 r1 v1 h1 => ?_) e
  obtain ⟨hd, h1⟩ := h1
  obtain ⟨⟨bb, ds⟩, hd⟩ := Option.isSome_iff_exists.mp hd
  obtain ⟨a, rfl, d⟩ := dic_ok r1 v1 hd
  refine ⟨a, rfl, dic_isD d, ?_⟩
  obtain ⟨B', r1', g⟩ := r1.guard v1
  refine hb.se _ EX _ r1' h1 (fun w2 Γ2 y F2 H2 fp2 x2 r2 v2 h2 => ?_) fun c Γ' F' H' fp' x2 r2 q => ?_
  · obtain ⟨x3, r3, v3, g2⟩ := g F2 Γ2 H2 fp2 x2 r2
    obtain ⟨dk, b1, z⟩ := bor_rb r3 (g2 _ _ v2) h2
    obtain ⟨a', o, e', _, gg, z⟩ := dget_ok r3 v3 b1 z
    cases e'
    refine ⟨o, gg, ?_⟩
    rcases z with ⟨rfl, z⟩ | ⟨u, x, rfl, hu, z⟩
    · exact k _ Γ2 _ F2 H2 fp2 (x1.trans x3) r3 (.sh .non) z
    · exact k _ Γ2 _ F2 H2 fp2 (x1.trans x3) r3 (.sh hu) z
  · obtain ⟨x3, r3, _, _⟩ := g F' Γ' H' fp' x2 r2
    exact e c Γ' F' H' fp' (x1.trans x3) r3 q⟩
/-- len of a dict -/
def opLenD (w : Wv) (Γ : Ev) (k : Wv → Prop) : Prop := match dic w Γ with
  | some (_, ds) => k (.sh (.int ds.length))
  | none => False
def qLenD (p : QE) : QE := fun Γ R E => p Γ (fun w Γ1 => opLenD w Γ1 fun w' => R w' Γ1) E
def rLenD2 : List V → Hp → VK → Prop := fun xs H Q => (∃ a kvs, xs = [V.ref a] ∧ H a = some (.dK kvs) ∧ Q (.int kvs.length) H) ∨ ∃ (p : Addr) (kvs : List (List Key × V)), xs = [.ref p] ∧ H p = some (.dT kvs) ∧ Q (.int ((kvs.length : Nat) : Int)) H
theorem d_lenD (hm : X.mg "len" = none) (ha : DE X W a ta pa) (hg : Gl X "len" := by rfl) (he : starEach [a] X.env = (false, eval a X.env) :: starEach [] X.env := by rfl) (hpl : (backTo pos (starEach [] X.env)).any (·.1) = false := by rfl) :
    DE X W (.Call (.Name "len" p) [a] [] pos) (tCB rLenD2 (tCons ta tNil)) (qLenD pa) := ⟨pe_callB (CallR.or call_lenD call_len_dT) hg hm PySem.boot_len (pa_cons ha.pe pa_nil he) (by decide) (by decide) he hpl, fun {B F Γ σ H fp} R EX Q rr h k e => by
  refine ha.se _ EX _ rr h (fun w1 Γ1 x F1 H1 fp1 x1 r1 v1 h1 => ?_) e
  unfold opLenD at h1
  split at h1
  · rename_i b ds hd
    obtain ⟨a, rfl, d⟩ := dic_ok r1 v1 hd
    cases b with
    | true =>
      obtain ⟨kvs, e1, t⟩ := d
      exact .inr ⟨a, kvs, rfl, e1, k _ Γ1 _ F1 H1 fp1 x1 r1 (.sh (.int _)) (by rw [t.length]; exact h1)⟩
    | false =>
      obtain ⟨kvs, e1, t⟩ := d
      exact .inl ⟨a, kvs, rfl, e1, k _ Γ1 _ F1 H1 fp1 x1 r1 (.sh (.int _)) (by rw [t.length]; exact h1)⟩
  · exact h1.elim⟩
end
end PL

namespace PL
open PySem PySem.Spec PyProof.Rows L2

/-! ### comprehensions of two clauses -/
def lc2Go (vs vs1 : List Nat) (g : QG) (t : QT) (i1 : QI) (g1 : QG) (t1 : QT) (p : QE) (k : List D → Ev → Prop) : List D → List D → Ev → Prop
  | [], acc, Γ => k acc Γ
  | d :: r, acc, Γ => g (.sh d) Γ fun Γ1 => t Γ1 (fun b Γ2 => Cif b (i1 Γ2 (fun ds1 Γ3 => lcGo vs1 g1 t1 p (fun acc' Γ4 => lc2Go vs vs1 g t i1 g1 t1 p k r acc' (wipEv vs Γ4)) ds1 acc (wipEv vs1 Γ3)) noEX)
      (lc2Go vs vs1 g t i1 g1 t1 p k r acc (wipEv vs Γ2))) noEX
def qLc2 (vs vs1 : List Nat) (i : QI) (g : QG) (t : QT) (i1 : QI) (g1 : QG) (t1 : QT) (p : QE) : QE := fun Γ R E => i Γ (fun ds Γ1 => noOw Γ1 vs = true ∧ lc2Go vs vs1 g t i1 g1 t1 p (fun acc Γ2 => R (.ow (.l acc)) (backEv Γ1 vs Γ2)) ds [] (wipEv vs Γ1)) E
theorem wipe_wipe {σ : L2.St} {vs vs1 : List Nat} (h : ∀ j ∈ vs1, j ∈ vs) : wipe (wipe σ vs1) vs = wipe σ vs := by
  apply List.ext_getElem?
  intro i
  rcases wipe_get (wipe σ vs1) vs i with ⟨h1, q⟩ | ⟨h1, q⟩
  · rcases wipe_get σ vs i with ⟨h2, q'⟩ | ⟨h2, _⟩
    · by_cases hi : i < σ.length
      · have e1 : (wipe (wipe σ vs1) vs)[i]? ≠ none := by
          rw [List.getElem?_eq_getElem (by rw [wipe_length, wipe_length]; omega)]
          exact fun z => nomatch z
        have e2 : (wipe σ vs)[i]? ≠ none := by
          rw [List.getElem?_eq_getElem (by rw [wipe_length]; omega)]
          exact fun z => nomatch z
        rcases q with q | q
        · rcases q' with q' | q'
          · rw [q, q']
          · exact absurd q' e2
        · exact absurd q e1
      · rw [List.getElem?_eq_none (by rw [wipe_length, wipe_length]; omega), List.getElem?_eq_none (by rw [wipe_length]; omega)]
    · exact absurd h1 h2
  · rcases wipe_get σ vs i with ⟨h2, _⟩ | ⟨_, q'⟩
    · exact absurd h2 h1
    · rw [q, q']
      rcases wipe_get σ vs1 i with ⟨h3, _⟩ | ⟨_, q3⟩
      · exact absurd (h i h3) h1
      · exact q3
section
variable {W : WX} {wi wi1 : TI} {qi qi1 : QI} {g g1 : TG} {qg qg1 : QG} {js js1 : List Nat} {tt tt1 : TT} {qt qt1 : QT} {te : TE} {qe : QE} {vs vs1 : List Nat}
theorem se_lc2 (hi : SI W wi qi) (hg : SG g qg js) (ht : ST W0 tt qt) (hi1 : SI W0 wi1 qi1) (hg1 : SG g1 qg1 js1) (ht1 : ST W0 tt1 qt1) (he : SE W0 te qe) (hj : ∀ j ∈ js, j ∈ vs) (hj1 : ∀ j ∈ js1, j ∈ vs1) (hv : ∀ j ∈ vs1, j ∈ vs) :
    SE W (tLc2 wi g tt wi1 g1 tt1 te vs vs1) (qLc2 vs vs1 qi qg qt qi1 qg1 qt1 qe) := fun {B F Γ σ H fp} R EX Q r q k e => by
  refine hi _ _ _ r q (fun ds Γ1 J F1 H1 fp1 x1 r1 ok h1 => ?_) e
  obtain ⟨ho, h1⟩ := h1
  intro Dl hD
  have r2 : Rel B F1 (wipEv vs Γ1) (wipe σ vs) H1 fp1 := r1.wip vs
  obtain ⟨r3, v3⟩ := new_lst r2 (.nil) hD
  generalize hKK : (fun (acc : List D) (Γ2 : Ev) => R (.ow (.l acc)) (backEv Γ1 vs Γ2)) = KK at h1
  refine ⟨fun i m H' => m + i = ds.length ∧ ∃ Γ' F' fp' acc, Ext B F1 F' ∧ Rel B F' Γ' (wipe σ vs) H' fp' ∧ OwnV B F' H' fp' (.ref Dl) (.l acc) ∧
    lc2Go vs vs1 qg qt qi1 qg1 qt1 qe KK (ds.drop i) acc Γ', ⟨ds.length, rfl, _, F1, fp1, [], .refl, r3, v3.own, h1⟩, ?_⟩
  rintro i m H' ⟨hm, Γ', F', fp', acc, x, r', v', hf⟩
  obtain ⟨o1, o2⟩ := ok B F' Γ' _ H' fp' x.same r' i
  by_cases hlt : i < ds.length
  · obtain ⟨B', rB, gd⟩ := r'.hold v'
    obtain ⟨go, yld⟩ := (ok B' F' Γ' _ H' fp' x.same rB i).1 ds[i] (List.getElem?_eq_getElem hlt)
    refine .inr ⟨go, fun H2 => ∃ m', m' < m ∧ (m' + (i + 1) = ds.length ∧ ∃ Γ' F' fp' acc, Ext B F1 F' ∧ Rel B F' Γ' (wipe σ vs) H2 fp' ∧ OwnV B F' H2 fp' (.ref Dl) (.l acc) ∧
      lc2Go vs vs1 qg qt qi1 qg1 qt1 qe KK (ds.drop (i + 1)) acc Γ'), fun H2 h => h, fun y H2 hy => ?_⟩
    obtain ⟨F2, x2, r2, b2⟩ := yld y H2 hy
    rw [List.drop_eq_getElem_cons hlt] at hf
    refine hg _ _ r2 (.sh b2) hf fun Γ3 F3 σ3 fp3 x3 r3 c3 h3 => ?_
    have hw : wipe σ3 vs = wipe σ vs := wipe_chg c3 hj
    refine ⟨hw, ht _ noEX _ r3 h3 (fun b Γ4 F4 H4 fp4 x4 r4 h4 => ?_) afe_no⟩
    have x24 := (x2.trans x3).trans x4
    cases b with
    | true =>
      refine hi1 _ noEX _ r4 (h4.t rfl) (fun ds1 Γ5 J1 F5 H5 fp5 x5 r5 ok1 h5 => ?_) afe_no
      have r5w := r5.wip vs1
      obtain ⟨y5, r5b, v5⟩ := gd F5 _ _ H5 fp5 (x24.trans x5) r5w
      refine ⟨fun i' m' H' => m' + i' = ds1.length ∧ ∃ Γ' F' fp' acc, Ext B F5 F' ∧ Rel B F' Γ' (wipe σ3 vs1) H' fp' ∧ OwnV B F' H' fp' (.ref Dl) (.l acc) ∧
        lcGo vs1 qg1 qt1 qe (fun acc' Γ4 => lc2Go vs vs1 qg qt qi1 qg1 qt1 qe KK (ds.drop (i + 1)) acc' (wipEv vs Γ4)) (ds1.drop i') acc Γ', ⟨ds1.length, rfl, _, F5, fp5, acc, .refl, r5b, v5, h5⟩, ?_⟩
      rintro i' m' Hi ⟨hm', Γi, Fi, fpi, acci, xi, ri, vi, hfi⟩
      obtain ⟨p1, p2⟩ := ok1 B Fi Γi _ Hi fpi xi.same ri i'
      by_cases hlt' : i' < ds1.length
      · obtain ⟨Bi, rBi, gdi⟩ := ri.hold vi
        obtain ⟨goi, yldi⟩ := (ok1 Bi Fi Γi _ Hi fpi xi.same rBi i').1 ds1[i'] (List.getElem?_eq_getElem hlt')
        refine .inr ⟨goi, fun H2 => ∃ m'', m'' < m' ∧ (m'' + (i' + 1) = ds1.length ∧ ∃ Γ' F' fp' acc, Ext B F5 F' ∧ Rel B F' Γ' (wipe σ3 vs1) H2 fp' ∧ OwnV B F' H2 fp' (.ref Dl) (.l acc) ∧
          lcGo vs1 qg1 qt1 qe (fun acc' Γ4 => lc2Go vs vs1 qg qt qi1 qg1 qt1 qe KK (ds.drop (i + 1)) acc' (wipEv vs Γ4)) (ds1.drop (i' + 1)) acc Γ'), fun H2 h => h, fun y H6 hy => ?_⟩
        obtain ⟨F6, x6, r6, b6⟩ := yldi y H6 hy
        rw [List.drop_eq_getElem_cons hlt'] at hfi
        refine hg1 _ _ r6 (.sh b6) hfi fun Γ7 F7 σ7 fp7 x7 r7 c7 h7 => ?_
        have hw1 : wipe σ7 vs1 = wipe σ3 vs1 := wipe_chg c7 hj1
        refine ⟨hw1, ht1 _ noEX _ r7 h7 (fun b Γ8 F8 H8 fp8 x8 r8 h8 => ?_) afe_no⟩
        have x68 := (x6.trans x7).trans x8
        cases b with
        | true =>
          refine he _ noEX _ r8 (h8.t rfl) (fun w9 Γ9 z F9 H9 fp9 x9 r9 v9 h9 => ?_) afe_no
          obtain ⟨d0, Γ0, F0, fp0, x0, r0, b0, hsz, h0⟩ := shr_ok r9 v9 h9
          have r1w := r0.wip vs1
          rw [hw1] at r1w
          obtain ⟨ya, ra, va⟩ := gdi F0 _ _ H9 fp0 ((x68.trans x9).trans x0) r1w
          obtain ⟨xs, e9, l9, rb, vb⟩ := own_app ra va b0
          exact ⟨xs, e9, by rw [l9]; exact hsz, m' - 1, by omega, by omega, _, F0, fp0, _, xi.trans ya, rb, vb, h0⟩
        | false =>
          have r1w := r8.wip vs1
          rw [hw1] at r1w
          obtain ⟨ya, ra, va⟩ := gdi F8 _ _ H8 fp8 x68 r1w
          exact ⟨m' - 1, by omega, by omega, _, F8, fp8, acci, xi.trans ya, ra, va, h8.f rfl⟩
      · refine .inl ⟨p2 (by omega), ?_⟩
        have e0 : ds1.drop i' = [] := List.drop_of_length_le (by omega)
        rw [e0] at hfi
        have rw2 := ri.wip vs
        rw [wipe_wipe hv, hw] at rw2
        exact ⟨m - 1, by omega, by omega, _, Fi, fpi, acci, (x.trans y5).trans xi, rw2, vi, hfi⟩
    | false =>
      have r7 := r4.wip vs
      rw [hw] at r7
      obtain ⟨y8, r8, v8⟩ := gd F4 _ _ H4 fp4 x24 r7
      exact ⟨m - 1, by omega, by omega, _, F4, fp4, acc, x.trans y8, r8, v8, h4.f rfl⟩
  · refine .inl ⟨o2 (by omega), ?_⟩
    rw [List.drop_of_length_le (by omega)] at hf
    subst hKK
    exact k _ _ _ F' H' fp' (x1.trans x) (r1.back ho x.same r') v'.rw hf
end
section
variable {X : Cx} {W : WX} {pos : Pos} {e tg iter tg1 iter1 elt : Expr} {wi wi1 : TI} {qi qi1 : QI} {g g1 : TG} {qg qg1 : QG} {js js1 : List Nat} {tt tt1 : TT} {qt qt1 : QT} {te : TE} {qe : QE} {ifs ifs1 : List Expr} {scope : Scope} {own : List (Str × Nat)}
theorem d_lc2 (vs1 : List Nat) (hc : X.calm = true) (hN : X.N.Nodup) (hi : DI X W tg iter wi qi) (ok : BlkOk X.N X.env.scope scope own)
    (hg : ∀ (s : Shared) (H : Hp) (C : Addr) (cl : List (Str × Addr)) (fp : List Addr), DG (X.blk s H scope (compEnvC scope cl C X.env) fp) tg g qg js)
    (ht : ∀ (s : Shared) (H : Hp) (C : Addr) (cl : List (Str × Addr)) (fp : List Addr), DTs (X.blk s H scope (compEnvC scope cl C X.env) fp) W0 ifs tt qt)
    (hi1 : ∀ (s : Shared) (H : Hp) (C : Addr) (cl : List (Str × Addr)) (fp : List Addr), DI (X.blk s H scope (compEnvC scope cl C X.env) fp) W0 tg1 iter1 wi1 qi1)
    (hg1 : ∀ (s : Shared) (H : Hp) (C : Addr) (cl : List (Str × Addr)) (fp : List Addr), DG (X.blk s H scope (compEnvC scope cl C X.env) fp) tg1 g1 qg1 js1)
    (ht1 : ∀ (s : Shared) (H : Hp) (C : Addr) (cl : List (Str × Addr)) (fp : List Addr), DTs (X.blk s H scope (compEnvC scope cl C X.env) fp) W0 ifs1 tt1 qt1)
    (he : ∀ (s : Shared) (H : Hp) (C : Addr) (cl : List (Str × Addr)) (fp : List Addr), DE (X.blk s H scope (compEnvC scope cl C X.env) fp) W0 elt te qe)
    (hj : (∀ j ∈ js, j ∈ own.map (·.2)) := by decide) (hj1 : (∀ j ∈ js1, j ∈ vs1) := by decide) (hv : (∀ j ∈ vs1, j ∈ own.map (·.2)) := by decide) (hs : ∀ x, foldedSetIterable iter X.env x = pure x := by intro _; rfl) (hs1 : ∀ env x, foldedSetIterable iter1 env x = pure x := by intro _ _; rfl) :
    DE X W (.ListComp elt [⟨tg, iter, ifs, 0⟩, ⟨tg1, iter1, ifs1, 0⟩] scope pos) (tLc2 wi g tt wi1 g1 tt1 te (own.map (·.2)) vs1) (qLc2 (own.map (·.2)) vs1 qi qg qt qi1 qg1 qt1 qe) :=
  ⟨pe_lc2 hc hN hi.pi ok hv (fun s H C cl fp => (hg s H C cl fp).pg) (fun s H C cl fp => (ht s H C cl fp).pt) (fun s H C cl fp => (hi1 s H C cl fp).pi) (fun s H C cl fp => (hg1 s H C cl fp).pg) (fun s H C cl fp => (ht1 s H C cl fp).pt) (fun s H C cl fp => (he s H C cl fp).pe) hs hs1,
   se_lc2 hi.si (hg ({} : Shared) (fun _ => none) 0 [] []).sg (ht ({} : Shared) (fun _ => none) 0 [] []).st (hi1 ({} : Shared) (fun _ => none) 0 [] []).si (hg1 ({} : Shared) (fun _ => none) 0 [] []).sg (ht1 ({} : Shared) (fun _ => none) 0 [] []).st (he ({} : Shared) (fun _ => none) 0 [] []).se hj hj1 hv⟩
end
end PL

namespace PL
open PySem PySem.Spec PyProof.Rows L2

/-! ### dict comprehensions, the keys of either kind -/
/-- the new dict -/
abbrev dic0 (b : Bool) : HO := if b = true then .dT [] else .dK []
theorem dic0_ok {P : Program} {w : World} {H : Hp} {h : Heap} (b : Bool) (hb : sysModules < h.objs.size) : ObjOk P w H (h.push { cls := .type "dict", data := .dict #[] }) h.objs.size (dic0 b) := by
  cases b with
  | true => exact dt_empty h hb
  | false => exact dk_empty h hb
section
variable {X : Cx} {pins : List (Addr × Obj)} {σ : L2.St} {H : Hp} {s : Shared}
theorem put_ok {E : Value → Shared → Prop} {a : Addr} {y v : V} {H' : Hp} {u r : Value} {Q : Unit → Shared → Prop} (hu : X.A.units + 1 < cLine) (I : Inv X pins σ H s) (g : DPut H a y v H') (ry : RelV y u) (rv : RelV v r)
    (h : ∀ s', Inv X pins σ H' s' → Q () s') : wpAny (model X.prog X.w) X.A (dictSet a u r) Q E s := by
  rcases g with ⟨kvs, k, e, rfl, l, rfl⟩ | ⟨kvs, k, b, e, rfl, eb, l, rfl⟩
  · exact d_dictSet I e l ry rv h
  · cases (show u = Value.ref b from ry)
    obtain ⟨zz, hd, xs, rel, dd⟩ := dt_of I.hok e
    have hlen := length_putK kvs k v
    have hx : xs.length = kvs.length := (Paired.length rel).symm
    refine wpAny_dictSet_heap (hsz := by omega) (show X.A.units < cLine by omega) (key_of I.hok eb) dd fun h' dd' hs => h _ ?_
    obtain ⟨q, es, ep, hq, h2, h3, h4, _, h5⟩ := dd'
    have keep : ∀ c ys, H c = some (.tup ys) → upd H a (.dT (putK kvs k v)) c = some (.tup ys) := fun c ys ec => by
      rw [upd_ne (ne_of ec e (fun z => nomatch z))]
      exact ec
    exact d_write I (by rw [e]; exact True.intro) hs ⟨q, hq⟩ ⟨by omega, hd, _, (rel.put k eb rv).keeps keep, q, es, ep, hq, h2, h3, h4, h5⟩
end
def tDcG (b : Bool) (wi : TI) (g : TG) (tt : TT) (tk tv : TE) (vs : List Nat) : TE := fun σ H Q => wi σ H fun J H1 => ∀ D, H1 D = none → ∃ W : Nat → Nat → Hp → Prop, (∃ m, W 0 m (upd H1 D (dic0 b))) ∧ ∀ i m H, W i m H →
  (J.stop i H ∧ Q (.ref D) H) ∨ (J.go i H ∧ ∃ Nx : Hp → Prop, (∀ H', Nx H' → ∃ m', m' < m ∧ W (i + 1) m' H') ∧ ∀ x H', J.yld i H x H' → g x (wipe σ vs) H' fun σ2 H2 => wipe σ2 vs = wipe σ vs ∧ tt σ2 H2 fun c H3 =>
    if c = true then tk σ2 H3 fun y H4 => tv σ2 H4 fun z H5 => ∃ H6, DPut H5 D y z H6 ∧ Nx H6 else Nx H3)
section
variable {X : Cx}
theorem dcG_core {b : Bool} {pins : List (Addr × Obj)} {s : Shared} {σ : L2.St} {H : Hp} {Q : VK} {kx vx tg iter : Expr} {ifs : List Expr} {scope : Scope} {own : List (Str × Nat)} {pos pos' : Pos} {wi : TI} {g : TG} {tt : TT} {tk tv : TE} {use : Option (Value → Sem Unit)} {Qf : Value → Shared → Prop}
    (hu : X.A.units + 1 < cLine) (hc : X.calm = true) (hN : X.N.Nodup) (I : Inv X pins σ H s) (hi : PI X tg iter wi) (ok : BlkOk X.N X.env.scope scope own)
    (hg : ∀ (s : Shared) (H : Hp) (C : Addr) (cl : List (Str × Addr)) (fp : List Addr), PG (X.blk s H scope (compEnvC scope cl C X.env) fp) tg g)
    (ht : ∀ (s : Shared) (H : Hp) (C : Addr) (cl : List (Str × Addr)) (fp : List Addr), PTs (X.blk s H scope (compEnvC scope cl C X.env) fp) ifs tt)
    (hk : ∀ (s : Shared) (H : Hp) (C : Addr) (cl : List (Str × Addr)) (fp : List Addr), PE (X.blk s H scope (compEnvC scope cl C X.env) fp) kx tk)
    (he : ∀ (s : Shared) (H : Hp) (C : Addr) (cl : List (Str × Addr)) (fp : List Addr), PE (X.blk s H scope (compEnvC scope cl C X.env) fp) vx tv) (hs : ∀ x, foldedSetIterable iter X.env x = pure x)
    (h : tDcG b wi g tt tk tv (own.map (·.2)) σ H Q)
    (hR : ∀ D C s' m H', Inv X pins σ H' s' → Q (.ref D) H' → s'.heap.Ns C m → FpOk X pins H' C → compPost (model X.prog X.w) X.A X.xe use Qf (.ref D) C (.ok .next) s') :
    wpAny (model X.prog X.w) X.A (comprehension (.DictComp kx vx [⟨tg, iter, ifs, 0⟩] scope pos) scope X.env pos' newDict false (eval iter X.env) use) Qf X.xe s := by
  have free : ∀ y ∈ scope.names, y.2 = .free → ∃ c, X.env.cells.lookup y.1 = some c := fun y hy e => (ok.free y hy e).elim (fun k => I.ok.has _ (.inl k)) fun k => I.ok.has _ (.inr k)
  refine wpAny_comprehension_free (use := use) rfl hs (closure_ok free) ok.kind (fun y hy e => by rw [ok.uniq y hy, e])
    (thn (hi.run pins s σ H _ I h) fun _ _ hx => thn hx fun _ s2 ⟨it, fp, tn, J, H2, e, I2, T, st2, f2, q⟩ => ?_)
  subst e
  refine wpAny_newObj_type (newEnv_comp ?_)
  let Da := s2.heap.objs.size
  have nD : H2 Da = none := I2.hok.fresh (Nat.le_refl _)
  obtain ⟨W, ⟨m0, w0⟩, turn⟩ := q Da nD
  let s3 : Shared := { s2 with heap := s2.heap.push { cls := .type "dict", data := .dict #[] } }
  let H3 : Hp := upd H2 Da (dic0 b)
  have I3 : Inv X pins σ H3 s3 := I2.laid (t' := s2.toks) (fun _ _ e => Heap.get?_push_of_some _ e) (Nat.le_refl _) (dic0_ok b I2.big)
  have lt2 : ∀ c ∈ fp, c < s2.heap.objs.size := fun c hc => let ⟨_, e, _⟩ := T.obj _ _ st2 c hc; Heap.lt_size e
  have f3 : ∀ c ∈ fp, FpOk X pins H3 c ∧ c < s3.heap.objs.size := fun c hc => ⟨⟨(upd_ne (Nat.ne_of_lt (lt2 c hc))).trans (f2 c hc).1, (f2 c hc).2⟩, by
    show c < (s2.heap.push _).objs.size
    rw [Heap.size_push]
    exact Nat.lt_succ_of_lt (lt2 c hc)⟩
  have st3 : tn 0 s3.heap := T.keep _ _ _ st2 fun _ _ _ e => Heap.get?_push_of_some _ e
  have I4 := block_start I3 ok hN f3
  let cl := cellsFrom (s3.heap.objs.size + 1) scope.names (cloFrom X.env.cells scope.names [])
  have pg := hg s3 H3 s3.heap.objs.size cl fp
  have pt := ht s3 H3 s3.heap.objs.size cl fp
  have pk := hk s3 H3 s3.heap.objs.size cl fp
  have pe := he s3 H3 s3.heap.objs.size cl fp
  let ce := compEnvC scope cl s3.heap.objs.size X.env
  let s4 : Shared := { s3 with heap := pushCells (s3.heap.push { cls := .type "dict", data := .dict #[] }) scope.names }
  show codeAny _ _ (.compStart (.DictComp kx vx [⟨tg, iter, ifs, 0⟩] scope pos) 0 (.ref it) (.ref Da) ce) (compPost (model X.prog X.w) X.A X.xe use Qf (.ref Da) s3.heap.objs.size) s4
  have st4 : tn 0 s4.heap := T.keep _ _ _ st3 fun _ _ _ e => pushCells_keeps _ _ _ _ (Heap.get?_push_of_some _ e)
  have stat : ∀ {σ' : L2.St} {H' : Hp} {s' : Shared}, Inv (X.blk s3 H3 scope ce fp) [] σ' H' s' → (∀ c ∈ fp, H' c = none) → ∀ c ∈ fp, FpOk (X.blk s3 H3 scope ce fp) [] H' c := fun {σ' H' s'} I' hn c hc =>
    ⟨hn c hc, (I'.ok.exf c hc).1, I'.ok.exfs c hc, .inl hc, fun x d e => (I'.ok.exf c hc).2 x d e, fun p hp => absurd (show p ∈ ([] : List (Addr × Obj)) ++ [] from hp) (by simp)⟩
  have loop : codeAny (model X.prog X.w) X.A (.compLoop (.DictComp kx vx [⟨tg, iter, ifs, 0⟩] scope pos) 0 (.ref it) (.ref Da) ce) (compPost (model X.prog X.w) X.A X.xe use Qf (.ref Da) s3.heap.objs.size) s4 := by
    refine compLoop_anyD (fun n s' => ∃ i H', Inv (X.blk s3 H3 scope ce fp) [] (wipe σ (own.map (·.2))) H' s' ∧ tn i s'.heap ∧ (∀ c ∈ fp, H' c = none) ∧ W i n H') ?_ m0 ⟨0, H3, I4, st4, fun c hc => (f3 c hc).1.1, w0⟩
    rintro n s5 ⟨i, H5, I5, st5, n5, w5⟩
    rcases turn i n H5 w5 with ⟨stop, qq⟩ | ⟨go, Nx, hNx, step⟩
    · refine thnF (T.done (X.blk s3 H3 scope ce fp) rfl rfl rfl hc i [] s5 _ H5 (fun _ _ => False) I5 (stat I5 n5) st5 stop) fun r s6 ⟨hr, I6⟩ => ?_
      subst hr
      obtain ⟨m, hn, _⟩ := I6.loc
      exact hR Da s3.heap.objs.size s6 m H5 (I3.call' (ch := fp) I6.os I6.base I6.hok I6.bare fun c hc => ⟨(f3 c hc).1.2.2.2.1, (f3 c hc).1.2.1, (f3 c hc).1.2.2.2.2.1, (f3 c hc).1.2.2.2.2.2⟩) qq hn (I3.fpOk (Nat.le_refl _) I6.free)
    · refine thnF (T.item (X.blk s3 H3 scope ce fp) rfl rfl rfl hc i [] s5 _ H5 (fun _ _ => False) I5 (stat I5 n5) st5 go) fun r s6 ⟨u, hr, h6⟩ => ?_
      subst hr
      refine thnF h6 fun _ s7 ⟨x, H7, I7, r7, y7, st7, n7⟩ => ?_
      refine thnF (pg.run _ s7 _ H7 x u _ (I7.pinned (stat I7 n7) (T.obj _ _ st7)) r7 (step x H7 y7)) fun _ s8 ⟨σ8, H8, I8, hw8, q8⟩ => ?_
      have fin : ∀ {s' : Shared} {H' : Hp}, Inv (X.blk s3 H3 scope ce fp) ([] ++ pinsAt fp s7.heap) σ8 H' s' → Nx H' → ∃ m, m < n ∧ ∃ i H', Inv (X.blk s3 H3 scope ce fp) [] (wipe σ (own.map (·.2))) H' s' ∧ tn i s'.heap ∧ (∀ c ∈ fp, H' c = none) ∧ W i m H' := fun {s' H'} I' nx => by
        obtain ⟨m', hm, w'⟩ := hNx H' nx
        have pinned : ∀ c ∈ fp, ∀ o, s7.heap.get? c = some o → s'.heap.get? c = some o ∧ H' c = none := fun c hc o e =>
          let z := I'.pin (c, o) (List.mem_append_right _ (List.mem_append_right _ (mem_pinsAt hc e)))
          ⟨z.1, z.2.1⟩
        refine ⟨m', hm, i + 1, H', (I'.unpinned (pins := [])).weak (by rw [← hw8, wipe_length]) (fun j v e => ?_), T.keep _ _ _ st7 fun c hc o e => (pinned c hc o e).1, fun c hc => ?_, w'⟩
        · rw [← hw8] at e
          exact (wipe_some e).1
        · obtain ⟨o, e, _⟩ := T.obj _ _ st7 c hc
          exact (pinned c hc o e).2
      refine thnF (pt.run _ s8 σ8 H8 _ I8 q8) fun c s9 ⟨H9, I9, q9⟩ => ?_
      cases c with
      | false => exact fin I9 q9
      | true =>
        refine thnF (pk.run _ s9 σ8 H9 _ I9 q9) fun _ s10 ⟨yk, H10, I10, r10, q10⟩ => ?_
        refine thnF (pe.run _ s10 σ8 H10 _ I10 q10) fun _ s11 ⟨yv, H11, I11, r11, H12, put, nx⟩ => ?_
        exact put_ok (X := X.blk s3 H3 scope ce fp) hu I11 put r10 r11 fun s12 I12 => fin I12 nx
  exact codeAny_compStart_dict loop (T.self X.A 0 _ _ _ st4 loop)
theorem pe_dcG {b : Bool} {kx vx tg iter : Expr} {ifs : List Expr} {scope : Scope} {own : List (Str × Nat)} {pos : Pos} {wi : TI} {g : TG} {tt : TT} {tk tv : TE} (hu : X.A.units + 1 < cLine) (hc : X.calm = true) (hN : X.N.Nodup) (hi : PI X tg iter wi) (ok : BlkOk X.N X.env.scope scope own)
    (hg : ∀ (s : Shared) (H : Hp) (C : Addr) (cl : List (Str × Addr)) (fp : List Addr), PG (X.blk s H scope (compEnvC scope cl C X.env) fp) tg g)
    (ht : ∀ (s : Shared) (H : Hp) (C : Addr) (cl : List (Str × Addr)) (fp : List Addr), PTs (X.blk s H scope (compEnvC scope cl C X.env) fp) ifs tt)
    (hk : ∀ (s : Shared) (H : Hp) (C : Addr) (cl : List (Str × Addr)) (fp : List Addr), PE (X.blk s H scope (compEnvC scope cl C X.env) fp) kx tk)
    (he : ∀ (s : Shared) (H : Hp) (C : Addr) (cl : List (Str × Addr)) (fp : List Addr), PE (X.blk s H scope (compEnvC scope cl C X.env) fp) vx tv) (hs : ∀ x, foldedSetIterable iter X.env x = pure x := by intro _; rfl) :
    PE X (.DictComp kx vx [⟨tg, iter, ifs, 0⟩] scope pos) (tDcG b wi g tt tk tv (own.map (·.2))) := ⟨fun pins s σ H Q I h => by
  rw [arm_eval_DictComp]
  refine dcG_core hu hc hN I hi ok hg ht hk he hs h fun D C s' m H' I' q hn ⟨f0, f1, f2, f3, f4, f5⟩ => ⟨m, hn, fun h'' sb => ?_⟩
  exact ⟨.ref D, H', I'.turned (t' := s'.toks) (fun b o hb e => (sb.2 b hb).trans e) f0 f1 f3 f4 f5, rfl, q⟩⟩
end

abbrev dicO (b : Bool) (ds : List (D × D)) : O := if b = true then .t ds else .k ds
section
variable {B F : Hp} {Γ : Ev} {σ : L2.St} {H : Hp} {fp : Nat → List Addr}
theorem own_put {b : Bool} {Da : Addr} {acc : List (D × D)} {y z : V} {k v : D} (r : Rel B F Γ σ H fp) (h : OwnV B F H fp (.ref Da) (dicO b acc)) (hy : Rp F y k) (hz : Rp F z v) (hk : (if b = true then keyT k else keyK k) = true) (hl : acc.length < sizeLine) :
    ∃ H', DPut H Da y z H' ∧ Rel B F Γ σ H' fp ∧ OwnV B F H' fp (.ref Da) (dicO b (putD acc k v)) := by
  obtain ⟨f, h, hf⟩ := h
  have gen : ∀ u, Da ∈ f → Rel B F Γ σ (upd H Da u) fp := fun u hm => by
    obtain ⟨b1, b2, b3⟩ := hf Da hm
    refine ⟨fun a o q => ?_, fun a o q => ?_, r.len, r.sh, fun i o q => ?_, fun i a ha => ?_, r.dj, r.ex⟩
    · rw [upd_ne fun z => by subst z; rw [b1] at q; cases q]
      exact r.bx a o q
    · rw [upd_ne fun z => by subst z; rw [b2] at q; cases q]
      exact r.fx a o q
    · obtain ⟨v, h1, h2⟩ := r.ow i o q
      exact ⟨v, h1, h2.mono (Same.refl F) fun a ha => upd_ne fun z => b3 i (by rw [← z]; exact ha)⟩
    · obtain ⟨c1, c2, c3⟩ := r.nb i a ha
      refine ⟨c1, c2, ?_⟩
      rw [upd_ne fun z => b3 i (by rw [← z]; exact ha)]
      exact c3
  cases b with
  | true =>
    cases h with
    | @t a kvs ds e t =>
      obtain ⟨q, ks, rfl, e2, rfl⟩ := hy.keyT hk
      exact ⟨_, .t e (r.fx _ _ e2) (by rw [t.length]; exact hl), gen _ (by simp), [Da], .t upd_same (t.put hz), hf⟩
  | false =>
    cases h with
    | @k a kvs ds e t =>
      obtain ⟨ks, rfl, rfl⟩ := hy.keyK hk
      exact ⟨_, .k e (by rw [t.length]; exact hl), gen _ (by simp), [Da], .k upd_same (t.put hz), hf⟩
theorem new_d (b : Bool) {p : Addr} (r : Rel B F Γ σ H fp) (hp : H p = none) : Rel B F Γ σ (upd H p (dic0 b)) fp ∧ OwnV B F (upd H p (dic0 b)) fp (.ref p) (dicO b []) := by
  cases b with
  | true =>
    obtain ⟨r', v'⟩ := new_t r hp
    exact ⟨r', v'.own⟩
  | false =>
    obtain ⟨r', v'⟩ := new_k r hp
    exact ⟨r', v'.own⟩
end
def dcGo (b : Bool) (vs : List Nat) (g : QG) (t : QT) (pk pv : QE) (k : List (D × D) → Ev → Prop) : List D → List (D × D) → Ev → Prop
  | [], acc, Γ => k acc Γ
  | d :: r, acc, Γ => g (.sh d) Γ fun Γ1 => t Γ1 (fun c Γ2 => Cif c (pk Γ2 (fun w Γ3 => shr w Γ3 fun dk Γ4 => pv Γ4 (fun w Γ5 => shr w Γ5 fun dv Γ6 => (if b = true then keyT dk else keyK dk) = true ∧ acc.length < sizeLine ∧
      dcGo b vs g t pk pv k r (putD acc dk dv) (wipEv vs Γ6)) noEX) noEX) (dcGo b vs g t pk pv k r acc (wipEv vs Γ2))) noEX
def qDc (b : Bool) (vs : List Nat) (i : QI) (g : QG) (t : QT) (pk pv : QE) : QE := fun Γ R E => i Γ (fun ds Γ1 => noOw Γ1 vs = true ∧ dcGo b vs g t pk pv (fun acc Γ2 => R (.ow (dicO b acc)) (backEv Γ1 vs Γ2)) ds [] (wipEv vs Γ1)) E
section
variable {W : WX} {b : Bool} {wi : TI} {qi : QI} {g : TG} {qg : QG} {js : List Nat} {tt : TT} {qt : QT} {tk tv : TE} {qk qv : QE} {vs : List Nat}
theorem se_dc (hi : SI W wi qi) (hg : SG g qg js) (ht : ST W0 tt qt) (hk : SE W0 tk qk) (hv : SE W0 tv qv) (hj : ∀ j ∈ js, j ∈ vs) : SE W (tDcG b wi g tt tk tv vs) (qDc b vs qi qg qt qk qv) := fun {B F Γ σ H fp} R EX Q r q k e => by
  refine hi _ _ _ r q (fun ds Γ1 J F1 H1 fp1 x1 r1 ok h1 => ?_) e
  obtain ⟨ho, h1⟩ := h1
  intro Dl hD
  have r2 : Rel B F1 (wipEv vs Γ1) (wipe σ vs) H1 fp1 := r1.wip vs
  obtain ⟨r3, v3⟩ := new_d b r2 hD
  generalize hKK : (fun (acc : List (D × D)) (Γ2 : Ev) => R (.ow (dicO b acc)) (backEv Γ1 vs Γ2)) = KK at h1
  refine ⟨fun i m H' => m + i = ds.length ∧ ∃ Γ' F' fp' acc, Ext B F1 F' ∧ Rel B F' Γ' (wipe σ vs) H' fp' ∧ OwnV B F' H' fp' (.ref Dl) (dicO b acc) ∧
    dcGo b vs qg qt qk qv KK (ds.drop i) acc Γ', ⟨ds.length, rfl, _, F1, fp1, [], .refl, r3, v3, h1⟩, ?_⟩
  rintro i m H' ⟨hm, Γ', F', fp', acc, x, r', v', hf⟩
  obtain ⟨o1, o2⟩ := ok B F' Γ' _ H' fp' x.same r' i
  by_cases hlt : i < ds.length
  · obtain ⟨B', rB, gd⟩ := r'.hold v'
    obtain ⟨go, yld⟩ := (ok B' F' Γ' _ H' fp' x.same rB i).1 ds[i] (List.getElem?_eq_getElem hlt)
    refine .inr ⟨go, fun H2 => ∃ m', m' < m ∧ (m' + (i + 1) = ds.length ∧ ∃ Γ' F' fp' acc, Ext B F1 F' ∧ Rel B F' Γ' (wipe σ vs) H2 fp' ∧ OwnV B F' H2 fp' (.ref Dl) (dicO b acc) ∧
      dcGo b vs qg qt qk qv KK (ds.drop (i + 1)) acc Γ'), fun H2 h => h, fun y H2 hy => ?_⟩
    obtain ⟨F2, x2, r2, b2⟩ := yld y H2 hy
    rw [List.drop_eq_getElem_cons hlt] at hf
    refine hg _ _ r2 (.sh b2) hf fun Γ3 F3 σ3 fp3 x3 r3 c3 h3 => ?_
    have hw : wipe σ3 vs = wipe σ vs := wipe_chg c3 hj
    refine ⟨hw, ht _ noEX _ r3 h3 (fun c Γ4 F4 H4 fp4 x4 r4 h4 => ?_) afe_no⟩
    have x24 := (x2.trans x3).trans x4
    cases c with
    | true =>
      refine hk _ noEX _ r4 (h4.t rfl) (fun w5 Γ5 zk F5 H5 fp5 x5 r5 v5 h5 => ?_) afe_no
      obtain ⟨d6, Γ6, F6, fp6, x6, r6, b6, h6⟩ := shr_ok r5 v5 h5
      refine hv _ noEX _ r6 h6 (fun w7 Γ7 zv F7 H7 fp7 x7 r7 v7 h7 => ?_) afe_no
      obtain ⟨d8, Γ8, F8, fp8, x8, r8, b8, hkk, hsz, h8⟩ := shr_ok r7 v7 h7
      have rw8 := r8.wip vs
      rw [hw] at rw8
      obtain ⟨y9, r9, v9⟩ := gd F8 _ _ H7 fp8 ((((x24.trans x5).trans x6).trans x7).trans x8) rw8
      obtain ⟨H10, put, r10, v10⟩ := own_put r9 v9 ((b6.mono x7.same).mono x8.same) b8 hkk hsz
      exact ⟨H10, put, m - 1, by omega, by omega, _, F8, fp8, _, x.trans y9, r10, v10, h8⟩
    | false =>
      have r7 := r4.wip vs
      rw [hw] at r7
      obtain ⟨y8, r8, v8⟩ := gd F4 _ _ H4 fp4 x24 r7
      exact ⟨m - 1, by omega, by omega, _, F4, fp4, acc, x.trans y8, r8, v8, h4.f rfl⟩
  · refine .inl ⟨o2 (by omega), ?_⟩
    rw [List.drop_of_length_le (by omega)] at hf
    subst hKK
    exact k _ _ _ F' H' fp' (x1.trans x) (r1.back ho x.same r') v'.rw hf
end
section
variable {X : Cx} {W : WX} {pos : Pos} {kx vx tg iter : Expr} {wi : TI} {qi : QI} {g : TG} {qg : QG} {js : List Nat} {tt : TT} {qt : QT} {tk tv : TE} {qk qv : QE} {ifs : List Expr} {scope : Scope} {own : List (Str × Nat)}
theorem d_dc (b : Bool) {j : Nat} (hr : Room j X.A) (hc : X.calm = true) (hN : X.N.Nodup) (hi : DI X W tg iter wi qi) (ok : BlkOk X.N X.env.scope scope own)
    (hg : ∀ (s : Shared) (H : Hp) (C : Addr) (cl : List (Str × Addr)) (fp : List Addr), DG (X.blk s H scope (compEnvC scope cl C X.env) fp) tg g qg js)
    (ht : ∀ (s : Shared) (H : Hp) (C : Addr) (cl : List (Str × Addr)) (fp : List Addr), DTs (X.blk s H scope (compEnvC scope cl C X.env) fp) W0 ifs tt qt)
    (hk : ∀ (s : Shared) (H : Hp) (C : Addr) (cl : List (Str × Addr)) (fp : List Addr), DE (X.blk s H scope (compEnvC scope cl C X.env) fp) W0 kx tk qk)
    (he : ∀ (s : Shared) (H : Hp) (C : Addr) (cl : List (Str × Addr)) (fp : List Addr), DE (X.blk s H scope (compEnvC scope cl C X.env) fp) W0 vx tv qv) (hj : (∀ j ∈ js, j ∈ own.map (·.2)) := by decide) (hs : ∀ x, foldedSetIterable iter X.env x = pure x := by intro _; rfl) :
    DE X W (.DictComp kx vx [⟨tg, iter, ifs, 0⟩] scope pos) (tDcG b wi g tt tk tv (own.map (·.2))) (qDc b (own.map (·.2)) qi qg qt qk qv) :=
  ⟨pe_dcG (hu_of hr) hc hN hi.pi ok (fun s H C cl fp => (hg s H C cl fp).pg) (fun s H C cl fp => (ht s H C cl fp).pt) (fun s H C cl fp => (hk s H C cl fp).pe) (fun s H C cl fp => (he s H C cl fp).pe) hs,
   se_dc hi.si (hg ({} : Shared) (fun _ => none) 0 [] []).sg (ht ({} : Shared) (fun _ => none) 0 [] []).st (hk ({} : Shared) (fun _ => none) 0 [] []).se (he ({} : Shared) (fun _ => none) 0 [] []).se hj⟩
end
end PL

namespace PL
open PySem PySem.Spec PyProof.Rows L2

/-! ### methods of texts -/
def isStr : D → Prop
  | .str _ => True
  | _ => False
theorem Rb.isStr {F H : Hp} {v : V} {d : D} (h : Rb F H v d) (q : PL.isStr d) : ∃ a, v = .str a := by
  cases h with
  | str x _ => exact ⟨x, rfl⟩
  | _ => exact q.elim
def qM0 (o : OP1) (pa : QE) : QE := fun Γ R E => pa Γ (fun w1 Γ1 => bor w1 Γ1 isStr ∧ bor w1 Γ1 fun d1 => o d1 fun w => R w Γ1) E
def qM1 (o : OP2) (pa pb : QE) : QE := fun Γ R E => pa Γ (fun w1 Γ1 => bor w1 Γ1 isStr ∧ pb Γ1 (fun w2 Γ2 => bor w1 Γ2 fun d1 => bor w2 Γ2 fun d2 => o d1 d2 fun w => R w Γ2) E) E
section
variable {X : Cx} {W : WX} {pos p : Pos} {a b e f : Expr} {ta tb te tf : TE} {pa pb pe pf : QE}
theorem se_m0 {r : V → List V → Hp → VK → Prop} {o : OP1} (hs : UnS (fun x H Q => r x [] H Q) o) (ha : SE W ta pa) : SE W (tM0 r ta) (qM0 o pa) := fun {B F Γ σ H fp} R EX Q rr h k e => by
  refine ha _ EX _ rr h (fun w1 Γ1 x F1 H1 fp1 x1 r1 v1 h1 => ?_) e
  obtain ⟨d, b, z⟩ := bor_rb r1 v1 h1.1
  obtain ⟨d1, b1, z1⟩ := bor_rb r1 v1 h1.2
  exact ⟨b.isStr z, hs _ Q r1 b1 z1 fun w v F2 H2 x2 r2 q2 kk => k w Γ1 v F2 H2 fp1 (x1.trans x2) r2 q2 kk⟩
theorem se_m1 {r : V → List V → Hp → VK → Prop} {o : OP2} (hs : OpS (fun x y H Q => r x [y] H Q) o) (ha : SE W ta pa) (hb : SE W tb pb) : SE W (tM1 r ta tb) (qM1 o pa pb) := fun {B F Γ σ H fp} R EX Q rr h k e => by
  refine ha _ EX _ rr h (fun w1 Γ1 x F1 H1 fp1 x1 r1 v1 h1 => ?_) e
  obtain ⟨d, b, z⟩ := bor_rb r1 v1 h1.1
  obtain ⟨B', r1', g⟩ := r1.guard v1
  refine ⟨b.isStr z, hb _ EX _ r1' h1.2 (fun w2 Γ2 y F2 H2 fp2 x2 r2 v2 h2 => ?_) fun c Γ' F' H' fp' x2 r2 q => ?_⟩
  · obtain ⟨x3, r3, v3, g3⟩ := g F2 Γ2 H2 fp2 x2 r2
    obtain ⟨d1, b1, z1⟩ := bor_rb r3 v3 h2
    obtain ⟨d2, b2, z2⟩ := bor_rb r3 (g3 _ _ v2) z1
    exact hs _ Q r3 b1 b2 z2 fun w v F' H' x' r' q' kk => k w Γ2 v F' H' fp2 ((x1.trans x3).trans x') r' q' kk
  · obtain ⟨x5, r5, _, _⟩ := g F' Γ' H' fp' x2 r2
    exact e c Γ' F' H' fp' (x1.trans x5) r5 q
/-- text.index(sign) -/
def opIndex : OP2 := fun d1 d2 k => match d1, d2 with
  | .str x, .str y => (match y.cps.toList with
    | [c] => (match x.cps.toList.idxOf? c with
      | some i => k (.sh (.int (i : Nat)))
      | none => False)
    | _ => False)
  | _, _ => False
theorem occ_one {x : Str} {c i : Nat} (h : x.cps.toList.idxOf? c = some i) : ∃ r, Builtin.Str.occurrences x ⟨#[c]⟩ 0 x.length 1 = i :: r := by
  rw [List.idxOf?, List.findIdx?_eq_some_iff_getElem] at h
  obtain ⟨hl, hc, hn⟩ := h
  have hi : x.cps.toList[i]? = some c := by
    rw [List.getElem?_eq_getElem hl]
    exact congrArg some (eq_of_beq hc)
  rcases StrLaws.occ_head x ⟨#[c]⟩ 1 (Nat.le_refl 1) with ⟨_, h0⟩ | ⟨j, r, h0, h1, h2⟩
  · exact absurd ((StrLaws.subAt_one x c i).mpr hi) (h0 i)
  · refine ⟨r, ?_⟩
    rw [h0]
    have hj := (StrLaws.subAt_one x c j).mp h1
    have e : j = i := by
      rcases Nat.lt_trichotomy j i with q | q | q
      · have := hn j q
        obtain ⟨hjl, hjc⟩ := List.getElem?_eq_some_iff.mp hj
        rw [hjc] at this
        simp at this
      · exact q
      · exact absurd ((StrLaws.subAt_one x c i).mpr hi) (h2 i q)
    rw [e]
theorem os_index : OpS (fun x y H Q => (fun x xs H Q => ∃ a b i rest, x = V.str a ∧ xs = [V.str b] ∧ Builtin.Str.occurrences a b 0 a.length 1 = i :: rest ∧ Q (.int (i : Nat)) H) x [y] H Q) opIndex := fun {B F Γ σ H fp x y d1 d2} k Q r b1 b2 z c => by
  cases b1 with
  | str a ha =>
    cases b2 with
    | str b hb =>
      unfold opIndex at z
      simp only at z
      split at z
      · rename_i cc hcc
        split at z
        · rename_i i hi
          obtain ⟨rr, ho⟩ := occ_one hi
          have eb : b = ⟨#[cc]⟩ := by
            cases b with
            | mk cps =>
              cases cps with
              | mk l =>
                simp only at hcc
                subst hcc
                rfl
          subst eb
          exact ⟨a, _, i, rr, rfl, rfl, ho, op_sc r (.int _) c z⟩
        · exact z.elim
      · exact z.elim
    | _ => exact z.elim
  | _ => cases b2 <;> exact z.elim
theorem d_index {apos : Pos} (ha : DE X W a ta pa) (hb : DE X W b tb pb) (hs : starEach [b] X.env = [(false, eval b X.env)] := by rfl) (hbase : attributeBase a "index" X.env (eval a X.env) = eval a X.env := by rfl) (hline : (apos.endLine == pos.line) = true := by rfl) :
    DE X W (.Call (.Attribute a "index" apos) [b] [] pos) (tM1 (fun x xs H Q => ∃ a b i rest, x = V.str a ∧ xs = [V.str b] ∧ Builtin.Str.occurrences a b 0 a.length 1 = i :: rest ∧ Q (.int (i : Nat)) H) ta tb) (qM1 opIndex pa pb) :=
  ⟨pe_m1 F.slot_str_index F.type_str_index mt_sindex ha.pe hb.pe hs hbase hline, se_m1 os_index ha.se hb.se⟩
/-- sep.join(texts) -/
def joinOf (x : Str) (ds : List D) (k : Wv → Prop) : Prop := match strsOf ds with
  | some ys => (ys.map (·.length)).sum + ys.length * x.length ≤ 16777216 ∧ k (.sh (.str (Str.join x ys)))
  | none => False
def opJoin : OP2 := fun d1 d2 k => match d1, d2 with
  | .str x, .list ds => joinOf x ds k
  | .str x, .tuple ds => joinOf x ds k
  | _, _ => False
theorem strOk_iff {x : Str} : PyData.strOk x = true ↔ ∀ c ∈ x.cps.toList, c < 0x110000 := by
  unfold PyData.strOk
  rw [Array.all_eq_true']
  simp
theorem strOk_join {x : Str} (hx : PyData.strOk x = true) : ∀ {ys : List Str}, (∀ y ∈ ys, PyData.strOk y = true) → PyData.strOk (Str.join x ys) = true
  | [], _ => by
    show (#[] : Array Nat).all _ = true
    simp
  | [y], h => h y (by simp)
  | y :: z :: r, h => by
    show PyData.strOk (y ++ x ++ Str.join x (z :: r)) = true
    exact strOk_app (strOk_app (h y (by simp)) hx) (strOk_join hx fun w hw => h w (List.mem_cons_of_mem _ hw))
abbrev rJoin (K : PySem.W.Frag) : V → List V → Hp → VK → Prop := fun x xs H Q => ∃ a p, ∃ ys : List Str, x = .str a ∧ xs = [.ref p] ∧ (SqL K H p (ys.map V.str) ∨ SqT K H p (ys.map V.str)) ∧
    (ys.map (·.length)).sum + ys.length * a.length ≤ 16777216 ∧ Q (.str (Txt.join a ys)) H
theorem os_join {K : PySem.W.Frag} : OpS (fun x y H Q => rJoin K x [y] H Q) opJoin := fun {B F Γ σ H fp x y d1 d2} k Q r b1 b2 z c => by
  cases b1 with
  | str a ha =>
    have fin : ∀ {vs : List V} {ds : List D} {q : Addr}, RpA F vs ds → joinOf a ds k → (∀ ys : List Str, vs = ys.map V.str → (SqL K H q (ys.map V.str) ∨ SqT K H q (ys.map V.str))) → rJoin K (.str a) [.ref q] H Q := by
      intro vs ds q t z hq
      unfold joinOf at z
      split at z
      · rename_i ys hy
        obtain ⟨e1, e2⟩ := strs_rp t hy
        refine ⟨a, q, ys, rfl, rfl, hq ys e1, z.1, ?_⟩
        rw [TL.join_eq]
        exact op_sc r (.str _ (strOk_join ha e2)) c z.2
      · exact z.elim
    cases b2 with
    | @lst q xs ds e t => exact fin t z fun ys e1 => .inl (.inl (.inl (by rw [← e1]; exact e)))
    | @tup q xs ds e0 e t => exact fin t z fun ys e1 => .inr (.inl (.inl (by rw [← e1]; exact e)))
    | _ => exact z.elim
  | _ => cases b2 <;> exact z.elim
theorem d_join {apos : Pos} (ha : DE X W a ta pa) (hb : DE X W b tb pb) (hs : starEach [b] X.env = [(false, eval b X.env)] := by rfl) (hbase : attributeBase a "join" X.env (eval a X.env) = eval a X.env := by rfl) (hline : (apos.endLine == pos.line) = true := by rfl) :
    DE X W (.Call (.Attribute a "join" apos) [b] [] pos) (tM1 (rJoin X.K) ta tb) (qM1 opJoin pa pb) :=
  ⟨pe_join ha.pe hb.pe hs hbase hline, se_m1 os_join ha.se hb.se⟩
end

/-! ### xs[i] = e, xs an own list -/
def qSetIx (i : Nat) (pi pe : QE) : QS := fun P Γ => pe Γ (fun w Γ1 => shr w Γ1 fun d Γ2 => isOwL Γ2[i]? = true ∧ pi Γ2 (fun w2 Γ3 => bor w2 Γ3 fun d2 => match d2 with
  | .int j => (match Γ3[i]? with
    | some (.ow (.l ds)) => (match ixN ds.length j with
      | some n => P.nx (Γ3.set i (.ow (.l (ds.set n d))))
      | none => False)
    | _ => False)
  | _ => False) P.ex) P.ex
section
variable {X : Cx} {W : WX} {pos p : Pos} {a b e f : Expr} {ta tb te tf : TE} {pa pb pe pf : QE}
theorem ss_setIx {i : Nat} (ha : SE W ta pa) (he : SE W te pe) : SS W (tAsg te (gSub (tVar i) ta rSetL)) (qSetIx i pa pe) := fun {B F Γ σ H fp} P D r q h => by
  refine he _ _ _ r q (fun w Γ1 y F1 H1 fp1 x1 r1 v1 h1 => ?_) h.afe
  obtain ⟨d, Γ2, F2, fp2, x2, r2, b2, h2, h3⟩ := shr_ok r1 v1 h1
  obtain ⟨v, g1, g2⟩ := own_ty (K := (default : PySem.W.Frag)) r2 h2
  refine ⟨v, g1, ha _ _ _ r2 h3 (fun w2 Γ3 z F3 H3 fp3 x3 r3 v3 h4 => ?_) (h.afe.mono (x1.trans x2))⟩
  obtain ⟨d2, bd, h5⟩ := bor_rb r3 v3 h4
  split at h5
  · rename_i j
    split at h5
    · rename_i ds hd
      split at h5
      · rename_i n hn
        cases bd
        obtain ⟨u, z1, z2⟩ := r3.ow i _ hd
        rw [g1] at z1
        cases z1
        generalize hf : fp3 i = f at z2
        cases z2 with
        | @l a xs ds e5 t5 =>
          obtain ⟨a', xs', ea, e6, t6, r6⟩ := r3.mutL hd g1 (t5.set (b2.mono x3.same) n)
          cases ea
          exact ⟨a, xs, j, n, rfl, rfl, e5, by rw [t5.length]; exact hn, h.nx _ F3 _ _ fp3 ((x1.trans x2).trans x3) r6 h5⟩
      · exact h5.elim
    · exact h5.elim
  · exact h5.elim
theorem ds_setIx (i : Nat) {x : Str} {px pos' : Pos} (ha : DE X W a ta pa) (he : DE X W e te pe) (hN : X.N[i]? = some x := by rfl) (hv : Vis X.env.scope x := by first | exact Or.inl rfl | exact Or.inr (Or.inl rfl) | exact Or.inr (Or.inr rfl)) (hd : (x == ("__debug__" : Str)) = false := by decide)
    (hcd : (x == ("__classdict__" : Str)) = false := by decide)
    (hs : swapsWithSole [.Subscript (.Name x px) a pos'] e pos.line X.env = pure false := by rfl) (hw : swappedStores [.Subscript (.Name x px) a pos'] e X.env = pure none := by rfl)
    (h1 : (assignEach [.Subscript (.Name x px) a pos'] X.env).map (·.2) = [assign (.Subscript (.Name x px) a pos') X.env] := by rfl)
    (hg : ∀ v, assign (.Subscript (.Name x px) a pos') X.env v = (do
      let ov ← holding [v] (eval (.Name x px) X.env)
      let iv ← holding [v, ov] (eval a X.env)
      standAt pos'
      holding [v, ov, iv] (setItem ov iv v)
      release [v, ov, iv] []) := by intro _; rfl) :
    DS X W (.Assign [.Subscript (.Name x px) a pos'] e pos) (tAsg te (gSub (tVar i) ta rSetL)) (qSetIx i pa pe) :=
  ⟨ps_asg he.pe (pg_sub (pe_var hN hv hd hcd) ha.pe set_list hg) hs hw h1, ss_setIx ha.se he.se⟩
end

/-! ### tuple * int -/
theorem tuple_mul1 (l : Addr) (items : Array Value) (n : Nat) (dd : Option Addr) (sl : Array (Option Value)) (u : Tok) :
    Meets (Builtin.«tuple.__mul__» ⟨[.ref l, .int 1 u], []⟩) (fun _ R s => s.heap.get? l = some { cls := .type "tuple", dict := dd, data := .seq items n, slots := sl } ∧ R (.ok (.ret (Value.ref l))) s) :=
  .of_wp fun prog w A R s h => by
    obtain ⟨hp, g, d, tk, os⟩ := s
    obtain ⟨hl, h⟩ := h
    have f1 := AutoSeq1.idx_int
    wp_walk using wpAny_loadPart' hl
    repeat (first
      | (refine wpAny_ite_false (by decide) ?_; wp_walk using wpAny_loadPart' hl)
      | (refine wpAny_ite_true (by simp) ?_; wp_walk using wpAny_loadPart' hl))
    exact ⟨_, rfl, h⟩

def rRepT1 (K : PySem.W.Frag) : R2 := fun x y H Q => ∃ l xs, x = .ref l ∧ y = .int 1 ∧ SqT K H l xs ∧ Q (.ref l) H
section
variable {X : Cx}
theorem op_repT1 : OpR X (binaryOp .Mult) (rRepT1 X.K) := by
  intro pins s σ H x y v u Q I rx ry h
  obtain ⟨l, xs, rfl, rfl, hT, q⟩ := h
  cases rx
  obtain ⟨t, rfl⟩ := ry
  obtain ⟨its, r, ⟨⟨cls, dd, data, sl⟩, ho, hc, n, hd⟩, hs⟩ := I.tuple hT
  simp only at hc hd
  subst hc hd
  refine wpAny_binaryOp_repeat_ref (T := "tuple") (U := "int") (by decide) ⟨_, ho, rfl⟩ (fun s' => typeIs_int s' 1 t) noFill_tuple_mul F.fills_int_mul F.slot_int_rmul repeat_tuple F.slot_int_index.lookup
    (call_meets F.slot_int_rmul (typeIs_int s 1 t) F.entry_int_rmul (F.args_int_rmul_2 _ _) (int_rmul_tuple 1 t l its.toArray n dd sl)
      ⟨ho, rfl, ⟨_, ho, rfl⟩, call_meets F.slot_tuple_mul ⟨_, ho, rfl⟩ F.entry_tuple_mul (F.args_tuple_mul_2 _ _) (tuple_mul1 l its.toArray n dd sl t) ⟨ho, ?_⟩⟩)
  exact ⟨.ref l, H, I, rfl, q⟩
def rMulT (K : PySem.W.Frag) : R2 := fun x y H Q => rRepT1 K x y H Q ∨ rRepT K x y H Q
theorem or_mulT : OpR X (binaryOp .Mult) (rMulT X.K) := OpR.or op_repT1 op_repT
end
/-- a tuple, not empty, some times (not more than 1000) -/
def opMulT : OP2 := fun d1 d2 k => match d1, d2 with
  | .tuple xs, .int n => xs ≠ [] ∧ 1 ≤ n ∧ n ≤ 1000 ∧ xs.length ≤ 1000 ∧ k (.sh (.tuple (List.replicate n.toNat xs).flatten))
  | _, _ => False
theorem os_mulT {K : PySem.W.Frag} : OpS (rMulT K) opMulT := fun {B F Γ σ H fp x y d1 d2} k Q r b1 b2 z c => by
  cases b1 with
  | @tup a xs ds e e0 t =>
    cases b2 with
    | int n =>
      obtain ⟨z1, z2, z3, z4, z5⟩ := z
      by_cases h1 : n = 1
      · subst h1
        have e1 : (List.replicate (1 : Int).toNat ds).flatten = ds := by simp
        rw [e1] at z5
        exact .inl ⟨a, xs, rfl, rfl, .inl (.inl e0), op_sc r (.tup e t) c z5⟩
      · refine .inr ⟨a, n, xs, rfl, rfl, .inl (.inl e0), fun q => z1 ?_, by omega, z3, by rw [t.length]; exact z4, fun p hp => ?_⟩
        · subst q
          cases t
          rfl
        · obtain ⟨x', r', v'⟩ := new_tup r (t.rep n.toNat) hp
          exact c _ _ _ _ x' r' v' z5
    | _ => exact z.elim
  | _ => cases b2 <;> exact z.elim
section
variable {X : Cx} {W : WX} {pos p : Pos} {a b e f : Expr} {ta tb te tf : TE} {pa pb pe pf : QE}
theorem d_mulT (ha : DE X W a ta pa) (hb : DE X W b tb pb) : DE X W (.BinOp a .Mult b pos) (tOp (rMulT X.K) ta tb) (qOp opMulT pa pb) := d_op or_mulT os_mulT ha hb
end

/-! ### max of a list or tuple of ints -/
def maxOf (ds : List D) (k : Wv → Prop) : Prop := match intsOf ds with
  | some (n :: ns) => (n :: ns).length ≤ 1000 ∧ k (.sh (.int (ns.foldl max n)))
  | _ => False
def opMax : OP1 := fun d k => match d with
  | .list ds => maxOf ds k
  | .tuple ds => maxOf ds k
  | _ => False
def rMaxT (K : PySem.W.Frag) : List V → Hp → VK → Prop := fun vs H Q => ∃ a n ns, vs = [V.ref a] ∧ SqT K H a ((n :: ns).map V.int) ∧ (n :: ns).length ≤ 1000 ∧ Q (.int (ns.foldl max n)) H
theorem depthAll_ints : ∀ ns : List Int, PyData.depthAll (ns.map .int) ≤ 1
  | [] => by simp [PyData.depthAll]
  | n :: r => by
    have := depthAll_ints r
    simp only [List.map_cons, PyData.depthAll, PyData.depth]
    omega
section
variable {X : Cx}
theorem cr_maxT {j : Nat} (hr : Room j X.A) (hc : X.calm = true) : CallR X (.builtin "max") (rMaxT X.K) := by
  intro pins s σ H vs us Q I r h
  obtain ⟨a, n, ns, rfl, hs, hl, q⟩ := h
  obtain ⟨its, rv, ht, _⟩ := I.tuple hs
  rw [Vals.ref1 r]
  have hi := rv.ints
  refine PySem.W.max_tuple_data (I.ok.hd hc) ht (by rw [List.toList_toArray]; exact IntsAre.reads s.heap hi) ⟨?_, ?_⟩ ?_ fun i v h' tk bs hv hrd hk => ?_
  · intro x hx y hy
    obtain ⟨i, _, rfl⟩ := List.mem_map.mp (show x ∈ (n :: ns).map PyData.int from hx)
    obtain ⟨j, _, rfl⟩ := List.mem_map.mp (show y ∈ (n :: ns).map PyData.int from hy)
    rfl
  · intro x hx
    obtain ⟨i, _, rfl⟩ := List.mem_map.mp (show x ∈ (n :: ns).map PyData.int from hx)
    exact fun z => nomatch z
  · have := depthAll_ints (n :: ns)
    have := hr.un
    show X.A.units + 1 + PyData.depthAll ((n :: ns).map .int) < cLine
    omega
  · have e := PySem.W.maxD_ints n ns
    rw [e] at hrd
    have : ∃ t, v = .int (ns.foldl max n) t := by
      cases hrd
      exact ⟨_, rfl⟩
    exact ⟨.int _, H, I.kept (t' := tk) hk, this, q⟩
end
theorem foldl_max_ge : ∀ (ns : List Int) (n y : Int), y ≤ n ∨ y ∈ ns → y ≤ ns.foldl max n
  | [], n, y, h => by simpa using h
  | m :: r, n, y, h => by
    refine foldl_max_ge r (max n m) y ?_
    rcases h with h | h
    · exact .inl (by omega)
    · rcases List.mem_cons.mp h with rfl | h
      · exact .inl (by omega)
      · exact .inr h
theorem foldl_max_mem : ∀ (ns : List Int) (n : Int), ns.foldl max n = n ∨ ns.foldl max n ∈ ns
  | [], n => .inl rfl
  | m :: r, n => by
    rcases foldl_max_mem r (max n m) with h | h
    · show r.foldl max (max n m) = n ∨ r.foldl max (max n m) ∈ m :: r
      rw [h]
      by_cases e : m ≤ n
      · exact .inl (by omega)
      · exact .inr (by rw [show max n m = m by omega]; exact List.mem_cons_self)
    · exact .inr (List.mem_cons_of_mem _ h)
theorem max_uniq {n : Int} {ns : List Int} {m : Int} (h1 : m ∈ n :: ns) (h2 : ∀ y, y ∈ n :: ns → y ≤ m) : m = ns.foldl max n := by
  have a : m ≤ ns.foldl max n := foldl_max_ge ns n m (by
    rcases List.mem_cons.mp h1 with rfl | h
    · exact .inl (Int.le_refl _)
    · exact .inr h)
  have b : ns.foldl max n ≤ m := by
    rcases foldl_max_mem ns n with h | h
    · rw [h]
      exact h2 n List.mem_cons_self
    · exact h2 _ (List.mem_cons_of_mem _ h)
  omega
theorem us_max {K : PySem.W.Frag} : UnS (fun x H Q => rMax K [x] H Q ∨ rMaxT K [x] H Q) opMax := fun {B F Γ σ H fp x d} k Q r b z c => by
  cases b with
  | @lst a xs ds e t =>
    unfold opMax maxOf at z
    simp only at z
    split at z
    · rename_i n ns hn
      have := ints_rp t hn
      subst this
      refine .inl ⟨a, n :: ns, rfl, .inl (.inl e), by simp, fun m h1 h2 => ?_⟩
      rw [max_uniq h1 h2]
      exact op_sc r (.int _) c z.2
    · exact z.elim
  | @tup a xs ds e0 e t =>
    unfold opMax maxOf at z
    simp only at z
    split at z
    · rename_i n ns hn
      have := ints_rp t hn
      subst this
      exact .inr ⟨a, n, ns, rfl, .inl (.inl e), z.1, op_sc r (.int _) c z.2⟩
    · exact z.elim
  | _ => exact z.elim
section
variable {X : Cx} {W : WX} {pos p : Pos} {a b e f : Expr} {ta tb te tf : TE} {pa pb pe pf : QE}
theorem d_max {j : Nat} (hr : Room j X.A) (hc : X.calm = true) (hm : X.mg "max" = none) (ha : DE X W a ta pa) (hg : Gl X "max" := by rfl) (he : starEach [a] X.env = (false, eval a X.env) :: starEach [] X.env := by rfl) (hpl : (backTo pos (starEach [] X.env)).any (·.1) = false := by rfl) :
    DE X W (.Call (.Name "max" p) [a] [] pos) (tCB (fun xs H Q => rMax X.K xs H Q ∨ rMaxT X.K xs H Q) (tCons ta tNil)) (qUn opMax pa) := d_bi1 (CallR.or (cr_max hc) (cr_maxT hr hc)) us_max hm (by decide +kernel) ha hg (by decide) (by decide) he hpl
end

/-! ### text[::-1] -/
def revS (x : Str) : Str := ⟨x.cps.toList.reverse.toArray⟩
theorem revS_eq (x : Str) (u : Tok) : Txt.sliceBy x none none (-1, u) = revS x := by
  have h := step_rev_list x u
  generalize Txt.sliceBy x none none (-1, u) = y at h
  unfold revS
  cases y with
  | mk cps =>
    congr 1
    apply Array.toList_inj.mp
    rw [List.toList_toArray, h]
    apply List.ext_getElem
    · simp [Str.length]
    · intro i h1 h2
      simp only [List.getElem_map, List.getElem_range, List.getElem_reverse, Array.length_toList, Array.getElem_toList]
      have : x.cps.size - 1 - i < x.cps.size := by
        simp at h2
        omega
      show x.cps.getD (x.cps.size - 1 - i) 0 = _
      simp [Array.getD, this]
def opRevS : OP1 := fun d k => match d with
  | .str x => x.length ≤ sizeLine ∧ k (.sh (.str (revS x)))
  | _ => False
def tRevS (te : TE) : TE := fun σ H Q => te σ H fun x H1 => ∃ z, x = .str z ∧ z.length ≤ sizeLine ∧ Q (.str (revS z)) H1
theorem strOk_rev {x : Str} (h : PyData.strOk x = true) : PyData.strOk (revS x) = true := by
  rw [strOk_iff] at h ⊢
  intro c hc
  unfold revS at hc
  simp at hc
  exact h c (by simpa using hc)
section
variable {X : Cx} {W : WX} {pos p : Pos} {a b e f : Expr} {ta tb te tf : TE} {pa pb pe pf : QE}
theorem pe_revS {k : Nat} {p1 p2 p3 : Pos} (he : PE X e te) : PE X (.Subscript e (.Slice none none (some (.UnaryOp .USub (.Constant (.int 1) k p1) p2)) p3) pos) (tRevS te) := by
  refine ⟨fun pins s σ H Q I h => ?_⟩
  refine Subscript_ (thn (he.run pins s σ H _ I h) fun v s1 ⟨x, H1, I1, r1, q1⟩ => ?_)
  obtain ⟨z, ex, hz, q⟩ := q1
  subst ex
  obtain ⟨t, rfl⟩ := r1
  have hst : PO X (some (.UnaryOp .USub (.Constant (.int 1) k p1) p2)) (tPart (tUn (rU fun i => .int (-i)) (tC (.int 1)))) := po_some (pe_un un_neg pe_int)
  refine wpAny_Slice (thn (po_none.run pins s1 σ H1 (fun o H2 => o = none ∧ H2 = H1) I1 ⟨rfl, rfl⟩) fun vl s2 ⟨l, H2, I2, pl, el, e2⟩ => ?_)
  subst el e2
  refine thn (po_none.run pins s2 σ H2 (fun o H3 => o = none ∧ H3 = H2) I2 ⟨rfl, rfl⟩) fun vu s3 ⟨u, H3, I3, pu, eu, e3⟩ => ?_
  subst eu e3
  refine thn (hst.run pins s3 σ H3 (fun o H4 => o = some (-1) ∧ H4 = H3) I3 ⟨1, rfl, -1, rfl, rfl, rfl⟩) fun vs s4 ⟨o, H4, I4, ps, eo, e4⟩ => ?_
  subst eo e4
  have I5 : Inv X pins σ H4 { s4 with heap := s4.heap.push { cls := .type "slice", data := .fields #[vl, vu, vs] } } := I4.kept (t' := s4.toks) fun b ob q => Heap.get?_push_of_some _ q
  obtain ⟨l, rfl, hl1⟩ := IsPart.raw pl
  obtain ⟨u, rfl, hu1⟩ := IsPart.raw pu
  obtain ⟨st, rfl, hst1⟩ := IsPart.raw ps
  have el : l = none := by cases l <;> first | rfl | cases hl1
  have eu : u = none := by cases u <;> first | rfl | cases hu1
  obtain ⟨w, es⟩ : ∃ w, st = some ((-1 : Int), w) := by
    cases st with
    | none => cases hst1
    | some q =>
      obtain ⟨i, w⟩ := q
      cases hst1
      exact ⟨w, rfl⟩
  subst el eu es
  show wpAny (model X.prog X.w) X.A (subscriptTail e (.Slice none none (some (.UnaryOp .USub (.Constant (.int 1) k p1) p2)) p3) (.str z t) (.ref s4.heap.objs.size)) (EP X pins σ Q) X.xe { s4 with heap := s4.heap.push { cls := .type "slice", data := .fields #[partValue none, partValue none, partValue (some ((-1 : Int), w))] } }
  refine tail_any (ops := [.str z t, .ref s4.heap.objs.size]) (typeIs_str _ _ _) (F.slot_str_getitem.lookup) ?_ (by with_unfolding_all rfl)
  refine wpAny_getItem_str_slice (l := none) (u := none) (st := some ((-1 : Int), w)) ⟨_, Heap.get?_push_size _ rfl, rfl, rfl⟩ rfl ?_
  have e0 := revS_eq z w
  have nc : ¬ (((((some ((-1 : Int), w)).map (·.1)).getD 1 == 1 && (slicePicked z none none (some ((-1 : Int), w))).length == z.length)) = true) := by
    have : (((some ((-1 : Int), w)).map (·.1)).getD 1 == 1) = false := rfl
    rw [this]
    simp
  unfold Txt.sliceBy at e0
  rw [if_neg nc] at e0
  unfold sliceMade
  rw [if_neg nc, e0]
  have hl : (revS z).length ≤ sizeLine := by
    show z.cps.toList.reverse.toArray.size ≤ sizeLine
    rw [List.size_toArray, List.length_reverse, Array.length_toList]
    exact hz
  exact ⟨hl, .str _, H4, I5.tok _, ⟨_, rfl⟩, q⟩
theorem d_revS {k : Nat} {p1 p2 p3 : Pos} (he : DE X W e te pe) : DE X W (.Subscript e (.Slice none none (some (.UnaryOp .USub (.Constant (.int 1) k p1) p2)) p3) pos) (tRevS te) (qUn opRevS pe) := ⟨pe_revS he.pe, fun {B F Γ σ H fp} R EX Q rr h k e => by
  refine he.se _ EX _ rr h (fun w1 Γ1 x F1 H1 fp1 x1 r1 v1 h1 => ?_) e
  obtain ⟨d, b, z⟩ := bor_rb r1 v1 h1
  cases b with
  | str x hx => exact ⟨x, rfl, z.1, k _ Γ1 _ F1 H1 fp1 x1 r1 (.sh (.str _ (strOk_rev hx))) z.2⟩
  | _ => exact z.elim⟩
end

/-! ### name = {k: v for ..} on one line -/
section
variable {X : Cx} {W : WX} {pos : Pos} {kx vx tg iter : Expr} {wi : TI} {qi : QI} {g : TG} {qg : QG} {js : List Nat} {tt : TT} {qt : QT} {tk tv : TE} {qk qv : QE} {ifs : List Expr} {scope : Scope} {own : List (Str × Nat)}
theorem ps_setDc {b : Bool} {i : Nat} {y : Str} {py spos : Pos} (hu : X.A.units + 1 < cLine) (hc : X.calm = true) (hN : X.N.Nodup) (hy : X.N[i]? = some y) (hyl : X.env.scope.names.lookup y = some .local)
    (hsw : swapsWith (.DictComp kx vx [⟨tg, iter, ifs, 0⟩] scope pos) (some (.Name y py)) spos.line X.env = pure true) (hi : PI X tg iter wi) (ok : BlkOk X.N X.env.scope scope own)
    (hg : ∀ (s : Shared) (H : Hp) (C : Addr) (cl : List (Str × Addr)) (fp : List Addr), PG (X.blk s H scope (compEnvC scope cl C X.env) fp) tg g)
    (ht : ∀ (s : Shared) (H : Hp) (C : Addr) (cl : List (Str × Addr)) (fp : List Addr), PTs (X.blk s H scope (compEnvC scope cl C X.env) fp) ifs tt)
    (hk : ∀ (s : Shared) (H : Hp) (C : Addr) (cl : List (Str × Addr)) (fp : List Addr), PE (X.blk s H scope (compEnvC scope cl C X.env) fp) kx tk)
    (he : ∀ (s : Shared) (H : Hp) (C : Addr) (cl : List (Str × Addr)) (fp : List Addr), PE (X.blk s H scope (compEnvC scope cl C X.env) fp) vx tv) (hs : ∀ x, foldedSetIterable iter X.env x = pure x := by intro _; rfl) :
    PS X (.Assign [.Name y py] (.DictComp kx vx [⟨tg, iter, ifs, 0⟩] scope pos) spos) (tAsg (tDcG b wi g tt tk tv (own.map (·.2))) (gName i)) := by
  refine ⟨fun pins s σ H D I h => ?_⟩
  rw [exec_Assign_Name_used _ _ _ _ hsw]
  refine wpAny_bind (wpAny_standAt (wpAny_bind ?_))
  show wpAny _ X.A (do let _ ← comprehension (.DictComp kx vx [⟨tg, iter, ifs, 0⟩] scope pos) scope X.env (firstIterPos [⟨tg, iter, ifs, 0⟩] pos) newDict false (eval iter X.env) (some (assign (.Name y py) X.env))) _ _ s
  have h : tDcG b wi g tt tk tv (own.map (·.2)) σ H (fun x H1 => gName i x σ H1 D.nx) := h
  refine wpAny_bind (thn (dcG_core (Qf := fun _ s' => SP X pins D .next s') hu hc hN I hi ok hg ht hk he hs h fun L C s' m H' I' q hn f => ?_) fun _ s' hq => wpAny_pure (wpAny_pure hq))
  show wpAny _ _ (assign (.Name y py) X.env (.ref L)) _ _ _
  refine wpAny_assign_Name (store_ok2 (v := V.ref L) I' hN hy (.inl hyl) rfl (fun s2 I2 ⟨a, sb, ha⟩ => ?_) (.inr hyl))
  obtain ⟨f0, f1, f2, f3, f4, f5⟩ := f
  have haC : C ≠ a := by
    rcases ha with z | z
    · rw [z]; exact f1
    · exact fun e => f4 y a z e.symm
  refine ⟨m, hn.sameBut sb haC, fun h3 sb3 => ?_⟩
  exact ⟨_, H', I2.turned (t' := s2.toks) (fun b o hb e => (sb3.2 b hb).trans e) f0 f1 f3 f4 f5, q⟩
theorem swd_true {gs : List Comprehension} {py : Pos} {y : Str} {l : Nat} {env : Env} (hk : env.scope.kind = .function) (hy : env.scope.names.lookup y = some .local) (hl : (py.line == pos.line) = true)
    (ha : (scope.names.any fun (n, k) => n == y && (k == .local || k == .cell)) = false) : swapsWith (.DictComp kx vx gs scope pos) (some (.Name y py)) l env = pure true := by
  have ky : env.kindOf y = some .local := hy
  have hb : env.blockKind = .function := by unfold Env.blockKind; rw [hk]; rfl
  unfold swapsWith
  simp only [hb, ky, ha, Expr.pos, hl]
  rfl
theorem ds_setDc (b : Bool) {i j : Nat} {y : Str} {py spos : Pos} (hr : Room j X.A) (hc : X.calm = true) (hN : X.N.Nodup) (hi : DI X W tg iter wi qi) (ok : BlkOk X.N X.env.scope scope own)
    (hg : ∀ (s : Shared) (H : Hp) (C : Addr) (cl : List (Str × Addr)) (fp : List Addr), DG (X.blk s H scope (compEnvC scope cl C X.env) fp) tg g qg js)
    (ht : ∀ (s : Shared) (H : Hp) (C : Addr) (cl : List (Str × Addr)) (fp : List Addr), DTs (X.blk s H scope (compEnvC scope cl C X.env) fp) W0 ifs tt qt)
    (hk : ∀ (s : Shared) (H : Hp) (C : Addr) (cl : List (Str × Addr)) (fp : List Addr), DE (X.blk s H scope (compEnvC scope cl C X.env) fp) W0 kx tk qk)
    (he : ∀ (s : Shared) (H : Hp) (C : Addr) (cl : List (Str × Addr)) (fp : List Addr), DE (X.blk s H scope (compEnvC scope cl C X.env) fp) W0 vx tv qv)
    (hsw : swapsWith (.DictComp kx vx [⟨tg, iter, ifs, 0⟩] scope pos) (some (.Name y py)) spos.line X.env = pure true)
    (hy : X.N[i]? = some y := by rfl) (hyl : X.env.scope.names.lookup y = some .local := by rfl) (hj : (∀ j ∈ js, j ∈ own.map (·.2)) := by decide) (hs : ∀ x, foldedSetIterable iter X.env x = pure x := by intro _; rfl) :
    DS X W (.Assign [.Name y py] (.DictComp kx vx [⟨tg, iter, ifs, 0⟩] scope pos) spos) (tAsg (tDcG b wi g tt tk tv (own.map (·.2))) (gName i)) (qAsg (qDc b (own.map (·.2)) qi qg qt qk qv) (qgN i)) :=
  ⟨ps_setDc (hu_of hr) hc hN hy hyl hsw hi.pi ok (fun s H C cl fp => (hg s H C cl fp).pg) (fun s H C cl fp => (ht s H C cl fp).pt) (fun s H C cl fp => (hk s H C cl fp).pe) (fun s H C cl fp => (he s H C cl fp).pe) hs,
   ss_asg (se_dc hi.si (hg ({} : Shared) (fun _ => none) 0 [] []).sg (ht ({} : Shared) (fun _ => none) 0 [] []).st (hk ({} : Shared) (fun _ => none) 0 [] []).se (he ({} : Shared) (fun _ => none) 0 [] []).se hj) sg_name⟩
end

end PL

namespace PL
open PySem PySem.Spec PyProof.Rows L2
/-! ### comprehensions whose parts may name the block -/
abbrev BK (α : Type) := Shared → Hp → Addr → List (Str × Addr) → List Addr → α
abbrev bz {α : Type} (f : BK α) : α := f {} (fun _ => none) 0 [] []
section
variable {X : Cx} {W : WX} {pos : Pos} {e tg iter elt tg1 iter1 kx vx : Expr} {wi : TI} {qi qi1 : QI} {wi1 : BK TI} {g g1 : BK TG} {qg qg1 : QG} {js js1 : List Nat} {tt tt1 : BK TT} {qt qt1 : QT} {te tk tv : BK TE} {qe qk qv : QE} {ifs ifs1 : List Expr} {scope : Scope} {own : List (Str × Nat)}
theorem b_lc (hc : X.calm = true) (hN : X.N.Nodup) (hi : DI X W tg iter wi qi) (ok : BlkOk X.N X.env.scope scope own)
    (hg : ∀ (s : Shared) (H : Hp) (C : Addr) (cl : List (Str × Addr)) (fp : List Addr), DG (X.blk s H scope (compEnvC scope cl C X.env) fp) tg (g s H C cl fp) qg js)
    (ht : ∀ (s : Shared) (H : Hp) (C : Addr) (cl : List (Str × Addr)) (fp : List Addr), DTs (X.blk s H scope (compEnvC scope cl C X.env) fp) W0 ifs (tt s H C cl fp) qt)
    (he : ∀ (s : Shared) (H : Hp) (C : Addr) (cl : List (Str × Addr)) (fp : List Addr), DE (X.blk s H scope (compEnvC scope cl C X.env) fp) W0 elt (te s H C cl fp) qe)
    (h1 : ∀ s H C cl fp, g s H C cl fp = bz g := by intros; rfl) (h2 : ∀ s H C cl fp, tt s H C cl fp = bz tt := by intros; rfl) (h3 : ∀ s H C cl fp, te s H C cl fp = bz te := by intros; rfl)
    (hj : (∀ j ∈ js, j ∈ own.map (·.2)) := by decide) (hs : ∀ x, foldedSetIterable iter X.env x = pure x := by intro _; rfl) :
    DE X W (.ListComp elt [⟨tg, iter, ifs, 0⟩] scope pos) (tLc wi (bz g) (bz tt) (bz te) (own.map (·.2))) (qLc (own.map (·.2)) qi qg qt qe) :=
  d_lc hc hN hi ok (fun s H C cl fp => h1 s H C cl fp ▸ hg s H C cl fp) (fun s H C cl fp => h2 s H C cl fp ▸ ht s H C cl fp) (fun s H C cl fp => h3 s H C cl fp ▸ he s H C cl fp) hj hs
theorem bs_setLc {i : Nat} {y : Str} {py spos : Pos} (hc : X.calm = true) (hN : X.N.Nodup) (hi : DI X W tg iter wi qi) (ok : BlkOk X.N X.env.scope scope own)
    (hg : ∀ (s : Shared) (H : Hp) (C : Addr) (cl : List (Str × Addr)) (fp : List Addr), DG (X.blk s H scope (compEnvC scope cl C X.env) fp) tg (g s H C cl fp) qg js)
    (ht : ∀ (s : Shared) (H : Hp) (C : Addr) (cl : List (Str × Addr)) (fp : List Addr), DTs (X.blk s H scope (compEnvC scope cl C X.env) fp) W0 ifs (tt s H C cl fp) qt)
    (he : ∀ (s : Shared) (H : Hp) (C : Addr) (cl : List (Str × Addr)) (fp : List Addr), DE (X.blk s H scope (compEnvC scope cl C X.env) fp) W0 elt (te s H C cl fp) qe)
    (hsw : swapsWith (.ListComp elt [⟨tg, iter, ifs, 0⟩] scope pos) (some (.Name y py)) spos.line X.env = pure true)
    (h1 : ∀ s H C cl fp, g s H C cl fp = bz g := by intros; rfl) (h2 : ∀ s H C cl fp, tt s H C cl fp = bz tt := by intros; rfl) (h3 : ∀ s H C cl fp, te s H C cl fp = bz te := by intros; rfl)
    (hy : X.N[i]? = some y := by rfl) (hyl : X.env.scope.names.lookup y = some .local := by rfl) (hj : (∀ j ∈ js, j ∈ own.map (·.2)) := by decide) (hs : ∀ x, foldedSetIterable iter X.env x = pure x := by intro _; rfl) :
    DS X W (.Assign [.Name y py] (.ListComp elt [⟨tg, iter, ifs, 0⟩] scope pos) spos) (tAsg (tLc wi (bz g) (bz tt) (bz te) (own.map (·.2))) (gName i)) (qAsg (qLc (own.map (·.2)) qi qg qt qe) (qgN i)) :=
  ds_setLc hc hN hi ok (fun s H C cl fp => h1 s H C cl fp ▸ hg s H C cl fp) (fun s H C cl fp => h2 s H C cl fp ▸ ht s H C cl fp) (fun s H C cl fp => h3 s H C cl fp ▸ he s H C cl fp) hsw hy hyl hj hs
theorem b_lc2 (vs1 : List Nat) (hc : X.calm = true) (hN : X.N.Nodup) (hi : DI X W tg iter wi qi) (ok : BlkOk X.N X.env.scope scope own)
    (hg : ∀ (s : Shared) (H : Hp) (C : Addr) (cl : List (Str × Addr)) (fp : List Addr), DG (X.blk s H scope (compEnvC scope cl C X.env) fp) tg (g s H C cl fp) qg js)
    (ht : ∀ (s : Shared) (H : Hp) (C : Addr) (cl : List (Str × Addr)) (fp : List Addr), DTs (X.blk s H scope (compEnvC scope cl C X.env) fp) W0 ifs (tt s H C cl fp) qt)
    (hi1 : ∀ (s : Shared) (H : Hp) (C : Addr) (cl : List (Str × Addr)) (fp : List Addr), DI (X.blk s H scope (compEnvC scope cl C X.env) fp) W0 tg1 iter1 (wi1 s H C cl fp) qi1)
    (hg1 : ∀ (s : Shared) (H : Hp) (C : Addr) (cl : List (Str × Addr)) (fp : List Addr), DG (X.blk s H scope (compEnvC scope cl C X.env) fp) tg1 (g1 s H C cl fp) qg1 js1)
    (ht1 : ∀ (s : Shared) (H : Hp) (C : Addr) (cl : List (Str × Addr)) (fp : List Addr), DTs (X.blk s H scope (compEnvC scope cl C X.env) fp) W0 ifs1 (tt1 s H C cl fp) qt1)
    (he : ∀ (s : Shared) (H : Hp) (C : Addr) (cl : List (Str × Addr)) (fp : List Addr), DE (X.blk s H scope (compEnvC scope cl C X.env) fp) W0 elt (te s H C cl fp) qe)
    (h1 : ∀ s H C cl fp, g s H C cl fp = bz g := by intros; rfl) (h2 : ∀ s H C cl fp, tt s H C cl fp = bz tt := by intros; rfl) (h3 : ∀ s H C cl fp, te s H C cl fp = bz te := by intros; rfl)
    (h4 : ∀ s H C cl fp, wi1 s H C cl fp = bz wi1 := by intros; rfl) (h5 : ∀ s H C cl fp, g1 s H C cl fp = bz g1 := by intros; rfl) (h6 : ∀ s H C cl fp, tt1 s H C cl fp = bz tt1 := by intros; rfl)
    (hj : (∀ j ∈ js, j ∈ own.map (·.2)) := by decide) (hj1 : (∀ j ∈ js1, j ∈ vs1) := by decide) (hv : (∀ j ∈ vs1, j ∈ own.map (·.2)) := by decide) (hs : ∀ x, foldedSetIterable iter X.env x = pure x := by intro _; rfl) (hs1 : ∀ env x, foldedSetIterable iter1 env x = pure x := by intro _ _; rfl) :
    DE X W (.ListComp elt [⟨tg, iter, ifs, 0⟩, ⟨tg1, iter1, ifs1, 0⟩] scope pos) (tLc2 wi (bz g) (bz tt) (bz wi1) (bz g1) (bz tt1) (bz te) (own.map (·.2)) vs1) (qLc2 (own.map (·.2)) vs1 qi qg qt qi1 qg1 qt1 qe) :=
  d_lc2 vs1 hc hN hi ok (fun s H C cl fp => h1 s H C cl fp ▸ hg s H C cl fp) (fun s H C cl fp => h2 s H C cl fp ▸ ht s H C cl fp) (fun s H C cl fp => h4 s H C cl fp ▸ hi1 s H C cl fp) (fun s H C cl fp => h5 s H C cl fp ▸ hg1 s H C cl fp) (fun s H C cl fp => h6 s H C cl fp ▸ ht1 s H C cl fp) (fun s H C cl fp => h3 s H C cl fp ▸ he s H C cl fp) hj hj1 hv hs hs1
theorem b_dc (b : Bool) {j : Nat} (hr : Room j X.A) (hc : X.calm = true) (hN : X.N.Nodup) (hi : DI X W tg iter wi qi) (ok : BlkOk X.N X.env.scope scope own)
    (hg : ∀ (s : Shared) (H : Hp) (C : Addr) (cl : List (Str × Addr)) (fp : List Addr), DG (X.blk s H scope (compEnvC scope cl C X.env) fp) tg (g s H C cl fp) qg js)
    (ht : ∀ (s : Shared) (H : Hp) (C : Addr) (cl : List (Str × Addr)) (fp : List Addr), DTs (X.blk s H scope (compEnvC scope cl C X.env) fp) W0 ifs (tt s H C cl fp) qt)
    (hk : ∀ (s : Shared) (H : Hp) (C : Addr) (cl : List (Str × Addr)) (fp : List Addr), DE (X.blk s H scope (compEnvC scope cl C X.env) fp) W0 kx (tk s H C cl fp) qk)
    (he : ∀ (s : Shared) (H : Hp) (C : Addr) (cl : List (Str × Addr)) (fp : List Addr), DE (X.blk s H scope (compEnvC scope cl C X.env) fp) W0 vx (tv s H C cl fp) qv)
    (h1 : ∀ s H C cl fp, g s H C cl fp = bz g := by intros; rfl) (h2 : ∀ s H C cl fp, tt s H C cl fp = bz tt := by intros; rfl) (h3 : ∀ s H C cl fp, tk s H C cl fp = bz tk := by intros; rfl) (h4 : ∀ s H C cl fp, tv s H C cl fp = bz tv := by intros; rfl)
    (hj : (∀ j ∈ js, j ∈ own.map (·.2)) := by decide) (hs : ∀ x, foldedSetIterable iter X.env x = pure x := by intro _; rfl) :
    DE X W (.DictComp kx vx [⟨tg, iter, ifs, 0⟩] scope pos) (tDcG b wi (bz g) (bz tt) (bz tk) (bz tv) (own.map (·.2))) (qDc b (own.map (·.2)) qi qg qt qk qv) :=
  d_dc b hr hc hN hi ok (fun s H C cl fp => h1 s H C cl fp ▸ hg s H C cl fp) (fun s H C cl fp => h2 s H C cl fp ▸ ht s H C cl fp) (fun s H C cl fp => h3 s H C cl fp ▸ hk s H C cl fp) (fun s H C cl fp => h4 s H C cl fp ▸ he s H C cl fp) hj hs
theorem bs_setDc (b : Bool) {i j : Nat} {y : Str} {py spos : Pos} (hr : Room j X.A) (hc : X.calm = true) (hN : X.N.Nodup) (hi : DI X W tg iter wi qi) (ok : BlkOk X.N X.env.scope scope own)
    (hg : ∀ (s : Shared) (H : Hp) (C : Addr) (cl : List (Str × Addr)) (fp : List Addr), DG (X.blk s H scope (compEnvC scope cl C X.env) fp) tg (g s H C cl fp) qg js)
    (ht : ∀ (s : Shared) (H : Hp) (C : Addr) (cl : List (Str × Addr)) (fp : List Addr), DTs (X.blk s H scope (compEnvC scope cl C X.env) fp) W0 ifs (tt s H C cl fp) qt)
    (hk : ∀ (s : Shared) (H : Hp) (C : Addr) (cl : List (Str × Addr)) (fp : List Addr), DE (X.blk s H scope (compEnvC scope cl C X.env) fp) W0 kx (tk s H C cl fp) qk)
    (he : ∀ (s : Shared) (H : Hp) (C : Addr) (cl : List (Str × Addr)) (fp : List Addr), DE (X.blk s H scope (compEnvC scope cl C X.env) fp) W0 vx (tv s H C cl fp) qv)
    (hsw : swapsWith (.DictComp kx vx [⟨tg, iter, ifs, 0⟩] scope pos) (some (.Name y py)) spos.line X.env = pure true)
    (h1 : ∀ s H C cl fp, g s H C cl fp = bz g := by intros; rfl) (h2 : ∀ s H C cl fp, tt s H C cl fp = bz tt := by intros; rfl) (h3 : ∀ s H C cl fp, tk s H C cl fp = bz tk := by intros; rfl) (h4 : ∀ s H C cl fp, tv s H C cl fp = bz tv := by intros; rfl)
    (hy : X.N[i]? = some y := by rfl) (hyl : X.env.scope.names.lookup y = some .local := by rfl) (hj : (∀ j ∈ js, j ∈ own.map (·.2)) := by decide) (hs : ∀ x, foldedSetIterable iter X.env x = pure x := by intro _; rfl) :
    DS X W (.Assign [.Name y py] (.DictComp kx vx [⟨tg, iter, ifs, 0⟩] scope pos) spos) (tAsg (tDcG b wi (bz g) (bz tt) (bz tk) (bz tv) (own.map (·.2))) (gName i)) (qAsg (qDc b (own.map (·.2)) qi qg qt qk qv) (qgN i)) :=
  ds_setDc b hr hc hN hi ok (fun s H C cl fp => h1 s H C cl fp ▸ hg s H C cl fp) (fun s H C cl fp => h2 s H C cl fp ▸ ht s H C cl fp) (fun s H C cl fp => h3 s H C cl fp ▸ hk s H C cl fp) (fun s H C cl fp => h4 s H C cl fp ▸ he s H C cl fp) hsw hy hyl hj hs
end
end PL

namespace PL
open PySem PySem.Spec PyProof.Rows L2
/-! ### loops in plain Lean -/
theorem Cif.yes {A B : Prop} (h : A) : Cif true A B := ⟨fun _ => h, (fun z => nomatch z)⟩
theorem Cif.no {A B : Prop} (h : B) : Cif false A B := ⟨(fun z => nomatch z), fun _ => h⟩
section
variable {α : Type} {vs : List Nat} {g : QG} {t : QT} {p : QE} {k : List D → Ev → Prop} {Γ : Ev}
theorem lcGo_map (enc : α → D) (f : α → D) : ∀ (xs : List α) (acc : List D),
    (∀ x ∈ xs, ∀ (acc : List D) (K : List D → Ev → Prop), acc.length < sizeLine → K (acc ++ [f x]) Γ → g (.sh (enc x)) Γ fun Γ1 => p Γ1 (fun w Γ3 => shr w Γ3 fun y Γ4 => acc.length < sizeLine ∧ K (acc ++ [y]) (wipEv vs Γ4)) noEX) →
    acc.length + xs.length ≤ sizeLine → k (acc ++ xs.map f) Γ → lcGo vs g qYes p k (xs.map enc) acc Γ
  | [], acc, _, _, hk => by simpa [lcGo] using hk
  | x :: r, acc, hs, hl, hk => by
    have h := hs x List.mem_cons_self acc (fun acc' Γ' => lcGo vs g qYes p k (r.map enc) acc' Γ') (by simp at hl; omega)
      (lcGo_map enc f r (acc ++ [f x]) (fun y hy => hs y (List.mem_cons_of_mem _ hy)) (by simp at hl ⊢; omega) (by simpa using hk))
    have e : (fun Γ1 => p Γ1 (fun w Γ3 => shr w Γ3 fun y Γ4 => acc.length < sizeLine ∧ lcGo vs g qYes p k (r.map enc) (acc ++ [y]) (wipEv vs Γ4)) noEX) =
        fun Γ1 => Cif true (p Γ1 (fun w Γ3 => shr w Γ3 fun y Γ4 => acc.length < sizeLine ∧ lcGo vs g qYes p k (r.map enc) (acc ++ [y]) (wipEv vs Γ4)) noEX) (lcGo vs g qYes p k (r.map enc) acc (wipEv vs Γ1)) := by
      funext Γ1
      exact propext ⟨Cif.yes, fun h => h.t rfl⟩
    rw [e] at h
    exact h
theorem lcGo_fm (enc : α → D) (f : α → Option D) : ∀ (xs : List α) (acc : List D),
    (∀ x ∈ xs, ∀ (acc : List D) (K : List D → Ev → Prop), acc.length < sizeLine → K (acc ++ (f x).toList) Γ → g (.sh (enc x)) Γ fun Γ1 => t Γ1 (fun b Γ2 => Cif b (p Γ2 (fun w Γ3 => shr w Γ3 fun y Γ4 => acc.length < sizeLine ∧ K (acc ++ [y]) (wipEv vs Γ4)) noEX) (K acc (wipEv vs Γ2))) noEX) →
    acc.length + xs.length ≤ sizeLine → k (acc ++ xs.filterMap f) Γ → lcGo vs g t p k (xs.map enc) acc Γ
  | [], acc, _, _, hk => by simpa [lcGo] using hk
  | x :: r, acc, hs, hl, hk => by
    refine hs x List.mem_cons_self acc (fun acc' Γ' => lcGo vs g t p k (r.map enc) acc' Γ') (by simp at hl; omega)
      (lcGo_fm enc f r (acc ++ (f x).toList) (fun y hy => hs y (List.mem_cons_of_mem _ hy)) ?_ ?_)
    · cases f x <;> simp at hl ⊢ <;> omega
    · cases e : f x <;> simpa [e] using hk
/-- [x for x in xs if c x] and such: p gives e x, t gives c x -/
theorem lcGo_fil (enc : α → D) (c : α → Bool) (f : α → D) (xs : List α) (acc : List D)
    (hs : ∀ x ∈ xs, ∀ (acc : List D) (K : List D → Ev → Prop), acc.length < sizeLine → (c x = true → K (acc ++ [f x]) Γ) → (c x = false → K acc Γ) → g (.sh (enc x)) Γ fun Γ1 => t Γ1 (fun b Γ2 => Cif b (p Γ2 (fun w Γ3 => shr w Γ3 fun y Γ4 => acc.length < sizeLine ∧ K (acc ++ [y]) (wipEv vs Γ4)) noEX) (K acc (wipEv vs Γ2))) noEX)
    (hl : acc.length + xs.length ≤ sizeLine) (hk : k (acc ++ (xs.filter c).map f) Γ) : lcGo vs g t p k (xs.map enc) acc Γ := by
  refine lcGo_fm enc (fun x => if c x then some (f x) else none) xs acc (fun x hx acc K ha hK => hs x hx acc K ha (fun h => ?_) fun h => ?_) hl ?_
  · simpa [h] using hK
  · simpa [h] using hK
  · have e : xs.filterMap (fun x => if c x then some (f x) else none) = (xs.filter c).map f := by
      clear hs hl hk
      induction xs with
      | nil => rfl
      | cons x r ih =>
        by_cases h : c x
        · simp [h, ih]
        · simp [h, ih]
    rw [e]
    exact hk
variable {vs1 : List Nat} {i1 : QI} {g1 : QG} {t1 : QT}
theorem lc2Go_app (enc : α → D) (f : α → List D) : ∀ (xs : List α) (acc : List D),
    (∀ x ∈ xs, ∀ (acc : List D) (K : List D → Ev → Prop), acc.length + (f x).length ≤ sizeLine → K (acc ++ f x) Γ → g (.sh (enc x)) Γ fun Γ1 => i1 Γ1 (fun ds1 Γ3 => lcGo vs1 g1 t1 p (fun acc' Γ4 => K acc' (wipEv vs Γ4)) ds1 acc (wipEv vs1 Γ3)) noEX) →
    acc.length + (xs.map fun x => (f x).length).sum ≤ sizeLine → k (acc ++ (xs.map f).flatten) Γ → lc2Go vs vs1 g qYes i1 g1 t1 p k (xs.map enc) acc Γ
  | [], acc, _, _, hk => by simpa [lc2Go] using hk
  | x :: r, acc, hs, hl, hk => by
    simp only [List.map_cons, List.sum_cons] at hl
    have h := hs x List.mem_cons_self acc (fun acc' Γ' => lc2Go vs vs1 g qYes i1 g1 t1 p k (r.map enc) acc' Γ') (by omega)
      (lc2Go_app enc f r (acc ++ f x) (fun y hy => hs y (List.mem_cons_of_mem _ hy)) (by simp; omega) (by simpa using hk))
    have e : (fun Γ1 => i1 Γ1 (fun ds1 Γ3 => lcGo vs1 g1 t1 p (fun acc' Γ4 => lc2Go vs vs1 g qYes i1 g1 t1 p k (r.map enc) acc' (wipEv vs Γ4)) ds1 acc (wipEv vs1 Γ3)) noEX) =
        fun Γ1 => Cif true (i1 Γ1 (fun ds1 Γ3 => lcGo vs1 g1 t1 p (fun acc' Γ4 => lc2Go vs vs1 g qYes i1 g1 t1 p k (r.map enc) acc' (wipEv vs Γ4)) ds1 acc (wipEv vs1 Γ3)) noEX) (lc2Go vs vs1 g qYes i1 g1 t1 p k (r.map enc) acc (wipEv vs Γ1)) := by
      funext Γ1
      exact propext ⟨Cif.yes, fun h => h.t rfl⟩
    rw [e] at h
    exact h
end
section
variable {α : Type} {vs : List Nat} {g : QG} {t : QS} {P : PEnds}
theorem forGo_ok (enc : α → D) (I : List α → Ev → Prop) (h0 : ∀ Γ, I [] Γ → P.nx Γ)
    (hs : ∀ x r Γ (K : Ev → Prop), I (x :: r) Γ → (∀ Γ', I r Γ' → K Γ') → g (.sh (enc x)) Γ fun Γ1 => t { P with nx := K, ct := K, bk := P.nx } Γ1) : ∀ (xs : List α) (Γ : Ev), I xs Γ → forGo g t P (xs.map enc) Γ
  | [], Γ, h => h0 Γ h
  | x :: r, Γ, h => hs x r Γ (forGo g t P (r.map enc)) h fun Γ' h' => forGo_ok enc I h0 hs r Γ' h'
end
section
variable {α : Type} {b : Bool} {vs : List Nat} {g : QG} {pk pv : QE} {k : List (D × D) → Ev → Prop} {Γ : Ev}
theorem dcGo_ok (enc : α → D) (fk fv : α → D) : ∀ (xs : List α) (acc : List (D × D)),
    (∀ x ∈ xs, ∀ (acc : List (D × D)) (K : List (D × D) → Ev → Prop), acc.length < sizeLine → K (putD acc (fk x) (fv x)) Γ → g (.sh (enc x)) Γ fun Γ1 => pk Γ1 (fun w Γ3 => shr w Γ3 fun dk Γ4 => pv Γ4 (fun w Γ5 => shr w Γ5 fun dv Γ6 => (if b = true then keyT dk else keyK dk) = true ∧ acc.length < sizeLine ∧ K (putD acc dk dv) (wipEv vs Γ6)) noEX) noEX) →
    acc.length + xs.length ≤ sizeLine → k (xs.foldl (fun acc x => putD acc (fk x) (fv x)) acc) Γ → dcGo b vs g qYes pk pv k (xs.map enc) acc Γ
  | [], acc, _, _, hk => hk
  | x :: r, acc, hs, hl, hk => by
    have hp : (putD acc (fk x) (fv x)).length ≤ acc.length + 1 := by
      unfold putD
      split
      · simp
      · simp
    have h := hs x List.mem_cons_self acc (fun acc' Γ' => dcGo b vs g qYes pk pv k (r.map enc) acc' Γ') (by simp at hl; omega)
      (dcGo_ok enc fk fv r _ (fun y hy => hs y (List.mem_cons_of_mem _ hy)) (by simp at hl; omega) hk)
    have e : (fun Γ1 => pk Γ1 (fun w Γ3 => shr w Γ3 fun dk Γ4 => pv Γ4 (fun w Γ5 => shr w Γ5 fun dv Γ6 => (if b = true then keyT dk else keyK dk) = true ∧ acc.length < sizeLine ∧ dcGo b vs g qYes pk pv k (r.map enc) (putD acc dk dv) (wipEv vs Γ6)) noEX) noEX) =
        fun Γ1 => Cif true (pk Γ1 (fun w Γ3 => shr w Γ3 fun dk Γ4 => pv Γ4 (fun w Γ5 => shr w Γ5 fun dv Γ6 => (if b = true then keyT dk else keyK dk) = true ∧ acc.length < sizeLine ∧ dcGo b vs g qYes pk pv k (r.map enc) (putD acc dk dv) (wipEv vs Γ6)) noEX) noEX)
          (dcGo b vs g qYes pk pv k (r.map enc) acc (wipEv vs Γ1)) := by
      funext Γ1
      exact propext ⟨Cif.yes, fun h => h.t rfl⟩
    rw [e] at h
    exact h
end

section
variable {α : Type} {vs : List Nat} {g : QG} {t : QT} {p : QE} {k : List D → Ev → Prop} {Γ : Ev}
theorem lc0_map (enc : α → D) (f : α → D) (xs : List α)
    (hs : ∀ x ∈ xs, ∀ (acc : List D) (K : List D → Ev → Prop), acc.length < sizeLine → K (acc ++ [f x]) Γ → g (.sh (enc x)) Γ fun Γ1 => p Γ1 (fun w Γ3 => shr w Γ3 fun y Γ4 => acc.length < sizeLine ∧ K (acc ++ [y]) (wipEv vs Γ4)) noEX)
    (hl : xs.length ≤ sizeLine) (hk : k (xs.map f) Γ) : lcGo vs g qYes p k (xs.map enc) [] Γ := lcGo_map enc f xs [] hs (by simpa using hl) hk
theorem lc0_fil (enc : α → D) (c : α → Bool) (f : α → D) (xs : List α)
    (hs : ∀ x ∈ xs, ∀ (acc : List D) (K : List D → Ev → Prop), acc.length < sizeLine → (c x = true → K (acc ++ [f x]) Γ) → (c x = false → K acc Γ) → g (.sh (enc x)) Γ fun Γ1 => t Γ1 (fun b Γ2 => Cif b (p Γ2 (fun w Γ3 => shr w Γ3 fun y Γ4 => acc.length < sizeLine ∧ K (acc ++ [y]) (wipEv vs Γ4)) noEX) (K acc (wipEv vs Γ2))) noEX)
    (hl : xs.length ≤ sizeLine) (hk : k ((xs.filter c).map f) Γ) : lcGo vs g t p k (xs.map enc) [] Γ := lcGo_fil enc c f xs [] hs (by simpa using hl) hk
variable {vs1 : List Nat} {i1 : QI} {g1 : QG} {t1 : QT}
theorem lc20_app (enc : α → D) (f : α → List D) (xs : List α)
    (hs : ∀ x ∈ xs, ∀ (acc : List D) (K : List D → Ev → Prop), acc.length + (f x).length ≤ sizeLine → K (acc ++ f x) Γ → g (.sh (enc x)) Γ fun Γ1 => i1 Γ1 (fun ds1 Γ3 => lcGo vs1 g1 t1 p (fun acc' Γ4 => K acc' (wipEv vs Γ4)) ds1 acc (wipEv vs1 Γ3)) noEX)
    (hl : (xs.map fun x => (f x).length).sum ≤ sizeLine) (hk : k (xs.map f).flatten Γ) : lc2Go vs vs1 g qYes i1 g1 t1 p k (xs.map enc) [] Γ := lc2Go_app enc f xs [] hs (by simpa using hl) hk
end
theorem cdiv {i j : Int} (h : 0 < j) (h' : j < 1073741824) : CDiv i j := ⟨h, h'⟩
theorem cmulR {i j : Int} (h : -18446744073709551616 < j) (h' : j < 18446744073709551616) : CMul i j := .inr ⟨by omega, by omega⟩
theorem cmulL {i j : Int} (h : -18446744073709551616 < i) (h' : i < 18446744073709551616) : CMul i j := .inl ⟨by omega, by omega⟩
theorem ltsmall {n : Nat} (h : n < 1000000) : n < sizeLine := by rw [sizeLine_eq]; omega
theorem small {n : Nat} (h : n ≤ 1000000) : n ≤ sizeLine := by rw [sizeLine_eq]; omega
/-- a def that promises nothing -/
theorem cal_no {P : Program} {w : World} {K : PySem.W.Frag} {mg : Str → Option Value} {base : Heap} {x : Str} {st : Stmt} {f : Addr} {fd : FuncData} {N ps : List Str} {k n : Nat} (F : L2.Fun K x x st f fd) (hm : mg x = some (.ref f)) (b : Binds K fd ps []) (S : L2.FnScope N ps (L2.defScope st)) :
    Cal P w K mg base (k + 1) x (spD n fun _ _ => False) :=
  ⟨f, fd, ps, L2.Fun.ok F S (fun vs H Q E h => by obtain ⟨_, _, _, _, _, _, h, _⟩ := h; exact h.elim) fun cdv A outer s H vs Q E hr h => by obtain ⟨_, _, _, _, _, _, h, _⟩ := h; exact h.elim, hm, F.kp, b⟩

section
variable {P : Program} {w : World} {K : PySem.W.Frag} {mg : Str → Option Value} {base : Heap}
theorem fnok_mk {x : Str} {st : Stmt} {f : Addr} {fd : FuncData} {N ps : List Str} {k : Nat} {q : PD} (F : L2.Fun K x x st f fd) (S : L2.FnScope N ps (L2.defScope st))
    (hbody : ∀ (cdv : Value) (A : Around) (outer : List Env) (s : Shared) (H : Hp) (E : XK), Room k (A.deeper (envOfC x (L2.defScope st) s.heap.objs.size f cdv)) →
      ∃ t p', DSs (cxOf CX0 P w K mg base N x (L2.defScope st) f cdv A outer s H E).nox W0 (L2.defBody st) t p' ∧ ∀ ds R, ds.length = ps.length → q ds R → p' (endsOf R) (startEv N.length ds)) :
    FnOk P w K mg base CX0 (k + 1) f fd ps (spD ps.length q) := by
  have hN : ps.length ≤ N.length := by
    have := congrArg List.length S.pre
    rw [List.length_take] at this
    omega
  refine L2.Fun.ok F S (fun vs H Q E h => ?_) fun cdv A outer s H vs Q E hr h => ?_
  · obtain ⟨F, ds, R, _, b, hl, _⟩ := h
    rw [b.length, hl]
  · obtain ⟨t, p', hd, hq⟩ := hbody cdv A outer s H E hr
    obtain ⟨F0, ds, R, f0, b, hl, h1, h2⟩ := h
    refine ⟨t, hd.ps, hd.ss (endsOf R) _ (rel_start f0 b (by omega)) (hq ds R hl h1) ⟨fun Γ' F' σ' H' fp' x r z => ?_, fun w Γ' v F' σ' H' fp' x r rw z => ?_, fun _ _ _ _ _ _ _ z => z.elim, fun _ _ _ _ _ _ _ z => z.elim, fun _ _ _ _ _ _ _ _ z => z.elim⟩⟩
    · exact h2 _ _ F' H' x r.bx r.fx (.sh .non) z
    · cases rw with
      | sh h => exact h2 _ _ F' H' x r.bx r.fx (.sh h) z
      | ow h hf => exact h2 _ _ F' H' x r.bx r.fx (.ow h fun a ha => ⟨(hf a ha).1, (hf a ha).2.1⟩) z
      | @«at» i h =>
        unfold endsOf retW at z
        simp only at z
        split at z
        · rename_i d e
          obtain ⟨u, g1, g2⟩ := r.sh i d e
          rw [h] at g1
          cases g1
          exact h2 _ _ F' H' x r.bx r.fx (.sh g2) z
        · rename_i o e
          obtain ⟨u, g1, g2⟩ := r.ow i o e
          rw [h] at g1
          cases g1
          exact h2 _ _ F' H' x r.bx r.fx (.ow g2 fun a ha => ⟨(r.nb i a ha).1, (r.nb i a ha).2.1⟩) z
        · exact z.elim
/-- no list among the written objects -/
def noLists (K : PySem.W.Frag) : Bool := K.all fun p => match p.2.cls with
  | .type n => !(n == "list")
  | _ => true
theorem noLists_at {K : PySem.W.Frag} (h : noLists K = true) {a : Addr} {o : Obj} (e : K.lookup a = some o) : o.cls ≠ .type "list" := by
  intro z
  unfold noLists at h
  rw [List.all_eq_true] at h
  have hm : ∀ (K : List (Addr × Obj)), K.lookup a = some o → ∃ b, (b, o) ∈ K := by
    intro K
    induction K with
    | nil => intro e; cases e
    | cons p r ih =>
      obtain ⟨b, x⟩ := p
      intro e
      simp only [List.lookup] at e
      split at e
      · cases e
        exact ⟨b, by simp⟩
      · obtain ⟨c, hc⟩ := ih e
        exact ⟨c, List.mem_cons_of_mem _ hc⟩
  obtain ⟨b, hb⟩ := hm K e
  have := h _ hb
  simp only [z] at this
  cases this
def scrDat (ns : List Int) : D := .dict [(.none, .list (ns.map .int))]
theorem rpa_ints {F : Hp} : ∀ ns : List Int, RpA F (ns.map V.int) (ns.map .int)
  | [] => .nil
  | n :: r => .cons (.int n) (rpa_ints r)
theorem law_sp {K : PySem.W.Frag} {H : Hp} {a : Addr} {ns : List Int} {p : PD} {E : XK} (hK : noLists K = true) (hO : Only H) (hS : SqL K H a (ns.map V.int)) (hp : p [scrDat ns] fun w => w = .sh (.bool true)) : spD 1 p [.ref a] H (fun v _ => v = .bl true) E := by
  have hf : ∃ o, H a = some (.frz o (.lst (ns.map V.int))) := by
    rcases hS with (h | h) | ⟨o, its, n, h, h1, _⟩
    · rcases hO a with z | ⟨o, xs, z⟩
      · rw [h] at z
        cases z
      · rw [h] at z
        cases z
    · exact h
    · exact absurd h1 (noLists_at hK h)
  obtain ⟨o, e⟩ := hf
  refine ⟨H, [scrDat ns], _, Same.refl H, .cons (.fz e (rpa_ints ns)) .nil, rfl, hp, fun w v F' H' _ _ _ rr hw => ?_⟩
  subst hw
  cases rr with
  | sh h =>
    cases h
    rfl
end
end PL

namespace PL
open PySem PySem.Spec PyProof.Rows L2
/-! ### defs that may raise -/
abbrev PDX := List D → (Wv → Prop) → (Value → Prop) → Prop
def spX (n : Nat) (p : PDX) : Sp := fun vs H Q E => ∃ (F : Hp) (ds : List D) (R : Wv → Prop) (EX : Value → Prop), Same F H ∧ RpA F vs ds ∧ ds.length = n ∧ p ds R EX ∧ (∀ w v F' H', Ext H F F' → Same H H' → Same F' H' → RR H F' H' v w → R w → Q v H') ∧ ∀ c H', Same H H' → EX c → E c none H'
def qCallX (n : Nat) (p : PDX) (a : QA) : QE := fun Γ R E => a Γ (fun ds Γ1 => ds.length = n ∧ p ds (fun w => R w Γ1) (fun c => E c Γ1)) E
theorem Rel.more {B F : Hp} {Γ : Ev} {σ : L2.St} {H H' : Hp} {fp : Nat → List Addr} (r : Rel B F Γ σ H fp) (s : Same H H') : Rel B F Γ σ H' fp :=
  ⟨r.bx.trans s, r.fx.trans s, r.len, r.sh, fun i o e => by
    obtain ⟨v, g1, g2⟩ := r.ow i o e
    refine ⟨v, g1, g2.mono (Same.refl F) fun a ha => ?_⟩
    cases z : H a with
    | none => exact absurd z (r.nb i a ha).2.2
    | some u => exact s a u z, fun i a ha => by
    obtain ⟨b, c, d⟩ := r.nb i a ha
    exact ⟨b, c, fun z => d (s.free z)⟩, r.dj, r.ex⟩
theorem se_callX {W : WX} {ta : TA} {pa : QA} {n : Nat} {p : PDX} (ha : SA W ta pa) : SE W (tCallS (spX n p) (WE W) ta) (qCallX n p pa) := fun {B F Γ σ H fp} R EX Q r q k e => by
  refine ha _ _ _ r q (fun ds Γ1 vs F1 H1 fp1 x1 r1 b1 h1 => ?_) e
  refine ⟨F1, ds, _, _, r1.fx, b1, h1.1, h1.2, fun w v F2 H2 x2 s2 f2 rr hw => ?_, fun c H2 s2 hx => (e.mono x1) c Γ1 F1 H2 fp1 .refl (r1.more s2) hx⟩
  have nf : ∀ a, H1 a ≠ none → F1 a = none → F2 a = none := fun a h e => by
    cases z : F2 a with
    | none => rfl
    | some u => exact absurd (x2.new a (by rw [z]; exact fun z => nomatch z) e) h
  have r2 : Rel B F2 Γ1 σ H2 fp1 := ⟨r1.bx.trans s2, f2, r1.len, fun i d e => by
    obtain ⟨v, g1, g2⟩ := r1.sh i d e
    exact ⟨v, g1, g2.mono x2.same⟩, fun i o e => by
    obtain ⟨v, g1, g2⟩ := r1.ow i o e
    refine ⟨v, g1, g2.mono x2.same fun a ha => ?_⟩
    cases z : H1 a with
    | none => exact absurd z (r1.nb i a ha).2.2
    | some u => exact s2 a u z, fun i a ha => by
    obtain ⟨b, c, d⟩ := r1.nb i a ha
    refine ⟨b, nf a d c, fun z => d (s2.free z)⟩, r1.dj, r1.ex⟩
  have xx : Ext B F1 F2 := ⟨x2.same, fun a h e => r1.bx.free (x2.new a h e)⟩
  refine k w Γ1 v F2 H2 fp1 (x1.trans xx) r2 ?_ hw
  cases rr with
  | sh h => exact .sh h
  | @ow o f h hf =>
    refine .ow h fun a ha => ⟨r1.bx.free (hf a ha).1, (hf a ha).2, fun i hi => ?_⟩
    exact (r1.nb i a hi).2.2 (hf a ha).1
structure CalX (P : Program) (w : World) (K : PySem.W.Frag) (mg : Str → Option Value) (base : Heap) (k : Nat) (x : Str) (sp : Sp) : Prop where
  ex : ∃ (f : Addr) (fd : FuncData) (ps : List Str), FnOk P w K mg base (L2.CX P w) k f fd ps sp ∧ mg x = some (.ref f) ∧ PySem.W.keepIn K (.ref f) = true ∧ Binds K fd ps []
section
variable {X : Cx} {W : WX} {pos p : Pos} {e : Expr} {es : List Expr} {ta : TA} {pa : QA} {n : Nat} {q : PDX} {x : Str} {j k : Nat}
theorem d_callX (c : CalX X.prog X.w X.K X.mg X.base k x (spX n q)) (hr : Room j X.A) (tk : Takes X W) (ha : DA X W (e :: es) ta pa) (hk : k ≤ j := by decide) (hg : Gl X x := by rfl) (hdb : (x == ("__debug__" : Str)) = false := by decide)
    (he : starEach (e :: es) X.env = (false, eval e X.env) :: starEach es X.env := by rfl) (hpl : (backTo pos (starEach es X.env)).any (·.1) = false := by rfl) :
    DE X W (.Call (.Name x p) (e :: es) [] pos) (tCallS (spX n q) (WE W) ta) (qCallX n q pa) := ⟨by
  obtain ⟨f, fd, ps, F, hm, kp, b⟩ := c.ex
  exact pe_callS F (hr.mono hk) hg hm kp b (fun σ => passAt tk σ) ha.pa hdb he hpl, se_callX ha.sa⟩
end
def endsX (R : Wv → Prop) (EX : Value → Prop) : PEnds := { endsOf R with ex := fun c _ => EX c }
section
variable {P : Program} {w : World} {K : PySem.W.Frag} {mg : Str → Option Value} {base : Heap}
theorem calx_mk {x : Str} {st : Stmt} {f : Addr} {fd : FuncData} {N ps : List Str} {k : Nat} {q : PDX} (F : L2.Fun K x x st f fd) (hm : mg x = some (.ref f)) (b : Binds K fd ps []) (S : L2.FnScope N ps (L2.defScope st))
    (hbody : ∀ (cdv : Value) (A : Around) (outer : List Env) (s : Shared) (H : Hp) (E : XK), Room k (A.deeper (envOfC x (L2.defScope st) s.heap.objs.size f cdv)) →
      ∃ t p', DSs (cxOf (L2.CX P w) P w K mg base N x (L2.defScope st) f cdv A outer s H E) (fun c d _ H => E c d H) (L2.defBody st) t p' ∧ ∀ ds R EX, ds.length = ps.length → q ds R EX → p' (endsX R EX) (startEv N.length ds)) :
    CalX P w K mg base (k + 1) x (spX ps.length q) := by
  have hN : ps.length ≤ N.length := by
    have := congrArg List.length S.pre
    rw [List.length_take] at this
    omega
  refine ⟨f, fd, ps, L2.Fun.okX F S (fun vs H Q E h => ?_) fun cdv A outer s H vs Q E hr h => ?_, hm, F.kp, b⟩
  · obtain ⟨F, ds, R, EX, _, b, hl, _⟩ := h
    rw [b.length, hl]
  · obtain ⟨t, p', hd, hq⟩ := hbody cdv A outer s H E hr
    obtain ⟨F0, ds, R, EX, f0, b, hl, h1, h2, h3⟩ := h
    refine ⟨t, hd.ps, hd.ss (endsX R EX) _ (rel_start f0 b (by omega)) (hq ds R EX hl h1) ⟨fun Γ' F' σ' H' fp' x r z => ?_, fun w Γ' v F' σ' H' fp' x r rw z => ?_, fun _ _ _ _ _ _ _ z => z.elim, fun _ _ _ _ _ _ _ z => z.elim, fun c Γ' F' σ' H' fp' x r z => h3 c H' r.bx z⟩⟩
    · exact h2 _ _ F' H' x r.bx r.fx (.sh .non) z
    · cases rw with
      | sh h => exact h2 _ _ F' H' x r.bx r.fx (.sh h) z
      | ow h hf => exact h2 _ _ F' H' x r.bx r.fx (.ow h fun a ha => ⟨(hf a ha).1, (hf a ha).2.1⟩) z
      | @«at» i h =>
        unfold endsX endsOf retW at z
        simp only at z
        split at z
        · rename_i d e
          obtain ⟨u, g1, g2⟩ := r.sh i d e
          rw [h] at g1
          cases g1
          exact h2 _ _ F' H' x r.bx r.fx (.sh g2) z
        · rename_i o e
          obtain ⟨u, g1, g2⟩ := r.ow i o e
          rw [h] at g1
          cases g1
          exact h2 _ _ F' H' x r.bx r.fx (.ow g2 fun a ha => ⟨(r.nb i a ha).1, (r.nb i a ha).2.1⟩) z
        · exact z.elim
end
/-! ### raise -/
def qRaise (c : Value) : QS := fun P Γ => P.ex c Γ
section
variable {X : Cx} {W : WX} {pos : Pos} {e : Expr}
theorem ds_raise {C : Addr} (hc : X.calm = true) (tk : Takes X W) (he : PMk X e (fun _ H Q => Q (.ref C) none H)) : DS X W (.Raise (some e) none pos) (fun _ σ H => W (.ref C) none σ H) (qRaise (.ref C)) :=
  ⟨ps_raise hc tk he, fun {B F Γ σ H fp} P D r q a => a.ex _ Γ F σ H fp .refl r q⟩
end
/-- what is known of an own error's class -/
structure ExcOk (K : PySem.W.Frag) (mg : Str → Option Value) (x : Str) (C : Addr) : Prop where
  mgC : mg x = some (.ref C)
  exI : PySem.W.excIn K C [.type "ValueError", .type "Exception", .type "BaseException", .type "object"] "ValueError.__new__" = true
  kp : PySem.W.keepIn K (.ref C) = true
  sub : PySem.W.subIn K (.ref C) (.type "BaseException") = some true
  ty : PySem.W.typeIn K (.ref C) = some (.type "type")
theorem pmk_of {X : Cx} {x m : Str} {C : Addr} {j : Nat} {p p2 pos : Pos} (c : ExcOk X.K X.mg x C) (hg : Gl X x := by rfl) (hdb : (x == ("__debug__" : Str)) = false := by decide) :
    PMk X (.Call (.Name x p) [.Constant (.str m) j p2] [] pos) (fun _ H Q => Q (.ref C) none H) :=
  pmk_own PySem.F.excBase_ValueError c.exI c.mgC c.kp (raises_own c.sub c.ty) hg hdb
end PL

namespace PL
open PySem PySem.Spec PyProof.Rows L2
section
variable {B F : Hp} {Γ : Ev} {σ : L2.St} {H : Hp} {fp : Nat → List Addr}
theorem set_get {α : Type} {l : List α} {i j : Nat} {x y : α} (h : (l.set i x)[j]? = some y) : (i = j ∧ y = x) ∨ (i ≠ j ∧ l[j]? = some y) := by
  by_cases hj : i = j
  · subst hj
    rw [List.getElem?_set] at h
    split at h
    · split at h
      · cases h
        exact .inl ⟨rfl, rfl⟩
      · cases h
    · rename_i hn
      exact absurd rfl hn
  · rw [List.getElem?_set_ne hj] at h
    exact .inr ⟨hj, h⟩
theorem Rel.setAny (r : Rel B F Γ σ H fp) (i : Nat) {s : Sl} {o : Option V} (hs : s = .un ∨ ∃ a, s = .ex a ∧ o = some (.ref a)) : Rel B F (Γ.set i s) (σ.set i o) H (dropF fp i) := by
  refine ⟨r.bx, r.fx, by rw [List.length_set, List.length_set]; exact r.len, fun j d q => ?_, fun j u q => ?_, fun j a ha => r.nb j a (mem_dropF ha).2, fun j k a ha hb => r.dj j k a (mem_dropF ha).2 (mem_dropF hb).2, fun j a q => ?_⟩
  · rcases set_get q with ⟨_, e⟩ | ⟨hj, q⟩
    · rcases hs with z | ⟨a, z, _⟩ <;> rw [z] at e <;> cases e
    · obtain ⟨v, g1, g2⟩ := r.sh j d q
      exact ⟨v, by rw [List.getElem?_set_ne hj]; exact g1, g2⟩
  · rcases set_get q with ⟨_, e⟩ | ⟨hj, q⟩
    · rcases hs with z | ⟨a, z, _⟩ <;> rw [z] at e <;> cases e
    · obtain ⟨v, g1, g2⟩ := r.ow j _ q
      refine ⟨v, by rw [List.getElem?_set_ne hj]; exact g1, ?_⟩
      rw [dropF_ne (Ne.symm hj)]
      exact g2
  · have hl : j < (Γ.set i s).length := (List.getElem?_eq_some_iff.mp q).1
    rcases set_get q with ⟨rfl, e⟩ | ⟨hj, q⟩
    · rcases hs with z | ⟨a', z, ho⟩
      · rw [z] at e
        cases e
      · rw [z] at e
        cases e
        rw [ho]
        exact List.getElem?_set_self (by rw [← r.len]; simpa using hl)
    · rw [List.getElem?_set_ne hj]
      exact r.ex j a q
end
/-! ### try .. except C as n, of one class that the body may raise -/
def oe0 (D : Addr) : Obj := { cls := .ref D, dict := none, data := .fields #[] }
def qTryAs (i : Nat) (D : Addr) (qb : QS) (qs : Addr → QS) : QS := fun P Γ => qb { P with ex := fun c Γ' => c = .ref D ∧ ∀ a, qs a { nx := fun Γ'' => P.nx (Γ''.set i .un), rt := P.rt, bk := fun Γ'' => P.bk (Γ''.set i .un), ct := fun Γ'' => P.ct (Γ''.set i .un), ex := noEX } (Γ'.set i (.ex a)) } Γ
def qTryOnly (D : Addr) (qb : QS) (qs : Addr → QS) : QS := fun P Γ => qb { P with ex := fun c Γ' => c = .ref D ∧ ∀ a, qs a { nx := P.nx, rt := P.rt, bk := P.bk, ct := P.ct, ex := noEX } Γ' } Γ
/-- a wish under which every exception of the body is taken -/
def xeAll (X : Cx) : Value → Shared → Prop := fun e s₁ => wpAny (model X.prog X.w) X.A (noteFrame e X.env) (fun _ s₂ => wpAny (model X.prog X.w) X.A (setFlight e none) (fun _ _ => True) (fun _ _ => True) s₂) (fun _ _ => True) s₁
theorem takesAll {X : Cx} {W' : WX} {pn : List (Addr × Obj)} (hs : X.stack = X.env :: X.outer) (hf : X.env.frame = some X.env.locals) : Takes (X.tr pn (xeAll X)) W' := fun u s' xx => by
  obtain ⟨a, B, sI, pins', σ', H', cls, d, rfl, J', nb, up, sky, na, os, ag, _⟩ := xx
  have hfr : X.A.frames = some (X.env :: X.outer) := by
    have := J'.ok.frames
    rw [← hs]
    exact this
  have sky' : Sky B (X.env :: X.outer) a (Zc cls d) X.env.locals s'.heap := by rw [← hs]; exact sky
  show wpAny (model X.prog X.w) X.A (noteFrame (.ref a) X.env) _ _ _
  exact Sky.land Zc.steady hfr hf sky' fun _ _ _ => trivial
theorem passAll {X : Cx} : PassesOwn (model X.prog X.w) X.A X.env (xeAll X) := PassesOwn.looking
def tsAt (D : Addr) (ts : Addr → TS) : Addr → Value → Option Addr → TS := fun a cls d D' σ H => cls = .ref D ∧ d = none ∧ ts a D' σ H
section
variable {X : Cx} {W : WX} {x n : Str} {cv : Value} {i : Nat} {D : Addr} {body suite : List Stmt} {b₀ : Stmt} {np pos pos' : Pos} {tb : WX → List (Addr × Obj) → (Value → Shared → Prop) → TS} {ts : Addr → Obj → List (Addr × Obj) → TS} {qb : QS} {qs : Addr → QS}
theorem ds_try_as (D : Addr) (hN : X.N.Nodup) (hc : Names X x cv) (hm : PySem.W.exmOne X.K (.ref D) cv = some true) (tk : Takes X W)
    (hb : ∀ (W' : WX) (pn : List (Addr × Obj)) (xe : Value → Shared → Prop), Takes (X.tr pn xe) W' → PassesOwn (model X.prog X.w) X.A X.env xe → DSs (X.tr pn xe) W' body (tb W' pn xe) qb)
    (hsu : ∀ (a : Addr) (oe : Obj) (pn : List (Addr × Obj)), Zc (.ref D) none oe → (∃ vs, oe.data = .fields vs) → DSs (X.suite a ((a, oe) :: pn)) W0 (b₀ :: suite) (ts a oe pn) (qs a))
    (h1 : ∀ W' pn xe, tb W' pn xe = tb W' [] (fun _ _ => False) := by intros; rfl) (h2 : ∀ a oe pn, ts a oe pn = ts a (oe0 D) [] := by intros; rfl)
    (hs : X.stack = X.env :: X.outer := by rfl) (hf : X.env.frame = some X.env.locals := by rfl) (hi : X.N[i]? = some n := by rfl) (hln : X.env.kindOf n = some .local := by rfl) :
    DS X W (.Try body [.ExceptHandler (some (.Name x np)) (some n) (b₀ :: suite) pos'] [] [] pos) (fun D' σ H => tb (wAs X.K cv i (tsAt D fun a => ts a (oe0 D) []) W D') [] (fun _ _ => False) D' σ H) (qTryAs i D qb qs) := by
  refine ⟨ps_try_as (tb := fun W' => tb W' [] (fun _ _ => False)) (ts := tsAt D fun a => ts a (oe0 D) []) (Wout := W) hs hf hN hi hln hc tk (fun W' pn xe tk' pp => h1 W' pn xe ▸ (hb W' pn xe tk' pp).ps) fun a oe cls d pn hz hfl => ?_, fun {B F Γ σ H fp} P D' r q a => ?_⟩
  · by_cases h : cls = .ref D ∧ d = none
    · obtain ⟨rfl, rfl⟩ := h
      have p := (hsu a oe pn hz hfl).ps
      rw [h2 a oe pn] at p
      exact ⟨fun pins s σ H D' I h => p.run pins s σ H D' I h.2.2⟩
    · exact ⟨fun pins s σ H D' I hh => absurd ⟨hh.1, hh.2.1⟩ h⟩
  · rw [← h1 _ [] (xeAll X)]
    refine (hb (wAs X.K cv i (tsAt D fun a => ts a (oe0 D) []) W D') [] (xeAll X) (takesAll hs hf) passAll).ss _ _ r q ⟨a.nx, a.rt, a.bk, a.ct, fun c Γ' F' σ' H' fp' x1 r1 h => ?_⟩
    obtain ⟨rfl, h⟩ := h
    refine ⟨true, hm, fun _ b nb => ⟨rfl, rfl, ?_⟩, fun z => nomatch z⟩
    have r2 := r1.setAny i (s := .ex b) (o := some (.ref b)) (.inr ⟨b, rfl, rfl⟩)
    have am := a.mono x1
    exact (hsu b (oe0 D) [] ⟨rfl, rfl⟩ ⟨_, rfl⟩).ss _ _ r2 (h b) ⟨fun Γ2 F2 σ2 H2 fp2 x2 r2 q2 => am.nx _ F2 _ H2 _ x2 (r2.setAny i (.inl rfl)) q2, am.rt, fun Γ2 F2 σ2 H2 fp2 x2 r2 q2 => am.bk _ F2 _ H2 _ x2 (r2.setAny i (.inl rfl)) q2,
      fun Γ2 F2 σ2 H2 fp2 x2 r2 q2 => am.ct _ F2 _ H2 _ x2 (r2.setAny i (.inl rfl)) q2, fun _ _ _ _ _ _ _ _ z => z.elim⟩
theorem ds_try_only (D : Addr) (hc : Names X x cv) (hm : PySem.W.exmOne X.K (.ref D) cv = some true) (tk : Takes X W)
    (hb : ∀ (W' : WX) (pn : List (Addr × Obj)) (xe : Value → Shared → Prop), Takes (X.tr pn xe) W' → PassesOwn (model X.prog X.w) X.A X.env xe → DSs (X.tr pn xe) W' body (tb W' pn xe) qb)
    (hsu : ∀ (a : Addr) (oe : Obj) (pn : List (Addr × Obj)), Zc (.ref D) none oe → (∃ vs, oe.data = .fields vs) → DSs (X.suite a ((a, oe) :: pn)) W0 (b₀ :: suite) (ts a oe pn) (qs a))
    (h1 : ∀ W' pn xe, tb W' pn xe = tb W' [] (fun _ _ => False) := by intros; rfl) (h2 : ∀ a oe pn, ts a oe pn = ts a (oe0 D) [] := by intros; rfl)
    (hs : X.stack = X.env :: X.outer := by rfl) (hf : X.env.frame = some X.env.locals := by rfl) :
    DS X W (.Try body [.ExceptHandler (some (.Name x np)) none (b₀ :: suite) pos'] [] [] pos) (fun D' σ H => tb (wOnly X.K cv (tsAt D fun a => ts a (oe0 D) []) W D') [] (fun _ _ => False) D' σ H) (qTryOnly D qb qs) := by
  refine ⟨ps_try_only (tb := fun W' => tb W' [] (fun _ _ => False)) (ts := tsAt D fun a => ts a (oe0 D) []) (Wout := W) hs hf hc tk (fun W' pn xe tk' pp => h1 W' pn xe ▸ (hb W' pn xe tk' pp).ps) fun a oe cls d pn hz hfl => ?_, fun {B F Γ σ H fp} P D' r q a => ?_⟩
  · by_cases h : cls = .ref D ∧ d = none
    · obtain ⟨rfl, rfl⟩ := h
      have p := (hsu a oe pn hz hfl).ps
      rw [h2 a oe pn] at p
      exact ⟨fun pins s σ H D' I h => p.run pins s σ H D' I h.2.2⟩
    · exact ⟨fun pins s σ H D' I hh => absurd ⟨hh.1, hh.2.1⟩ h⟩
  · rw [← h1 _ [] (xeAll X)]
    refine (hb (wOnly X.K cv (tsAt D fun a => ts a (oe0 D) []) W D') [] (xeAll X) (takesAll hs hf) passAll).ss _ _ r q ⟨a.nx, a.rt, a.bk, a.ct, fun c Γ' F' σ' H' fp' x1 r1 h => ?_⟩
    obtain ⟨rfl, h⟩ := h
    refine ⟨true, hm, fun _ b nb => ⟨rfl, rfl, ?_⟩, fun z => nomatch z⟩
    have am := a.mono x1
    exact (hsu b (oe0 D) [] ⟨rfl, rfl⟩ ⟨_, rfl⟩).ss _ _ r1 (h b) ⟨am.nx, am.rt, am.bk, am.ct, fun _ _ _ _ _ _ _ _ z => z.elim⟩
end
/-! ### isinstance(e, C) of the exception that the suite holds -/
def qIsE (i : Nat) (a : Addr) (b : Bool) : QE := fun Γ R _ => Γ[i]? = some (.ex a) ∧ R (.sh (.bool b)) Γ
section
variable {X : Cx} {a D C : Addr} {oe : Obj} {pn : List (Addr × Obj)} {pos p p1 p2 : Pos} {n x2 : Str} {b : Bool}
theorem d_isE (i : Nat) (c : ExcC X.K D) (hz : Zc (.ref D) none oe) (hf : ∃ vs, oe.data = .fields vs) (hm : X.mg "isinstance" = none) (hC : X.mg x2 = some (.ref C)) (hk : PySem.W.kitOne X.K (.ref D) (.ref C) = some b)
    (hg : Gl (X.suite a ((a, oe) :: pn)) "isinstance" := by rfl) (hg2 : Gl (X.suite a ((a, oe) :: pn)) x2 := by rfl) (hd2 : (x2 == ("__debug__" : Str)) = false := by decide)
    (hN : X.N[i]? = some n := by rfl) (hv : Vis X.env.scope n := by first | exact Or.inl rfl | exact Or.inr (Or.inl rfl) | exact Or.inr (Or.inr rfl)) (hd : (n == ("__debug__" : Str)) = false := by decide) (hcd : (n == ("__classdict__" : Str)) = false := by decide)
    (he : starEach [.Name n p1, .Name x2 p2] (X.suite a ((a, oe) :: pn)).env = (false, eval (.Name n p1) (X.suite a ((a, oe) :: pn)).env) :: starEach [.Name x2 p2] (X.suite a ((a, oe) :: pn)).env := by rfl)
    (hpl : (backTo pos (starEach [.Name x2 p2] (X.suite a ((a, oe) :: pn)).env)).any (·.1) = false := by rfl)
    (he2 : starEach [.Name x2 p2] (X.suite a ((a, oe) :: pn)).env = (false, eval (.Name x2 p2) (X.suite a ((a, oe) :: pn)).env) :: starEach [] (X.suite a ((a, oe) :: pn)).env := by rfl) :
    DE (X.suite a ((a, oe) :: pn)) W0 (.Call (.Name "isinstance" p) [.Name n p1, .Name x2 p2] [] pos) (tCB (rIsE X.K D a) (tCons (tVar i) (tCons (tC (.ref C)) tNil))) (qIsE i a b) :=
  ⟨pe_callB (call_isE c hz hf) hg hm (by decide +kernel) (pa_cons (pe_var hN hv hd hcd) (pa_cons (pe_glob hg2 hC rfl hd2) pa_nil he2) he) (by decide) (by decide) he hpl, fun {B F Γ σ H fp} R EX Q r q k e => by
  obtain ⟨q1, q2⟩ := q
  exact ⟨.ref a, r.ex i a q1, .ref C, .ref C, b, rfl, fun u hu => hu, hk, k _ Γ _ F H fp .refl r (.sh (.bl b)) q2⟩⟩
end
end PL

namespace PL
open PySem PySem.Spec PyProof.Rows L2
/-! ### defs that are called with no repr under way (they show values) -/
structure FnG (P : Program) (w : World) (K : PySem.W.Frag) (mg : Str → Option Value) (base : Heap) (CX : CXT) (k : Nat) (f : Addr) (fd : FuncData) (ps : List Str) (sp : Sp) : Prop where
  len : ∀ vs H Q E, sp vs H Q E → vs.length = ps.length
  run : ∀ (A : Around) (outer : List Env) (s : Shared) (H : Hp) (args : Args) (us : List Value) (vs : List V) (Q : VK) (E : XK), Room k A → A.guards = some [] → Env0 P w K mg base A outer s H → BindsTo s fd args (ps.zip us) → Vals vs us → sp vs H Q E →
    codeAny (model P w) A (.call (.ref f) args) (CR CX outer P w H s Q E) s
section
variable {P : Program} {w : World} {K : PySem.W.Frag} {mg : Str → Option Value} {base : Heap}
theorem fng_of {CX : CXT} {k : Nat} {f : Addr} {name qual : Str} {params : Arguments} {body : List Stmt} {scope : Scope} {dV kV doc pm cdv ct oc : Value} {an od : Option Addr}
    {osl : Array (Option Value)} {N ps : List Str} {sp : Sp} (lk : K.lookup f = some ⟨oc, od, .func (PySem.W.fnOf name qual params body scope dV kV doc pm an cdv ct), osl⟩) (hcd : PySem.W.codeIn K cdv qual = true) (S : FnScope N ps scope)
    (len : ∀ vs H Q E, sp vs H Q E → vs.length = ps.length)
    (hbody : ∀ (A : Around) (outer : List Env) (s : Shared) (H : Hp) (vs : List V) (Q : VK) (E : XK), Room k (A.deeper (envOfC qual scope s.heap.objs.size f cdv)) → (A.deeper (envOfC qual scope s.heap.objs.size f cdv)).guards = some [] → sp vs H Q E →
      ∃ t, PSs (cxOf CX P w K mg base N qual scope f cdv A outer s H E) body t ∧ t { nx := fun _ H' => Q .non H', rt := Q } (start N vs) H) :
    FnG P w K mg base CX (k + 1) f (PySem.W.fnOf name qual params body scope dV kV doc pm an cdv ct) ps sp := by
  refine ⟨len, fun A outer s H args us vs Q E hr hgu e0 hb r hsp => ?_⟩
  have hl := len _ _ _ _ hsp
  have KX : K.In s.heap := e0.mod.kin.keeps fun b o e => (e0.bs b o e).1
  have lim : s.heap.NoLimit := e0.mod.nolimit.keeps fun b o e => (e0.bs b o e).1
  have hkind : ∀ y ∈ ps.zip us, scope.names.lookup y.1 = some .local ∨ (scope.names.lookup y.1 = some .cell ∧ ((cellsFrom (s.heap.objs.size + 1) scope.names []).lookup y.1).isSome = true) := fun ⟨n, v⟩ hy => by
    rcases S.par n (List.of_mem_zip hy).1 with q | q
    · exact .inl q
    · exact .inr ⟨q, PySem.W.cellsFrom_some _ _ _ (.inl q)⟩
  refine codeAny_call_function hr.depth (KX _ _ lk) rfl S.co S.gen rfl (PySem.W.codeRec_of KX hcd) (hb _ _ _ _ ?_)
  refine wpAny_newFunctionEnv_cells S.kind hkind fun env he s1 x => ?_
  subst he
  refine ⟨lim.keeps x.toInCall.keep, codeAny_func ?_⟩
  obtain ⟨t, ht, hq⟩ := hbody A outer s H vs Q E (hr.deeper _) hgu hsp
  have I : Inv (cxOf CX P w K mg base N qual scope f cdv A outer s H E) [] (start N vs) H s1 := inv_start S hr.hd e0 hl r x
  refine wpAny_mono (ht.run [] s1 (start N vs) H _ I hq) (fun fl s' hs => ?_) fun e s' hs => hs
  have fin : ∀ {σ' : L2.St} {H' : Hp} {v : V} {u : Value}, Inv (cxOf CX P w K mg base N qual scope f cdv A outer s H E) [] σ' H' s' → RelV v u → Q v H' → CE outer P w H s Q u s' :=
    fun {σ' H' v u} J rv q => ⟨v, H', J.os, J.bare, J.base, J.hok, rv, q⟩
  cases fl with
  | ret u =>
    obtain ⟨v, σ', H', J, rv, q⟩ := hs
    exact fin J rv q
  | next =>
    obtain ⟨σ', H', J, q⟩ := hs
    exact fin (v := V.non) (u := Value.none) J rfl q
  | brk =>
    obtain ⟨_, _, _, q⟩ := hs
    exact False.elim q
  | cont =>
    obtain ⟨_, _, _, q⟩ := hs
    exact False.elim q
/-- a def that may be called by its name where no repr is under way -/
structure CalG (P : Program) (w : World) (K : PySem.W.Frag) (mg : Str → Option Value) (base : Heap) (k : Nat) (x : Str) (sp : Sp) : Prop where
  ex : ∃ (f : Addr) (fd : FuncData) (ps : List Str), FnG P w K mg base CX0 k f fd ps sp ∧ mg x = some (.ref f) ∧ PySem.W.keepIn K (.ref f) = true ∧ Binds K fd ps []
theorem FnG.mono {CX : CXT} {j k : Nat} {f : Addr} {fd : FuncData} {ps : List Str} {sp : Sp} (F : FnG P w K mg base CX j f fd ps sp) (h : j ≤ k) : FnG P w K mg base CX k f fd ps sp :=
  ⟨F.len, fun A outer s H args us vs Q E hr => F.run A outer s H args us vs Q E (hr.mono h)⟩
end
section
variable {X : Cx} {W : WX} {pos p : Pos} {e : Expr} {es : List Expr} {ta : TA} {pa : QA} {n : Nat} {q : PD} {x : Str} {j k : Nat}
theorem run_g {pins : List (Addr × Obj)} {σ : L2.St} {H : Hp} {s : Shared} {Q : VK} {us : List Value} {vs : List V} {f : Addr} {fd : FuncData} {ps : List Str} {sp : Sp} (F : FnG X.prog X.w X.K X.mg X.base CX0 k f fd ps sp) (hr : Room k X.A) (hgu : X.A.guards = some []) (hb : Binds X.K fd ps [])
    (I : L2.Inv X pins σ H s) (r : Vals vs us) (h : sp vs H Q E0) : wpAny (model X.prog X.w) X.A (call (.ref f) us) (EP X pins σ Q) X.xe s := by
  have hl : (us ++ []).length = ps.length := by rw [List.append_nil, ← r.length]; exact F.len _ _ _ _ h
  have b := hb s us I.kIn hl
  rw [List.append_nil] at b
  refine wpAny_call (codeAny_mono (F.run X.A X.stack s H ⟨us, []⟩ us vs Q E0 hr hgu I.env0 b r h) fun r s' hq => ?_)
  cases r with
  | error e => exact (pass0 pins σ H s e s' I hq)
  | ok fl =>
    cases fl with
    | ret u => exact I.after hq
    | next => exact False.elim hq
    | brk => exact False.elim hq
    | cont => exact False.elim hq
theorem d_callG (c : CalG X.prog X.w X.K X.mg X.base k x (spD n q)) (hr : Room j X.A) (hgu : X.A.guards = some []) (ha : DA X W (e :: es) ta pa) (hk : k ≤ j := by decide) (hg : Gl X x := by rfl) (hdb : (x == ("__debug__" : Str)) = false := by decide)
    (he : starEach (e :: es) X.env = (false, eval e X.env) :: starEach es X.env := by rfl) (hpl : (backTo pos (starEach es X.env)).any (·.1) = false := by rfl) :
    DE X W (.Call (.Name x p) (e :: es) [] pos) (tCall (spD n q) [] E0 ta) (qCall n q pa) := ⟨by
  obtain ⟨f, fd, ps, F, hm, kp, b⟩ := c.ex
  refine ⟨fun pins s σ H Q I h => ?_⟩
  refine wpAny_Call_Name_kw (ld_glob I hg hm ?_ hdb)
  refine PySem.W.callWith_K (h₀ := X.base) I.ok.mod.kin kp (thn (ha.pa.run pos pins s σ H _ I h) fun us s1 ⟨vs, H1, I1, r, q⟩ => ⟨I1.kIn, ?_⟩) he hpl
  have q' : spD n _ (vs ++ []) H1 Q E0 := q
  rw [List.append_nil] at q'
  exact run_g (F.mono hk) hr hgu b I1 r q', se_call ha.sa⟩
end

section
variable {P : Program} {w : World} {K : PySem.W.Frag} {mg : Str → Option Value} {base : Heap}
theorem fng_mk {x : Str} {st : Stmt} {f : Addr} {fd : FuncData} {N ps : List Str} {k : Nat} {q : PD} (F : L2.Fun K x x st f fd) (S : L2.FnScope N ps (L2.defScope st))
    (hbody : ∀ (cdv : Value) (A : Around) (outer : List Env) (s : Shared) (H : Hp) (E : XK), Room k (A.deeper (envOfC x (L2.defScope st) s.heap.objs.size f cdv)) → (A.deeper (envOfC x (L2.defScope st) s.heap.objs.size f cdv)).guards = some [] →
      ∃ t p', DSs (cxOf CX0 P w K mg base N x (L2.defScope st) f cdv A outer s H E).nox W0 (L2.defBody st) t p' ∧ ∀ ds R, ds.length = ps.length → q ds R → p' (endsOf R) (startEv N.length ds)) :
    FnG P w K mg base CX0 (k + 1) f fd ps (spD ps.length q) := by
  have hN : ps.length ≤ N.length := by
    have := congrArg List.length S.pre
    rw [List.length_take] at this
    omega
  obtain ⟨oc, od, kV, doc, pm, an, cdv, ct, osl, rfl, lk, hcd⟩ := F.ex
  refine fng_of lk hcd S (fun vs H Q E h => ?_) fun A outer s H vs Q E hr hgu h => ?_
  · obtain ⟨F, ds, R, _, b, hl, _⟩ := h
    rw [b.length, hl]
  · obtain ⟨t, p', hd, hq⟩ := hbody cdv A outer s H E hr hgu
    obtain ⟨F0, ds, R, f0, b, hl, h1, h2⟩ := h
    refine ⟨t, hd.ps.nox, hd.ss (endsOf R) _ (rel_start f0 b (by omega)) (hq ds R hl h1) ⟨fun Γ' F' σ' H' fp' x r z => ?_, fun w Γ' v F' σ' H' fp' x r rw z => ?_, fun _ _ _ _ _ _ _ z => z.elim, fun _ _ _ _ _ _ _ z => z.elim, fun _ _ _ _ _ _ _ _ z => z.elim⟩⟩
    · exact h2 _ _ F' H' x r.bx r.fx (.sh .non) z
    · cases rw with
      | sh h => exact h2 _ _ F' H' x r.bx r.fx (.sh h) z
      | ow h hf => exact h2 _ _ F' H' x r.bx r.fx (.ow h fun a ha => ⟨(hf a ha).1, (hf a ha).2.1⟩) z
      | @«at» i h =>
        unfold endsOf retW at z
        simp only at z
        split at z
        · rename_i d e
          obtain ⟨u, g1, g2⟩ := r.sh i d e
          rw [h] at g1
          cases g1
          exact h2 _ _ F' H' x r.bx r.fx (.sh g2) z
        · rename_i o e
          obtain ⟨u, g1, g2⟩ := r.ow i o e
          rw [h] at g1
          cases g1
          exact h2 _ _ F' H' x r.bx r.fx (.ow g2 fun a ha => ⟨(r.nb i a ha).1, (r.nb i a ha).2.1⟩) z
        · exact z.elim
theorem calg_mk {x : Str} {st : Stmt} {f : Addr} {fd : FuncData} {N ps : List Str} {k : Nat} {q : PD} (F : L2.Fun K x x st f fd) (hm : mg x = some (.ref f)) (b : Binds K fd ps []) (S : L2.FnScope N ps (L2.defScope st))
    (hbody : ∀ (cdv : Value) (A : Around) (outer : List Env) (s : Shared) (H : Hp) (E : XK), Room k (A.deeper (envOfC x (L2.defScope st) s.heap.objs.size f cdv)) → (A.deeper (envOfC x (L2.defScope st) s.heap.objs.size f cdv)).guards = some [] →
      ∃ t p', DSs (cxOf CX0 P w K mg base N x (L2.defScope st) f cdv A outer s H E).nox W0 (L2.defBody st) t p' ∧ ∀ ds R, ds.length = ps.length → q ds R → p' (endsOf R) (startEv N.length ds)) :
    CalG P w K mg base (k + 1) x (spD ps.length q) := ⟨f, fd, ps, fng_mk F S hbody, hm, F.kp, b⟩
end
/-! ### repr of nested data -/
/-- what the pure side is asked: the shown text fits -/
def shOk (d : D) : Prop := d.showable = true ∧ flat 60 d = true ∧ d.shown.length + 64 ≤ sizeLine ∧ PyData.strOk d.shown = true
def opRepr : OP1 := fun d k => shOk d ∧ k (.sh (.str d.shown))
def rReprD (K : PySem.W.Frag) : List V → Hp → VK → Prop := fun xs H Q => ∃ (a : Addr) (d : D), xs = [.ref a] ∧ Dp K H (.ref a) d ∧ d.showable = true ∧ d.hasDict = false ∧ d.depth ≤ 60 ∧ d.shown.length + 64 ≤ sizeLine ∧ Q (.str d.shown) H
section
variable {X : Cx} {W : WX} {pos p : Pos} {a : Expr} {ta : TE} {pa : QE} {j : Nat}
theorem cr_repr (hr : Room j X.A) (hgu : X.A.guards = some []) : CallR X (.builtin "repr") (rReprD X.K) := by
  intro pins s σ H xs us Q I r h
  obtain ⟨a, d, rfl, dp, h1, h2, h3, h4, q⟩ := h
  obtain ⟨u, rfl, ru⟩ := vals1 r
  obtain ⟨as, rd⟩ := Dp.reads I d _ u dp ru
  cases ru
  have hu := hr.un
  exact repr_of_reads' rd h1 (fun z => by rw [h2] at z; cases z) hgu (by omega) (fun _ _ e => e) (fun h' u tk hk => ⟨.str _, H, I.kept (t' := tk) hk, ⟨_, rfl⟩, q⟩) (by omega)
end
end PL

namespace PL
open PySem PySem.Spec PyProof.Rows L2
/-! ### the law's end for a def that shows values -/
/-- the tracked heap of the head: the script alone, if it is no object of the module -/
noncomputable def headH (K : PySem.W.Frag) (a : Addr) (vs : List Value) (ns : List Int) : Hp := fun b =>
  if b = a ∧ K.lookup a = none then some (.frz { cls := .type "list", data := .seq vs.toArray } (.lst (ns.map V.int))) else none
section
variable {P : Program} {w : World} {K : PySem.W.Frag} {mg mb : Str → Option Value} {k : Nat} {fa a : Addr} {fd : FuncData} {x : Str} {sp : Sp} {s₁ : Shared} {vs : List Value} {ns : List Int}
theorem headH_some {b : Addr} {u : HO} (h : headH K a vs ns b = some u) : b = a ∧ K.lookup a = none ∧ u = .frz { cls := .type "list", data := .seq vs.toArray } (.lst (ns.map V.int)) := by
  unfold headH at h
  split at h
  · rename_i q
    cases h
    exact ⟨q.1, q.2, rfl⟩
  · cases h
theorem headH_only : Only (headH K a vs ns) := fun b => by
  cases q : headH K a vs ns b with
  | none => exact .inl rfl
  | some u => exact .inr ⟨_, _, congrArg some (headH_some q).2.2⟩
theorem law_runG (KX : K.In s₁.heap) (hns : s₁.heap.Ns mainGlobals mg) (hb : s₁.heap.Ns builtinsNs mb) (hbb : ∀ x : Str, x ≠ "__name__" → mb x = bootBuiltins x) (hlim : s₁.heap.NoLimit) (hg : s₁.gens = #[])
    (ha : s₁.heap.get? a = some { cls := .type "list", data := .seq vs.toArray }) (hi : IntsAre vs ns) (hl : ns.length ≤ sizeLine) (hr : Room k callerA)
    (F : ∀ base : Heap, K.In base → base.Ns mainGlobals mg → FnG P w K mg base CX0 k fa fd [x] sp) (hbind : ∀ (s : Shared) (u : Value), BindsTo s fd ⟨[u], []⟩ [(x, u)])
    (hsp : ∀ H : Hp, Only H → SqL K H a (ns.map V.int) → sp [.ref a] H (fun v _ => v = .bl true) E0) :
    codeAny (model P w) callerA (.call (.ref fa) ⟨[.ref a], []⟩) (fun r s' => r = .ok (.ret (.bool true)) ∧ OldK s₁.heap s'.heap ∧ s'.os = s₁.os ∧ AllBare s'.gens) s₁ := by
  have rv := vals_ints hi
  have eL := hi.length
  have stay : ∀ {b : Addr} {o : Obj}, s₁.heap.get? b = some o → (b = a → K.lookup a ≠ none) → (hidT s₁.heap (headH K a vs ns)).get? b = some o := fun {b o} e n => hidT_get e (by
    cases q : headH K a vs ns b with
    | none => rfl
    | some u => exact absurd (headH_some q).2.1 (n (headH_some q).1))
  have nsS : ∀ {b : Addr} {m : Str → Option Value}, s₁.heap.Ns b m → (hidT s₁.heap (headH K a vs ns)).Ns b m := fun {b m} ⟨o, es, ep, e, d, r⟩ => ⟨o, es, ep, stay e (fun z => by
    rw [z, ha] at e
    cases e
    cases (show Data.seq vs.toArray _ = Data.dict es ep from d)), d, r⟩
  have kb : K.In (hidT s₁.heap (headH K a vs ns)) := fun b o e => stay (KX b o e) fun z n => by
    rw [z, n] at e
    cases e
  have hok : HOk P w (headH K a vs ns) s₁.heap := fun b u z => by
    obtain ⟨rfl, _, rfl⟩ := headH_some z
    exact ⟨ha, by rw [List.length_map]; exact hl, vs, _, rv, ha⟩
  have sq : SqL K (headH K a vs ns) a (ns.map V.int) := by
    cases q : K.lookup a with
    | none => exact .inl (.inr ⟨_, if_pos ⟨rfl, q⟩⟩)
    | some o =>
      have e := KX a o q
      rw [ha] at e
      cases e
      exact .inr ⟨_, vs.toArray, _, q, rfl, rfl, rfl, by rw [List.size_toArray, eL]; exact hl, by simpa using rv⟩
  have e0 : Env0 P w K mg (hidT s₁.heap (headH K a vs ns)) callerA [] s₁ (headH K a vs ns) :=
    ⟨rfl, ⟨kb, nsS hns, ⟨mb, nsS hb, hbb⟩, hlim.elim fun mc h => ⟨mc, nsS h.1, h.2⟩⟩, fun _ _ e => of_hidT e, Nat.le_of_eq (hidT_size _ _), trivial, fun b hb => (List.not_mem_nil hb).elim, hok, .of_eq hg⟩
  refine codeAny_mono ((F _ kb (nsS hns)).run callerA [] s₁ _ ⟨[.ref a], []⟩ [.ref a] [.ref a] _ _ hr rfl e0 (hbind s₁ (.ref a)) (.cons rfl .nil) (hsp _ headH_only sq)) fun r s' h => ?_
  match r, h with
  | .error e, h => exact False.elim h
  | .ok .next, h => exact False.elim h
  | .ok .brk, h => exact False.elim h
  | .ok .cont, h => exact False.elim h
  | .ok (.ret u), h =>
    obtain ⟨v, H', os, bare, un, hok', r', q⟩ := h
    obtain rfl : v = .bl true := q
    obtain rfl : u = Value.bool true := r'
    refine ⟨rfl, OldK.of_keep fun b o e => ?_, os, bare⟩
    cases q : headH K a vs ns b with
    | none => exact un.keep b o e q (fun z => (List.not_mem_nil z).elim) (by simp)
    | some u =>
      obtain ⟨rfl, _, rfl⟩ := headH_some q
      obtain ⟨e2, _⟩ := hok' _ _ (un.frzs _ _ _ q)
      rw [ha] at e
      cases e
      exact e2
end
theorem walk_ofG {l : PySem.W.OpenLaw} {n k : Nat} {q : Program} {loose : List Str} {XP : (Str → Option Value) → Heap → Prop} {YP : World → Heap → Prop} {d : DefRec} {K : Params → PySem.W.Frag} {sp : World → Sp} {x : Str}
    (hn : l.most = some n) (hn2 : n ≤ sizeLine) (hdf : d.params.defaults = []) (hr : Room k callerA)
    (hY : ∀ (w : World) (h : Heap), YP w h → (K w.params).In h)
    (F : ∀ (w : World) (mg : Str → Option Value) (fa : Addr) (h : Heap), (K w.params).In h → h.Ns mainGlobals mg → mg d.name = some (.ref fa) →
      ∃ fd : FuncData, (∀ (s : Shared) (u : Value), BindsTo s fd ⟨[u], []⟩ [(x, u)]) ∧
        ∀ base : Heap, (K w.params).In base → base.Ns mainGlobals mg → FnG l.prog w (K w.params) mg base CX0 k fa fd [x] (sp w))
    (hsp : ∀ (w : World) (H : Hp) (a : Addr) (ns : List Int), ns.length ≤ n → Only H → SqL (K w.params) H a (ns.map V.int) → sp w [.ref a] H (fun v _ => v = .bl true) E0) :
    PySem.W.WalkO q loose XP YP l.row.toRowW d [] (fun f vs => PySem.call f vs) :=
  Att.attach_call hn hdf fun w s₀ s₁ mg mb fa o pm cd doc a vs ns G Y ho hd hcd hmg hobj hints hlen hg =>
    have KX := hY w _ Y
    (F w mg fa _ KX G.T.g hmg).elim fun fd h => law_runG KX G.T.g G.T.b G.T.builtins G.T.nolimit hg hobj hints (Nat.le_trans hlen hn2) hr h.2 h.1 fun H hO hS => hsp w H a ns hlen hO hS
end PL

namespace PL
open PySem PySem.Spec PyProof.Rows L2
theorem strOk_lit (s : String) : PyData.strOk (s : Str) = true := strOk_iff.mpr fun c hc => by
  have hc' : c ∈ (Str.ofString s).cps.toList := hc
  rw [Str.ofString_eq_toList] at hc'
  simp only [List.mem_map] at hc'
  obtain ⟨x, _, rfl⟩ := hc'
  have := x.valid
  rcases this with h | ⟨_, h⟩
  · exact Nat.lt_trans h (by decide)
  · exact h
theorem reprChar_ok {q c : Nat} (hc : c < 0x110000) : ∀ x ∈ PySem.Builtin.Str.reprChar q c, x < 0x110000 := by
  intro x hx
  have dig : ∀ (w : Nat), ∀ y ∈ (let d := (Nat.toDigits 16 c).map Char.toNat; List.replicate (w - d.length) 48 ++ d), y < 0x110000 := fun w y hy => by
    rcases List.mem_append.mp hy with h | h
    · rw [(List.mem_replicate.mp h).2]; decide
    · obtain ⟨z, _, rfl⟩ := List.mem_map.mp h
      rcases z.valid with h | ⟨_, h⟩
      · exact Nat.lt_trans h (by decide)
      · exact h
  unfold PySem.Builtin.Str.reprChar at hx
  simp only at hx
  split at hx
  · simp at hx; omega
  split at hx
  · simp at hx; omega
  split at hx
  · simp at hx; omega
  split at hx
  · simp at hx; omega
  split at hx
  · simp at hx; omega
  split at hx
  · rcases List.mem_append.mp hx with h | h
    · simp at h; omega
    · exact dig _ _ h
  split at hx
  · rcases List.mem_append.mp hx with h | h
    · simp at h; omega
    · exact dig _ _ h
  · rcases List.mem_append.mp hx with h | h
    · simp at h; omega
    · exact dig _ _ h
theorem foldl_ok {q : Nat} : ∀ (l : List Nat) (acc : Array Nat), (∀ c ∈ l, c < 0x110000) → (∀ c ∈ acc.toList, c < 0x110000) → ∀ c ∈ (l.foldl (fun out c => out ++ (PySem.Builtin.Str.reprChar q c).toArray) acc).toList, c < 0x110000
  | [], acc, _, h => h
  | x :: r, acc, h1, h2 => foldl_ok r _ (fun c hc => h1 c (List.mem_cons_of_mem _ hc)) fun c hc => by
    rw [Array.toList_append] at hc
    rcases List.mem_append.mp hc with h | h
    · exact h2 c h
    · exact reprChar_ok (h1 x (List.mem_cons_self ..)) c h
theorem reprQuote_ok (x : Str) : reprQuote x < 0x110000 := by
  unfold reprQuote
  split <;> decide
theorem strOk_reprText {x : Str} (h : PyData.strOk x = true) : PyData.strOk (reprText x) = true := strOk_iff.mpr fun c hc => by
  unfold reprText at hc
  rw [Array.toList_push, ← Array.foldl_toList] at hc
  rcases List.mem_append.mp hc with h1 | h1
  · exact foldl_ok _ _ (strOk_iff.mp h) (fun c hc => by
      have : c = reprQuote x := by simpa using hc
      rw [this]; exact reprQuote_ok x) c h1
  · have : c = reprQuote x := by simpa using h1
    rw [this]; exact reprQuote_ok x
theorem strOk_textFrom : ∀ (ts : List Str) (k : Nat) (acc : Str), PyData.strOk acc = true → (∀ t ∈ ts, PyData.strOk t = true) → PyData.strOk (textFrom k acc ts) = true
  | [], k, acc, h, _ => h
  | t :: ts, k, acc, h, h2 => by
    unfold textFrom
    exact strOk_textFrom ts _ _ (strOk_app (strOk_app h (strOk_lit _)) (h2 t (List.mem_cons_self ..))) fun u hu => h2 u (List.mem_cons_of_mem _ hu)
mutual
theorem shown_ok : ∀ d : D, d.canLay0 = true → PyData.strOk d.shown = true
  | .none, _ => by simp only [PyData.shown]; exact strOk_lit _
  | .bool b, _ => by simp only [PyData.shown]; cases b <;> exact strOk_lit _
  | .int i, _ => by simp only [PyData.shown]; exact strOk_lit _
  | .str x, h => by simp only [PyData.shown]; exact strOk_reprText (by simpa [PyData.canLay0] using h)
  | .list xs, h => by
    have := shownAll_ok xs (by simpa [PyData.canLay0] using h)
    simp only [PyData.shown]
    exact strOk_app (strOk_textFrom _ _ _ (strOk_lit _) this) (strOk_lit _)
  | .tuple xs, h => by
    have := shownAll_ok xs (by simpa [PyData.canLay0] using h)
    simp only [PyData.shown]
    exact strOk_app (strOk_app (strOk_lit _) (strOk_join (strOk_lit _) this)) (strOk_lit _)
  | .dict _, h => by simp [PyData.canLay0] at h
theorem shownAll_ok : ∀ ds : List D, PyData.canLayAll0 ds = true → ∀ t ∈ PyData.shownAll ds, PyData.strOk t = true
  | [], _, t, ht => by simp [PyData.shownAll] at ht
  | d :: ds, h, t, ht => by
    have h' : d.canLay0 = true ∧ PyData.canLayAll0 ds = true := by simpa [PyData.canLayAll0] using h
    simp only [PyData.shownAll, List.mem_cons] at ht
    rcases ht with rfl | ht
    · exact shown_ok d h'.1
    · exact shownAll_ok ds h'.2 t ht
end
/-- repr of a list or a tuple of nested data -/
def opShow : OP1 := fun d k => (match d with | .list _ => True | .tuple _ => True | _ => False) ∧ d.showable = true ∧ flat 60 d = true ∧ (d.canLay0 = true → d.shown.length + 64 ≤ sizeLine) ∧ k (.sh (.str d.shown))
theorem us_show {K : PySem.W.Frag} : UnS (fun x H Q => rReprD K [x] H Q) opShow := fun {B F Γ σ H fp x d} k Q r b z c => by
  obtain ⟨z0, z1, z2, z3, z4⟩ := z
  have q := b.rp r.fx
  have fl := z2
  simp only [flat, Bool.and_eq_true, Bool.not_eq_true', decide_eq_true_eq] at fl
  have ok : PyData.strOk d.shown = true := shown_ok d (q.lay fl.1)
  cases b with
  | @lst a xs ds e t => exact ⟨a, _, rfl, q.dpf z2, z1, fl.1, fl.2, z3 (q.lay fl.1), op_sc r (.str _ ok) c z4⟩
  | @tup a xs ds e0 e t => exact ⟨a, _, rfl, q.dpf z2, z1, fl.1, fl.2, z3 (q.lay fl.1), op_sc r (.str _ ok) c z4⟩
  | _ => exact z0.elim
section
variable {X : Cx} {W : WX} {pos p : Pos} {a : Expr} {ta : TE} {pa : QE} {j : Nat}
theorem d_repr (hr : Room j X.A) (hgu : X.A.guards = some []) (hm : X.mg "repr" = none) (ha : DE X W a ta pa) (hg : Gl X "repr" := by rfl) (he : starEach [a] X.env = (false, eval a X.env) :: starEach [] X.env := by rfl) (hpl : (backTo pos (starEach [] X.env)).any (·.1) = false := by rfl) :
    DE X W (.Call (.Name "repr" p) [a] [] pos) (tCB (rReprD X.K) (tCons ta tNil)) (qUn opShow pa) := d_bi1 (cr_repr hr hgu) us_show hm (by decide +kernel) ha hg (by decide) (by decide) he hpl
end
end PL

namespace PL
open PySem PySem.Spec PyProof.Rows L2
section
variable {X : Cx} {W : WX} {pos p : Pos} {a b e : Expr} {ta tb te : TE} {pa pb pe : QE}
/-! ### built-in functions of two arguments -/
theorem d_bi2 {id : String} {x : Str} {r : List V → Hp → VK → Prop} {o : OP2} (hc : CallR X (.builtin id) r) (hs : OpS (fun x y H Q => r [x, y] H Q) o) (hm : X.mg x = none) (hv : bootBuiltins x = some (.builtin id)) (ha : DE X W a ta pa) (hb : DE X W b tb pb) (hg : Gl X x := by rfl)
    (hn : x ≠ "__name__" := by decide) (hdb : (x == ("__debug__" : Str)) = false := by decide) (he : starEach [a, b] X.env = (false, eval a X.env) :: starEach [b] X.env := by rfl) (he2 : starEach [b] X.env = (false, eval b X.env) :: starEach [] X.env := by rfl) (hpl : (backTo pos (starEach [b] X.env)).any (·.1) = false := by rfl) :
    DE X W (.Call (.Name x p) [a, b] [] pos) (tCB r (tCons ta (tCons tb tNil))) (qOp o pa pb) := ⟨pe_callB hc hg hm hv (pa_cons ha.pe (pa_cons hb.pe pa_nil he2) he) hn hdb he hpl, fun {B F Γ σ H fp} R EX Q rr h k e =>
  (se_op hs ha.se hb.se : SE W (tOp (fun x y H Q => r [x, y] H Q) ta tb) (qOp o pa pb)) R EX Q rr h k e⟩
def opMin2 : OP2 := fun d1 d2 k => match d1, d2 with
  | .int i, .int j => k (.sh (.int (if j < i then j else i)))
  | _, _ => False
def opMax2 : OP2 := fun d1 d2 k => match d1, d2 with
  | .int i, .int j => k (.sh (.int (if j > i then j else i)))
  | _, _ => False
theorem os_min2 : OpS (fun x y H Q => (fun xs H (Q : VK) => ∃ i j, xs = [V.int i, V.int j] ∧ Q (.int (if j < i then j else i)) H) [x, y] H Q) opMin2 := fun {B F Γ σ H fp x y d1 d2} k Q r b1 b2 z c => by
  cases b1 with
  | int i =>
    cases b2 with
    | int j => exact ⟨i, j, rfl, op_sc r (.int _) c z⟩
    | _ => exact z.elim
  | _ => cases b2 <;> exact z.elim
theorem os_max2 : OpS (fun x y H Q => (fun xs H (Q : VK) => ∃ i j, xs = [V.int i, V.int j] ∧ Q (.int (if j > i then j else i)) H) [x, y] H Q) opMax2 := fun {B F Γ σ H fp x y d1 d2} k Q r b1 b2 z c => by
  cases b1 with
  | int i =>
    cases b2 with
    | int j => exact ⟨i, j, rfl, op_sc r (.int _) c z⟩
    | _ => exact z.elim
  | _ => cases b2 <;> exact z.elim
theorem d_min2 (hc : X.calm = true) (hm : X.mg "min" = none) (ha : DE X W a ta pa) (hb : DE X W b tb pb) (hg : Gl X "min" := by rfl)
    (he : starEach [a, b] X.env = (false, eval a X.env) :: starEach [b] X.env := by rfl) (he2 : starEach [b] X.env = (false, eval b X.env) :: starEach [] X.env := by rfl) (hpl : (backTo pos (starEach [b] X.env)).any (·.1) = false := by rfl) :
    DE X W (.Call (.Name "min" p) [a, b] [] pos) (tCB (fun xs H Q => ∃ i j, xs = [V.int i, V.int j] ∧ Q (.int (if j < i then j else i)) H) (tCons ta (tCons tb tNil))) (qOp opMin2 pa pb) :=
  d_bi2 (X := X) (W := W) (p := p) (pos := pos) (call_min2 hc) os_min2 hm (by decide +kernel) ha hb hg (by decide) (by decide) he he2 hpl
theorem d_max2 (hc : X.calm = true) (hm : X.mg "max" = none) (ha : DE X W a ta pa) (hb : DE X W b tb pb) (hg : Gl X "max" := by rfl)
    (he : starEach [a, b] X.env = (false, eval a X.env) :: starEach [b] X.env := by rfl) (he2 : starEach [b] X.env = (false, eval b X.env) :: starEach [] X.env := by rfl) (hpl : (backTo pos (starEach [b] X.env)).any (·.1) = false := by rfl) :
    DE X W (.Call (.Name "max" p) [a, b] [] pos) (tCB (fun xs H Q => ∃ i j, xs = [V.int i, V.int j] ∧ Q (.int (if j > i then j else i)) H) (tCons ta (tCons tb tNil))) (qOp opMax2 pa pb) :=
  d_bi2 (X := X) (W := W) (p := p) (pos := pos) (call_max2 hc) os_max2 hm (by decide +kernel) ha hb hg (by decide) (by decide) he he2 hpl
end
/-! ### what the walk knows of a module's classes of errors -/
def ec (mg : Str → Option Value) (x : Str) : Addr := match mg x with
  | some (.ref a) => a
  | _ => 0
structure ExcRaw (K : PySem.W.Frag) (C : Addr) : Prop where
  exI : PySem.W.excIn K C [.type "ValueError", .type "Exception", .type "BaseException", .type "object"] "ValueError.__new__" = true
  kp : PySem.W.keepIn K (.ref C) = true
  sub : PySem.W.subIn K (.ref C) (.type "BaseException") = some true
  ty : PySem.W.typeIn K (.ref C) = some (.type "type")
  exm : PySem.W.exmOne K (.ref C) (.ref C) = some true
  ec : ExcC K C
theorem ExcRaw.ok {K : PySem.W.Frag} {mg : Str → Option Value} {x : Str} {C : Addr} (r : ExcRaw K C) (h : mg x = some (.ref C)) : ExcOk K mg x C := ⟨h, r.exI, r.kp, r.sub, r.ty⟩
theorem ec_of {mg : Str → Option Value} {x : Str} {C : Addr} (h : mg x = some (.ref C)) : ec mg x = C := by
  unfold ec
  rw [h]
end PL

namespace PL
open PySem PySem.Spec PyProof.Rows L2
/-! ### more methods of texts -/
def upS (x : Str) : Str := ⟨x.cps.map up1⟩
def loS (x : Str) : Str := ⟨x.cps.map lo1⟩
def asStr (cs : List Nat) : Str := ⟨cs.toArray⟩
def wordsL (cs : List Nat) : List (List Nat) := TL.wfin (cs.foldl TL.wstep ([], []))
def strsD (ws : List (List Nat)) : List D := ws.map fun cs => .str (asStr cs)
theorem strOk_map {x : Str} {f : Nat → Nat} (h : ∀ c ∈ x.cps.toList, f c < 0x110000) : PyData.strOk ⟨x.cps.map f⟩ = true := strOk_iff.mpr fun c hc => by
  rw [Array.toList_map] at hc
  obtain ⟨d, hd, rfl⟩ := List.mem_map.mp hc
  exact h d hd
theorem up1_lt {c : Nat} (h : c < 128) : up1 c < 128 := by
  unfold up1
  split <;> omega
theorem lo1_lt {c : Nat} (h : c < 128) : lo1 c < 128 := by
  unfold lo1
  split <;> omega
def opUpper : OP1 := fun d k => match d with
  | .str x => (∀ c ∈ x.cps.toList, c < 128) ∧ x.length ≤ 5000000 ∧ k (.sh (.str (upS x)))
  | _ => False
def opLower : OP1 := fun d k => match d with
  | .str x => (∀ c ∈ x.cps.toList, c < 128) ∧ x.length ≤ 5000000 ∧ k (.sh (.str (loS x)))
  | _ => False
abbrev rUpper : V → List V → Hp → VK → Prop := fun x xs H Q => ∃ a, x = .str a ∧ xs = [] ∧ a.length ≤ 5592405 ∧ Q (.str (Txt.upper a)) H
abbrev rLower : V → List V → Hp → VK → Prop := fun x xs H Q => ∃ a, x = .str a ∧ xs = [] ∧ a.length ≤ 5592405 ∧ Q (.str (Txt.lower a)) H
theorem us_upper : UnS (fun x H Q => rUpper x [] H Q) opUpper := fun {B F Γ σ H fp x d} k Q r b z c => by
  cases b with
  | str a ha =>
    refine ⟨a, rfl, rfl, by have := z.2.1; omega, ?_⟩
    rw [upper_ascii z.1]
    exact op_sc r (.str _ (strOk_map fun c hc => Nat.lt_trans (up1_lt (z.1 c hc)) (by decide))) c z.2.2
  | _ => exact z.elim
theorem us_lower : UnS (fun x H Q => rLower x [] H Q) opLower := fun {B F Γ σ H fp x d} k Q r b z c => by
  cases b with
  | str a ha =>
    refine ⟨a, rfl, rfl, by have := z.2.1; omega, ?_⟩
    rw [lower_ascii z.1]
    exact op_sc r (.str _ (strOk_map fun c hc => Nat.lt_trans (lo1_lt (z.1 c hc)) (by decide))) c z.2.2
  | _ => exact z.elim
theorem rpa_strs {F : Hp} : ∀ ys : List Str, (∀ y ∈ ys, PyData.strOk y = true) → RpA F (ys.map V.str) (ys.map .str)
  | [], _ => .nil
  | y :: r, h => .cons (.str y (h y (by simp))) (rpa_strs r fun z hz => h z (List.mem_cons_of_mem _ hz))
theorem strs_of_tl {ys : List Str} {ws : List (List Nat)} (h : ys.map (fun x : Str => x.cps.toList) = ws) : ys.map PyData.str = strsD ws := by
  subst h
  unfold strsD
  rw [List.map_map]
  apply List.map_congr_left
  intro y _
  show PyData.str y = PyData.str (asStr y.cps.toList)
  unfold asStr
  simp
/-- a new list of texts -/
theorem new_strs {B F : Hp} {Γ : Ev} {σ : L2.St} {H : Hp} {fp : Nat → List Addr} {k : Wv → Prop} {Q : VK} {ys : List Str} (r : Rel B F Γ σ H fp) (hy : ∀ y ∈ ys, PyData.strOk y = true)
    (c : ∀ w v F' H', Ext B F F' → Rel B F' Γ σ H' fp → RW B F' Γ σ H' fp v w → k w → Q v H') (z : k (.ow (.l (ys.map .str)))) : rNewStrs ys H Q := fun p hp => by
  obtain ⟨r2, v2⟩ := new_lst r (rpa_strs (F := F) ys hy) hp
  exact c _ _ F _ .refl r2 v2 z
theorem wstep_mem : ∀ (cs : List Nat) (st : List (List Nat) × List Nat) (P : Nat → Prop), (∀ w ∈ st.1, ∀ c ∈ w, P c) → (∀ c ∈ st.2, P c) → (∀ c ∈ cs, P c) →
    (∀ w ∈ (cs.foldl TL.wstep st).1, ∀ c ∈ w, P c) ∧ ∀ c ∈ (cs.foldl TL.wstep st).2, P c
  | [], st, P, h1, h2, _ => ⟨h1, h2⟩
  | c :: r, st, P, h1, h2, h3 => by
    refine wstep_mem r (TL.wstep st c) P ?_ ?_ fun d hd => h3 d (List.mem_cons_of_mem _ hd)
    · unfold TL.wstep
      split
      · split
        · exact h1
        · intro w hw
          rcases List.mem_append.mp hw with hw | hw
          · exact h1 w hw
          · have : w = st.2 := by simpa using hw
            subst this
            exact h2
      · exact h1
    · unfold TL.wstep
      split
      · split
        · exact h2
        · intro d hd
          cases hd
      · intro d hd
        rcases List.mem_append.mp hd with hd | hd
        · exact h2 d hd
        · have : d = c := by simpa using hd
          subst this
          exact h3 _ (by simp)
theorem wordsL_mem {cs : List Nat} {P : Nat → Prop} (h : ∀ c ∈ cs, P c) : ∀ w ∈ wordsL cs, ∀ c ∈ w, P c := by
  obtain ⟨h1, h2⟩ := wstep_mem cs ([], []) P (fun w hw => (List.not_mem_nil hw).elim) (fun c hc => (List.not_mem_nil hc).elim) h
  unfold wordsL TL.wfin
  split
  · exact h1
  · intro w hw
    rcases List.mem_append.mp hw with hw | hw
    · exact h1 w hw
    · have : w = (cs.foldl TL.wstep ([], [])).2 := by simpa using hw
      subst this
      exact h2
def opWords : OP1 := fun d k => match d with
  | .str x => x.length + 2 ≤ sizeLine ∧ k (.ow (.l (strsD (wordsL x.cps.toList))))
  | _ => False
abbrev rWords : V → List V → Hp → VK → Prop := fun x xs H Q => ∃ a, x = .str a ∧ xs = [] ∧ a.length + 2 ≤ sizeLine ∧ rNewStrs (Txt.words a) H Q
theorem us_words : UnS (fun x H Q => rWords x [] H Q) opWords := fun {B F Γ σ H fp x d} k Q r b z c => by
  cases b with
  | str a ha =>
    refine ⟨a, rfl, rfl, z.1, new_strs r (fun y hy => ?_) c ?_⟩
    · refine strOk_iff.mpr fun ch hc => ?_
      have e := TL.words_tl a
      have hm : y.cps.toList ∈ wordsL a.cps.toList := by
        show y.cps.toList ∈ TL.wfin (a.cps.toList.foldl TL.wstep ([], []))
        rw [← show (Txt.words a).map (fun x : Str => x.cps.toList) = TL.wfin (a.cps.toList.foldl TL.wstep ([], [])) from e]
        exact List.mem_map.mpr ⟨y, hy, rfl⟩
      exact wordsL_mem (P := fun c => c < 0x110000) (strOk_iff.mp ha) _ hm ch hc
    · rw [strs_of_tl (ws := wordsL a.cps.toList) (TL.words_tl a)]
      exact z.2
  | _ => exact z.elim
/-- the parts between a sign -/
def splL (c : Nat) (cs : List Nat) : List (List Nat) := TL.spl [c] 0 [] cs
theorem spl_mem (S : List Nat) (P : Nat → Prop) : ∀ (cs acc : List Nat) (k : Nat), (∀ c ∈ acc, P c) → (∀ c ∈ cs, P c) → ∀ w ∈ TL.spl S k acc cs, ∀ c ∈ w, P c
  | [], acc, k, h, _, w, hw => by
    have : w = acc := by simpa [TL.spl] using hw
    subst this
    exact h
  | c :: r, acc, 0, h, h2, w, hw => by
    unfold TL.spl at hw
    split at hw
    · rcases List.mem_cons.mp hw with rfl | hw
      · exact h
      · exact spl_mem S P r [] _ (fun d hd => (List.not_mem_nil hd).elim) (fun d hd => h2 d (List.mem_cons_of_mem _ hd)) w hw
    · exact spl_mem S P r (acc ++ [c]) 0 (fun d hd => by
        rcases List.mem_append.mp hd with hd | hd
        · exact h d hd
        · have : d = c := by simpa using hd
          subst this
          exact h2 _ (by simp)) (fun d hd => h2 d (List.mem_cons_of_mem _ hd)) w hw
  | c :: r, acc, k + 1, h, h2, w, hw => by
    unfold TL.spl at hw
    exact spl_mem S P r acc k h (fun d hd => h2 d (List.mem_cons_of_mem _ hd)) w hw
def opSplit : OP2 := fun d1 d2 k => match d1, d2 with
  | .str x, .str y => (match y.cps.toList with
    | [c] => c < 256 ∧ x.length + 2 ≤ sizeLine ∧ k (.ow (.l (strsD (splL c x.cps.toList))))
    | _ => False)
  | _, _ => False
abbrev rSplit : V → List V → Hp → VK → Prop := fun x xs H Q => ∃ a b, x = .str a ∧ xs = [.str b] ∧ (b.length == 0) = false ∧ a.length + 2 ≤ sizeLine ∧ rNewStrs (Txt.split a b) H Q
theorem one_of {y : Str} {c : Nat} (h : y.cps.toList = [c]) : y = ⟨#[c]⟩ := by
  cases y
  congr 1
  exact Array.toList_inj.mp h
theorem kind_one {c : Nat} (h : c < 256) : Builtin.Str.strKind (⟨#[c]⟩ : Str) = 1 := by
  unfold Builtin.Str.strKind
  simp
  omega
theorem os_split : OpS (fun x y H Q => rSplit x [y] H Q) opSplit := fun {B F Γ σ H fp x y d1 d2} k Q r b1 b2 z c => by
  cases b1 with
  | str a ha =>
    cases b2 with
    | str b hb =>
      unfold opSplit at z
      simp only at z
      split at z
      · rename_i ch hc
        have e := one_of hc
        subst e
        obtain ⟨z1, z2, z3⟩ := z
        have hs : (Txt.split a ⟨#[ch]⟩).map (fun x : Str => x.cps.toList) = splL ch a.cps.toList := TL.split_spl a ⟨#[ch]⟩ (fun e => nomatch e) (by
          rw [kind_one z1]
          unfold Builtin.Str.strKind
          repeat (first | split | omega))
        refine ⟨a, _, rfl, rfl, rfl, z2, new_strs r (fun y hy => ?_) c ?_⟩
        · refine strOk_iff.mpr fun d hd => ?_
          have hm : y.cps.toList ∈ splL ch a.cps.toList := by
            rw [← hs]
            exact List.mem_map.mpr ⟨y, hy, rfl⟩
          exact spl_mem [ch] (fun c => c < 0x110000) a.cps.toList [] 0 (fun d hd => (List.not_mem_nil hd).elim) (strOk_iff.mp ha) _ hm d hd
        · rw [strs_of_tl hs]
          exact z3
      · exact z.elim
    | _ => exact z.elim
  | _ => cases b2 <;> exact z.elim
/-- text.rstrip(signs) -/
def opRstrip : OP2 := fun d1 d2 k => match d1, d2 with
  | .str x, .str y => x.length ≤ sizeLine ∧ k (.sh (.str (Txt.rstripChars x y)))
  | _, _ => False
abbrev rRstrip : V → List V → Hp → VK → Prop := fun x xs H Q => ∃ a b, x = .str a ∧ xs = [.str b] ∧ a.length ≤ sizeLine ∧ Q (.str (Txt.rstripChars a b)) H
theorem rstrip_pre (x y : Str) : ∃ j : Nat, j ≤ x.length ∧ (Txt.rstripChars x y).cps.toList = x.cps.toList.take j := by
  obtain ⟨j, hj, e⟩ := rstripChars_is_prefix x y
  refine ⟨j, hj, ?_⟩
  rw [e]
  show (x.cps.extract 0 j).toList = _
  simp
theorem os_rstrip : OpS (fun x y H Q => rRstrip x [y] H Q) opRstrip := fun {B F Γ σ H fp x y d1 d2} k Q r b1 b2 z c => by
  cases b1 with
  | str a ha =>
    cases b2 with
    | str b hb =>
      refine ⟨a, b, rfl, rfl, z.1, op_sc r (.str _ (strOk_of ha fun c hc => ?_)) c z.2⟩
      obtain ⟨j, _, e⟩ := rstrip_pre a b
      rw [e] at hc
      exact List.mem_of_mem_take hc
    | _ => exact z.elim
  | _ => cases b2 <;> exact z.elim
section
variable {X : Cx} {W : WX} {pos p : Pos} {a b e f : Expr} {es : List Expr} {ta tb te tf : TE} {pa pb pe pf : QE} {tr : TA} {pr : QA}
theorem d_upper {apos : Pos} (ha : DE X W a ta pa) (hbase : attributeBase a "upper" X.env (eval a X.env) = eval a X.env := by rfl) (hline : (apos.endLine == pos.line) = true := by rfl) :
    DE X W (.Call (.Attribute a "upper" apos) [] [] pos) (tM0 rUpper ta) (qM0 opUpper pa) := ⟨pe_upper ha.pe hbase hline, se_m0 us_upper ha.se⟩
theorem d_lower {apos : Pos} (ha : DE X W a ta pa) (hbase : attributeBase a "lower" X.env (eval a X.env) = eval a X.env := by rfl) (hline : (apos.endLine == pos.line) = true := by rfl) :
    DE X W (.Call (.Attribute a "lower" apos) [] [] pos) (tM0 rLower ta) (qM0 opLower pa) := ⟨pe_lower ha.pe hbase hline, se_m0 us_lower ha.se⟩
theorem d_words {apos : Pos} (ha : DE X W a ta pa) (hbase : attributeBase a "split" X.env (eval a X.env) = eval a X.env := by rfl) (hline : (apos.endLine == pos.line) = true := by rfl) :
    DE X W (.Call (.Attribute a "split" apos) [] [] pos) (tM0 rWords ta) (qM0 opWords pa) := ⟨pe_words ha.pe hbase hline, se_m0 us_words ha.se⟩
theorem d_split {apos : Pos} (ha : DE X W a ta pa) (hb : DE X W b tb pb) (hs : starEach [b] X.env = [(false, eval b X.env)] := by rfl) (hbase : attributeBase a "split" X.env (eval a X.env) = eval a X.env := by rfl) (hline : (apos.endLine == pos.line) = true := by rfl) :
    DE X W (.Call (.Attribute a "split" apos) [b] [] pos) (tM1 rSplit ta tb) (qM1 opSplit pa pb) := ⟨pe_split ha.pe hb.pe hs hbase hline, se_m1 os_split ha.se hb.se⟩
theorem d_rstrip {apos : Pos} (ha : DE X W a ta pa) (hb : DE X W b tb pb) (hs : starEach [b] X.env = [(false, eval b X.env)] := by rfl) (hbase : attributeBase a "rstrip" X.env (eval a X.env) = eval a X.env := by rfl) (hline : (apos.endLine == pos.line) = true := by rfl) :
    DE X W (.Call (.Attribute a "rstrip" apos) [b] [] pos) (tM1 rRstrip ta tb) (qM1 opRstrip pa pb) := ⟨pe_m1 F.slot_str_rstrip F.type_str_rstrip mt_rstripChars ha.pe hb.pe hs hbase hline, se_m1 os_rstrip ha.se hb.se⟩
/-! ### methods of more arguments -/
abbrev OPN := D → List D → (Wv → Prop) → Prop
def qBM (o : OPN) (pa : QE) (pr : QA) : QE := fun Γ R E => pa Γ (fun w1 Γ1 => bor w1 Γ1 isStr ∧ pr Γ1 (fun ds Γ2 => bor w1 Γ2 fun d1 => o d1 ds fun w => R w Γ2) E) E
def OpN (r : V → List V → Hp → VK → Prop) (o : OPN) : Prop := ∀ {B F : Hp} {Γ : Ev} {σ : L2.St} {H : Hp} {fp : Nat → List Addr} {x : V} {ys : List V} {d1 : D} {ds : List D} (k : Wv → Prop) (Q : VK), Rel B F Γ σ H fp → Rb F H x d1 → RpA F ys ds → o d1 ds k →
  (∀ w v F' H', Ext B F F' → Rel B F' Γ σ H' fp → RW B F' Γ σ H' fp v w → k w → Q v H') → r x ys H Q
theorem se_bm {K : PySem.W.Frag} {r : V → List V → Hp → VK → Prop} {o : OPN} (hs : OpN r o) (ha : SE W ta pa) (hb : SA W tr pr) : SE W (tBM K "str" r ta tr) (qBM o pa pr) := fun {B F Γ σ H fp} R EX Q rr h k e => by
  refine ha _ EX _ rr h (fun w1 Γ1 x F1 H1 fp1 x1 r1 v1 h1 => ?_) e
  obtain ⟨d, b, z⟩ := bor_rb r1 v1 h1.1
  obtain ⟨B', r1', g⟩ := r1.guard v1
  refine ⟨by
    obtain ⟨a, rfl⟩ := b.isStr z
    rfl, hb _ EX _ r1' h1.2 (fun ds Γ2 vs F2 H2 fp2 x2 r2 v2 h2 => ?_) fun c Γ' F' H' fp' x2 r2 q => ?_⟩
  · obtain ⟨x3, r3, v3, g3⟩ := g F2 Γ2 H2 fp2 x2 r2
    obtain ⟨d1, b1, z1⟩ := bor_rb r3 v3 h2
    exact hs _ Q r3 b1 v2 z1 fun w v F' H' x' r' q' kk => k w Γ2 v F' H' fp2 ((x1.trans x3).trans x') r' q' kk
  · obtain ⟨x5, r5, _, _⟩ := g F' Γ' H' fp' x2 r2
    exact e c Γ' F' H' fp' (x1.trans x5) r5 q
/-- text.rjust(n, sign) -/
def opRjust : OPN := fun d1 ds k => match d1, ds with
  | .str x, [.int i, .str f] => PadOk i = true ∧ (match f.cps.toList with
    | [c] => k (.sh (.str (Txt.rjustF x i c)))
    | _ => False)
  | _, _ => False
abbrev rRjust : V → List V → Hp → VK → Prop := fun x xs H Q => ∃ (a : Str) (i : Int) (f : Str), x = .str a ∧ xs = [.int i, .str f] ∧ PadOk i = true ∧ f.length = 1 ∧ Q (.str (Txt.rjustF a i (f.cps.getD 0 0))) H
theorem mt_rjust2 {X : Cx} : MtR X "str.rjust" rRjust := by
  intro pins s σ H x xs v us Q I rx rs h
  obtain ⟨a, i, f, rfl, rfl, hp, hf, h⟩ := h
  obtain ⟨t, rfl⟩ := rx
  cases rs with
  | cons r1 rs =>
    cases rs with
    | cons r2 rs =>
      cases rs
      obtain ⟨u, rfl⟩ := r1
      obtain ⟨z, rfl⟩ := r2
      exact rjust_fill hp hf fun t' k => ⟨V.str (Txt.rjustF a i (f.cps.getD 0 0)), H, I.tok k, ⟨t', rfl⟩, h⟩
theorem os_rjust : OpN rRjust opRjust := fun {B F Γ σ H fp x ys d1 ds} k Q r b1 b2 z c => by
  cases b1 with
  | str a ha =>
    cases b2 with
    | cons h1 b2 =>
      cases b2 with
      | cons h2 b2 =>
        cases b2 with
        | nil =>
          cases h1 with
          | int i =>
            cases h2 with
            | str f hf =>
              obtain ⟨z1, z2⟩ := z
              split at z2
              · rename_i ch hc
                have e := one_of hc
                subst e
                have hch := strOk_iff.mp hf ch (by simp)
                refine ⟨a, i, _, rfl, rfl, z1, rfl, ?_⟩
                refine op_sc r (.str _ (strOk_iff.mpr fun d hd => ?_)) c z2
                rw [rjustF_list] at hd
                rcases List.mem_append.mp hd with hd | hd
                · rw [List.eq_of_mem_replicate hd]
                  exact hch
                · exact strOk_iff.mp ha d hd
              · exact z2.elim
            | _ => exact z.elim
          | _ => cases h2 <;> exact z.elim
        | cons h3 b2 => cases h1 <;> cases h2 <;> exact z.elim
      | nil => cases h1 <;> exact z.elim
    | nil => exact z.elim
  | _ => exact z.elim
theorem d_rjust {apos : Pos} (ha : DE X W a ta pa) (hb : DA X W (e :: es) tr pr)
    (hbase : attributeBase a "rjust" X.env (eval a X.env) = eval a X.env := by rfl)
    (hfew : ((backTo pos (starEach (e :: es) X.env)).all (fun x => !x.1) && (backToKw pos (keywordEach [] X.env)).all (fun x => x.1.isSome)
      && decide ((e :: es).length + ([] : List Keyword).length + (if ([] : List Keyword).isEmpty then 0 else 1) < 30)) = true := by rfl)
    (hline : (apos.endLine == pos.line) = true := by rfl) (hs : starEach (e :: es) X.env = (false, eval e X.env) :: starEach es X.env := by rfl) (hplain : (backTo pos (starEach es X.env)).any (·.1) = false := by rfl) :
    DE X W (.Call (.Attribute a "rjust" apos) (e :: es) [] pos) (tBM X.K "str" rRjust ta tr) (qBM opRjust pa pr) :=
  ⟨pe_bm PySem.F.plainAttrs_str F.slot_str_rjust F.type_str_rjust mt_rjust2 ha.pe hb.pa hbase hfew hline hs hplain, se_bm os_rjust ha.se hb.sa⟩
/-! ### str(n), int(text), list(range(..)), constants -/
def opStr : OP1 := fun d k => match d with
  | .int i => i.natAbs.log2 < 1920 ∧ k (.sh (.str (toString i : String)))
  | _ => False
theorem us_str : UnS (fun x H Q => (fun xs H (Q : VK) => ∃ i, xs = [V.int i] ∧ i.natAbs.log2 < 1920 ∧ Q (.str (toString i : String)) H) [x] H Q) opStr := fun {B F Γ σ H fp x d} k Q r b z c => by
  cases b with
  | int i => exact ⟨i, rfl, z.1, op_sc r (.str _ (strOk_lit _)) c z.2⟩
  | _ => exact z.elim
theorem d_str1 (hm : X.mg "str" = none) (ha : DE X W a ta pa) (hg : Gl X "str" := by rfl) (he : starEach [a] X.env = (false, eval a X.env) :: starEach [] X.env := by rfl) (hpl : (backTo pos (starEach [] X.env)).any (·.1) = false := by rfl) :
    DE X W (.Call (.Name "str" p) [a] [] pos) (tCB (fun xs H Q => ∃ i, xs = [V.int i] ∧ i.natAbs.log2 < 1920 ∧ Q (.str (toString i : String)) H) (tCons ta tNil)) (qUn opStr pa) := d_ty1 call_str_int us_str hm (by decide +kernel) ha hg (by decide) (by decide) he hpl
def opIntS : OP1 := fun d k => match d with
  | .str x => x.length ≤ 640 ∧ (match PySem.intText? x with
    | some n => k (.sh (.int n))
    | none => False)
  | _ => False
theorem us_intS : UnS (fun x H Q => (fun xs H (Q : VK) => ∃ a n, xs = [V.str a] ∧ PySem.intText? a = some n ∧ a.length ≤ 640 ∧ Q (.int n) H) [x] H Q) opIntS := fun {B F Γ σ H fp x d} k Q r b z c => by
  cases b with
  | str a ha =>
    obtain ⟨z1, z2⟩ := z
    split at z2
    · rename_i n hn
      exact ⟨a, n, rfl, hn, z1, op_sc r (.int _) c z2⟩
    · exact z2.elim
  | _ => exact z.elim
theorem d_intS (hm : X.mg "int" = none) (ha : DE X W a ta pa) (hg : Gl X "int" := by rfl) (he : starEach [a] X.env = (false, eval a X.env) :: starEach [] X.env := by rfl) (hpl : (backTo pos (starEach [] X.env)).any (·.1) = false := by rfl) :
    DE X W (.Call (.Name "int" p) [a] [] pos) (tCB (fun xs H Q => ∃ a n, xs = [V.str a] ∧ PySem.intText? a = some n ∧ a.length ≤ 640 ∧ Q (.int n) H) (tCons ta tNil)) (qUn opIntS pa) := d_ty1 call_int_str us_intS hm (by decide +kernel) ha hg (by decide) (by decide) he hpl
def rgD (a b : Int) : List D := (List.range (b - a).toNat).map fun i : Nat => .int (a + (i : Int))
def opRgL (d1 d2 : D) (k : Wv → Prop) : Prop := match d1, d2 with
  | .int i, .int j => (-(2 ^ 62) ≤ i ∧ i < 2 ^ 62 ∧ -(2 ^ 62) ≤ j ∧ j < 2 ^ 62 ∧ (j - i).toNat ≤ 2 ^ 24) ∧ k (.ow (.l (rgD i j)))
  | _, _ => False
theorem rpa_rg {F : Hp} (a b : Int) : RpA F (rgV a b) (rgD a b) := RpA.map _ _ _ fun i _ => .int _
def qRgL2 (pa pb : QE) : QE := qOp opRgL pa pb
def qRgL1 (pa : QE) : QE := qUn (fun d k => opRgL (.int 0) d k) pa
theorem d_listR2 {p2 pos2 : Pos} (hc : X.calm = true) (hm : X.mg "list" = none) (hm2 : X.mg "range" = none) (ha : DE X W a ta pa) (hb : DE X W b tb pb) (hg : Gl X "list" := by rfl) (hg2 : Gl X "range" := by rfl)
    (na : starEach [a, b] X.env = (false, eval a X.env) :: starEach [b] X.env := by rfl) (nb : starEach [b] X.env = (false, eval b X.env) :: starEach [] X.env := by rfl)
    (nc : starEach [.Call (.Name "range" p2) [a, b] [] pos2] X.env = (false, eval (.Call (.Name "range" p2) [a, b] [] pos2) X.env) :: starEach [] X.env := by rfl)
    (np : (backTo pos2 (starEach [b] X.env)).any (·.1) = false := by rfl) :
    DE X W (.Call (.Name "list" p) [.Call (.Name "range" p2) [a, b] [] pos2] [] pos) (tLstRg (tRg2 ta tb)) (qRgL2 pa pb) := ⟨pe_listRg hc hg hm (prg_2 hg2 hm2 ha.pe hb.pe na nb np) nc, fun {B F Γ σ H fp} R EX Q rr h k e => by
  refine se_two ha.se hb.se rr h (Z := fun w1 w2 Γ2 => bor w1 Γ2 fun d1 => bor w2 Γ2 fun d2 => opRgL d1 d2 fun w => R w Γ2) (fun w1 w2 Γ' x y F' H' fp' x1 r1 v1 v2 z => ?_) e
  obtain ⟨d1, b1, z⟩ := bor_rb r1 v1 z
  obtain ⟨d2, b2, z⟩ := bor_rb r1 v2 z
  cases b1 with
  | int i =>
    cases b2 with
    | int j =>
      refine ⟨i, j, rfl, rfl, z.1, fun q hq => ?_⟩
      obtain ⟨r2, v2⟩ := new_lst r1 (rpa_rg (F := F') i j) hq
      exact k _ _ _ _ _ _ x1 r2 v2 z.2
    | _ => exact z.elim
  | _ => cases b2 <;> exact z.elim⟩
theorem d_listR1 {p2 pos2 : Pos} (hc : X.calm = true) (hm : X.mg "list" = none) (hm2 : X.mg "range" = none) (ha : DE X W a ta pa) (hg : Gl X "list" := by rfl) (hg2 : Gl X "range" := by rfl)
    (na : starEach [a] X.env = (false, eval a X.env) :: starEach [] X.env := by rfl)
    (nc : starEach [.Call (.Name "range" p2) [a] [] pos2] X.env = (false, eval (.Call (.Name "range" p2) [a] [] pos2) X.env) :: starEach [] X.env := by rfl) :
    DE X W (.Call (.Name "list" p) [.Call (.Name "range" p2) [a] [] pos2] [] pos) (tLstRg (tRg1 ta)) (qRgL1 pa) := ⟨pe_listRg hc hg hm (prg_1 hg2 hm2 ha.pe na) nc, fun {B F Γ σ H fp} R EX Q rr h k e => by
  refine ha.se _ EX _ rr h (fun w1 Γ1 x F1 H1 fp1 x1 r1 v1 h1 => ?_) e
  obtain ⟨d, b, z⟩ := bor_rb r1 v1 h1
  cases b with
  | int j =>
    refine ⟨j, rfl, z.1, fun q hq => ?_⟩
    obtain ⟨r2, v2⟩ := new_lst r1 (rpa_rg (F := F1) 0 j) hq
    exact k _ _ _ _ _ _ x1 r2 v2 z.2
  | _ => exact z.elim⟩
theorem d_gsx {x y : Str} (hm : ∃ t, X.mg x = some (.str y t)) (h : PyData.strOk y = true := by decide +kernel) (hg : Gl X x := by rfl) (hd : (x == ("__debug__" : Str)) = false := by decide) : DE X W (.Name x pos) (tC (.str y)) (qC (.str y)) := hm.elim fun t e => d_gs e h hg hd
theorem d_gix {x : Str} {i : Int} (hm : ∃ t, X.mg x = some (.int i t)) (hg : Gl X x := by rfl) (hd : (x == ("__debug__" : Str)) = false := by decide) : DE X W (.Name x pos) (tC (.int i)) (qC (.int i)) := hm.elim fun t e => d_gi e hg hd
end
end PL

namespace PL
open PySem PySem.Spec PyProof.Rows L2
local macro_rules | `(tactic| ac_rfl) => `(tactic| ((conv => whnf); repeat ((first | refine Cif.yes ?_ | refine Cif.no ?_ | refine And.intro (by assumption) ?_ | refine And.intro trivial ?_ | refine And.intro rfl ?_); (conv => whnf))))
/-! ### frames -/
abbrev tl (x : Str) : List Nat := x.cps.toList
def rowD (r : List Int) : D := .list (r.map .int)
structure Fr where
  s : Str
  c : List (List Int)
def Fr.enc (f : Fr) : D := .tuple [.str f.s, .list (f.c.map rowD)]
def Fr.m (f : Fr) : Nat := f.s.length
def Fr.n (f : Fr) : Nat := (f.c.headD []).length
structure FrOk (f : Fr) : Prop where
  m2 : 2 ≤ f.m
  m1 : f.m ≤ 1000
  nd : (tl f.s).Nodup
  rows : ∀ r ∈ f.c, r.length = f.n
  c1 : 1 ≤ f.c.length
  c2 : f.c.length ≤ 3
  n1 : 1 ≤ f.n
  n2 : f.n ≤ 999
  ws : ∀ r ∈ f.c, ∀ w ∈ r, 0 ≤ w ∧ w < 5040
theorem idxOf?_mem {l : List Nat} {c : Nat} (h : c ∈ l) : l.idxOf? c = some (l.idxOf c) := List.findIdx?_eq_some_iff_findIdx_eq.mpr ⟨List.idxOf_lt_length_iff.mpr h, rfl⟩
theorem str_ext {x y : Str} (h : tl x = tl y) : x = y := by
  cases x
  cases y
  congr 1
  exact Array.toList_inj.mp h
theorem tl_app (x y : Str) : tl (x ++ y) = tl x ++ tl y := by
  show (x.cps ++ y.cps).toList = _
  rw [Array.toList_append]
theorem ixD_map {α : Type} {xs : List α} {p : Nat} {a : α} (f : α → D) (h : xs[p]? = some a) : ixD (xs.map f) (p : Int) = some (f a) := by
  show (xs.map f)[p]? = _
  rw [List.getElem?_map, h]
  rfl
theorem ixD_nat {α : Type} {xs : List α} {p : Nat} {a : α} (h : xs[p]? = some a) : ixD xs (p : Int) = some a := h
theorem tl_len (x : Str) : (tl x).length = x.length := by simp [tl, Str.length]
theorem FrOk.row0 {f : Fr} (ok : FrOk f) : ∃ r cs, f.c = r :: cs ∧ r.length = f.n := by
  cases h : f.c with
  | nil =>
    have := ok.c1
    rw [h] at this
    simp at this
  | cons r cs => exact ⟨r, cs, rfl, by simp [Fr.n, h]⟩
-- size_of(frame) slots: 0=frame
def q_size_of : QS :=
  (qRet (qUn opLen (qOp opIx (qOp opIx (qVar 0) (qC (.int 1))) (qC (.int 0)))))
def P_size_of : PD := fun ds R => ∃ f : Fr, ds = [f.enc] ∧ FrOk f ∧ R (.sh (.int f.n))
theorem pure_size_of : ∀ ds R, ds.length = 1 → P_size_of ds R → q_size_of (endsOf R) (startEv 1 ds) := by
  rintro ds R - ⟨⟨s, c⟩, rfl, ok, h⟩
  cases c with
  | nil => exact absurd ok.c1 (by simp)
  | cons r cs =>
    ac_rfl
    rw [List.length_map]
    exact h
def idx (f : Fr) (c : Nat) : Nat := (tl f.s).idxOf c
def InL (f : Fr) (x : Str) : Prop := ∀ c ∈ tl x, c ∈ tl f.s
def worths (f : Fr) (x : Str) : List Nat := (tl x).map (idx f)
def natD (n : Nat) : D := .int n
def P_worths_in : PD := fun ds R => ∃ (f : Fr) (x : Str), ds = [f.enc, .str x] ∧ FrOk f ∧ InL f x ∧ x.length ≤ 1000 ∧ R (.ow (.l ((worths f x).map natD)))
-- worths_in(frame, line) slots: 0=frame* 1=line 2=sign
def q_worths_in : QS :=
  (qRet (qLc [2] (qiS (qVar 1)) (qgN 2) qYes (qM1 opIndex (qOp opIx (qVar 0) (qC (.int 0))) (qVar 2))))
theorem pure_worths_in : ∀ ds R, ds.length = 2 → P_worths_in ds R → q_worths_in (endsOf R) (startEv 3 ds) := by
  rintro ds R - ⟨f, x, rfl, ok, hx, hl, h⟩
  ac_rfl
  refine lc0_map (vs := [2]) signD (fun c => natD (idx f c)) _ (fun c hc acc K ha hK => ?_) ?_ ?_
  · ac_rfl
    rw [show List.idxOf? c f.s.cps.toList = some (idx f c) from idxOf?_mem (hx c hc)]
    ac_rfl
    exact hK
  · rw [tl_len]
    exact small (by omega)
  · ac_rfl
    have e : (worths f x).map natD = (tl x).map fun c => natD (idx f c) := by simp [worths]
    rw [e] at h
    exact h
def dotI : List Int → List Nat → Int
  | a :: r, b :: w => a * (b : Int) + dotI r w
  | _, _ => 0
def rem (f : Fr) (x : Str) : List Int := f.c.map fun r => dotI r (worths f x) % (f.m : Int)
def tupI (ns : List Int) : D := .tuple (ns.map .int)
theorem intsOf_map' {α : Type} (g : α → Int) : ∀ xs : List α, intsOf (xs.map fun x => .int (g x)) = some (xs.map g)
  | [] => rfl
  | x :: r => by simp [intsOf, intsOf_map' g r]
theorem zipD_map : ∀ (r : List Int) (w : List Nat), zipD (r.map .int) (w.map natD) = (r.zip w).map fun p => .tuple [.int p.1, natD p.2]
  | [], _ => by simp [zipD]
  | _ :: _, [] => by simp [zipD]
  | a :: r, b :: w => by simp [zipD, zipD_map r w]
theorem dotI_zip : ∀ (r : List Int) (w : List Nat), ((r.zip w).map fun p => p.1 * (p.2 : Int)).sum = dotI r w
  | [], _ => by simp [dotI]
  | _ :: _, [] => by simp [dotI]
  | a :: r, b :: w => by simp [dotI, dotI_zip r w]
def P_remainders : PD := fun ds R => ∃ (f : Fr) (x : Str), ds = [f.enc, .str x] ∧ FrOk f ∧ InL f x ∧ x.length ≤ 1000 ∧ R (.sh (tupI (rem f x)))
-- remainders(frame, line) slots: 0=frame 1=line 2=worths* 3=modulus* 4=weights 5=weight 6=worth
def q_remainders : QS :=
  (qSeq (qAsg (qCall 2 P_worths_in (qCons (qVar 0) (qCons (qVar 1) qNil))) (qgN 2))
  (qFrz 2 (qSeq (qAsg (qUn opLen (qOp opIx (qVar 0) (qC (.int 0)))) (qgN 3))
  (qRet (qUn opTuple (qLc [4] (qiL (qOp opIx (qVar 0) (qC (.int 1)))) (qgN 4) qYes (qOp opMod (qUn opSum (qLc [5, 6] (qiZ (qCons (qVar 4) (qCons (qVar 2) qNil))) (qgTup 2 (qgCons (qgN 5) (qgCons (qgN 6) qgNil))) qYes (qOp opMul (qVar 5) (qVar 6)))) (qVar 3))))))))
theorem pure_remainders : ∀ ds R, ds.length = 2 → P_remainders ds R → q_remainders (endsOf R) (startEv 7 ds) := by
  rintro ds R - ⟨f, x, rfl, ok, hx, hl, h⟩
  ac_rfl
  refine ⟨f, x, rfl, ok, hx, hl, ?_⟩
  ac_rfl
  refine ⟨small (by have := ok.m1; unfold Fr.m at this; omega), ?_⟩
  ac_rfl
  refine lc0_map (vs := [4]) rowD (fun r => .int (dotI r (worths f x) % (f.m : Int))) _ (fun r hr acc K ha hK => ?_) ?_ ?_
  · ac_rfl
    rw [zipD_map]
    refine lc0_map (vs := [5, 6]) (fun p : Int × Nat => .tuple [.int p.1, natD p.2]) (fun p => .int (p.1 * (p.2 : Int))) _ (fun p hp acc2 K2 ha2 hK2 => ?_) ?_ ?_
    · ac_rfl
      refine ⟨?_, ?_⟩
      · have := ok.ws r hr p.1 (List.of_mem_zip hp).1
        exact .inl ⟨by omega, by omega⟩
      · ac_rfl
        exact hK2
    · refine small ?_
      have := ok.rows r hr
      have := ok.n2
      simp only [List.length_zip]
      omega
    · ac_rfl
      rw [← dotI_zip] at hK
      rw [intsOf_map']
      ac_rfl
      refine ⟨by have := ok.m2; unfold Fr.m at this; omega, ?_⟩
      ac_rfl
      exact hK
  · have := ok.c2
    exact small (by omega)
  · ac_rfl
    have e : tupI (rem f x) = .tuple (f.c.map fun r => .int (dotI r (worths f x) % (f.m : Int))) := by simp [tupI, rem]
    rw [e] at h
    exact h
def zerosL (f : Fr) : List Int := List.replicate f.c.length 0
def P_zeros : PD := fun ds R => ∃ f : Fr, ds = [f.enc] ∧ FrOk f ∧ R (.sh (tupI (zerosL f)))
-- zeros(frame) slots: 0=frame
def q_zeros : QS :=
  (qRet (qOp opMulT (qTup (qCons (qC (.int 0)) qNil)) (qUn opLen (qOp opIx (qVar 0) (qC (.int 1))))))
theorem pure_zeros : ∀ ds R, ds.length = 1 → P_zeros ds R → q_zeros (endsOf R) (startEv 1 ds) := by
  rintro ds R - ⟨f, rfl, ok, h⟩
  have := ok.c1
  have := ok.c2
  ac_rfl
  refine ⟨small (by decide), ?_⟩
  ac_rfl
  have e : ((f.c.map rowD).length : Int) = f.c.length := by simp
  refine ⟨(fun z => nomatch z), by omega, by omega, by decide, ?_⟩
  ac_rfl
  have e2 : tupI (zerosL f) = .tuple ((List.replicate ((f.c.map rowD).length : Int).toNat [PyData.int 0]).flatten) := by
    simp [tupI, zerosL]
  rw [e2] at h
  exact h
def mark (f : Fr) (p d : Nat) : List Int := f.c.map fun r => (r[p]?.getD 0 * (d : Int)) % (f.m : Int)
def P_mark : PD := fun ds R => ∃ (f : Fr) (p d : Nat), ds = [f.enc, .int p, .int d] ∧ FrOk f ∧ p < f.n ∧ d ≤ 1000 ∧ R (.sh (tupI (mark f p d)))
def slips (f : Fr) : List (Nat × Nat) := ((List.range f.n).map fun p => (List.range (f.m - 1)).map fun d => (p, d + 1)).flatten
def slipD (p : Nat × Nat) : D := .tuple [.int p.1, .int p.2]
def P_slips_of : PD := fun ds R => ∃ f : Fr, ds = [f.enc] ∧ FrOk f ∧ R (.ow (.l ((slips f).map slipD)))
def hd0 (f : Fr) : Nat := (tl f.s)[0]?.getD 0
def plain (f : Fr) : Str := Txt.mul ⟨#[hd0 f]⟩ f.n
def P_plain_line : PD := fun ds R => ∃ f : Fr, ds = [f.enc] ∧ FrOk f ∧ R (.sh (.str (plain f)))
def sgn (f : Fr) (w : Nat) : Nat := (tl f.s)[w]?.getD 0
def putS (x : Str) (p c : Nat) : Str := ⟨((tl x).set p c).toArray⟩
theorem putS_eq {x : Str} {p c : Nat} (hp : p < x.length) : (cutS x none (some (p : Int)) ++ ⟨#[c]⟩) ++ cutS x (some ((p : Int) + 1)) none = putS x p c := by
  apply str_ext
  rw [tl_app, tl_app]
  have hl := tl_len x
  have e1 : tl (cutS x none (some (p : Int))) = (tl x).take p := by
    show ((tl x).drop (HT.sIx x.length 0 none)).take (HT.sIx x.length x.length (some (p : Int)) - HT.sIx x.length 0 none) = _
    rw [HT.sIx_none, HT.sIx_nat]
    simp only [List.drop_zero, Nat.sub_zero]
    congr 1
    omega
  have e2 : tl (cutS x (some ((p : Int) + 1)) none) = (tl x).drop (p + 1) := by
    show ((tl x).drop (HT.sIx x.length 0 (some ((p : Int) + 1)))).take (HT.sIx x.length x.length none - HT.sIx x.length 0 (some ((p : Int) + 1))) = _
    rw [HT.sIx_none, show ((p : Int) + 1) = ((p + 1 : Nat) : Int) by omega, HT.sIx_nat, show min (p + 1) x.length = p + 1 by omega]
    rw [List.take_of_length_le (by rw [List.length_drop]; omega)]
  rw [e1, e2]
  show _ = ((tl x).set p c)
  rw [List.set_eq_take_append_cons_drop, if_pos (by omega)]
  simp
  rfl
theorem cutS_le (x : Str) (lo hi : Option Int) : (cutS x lo hi).length ≤ x.length := cutS_length x lo hi
def P_with_sign : PD := fun ds R => ∃ (f : Fr) (x : Str) (p w : Nat), ds = [f.enc, .str x, .int p, .int w] ∧ FrOk f ∧ p < x.length ∧ x.length ≤ 1000 ∧ w < f.m ∧ R (.sh (.str (putS x p (sgn f w))))
theorem app_len (x y : Str) : (x ++ y).length = x.length + y.length := by
  rw [← tl_len, tl_app, List.length_append, tl_len, tl_len]
def V (w : String) (xs : List Str) : D := .tuple ((Str.ofString w :: xs).map .str)
def slipV (f : Fr) : List Str := match (slips f).find? (fun s => mark f s.1 s.2 == zerosL f) with
  | some (p, d) => [Str.ofString "unnoticed", plain f, putS (plain f) p (sgn f d)]
  | none => [Str.ofString "noticed"]
def strT (v : List Str) : D := .tuple (v.map .str)
def P_find_slips : PD := fun ds R => ∃ f : Fr, ds = [f.enc] ∧ FrOk f ∧ R (.sh (strT (slipV f)))
theorem hasDict_keys : ∀ k : List Key, PyData.hasDictAll (k.map keyD) = false
  | [] => by simp [PyData.hasDictAll]
  | .inl i :: r => by simp [PyData.hasDictAll, keyD, PyData.hasDict, hasDict_keys r]
  | .inr i :: r => by simp [PyData.hasDictAll, keyD, PyData.hasDict, hasDict_keys r]
theorem depth_keys : ∀ k : List Key, PyData.depthAll (k.map keyD) ≤ 1
  | [] => by simp [PyData.depthAll]
  | .inl i :: r => by
    have := depth_keys r
    simp only [List.map_cons, keyD, PyData.depthAll, PyData.depth]
    omega
  | .inr i :: r => by
    have := depth_keys r
    simp only [List.map_cons, keyD, PyData.depthAll, PyData.depth]
    omega
theorem flat_keys (k : List Key) : flat 60 (.tuple (k.map keyD)) = true := by
  have := depth_keys k
  have e : (PyData.tuple (k.map keyD)).depth = PyData.depthAll (k.map keyD) + 1 := by simp [PyData.depth]
  simp only [flat, PyData.hasDict, hasDict_keys, e, Bool.not_false, Bool.true_and, decide_eq_true_eq]
  omega
theorem tupI_keys (a : List Int) : tupI a = .tuple ((a.map Sum.inl : List Key).map keyD) := by
  simp [tupI, keyD, Function.comp_def]
theorem strT_keys (a : List Str) : strT a = .tuple ((a.map Sum.inr : List Key).map keyD) := by
  simp [strT, keyD, Function.comp_def]
theorem map_inl_inj {a b : List Int} : (a.map Sum.inl : List Key) = b.map Sum.inl ↔ a = b := List.map_inj_right (fun x y h => Sum.inl.inj h)
theorem map_inr_inj {a b : List Str} : (a.map Sum.inr : List Key) = b.map Sum.inr ↔ a = b := List.map_inj_right (fun x y h => Sum.inr.inj h)
theorem eqv_tupI (a b : List Int) : PyData.eqv (tupI a) (tupI b) = (a == b) := by
  rw [tupI_keys, tupI_keys, eqv_keyT, Bool.beq_eq_decide_eq]
  exact decide_eq_decide.mpr map_inl_inj
theorem flat_tupI (a : List Int) : flat 60 (tupI a) = true := by rw [tupI_keys]; exact flat_keys _
theorem eqv_strT (a b : List Str) : PyData.eqv (strT a) (strT b) = decide (a = b) := by
  rw [strT_keys, strT_keys, eqv_keyT]
  exact decide_eq_decide.mpr map_inr_inj
theorem flat_strT (a : List Str) : flat 60 (strT a) = true := by rw [strT_keys]; exact flat_keys _
theorem keyT_tupI (a : List Int) : keyT (tupI a) = true := by rw [tupI_keys]; exact keyT_D _
theorem mem_slips {f : Fr} {p d : Nat} : (p, d) ∈ slips f ↔ p < f.n ∧ 1 ≤ d ∧ d < f.m := by
  unfold slips
  simp only [List.mem_flatten, List.mem_map, List.mem_range]
  constructor
  · rintro ⟨l, ⟨a, ha, rfl⟩, hx⟩
    obtain ⟨b, hb, e⟩ := List.mem_map.mp hx
    simp at hb
    cases e
    omega
  · rintro ⟨h1, h2, h3⟩
    refine ⟨_, ⟨p, h1, rfl⟩, List.mem_map.mpr ⟨d - 1, by simp; omega, ?_⟩⟩
    congr 1
    omega
theorem plain_len (f : Fr) : (plain f).length = f.n := by
  rw [← tl_len]
  show (Txt.mul ⟨#[hd0 f]⟩ f.n).cps.toList.length = _
  rw [mul_one_list]
  simp
end PL

namespace PL
open PySem PySem.Spec PyProof.Rows L2
local macro_rules | `(tactic| ac_rfl) => `(tactic| ((conv => whnf); repeat ((first | refine Cif.yes ?_ | refine Cif.no ?_ | refine And.intro (by assumption) ?_ | refine And.intro trivial ?_ | refine And.intro rfl ?_); (conv => whnf))))
abbrev txt (x : String) : Str := Str.ofString x
/-- the verdict of slips still to be looked at, some seen -/
def rightR (f : Fr) : List (Nat × Nat) → List (Nat × Nat) → List Str
  | _, [] => [txt "right"]
  | seen, s :: r => if mark f s.1 s.2 == zerosL f then [txt "both", plain f, plain f, putS (plain f) s.1 (sgn f s.2)] else
    match seen.find? (fun t => mark f t.1 t.2 == mark f s.1 s.2) with
    | some t => [txt "both", putS (plain f) s.1 (sgn f s.2), plain f, putS (putS (plain f) s.1 (sgn f s.2)) t.1 (sgn f (f.m - t.2))]
    | none => rightR f (seen ++ [s]) r
def rightV (f : Fr) : List Str := rightR f [] (slips f)
def knownD (f : Fr) (seen : List (Nat × Nat)) : List (D × D) := seen.map fun s => (tupI (mark f s.1 s.2), slipD s)
theorem look_known (f : Fr) (mk : List Int) : ∀ seen : List (Nat × Nat), lookD (knownD f seen) (tupI mk) = (seen.find? fun t => mark f t.1 t.2 == mk).map slipD
  | [] => rfl
  | s :: r => by
    have ih := look_known f mk r
    unfold lookD knownD at ih ⊢
    simp only [List.map_cons, List.find?_cons, eqv_tupI]
    cases h : (mark f s.1 s.2 == mk) with
    | true => rfl
    | false => exact ih
theorem any_known (f : Fr) (mk : List Int) (seen : List (Nat × Nat)) : ((knownD f seen).any fun p => PyData.eqv p.1 (tupI mk)) = (seen.find? fun t => mark f t.1 t.2 == mk).isSome := by
  induction seen with
  | nil => rfl
  | cons s r ih =>
    show (PyData.eqv (tupI (mark f s.1 s.2)) (tupI mk) || (knownD f r).any fun p => PyData.eqv p.1 (tupI mk)) = _
    rw [List.find?_cons, eqv_tupI, ih]
    cases h : (mark f s.1 s.2 == mk) <;> rfl
theorem put_known {f : Fr} {seen : List (Nat × Nat)} {s : Nat × Nat} (h : (seen.find? fun t => mark f t.1 t.2 == mark f s.1 s.2) = none) : putD (knownD f seen) (tupI (mark f s.1 s.2)) (slipD s) = knownD f (seen ++ [s]) := by
  unfold putD
  rw [any_known, h]
  simp [knownD]
theorem putS_len (x : Str) (p c : Nat) : (putS x p c).length = x.length := by
  rw [← tl_len, ← tl_len]
  show ((tl x).set p c).length = _
  rw [List.length_set]
theorem slips_le {f : Fr} (ok : FrOk f) : (slips f).length ≤ 1000000 := by
  have hn := ok.n2
  have hm := ok.m1
  have e : (slips f).length = f.n * (f.m - 1) := by
    unfold slips
    simp only [List.length_flatten, List.map_map]
    show ((List.range f.n).map fun x => ((List.range (f.m - 1)).map fun d => (x, d + 1)).length).sum = _
    simp only [List.length_map, List.length_range, List.map_const', List.sum_replicate_nat]
  rw [e]
  have := Nat.mul_le_mul hn (show f.m - 1 ≤ 1000 by omega)
  omega
def P_find_right : PD := fun ds R => ∃ f : Fr, ds = [f.enc] ∧ FrOk f ∧ R (.sh (strT (rightV f)))
def isLine (f : Fr) (x : Str) : Bool := x.length == f.n && (tl x).all fun c => decide (c ∈ tl f.s)
def P_is_line : PD := fun ds R => ∃ (f : Fr) (x : Str), ds = [f.enc, .str x] ∧ FrOk f ∧ x.length ≤ 2000 ∧ R (.sh (.bool (isLine f x)))
-- is_line(frame, string) slots: 0=frame* 1=string 2=sign
def q_is_line : QS :=
  (qRet (qAndV (qOp opEq (qUn opLen (qVar 1)) (qCall 1 P_size_of (qCons (qVar 0) qNil))) (qUn opAll (qLc [2] (qiS (qVar 1)) (qgN 2) qYes (qOp (opInW id) (qVar 2) (qOp opIx (qVar 0) (qC (.int 0))))))))
theorem boolsOf_map' {α : Type} (g : α → Bool) : ∀ xs : List α, boolsOf (xs.map fun x => .bool (g x)) = some (xs.map g)
  | [] => rfl
  | x :: r => by simp [boolsOf, boolsOf_map' g r]
theorem flat_int (i : Int) : flat 60 (.int i) = true := rfl
theorem eqv_nat (a b : Nat) : PyData.eqv (.int a) (.int b) = (a == b) := by
  have := eqv_keyD (.inl (a : Int)) (.inl (b : Int))
  show PyData.eqv (keyD (.inl (a : Int))) (keyD (.inl (b : Int))) = _
  rw [this, Bool.beq_eq_decide_eq]
  apply decide_eq_decide.mpr
  simp
  omega
theorem eqv_int (a b : Int) : PyData.eqv (.int a) (.int b) = decide (a = b) := by
  have := eqv_keyD (.inl a) (.inl b)
  show PyData.eqv (keyD (.inl a)) (keyD (.inl b)) = _
  rw [this]
  apply decide_eq_decide.mpr
  simp
theorem pure_is_line : ∀ ds R, ds.length = 2 → P_is_line ds R → q_is_line (endsOf R) (startEv 3 ds) := by
  rintro ds R - ⟨f, x, rfl, ok, hx, h⟩
  ac_rfl
  refine ⟨small (by omega), ?_⟩
  ac_rfl
  refine ⟨f, rfl, ok, ?_⟩
  ac_rfl
  rw [eqv_nat]
  refine ⟨fun hz => ?_, fun hz => ?_⟩
  · ac_rfl
    refine lc0_map (vs := [2]) signD (fun c => .bool (decide (c ∈ tl f.s))) _ (fun c hc acc K ha hK => ?_) ?_ ?_
    · ac_rfl
      exact hK
    · rw [tl_len]
      exact small (by omega)
    · ac_rfl
      rw [boolsOf_map']
      ac_rfl
      have e : isLine f x = ((tl x).map fun c => decide (c ∈ tl f.s)).all id := by
        unfold isLine
        rw [hz, List.all_map]
        rfl
      rw [e] at h
      exact h
  · ac_rfl
    have e : isLine f x = false := by unfold isLine; rw [hz]; rfl
    rw [e] at h
    exact h
theorem isLine_in {f : Fr} {x : Str} (h : isLine f x = true) : x.length = f.n ∧ InL f x := by
  unfold isLine at h
  simp only [Bool.and_eq_true, beq_iff_eq, List.all_eq_true, decide_eq_true_eq] at h
  exact h
def isGood (f : Fr) (x : Str) : Bool := isLine f x && rem f x == zerosL f
def P_is_good : PD := fun ds R => ∃ (f : Fr) (x : Str), ds = [f.enc, .str x] ∧ FrOk f ∧ x.length ≤ 2000 ∧ R (.sh (.bool (isGood f x)))
-- is_good(frame, string) slots: 0=frame 1=string
def q_is_good : QS :=
  (qRet (qAndV (qCall 2 P_is_line (qCons (qVar 0) (qCons (qVar 1) qNil))) (qOp opEq (qCall 2 P_remainders (qCons (qVar 0) (qCons (qVar 1) qNil))) (qCall 1 P_zeros (qCons (qVar 0) qNil)))))
theorem pure_is_good : ∀ ds R, ds.length = 2 → P_is_good ds R → q_is_good (endsOf R) (startEv 2 ds) := by
  rintro ds R - ⟨f, x, rfl, ok, hx, h⟩
  have hn := ok.n2
  ac_rfl
  refine ⟨f, x, rfl, ok, hx, ?_⟩
  ac_rfl
  refine ⟨fun hz => ?_, fun hz => ?_⟩
  · have hl := isLine_in hz
    ac_rfl
    refine ⟨f, x, rfl, ok, hl.2, by omega, ?_⟩
    ac_rfl
    refine ⟨f, rfl, ok, ?_⟩
    ac_rfl
    refine ⟨by rw [flat_tupI, flat_tupI]; rfl, ?_⟩
    rw [eqv_tupI]
    ac_rfl
    unfold isGood at h
    rw [hz] at h
    exact h
  · ac_rfl
    unfold isGood at h
    rw [hz] at h
    exact h
def apartN (x y : Str) : Nat := ((List.range x.length).filter fun k => (tl x)[k]? != (tl y)[k]?).length
def P_apart : PD := fun ds R => ∃ x y : Str, ds = [.str x, .str y] ∧ x.length = y.length ∧ x.length ≤ 1000 ∧ R (.sh (.int (apartN x y)))
theorem eqv_str (a b : Str) : PyData.eqv (.str a) (.str b) = decide (a = b) := by
  have := eqv_keyD (.inr a) (.inr b)
  show PyData.eqv (keyD (.inr a)) (keyD (.inr b)) = _
  rw [this]
  apply decide_eq_decide.mpr
  simp
theorem sign_inj (a b : Nat) : decide ((⟨#[a]⟩ : Str) = ⟨#[b]⟩) = decide (a = b) := by
  apply decide_eq_decide.mpr
  simp
end PL

set_option pp.maxSteps 1500
namespace PL
open PySem PySem.Spec PyProof.Rows L2
local macro_rules | `(tactic| ac_rfl) => `(tactic| ((conv => whnf); repeat ((first | refine Cif.yes ?_ | refine Cif.no ?_ | (refine And.intro ?_ ?_; · first | (show _ ≤ (_ : Int); omega) | (show _ < (_ : Int); omega) | assumption | exact trivial | exact rfl | (refine small ?_; first | omega | (simp only [List.length_map, List.length_cons, List.length_nil, List.length_append]; omega)) | (refine ltsmall ?_; first | omega | (simp only [List.length_map, List.length_cons, List.length_nil, List.length_append]; omega)) | (refine cdiv ?_ ?_ <;> omega) | (refine cmulR ?_ ?_ <;> omega) | (refine cmulL ?_ ?_ <;> omega) | (refine ⟨?_, ?_, ?_, ?_⟩ <;> omega))); (conv => whnf))))
local macro_rules | `(tactic| exists $e) => `(tactic| first | exact $e | exact And.right $e | exact And.right (And.right $e) | exact And.right (And.right (And.right $e)))
theorem Cif.tt {c : Bool} {A B : Prop} (e : c = true) (h : A) : Cif c A B := by
  subst e
  exact Cif.yes h
theorem Cif.ff {c : Bool} {A B : Prop} (e : c = false) (h : B) : Cif c A B := by
  subst e
  exact Cif.no h
def intsD (ns : List Int) : D := .list (ns.map .int)
def scrD (ns : List Int) : D := .dict [(.none, intsD ns)]
-- _law_cell(script, k) slots: 0=script 1=k
def q__law_cell : QS :=
  (qSeq (qIfS (qB (qOp opLt (qVar 1) (qUn opLen (qVar 0))))
   (qRet (qUn opInt (qOp opIx (qVar 0) (qVar 1))))
   qNext)
  (qRet (qC (.int 0))))
def P__law_cell : PD := fun ds R => ∃ (ns : List Int) (k : Nat), ds = [scrD ns, .int k] ∧ ns.length ≤ 63 ∧ ∀ i, R (.sh (.int i))
theorem pure__law_cell : ∀ ds R, ds.length = 2 → P__law_cell ds R → q__law_cell (endsOf R) (startEv 2 ds) := by
  rintro ds R - ⟨ns, k, rfl, hl, h⟩
  ac_rfl
  refine ⟨fun hz => ?_, fun hz => ?_⟩
  · have hk : k < ns.length := by
      have := of_decide_eq_true hz
      simp at this
      omega
    ac_rfl
    rw [ixD_map _ (List.getElem?_eq_getElem hk)]
    ac_rfl
    exact h _
  · ac_rfl
    exact h _
-- _law_numbers(cell, count, limit) slots: 0=cell 1=count 2=limit 3=found 4=k 5=mixed
def q__law_numbers : QS :=
  (qSeq (qAsg (qLst qNil) (qgN 3))
  (qSeq (qIfS (qB (qOp opGe (qVar 0) (qOp opPow (qC (.int 10)) (qC (.int 18)))))
   (qSeq (qFor (qiR1 (qCons (qVar 1) qNil)) (qgN 4)
    (qSeq (qDrop (qApp 3 (qOp opMod (qUn opInt (qVar 0)) (qVar 2))))
    (qAsg (qOp opFdiv (qUn opInt (qVar 0)) (qVar 2)) (qgN 0))))
   (qRet (qVar 3)))
   qNext)
  (qSeq (qFor (qiR1 (qCons (qVar 1) qNil)) (qgN 4)
   (qSeq (qAsg (qOp opMod (qUn opInt (qOp opAdd (qOp opAdd (qOp opMul (qVar 0) (qC (.int 48271))) (qOp opMul (qVar 4) (qC (.int 69621)))) (qC (.int 7)))) (qC (.int 2147483647))) (qgN 5))
   (qSeq (qAsg (qOp opMod (qUn opInt (qOp opAdd (qOp opAdd (qOp opAdd (qOp opMul (qVar 5) (qVar 5)) (qOp opMul (qVar 5) (qC (.int 40692)))) (qOp opMul (qVar 4) (qC (.int 16807)))) (qC (.int 11)))) (qC (.int 2147483399))) (qgN 5))
   (qDrop (qApp 3 (qOp opMod (qUn opInt (qOp opFdiv (qVar 5) (qC (.int 32)))) (qVar 2)))))))
  (qRet (qVar 3)))))
def P__law_numbers : PD := fun ds R => ∃ (c : Int) (n : Nat) (l : Int), ds = [.int c, .int n, .int l] ∧ n ≤ 1000 ∧ 0 < l ∧ l < 1073741824 ∧ ∀ ns : List Int, ns.length = n → (∀ x ∈ ns, 0 ≤ x ∧ x < l) → R (.ow (.l (ns.map .int)))
theorem map_snoc (ns : List Int) (x : Int) : ns.map PyData.int ++ [.int x] = (ns ++ [x]).map .int := by simp
theorem app_in {ns : List Int} {l x : Int} (h : ∀ x ∈ ns, 0 ≤ x ∧ x < l) (h0 : 0 ≤ x) (h1 : x < l) : ∀ y ∈ ns ++ [x], 0 ≤ y ∧ y < l := by
  intro y hy
  rcases List.mem_append.mp hy with hy | hy
  · exact h y hy
  · simp at hy
    subst hy
    exact ⟨h0, h1⟩
theorem pure__law_numbers : ∀ ds R, ds.length = 3 → P__law_numbers ds R → q__law_numbers (endsOf R) (startEv 6 ds) := by
  rintro ds R - ⟨c, n, l, rfl, hn, h0, h1, h⟩
  ac_rfl
  refine ⟨⟨by decide, by decide, by decide⟩, ?_⟩
  ac_rfl
  refine ⟨fun hz => ?_, fun hz => ?_⟩
  · clear hz
    ac_rfl
    refine forGo_ok (fun i : Nat => .int (i : Int)) (fun r Γ => ∃ (c : Int) (ns : List Int) (a b : Sl), Γ = [.sh (.int c), .sh (.int n), .sh (.int l), .ow (.l (ns.map .int)), a, b] ∧ ns.length + r.length = n ∧ ∀ x ∈ ns, 0 ≤ x ∧ x < l) ?_ ?_ _ _ ⟨c, [], _, _, rfl, by simp, by simp⟩
    · rintro Γ ⟨c, ns, a, b, rfl, hl, hr⟩
      ac_rfl
      exact h ns (by simpa using hl) hr
    · rintro i r Γ K ⟨c, ns, a, b, rfl, hl, hr⟩ hK
      simp only [List.length_cons] at hl
      ac_rfl
      exact hK _ ⟨_, ns ++ [c % l], _, _, congrArg (fun z => [_, _, _, Sl.ow (.l z), _, _]) (map_snoc ns _), by simp; omega, app_in hr (Int.emod_nonneg _ (by omega)) (Int.emod_lt_of_pos _ h0)⟩
  · clear hz
    ac_rfl
    refine forGo_ok (fun i : Nat => .int (i : Int)) (fun r Γ => ∃ (ns : List Int) (a b : Sl), Γ = [.sh (.int c), .sh (.int n), .sh (.int l), .ow (.l (ns.map .int)), a, b] ∧ ns.length + r.length = n ∧ ∀ x ∈ ns, 0 ≤ x ∧ x < l) ?_ ?_ _ _ ⟨[], _, _, rfl, by simp, by simp⟩
    · rintro Γ ⟨ns, a, b, rfl, hl, hr⟩
      ac_rfl
      exact h ns (by simpa using hl) hr
    · rintro i r Γ K ⟨ns, a, b, rfl, hl, hr⟩ hK
      simp only [List.length_cons] at hl
      ac_rfl
      exact hK _ ⟨ns ++ [_ % l], _, _, congrArg (fun z => [_, _, _, Sl.ow (.l z), _, _]) (map_snoc ns _), by simp; omega, app_in hr (Int.emod_nonneg _ (by omega)) (Int.emod_lt_of_pos _ h0)⟩

/-- nested data without dicts, n levels deep at most -/
def sameOk : Nat → D → Bool
  | 0, _ => false
  | n + 1, d => match d with
    | .list xs => decide (xs.length ≤ 1000000) && xs.all (sameOk n)
    | .tuple xs => decide (xs.length ≤ 1000000) && xs.all (sameOk n)
    | .dict _ => false
    | _ => true
/-- the same of itself -/
def PR__law_same : Nat → PD
  | 0 => fun _ _ => False
  | n + 1 => fun ds R => ∃ d, ds = [d, d] ∧ sameOk (n + 1) d = true ∧ R (.sh (.bool true))
def P__law_same : PD := PR__law_same 4
-- _law_same(told, due) slots: 0=told 1=due 2=k
def q__law_same (PR : PD) : QS :=
  (qSeq (qIfS (qB (qUn (opIsi "list") (qVar 1)))
   (qIfS (qOr (qNot (qB (qUn (opIsi "list") (qVar 0)))) (qB (qOp opNe (qUn opLen (qVar 0)) (qUn opLen (qVar 1)))))
    (qRet (qC (.bool false)))
    qNext)
   (qIfS (qB (qUn (opIsi "tuple") (qVar 1)))
    (qIfS (qOr (qNot (qB (qUn (opIsi "tuple") (qVar 0)))) (qB (qOp opNe (qUn opLen (qVar 0)) (qUn opLen (qVar 1)))))
     (qRet (qC (.bool false)))
     qNext)
    (qIfS (qB (qOp opIs (qVar 1) (qC .none)))
     (qRet (qOp opIs (qVar 0) (qC .none)))
     (qIfS (qB (qUn (opIsi "bool") (qVar 1)))
      (qRet (qAndV (qUn (opIsi "bool") (qVar 0)) (qOp opEq (qVar 0) (qVar 1))))
      (qIfS (qB (qUn (opIsi "int") (qVar 1)))
       (qRet (qAndV (qUn (opIsi "int") (qVar 0)) (qAndV (qNotV (qUn (opIsi "bool") (qVar 0))) (qOp opEq (qVar 0) (qVar 1)))))
       (qRet (qAndV (qUn (opIsi "str") (qVar 0)) (qOp opEq (qVar 0) (qVar 1)))))))))
  (qSeq (qFor (qiR1 (qCons (qUn opLen (qVar 1)) qNil)) (qgN 2)
   (qIfS (qNot (qB (qCall 2 PR (qCons (qOp opIx (qVar 0) (qVar 2)) (qCons (qOp opIx (qVar 1) (qVar 2)) qNil)))))
    (qRet (qC (.bool false)))
    qNext))
  (qRet (qC (.bool true)))))
theorem eqv_bool (a b : Bool) : PyData.eqv (.bool a) (.bool b) = decide (a = b) := by
  cases a <;> cases b <;> rfl
theorem pure__law_same (m : Nat) : ∀ ds R, ds.length = 2 → PR__law_same (m + 1) ds R → q__law_same (PR__law_same m) (endsOf R) (startEv 3 ds) := by
  rintro ds R - ⟨d, rfl, hd, h⟩
  cases d with
  | none =>
    ac_rfl
    exact h
  | bool b =>
    ac_rfl
    rw [eqv_bool]
    have e : decide (b = b) = true := by simp
    rw [e]
    exact h
  | int i =>
    ac_rfl
    rw [eqv_int]
    have e : decide (i = i) = true := by simp
    rw [e]
    exact h
  | str x =>
    ac_rfl
    rw [eqv_str]
    have e : decide (x = x) = true := by simp
    rw [e]
    exact h
  | dict _ => cases hd
  | list v =>
    simp only [sameOk, Bool.and_eq_true, decide_eq_true_eq, List.all_eq_true] at hd
    ac_rfl
    rw [eqv_int]
    refine Cif.ff (by simp) ?_
    ac_rfl
    refine forGo_ok (fun i : Nat => .int (i : Int)) (fun r Γ => ∃ a, Γ = [.sh (.list v), .sh (.list v), a] ∧ ∀ i ∈ r, i < v.length) ?_ ?_ _ _ ⟨_, rfl, by simp⟩
    · rintro Γ ⟨a, rfl, hr⟩
      ac_rfl
      exact h
    · rintro i r Γ K ⟨a, rfl, hr⟩ hK
      have hi := hr i (by simp)
      have e : v[i]? = some v[i] := List.getElem?_eq_getElem hi
      ac_rfl
      rw [ixD_nat e]
      ac_rfl
      rw [ixD_nat e]
      ac_rfl
      have hdi := hd.2 _ (List.getElem_mem hi)
      cases m with
      | zero => cases hdi
      | succ m =>
      refine ⟨_, rfl, hdi, ?_⟩
      ac_rfl
      exact hK _ ⟨_, rfl, fun j hj => hr j (List.mem_cons_of_mem _ hj)⟩
  | tuple v =>
    simp only [sameOk, Bool.and_eq_true, decide_eq_true_eq, List.all_eq_true] at hd
    ac_rfl
    rw [eqv_int]
    refine Cif.ff (by simp) ?_
    ac_rfl
    refine forGo_ok (fun i : Nat => .int (i : Int)) (fun r Γ => ∃ a, Γ = [.sh (.tuple v), .sh (.tuple v), a] ∧ ∀ i ∈ r, i < v.length) ?_ ?_ _ _ ⟨_, rfl, by simp⟩
    · rintro Γ ⟨a, rfl, hr⟩
      ac_rfl
      exact h
    · rintro i r Γ K ⟨a, rfl, hr⟩ hK
      have hi := hr i (by simp)
      have e : v[i]? = some v[i] := List.getElem?_eq_getElem hi
      ac_rfl
      rw [ixD_nat e]
      ac_rfl
      rw [ixD_nat e]
      ac_rfl
      have hdi := hd.2 _ (List.getElem_mem hi)
      cases m with
      | zero => cases hdi
      | succ m =>
      refine ⟨_, rfl, hdi, ?_⟩
      ac_rfl
      exact hK _ ⟨_, rfl, fun j hj => hr j (List.mem_cons_of_mem _ hj)⟩
theorem strsOf_map' {α : Type} (g : α → Str) : ∀ xs : List α, strsOf (xs.map fun x => .str (g x)) = some (xs.map g)
  | [] => rfl
  | x :: r => by simp [strsOf, strsOf_map' g r]
theorem join_signs : ∀ cs : List Nat, tl (Str.join Str.empty (cs.map fun c => ⟨#[c]⟩)) = cs
  | [] => rfl
  | [c] => rfl
  | c :: d :: r => by
    have ih := join_signs (d :: r)
    show tl ((⟨#[c]⟩ : Str) ++ Str.empty ++ Str.join Str.empty ((d :: r).map fun c => ⟨#[c]⟩)) = _
    rw [tl_app, tl_app, ih]
    rfl
theorem nodup_inj {l : List Nat} (h : l.Nodup) {i j : Nat} {hi : i < l.length} {hj : j < l.length} (e : l[i] = l[j]) : i = j := by
  have p := List.pairwise_iff_getElem.mp h
  rcases Nat.lt_trichotomy i j with q | q | q
  · exact absurd e (p i j hi hj q)
  · exact q
  · exact absurd e.symm (p j i hj hi q)
abbrev knownS : Str := Str.ofString " !\"#$&'()*+,-./0123456789:;<=>?@ABCDEFGHIJKLMNOPQRSTUVWXYZ[\\]^_`abcdefghijklmnopqrstuvwxyz{|}~"
end PL

namespace PL
open PySem PySem.Spec PyProof.Rows L2
/-! ### the machine frame -/
abbrev sgnS : Str := txt "0123456789ABCDEFGHIJKLMNOPQRSTUVWXYZ<"
def mR2 : List Int := (List.range 36).map fun i : Nat => 1 + (i : Int)
def mF : Fr := ⟨sgnS, [List.replicate 36 1, mR2]⟩
theorem tl_sgn : tl sgnS = [48, 49, 50, 51, 52, 53, 54, 55, 56, 57, 65, 66, 67, 68, 69, 70, 71, 72, 73, 74, 75, 76, 77, 78, 79, 80, 81, 82, 83, 84, 85, 86, 87, 88, 89, 90, 60] := by decide +kernel
theorem mF_m : mF.m = 37 := by
  show sgnS.length = 37
  rw [← tl_len, tl_sgn]
  rfl
theorem mF_n : mF.n = 36 := rfl
def isSg (c : Nat) : Bool := (decide (48 ≤ c) && decide (c ≤ 57)) || (decide (65 ≤ c) && decide (c ≤ 90)) || c == 60
theorem mem_sgn {c : Nat} : c ∈ tl mF.s ↔ isSg c = true := by
  show c ∈ tl sgnS ↔ _
  rw [tl_sgn]
  unfold isSg
  simp
  omega
theorem mF_ok : FrOk mF := by
  refine ⟨by rw [mF_m]; omega, by rw [mF_m]; omega, ?_, ?_, by decide, by decide, by rw [mF_n]; omega, by rw [mF_n]; omega, ?_⟩
  · show (tl sgnS).Nodup
    rw [tl_sgn]
    decide
  · intro r hr
    rw [mF_n]
    simp only [mF, List.mem_cons, List.not_mem_nil, or_false] at hr
    rcases hr with rfl | rfl
    · simp
    · simp [mR2]
  · intro r hr w hw
    simp only [mF, List.mem_cons, List.not_mem_nil, or_false] at hr
    rcases hr with rfl | rfl
    · have := List.eq_of_mem_replicate hw
      omega
    · obtain ⟨i, hi, rfl⟩ := List.mem_map.mp hw
      have := List.mem_range.mp hi
      omega
/-! ### sums -/
def sm : List Nat → Int
  | [] => 0
  | w :: r => (w : Int) + sm r
def pl (k : Nat) : List Nat → Int
  | [] => 0
  | w :: r => ((k : Int) + 1) * (w : Int) + pl (k + 1) r
theorem sm_sum : ∀ ws : List Nat, (ws.map fun n : Nat => (n : Int)).sum = sm ws
  | [] => rfl
  | w :: r => by
    rw [List.map_cons, List.sum_cons, sm_sum r]
    rfl
theorem pl_sum : ∀ (ws : List Nat) (k : Nat), ((ws.zipIdx k).map fun p => ((p.2 : Int) + 1) * (p.1 : Int)).sum = pl k ws
  | [], _ => rfl
  | w :: r, k => by
    rw [List.zipIdx_cons, List.map_cons, List.sum_cons, pl_sum r (k + 1)]
    rfl
theorem sm_app : ∀ a b : List Nat, sm (a ++ b) = sm a + sm b
  | [], b => by simp [sm]
  | w :: r, b => by
    show (w : Int) + sm (r ++ b) = (w : Int) + sm r + sm b
    rw [sm_app r b]
    omega
theorem pl_app : ∀ (a b : List Nat) (k : Nat), pl k (a ++ b) = pl k a + pl (k + a.length) b
  | [], b, k => by simp [pl]
  | w :: r, b, k => by
    show ((k : Int) + 1) * (w : Int) + pl (k + 1) (r ++ b) = ((k : Int) + 1) * (w : Int) + pl (k + 1) r + pl (k + (r.length + 1)) b
    rw [pl_app r b, show k + 1 + r.length = k + (r.length + 1) by omega]
    omega
theorem dot_ones : ∀ (n : Nat) (ws : List Nat), ws.length ≤ n → dotI (List.replicate n 1) ws = sm ws
  | n, [], _ => by cases n <;> rfl
  | 0, w :: r, h => by simp at h
  | n + 1, w :: r, h => by
    show 1 * (w : Int) + dotI (List.replicate n 1) r = (w : Int) + sm r
    rw [dot_ones n r (by simpa using h)]
    omega
theorem dot_up : ∀ (n k : Nat) (ws : List Nat), ws.length ≤ n → dotI ((List.range' k n).map fun i : Nat => 1 + (i : Int)) ws = pl k ws
  | n, k, [], _ => by cases n <;> rfl
  | 0, k, w :: r, h => by simp at h
  | n + 1, k, w :: r, h => by
    rw [List.range'_succ, List.map_cons]
    show (1 + (k : Int)) * (w : Int) + dotI ((List.range' (k + 1) n).map fun i : Nat => 1 + (i : Int)) r = ((k : Int) + 1) * (w : Int) + pl (k + 1) r
    rw [dot_up n (k + 1) r (by simpa using h), show (1 + (k : Int)) = (k : Int) + 1 by omega]
def vals (x : Str) : List Nat := worths mF x
theorem vals_len (x : Str) : (vals x).length = x.length := by
  unfold vals worths
  rw [List.length_map, tl_len]
theorem rem_mF {x : Str} (hx : x.length ≤ 36) : rem mF x = [sm (vals x) % 37, pl 0 (vals x) % 37] := by
  unfold rem
  rw [mF_m]
  show [dotI (List.replicate 36 1) (vals x) % 37, dotI mR2 (vals x) % 37] = _
  rw [dot_ones 36 _ (by rw [vals_len]; exact hx)]
  have := dot_up 36 0 (vals x) (by rw [vals_len]; exact hx)
  rw [← List.range_eq_range'] at this
  rw [show mR2 = (List.range 36).map fun i : Nat => 1 + (i : Int) from rfl, this]
theorem good_mF {x : Str} : isGood mF x = ((x.length == 36 && (tl x).all isSg) && (sm (vals x) % 37 == 0 && pl 0 (vals x) % 37 == 0)) := by
  have e1 : isLine mF x = (x.length == 36 && (tl x).all isSg) := by
    unfold isLine
    rw [mF_n]
    have e : (fun c => decide (c ∈ tl mF.s)) = isSg := by
      funext c
      rw [Bool.eq_iff_iff, decide_eq_true_eq]
      exact mem_sgn
    rw [e]
  unfold isGood
  rw [e1]
  cases h : (x.length == 36 && (tl x).all isSg) with
  | false => rfl
  | true =>
    have hx : x.length = 36 := by
      simp only [Bool.and_eq_true, beq_iff_eq] at h
      exact h.1
    rw [rem_mF (by omega)]
    show ([sm (vals x) % 37, pl 0 (vals x) % 37] == [0, 0]) = _
    simp [Bool.beq_eq_decide_eq]
/-! ### check signs -/
def chkL (ws : List Nat) : Int := (35 * sm ws - pl 0 ws) % 37
def chkO (ws : List Nat) : Int := (-(sm ws) - chkL ws) % 37
def sgI (i : Int) : Nat := (tl sgnS)[i.toNat]?.getD 0
def chk (x : Str) : List Nat := [sgI (chkO (vals x)), sgI (chkL (vals x))]
theorem chkL_in (ws : List Nat) : 0 ≤ chkL ws ∧ chkL ws < 37 := ⟨Int.emod_nonneg _ (by decide), Int.emod_lt_of_pos _ (by decide)⟩
theorem chkO_in (ws : List Nat) : 0 ≤ chkO ws ∧ chkO ws < 37 := ⟨Int.emod_nonneg _ (by decide), Int.emod_lt_of_pos _ (by decide)⟩
theorem sgI_get {i : Int} (h0 : 0 ≤ i) (h1 : i < 37) : ixD (tl sgnS) i = some (sgI i) := by
  obtain ⟨n, rfl⟩ : ∃ n : Nat, i = n := ⟨i.toNat, by omega⟩
  show (tl sgnS)[n]? = some ((tl sgnS)[((n : Nat) : Int).toNat]?.getD 0)
  rw [show ((n : Nat) : Int).toNat = n by simp, List.getElem?_eq_getElem (by rw [tl_sgn]; simp; omega)]
  rfl
theorem sgI_idx {i : Int} (h0 : 0 ≤ i) (h1 : i < 37) : ((idx mF (sgI i) : Nat) : Int) = i ∧ isSg (sgI i) = true := by
  obtain ⟨n, rfl⟩ : ∃ n : Nat, i = n := ⟨i.toNat, by omega⟩
  have hn : n < 37 := by omega
  unfold sgI idx isSg
  show (((tl sgnS).idxOf ((tl sgnS)[((n : Nat) : Int).toNat]?.getD 0) : Nat) : Int) = _ ∧ _
  rw [show ((n : Nat) : Int).toNat = n by simp, tl_sgn]
  have : ∀ n, n < 37 → ([48, 49, 50, 51, 52, 53, 54, 55, 56, 57, 65, 66, 67, 68, 69, 70, 71, 72, 73, 74, 75, 76, 77, 78, 79, 80, 81, 82, 83, 84, 85, 86, 87, 88, 89, 90, 60] : List Nat).idxOf (([48, 49, 50, 51, 52, 53, 54, 55, 56, 57, 65, 66, 67, 68, 69, 70, 71, 72, 73, 74, 75, 76, 77, 78, 79, 80, 81, 82, 83, 84, 85, 86, 87, 88, 89, 90, 60] : List Nat)[n]?.getD 0) = n ∧ ((decide (48 ≤ ([48, 49, 50, 51, 52, 53, 54, 55, 56, 57, 65, 66, 67, 68, 69, 70, 71, 72, 73, 74, 75, 76, 77, 78, 79, 80, 81, 82, 83, 84, 85, 86, 87, 88, 89, 90, 60] : List Nat)[n]?.getD 0) && decide (([48, 49, 50, 51, 52, 53, 54, 55, 56, 57, 65, 66, 67, 68, 69, 70, 71, 72, 73, 74, 75, 76, 77, 78, 79, 80, 81, 82, 83, 84, 85, 86, 87, 88, 89, 90, 60] : List Nat)[n]?.getD 0 ≤ 57)) || (decide (65 ≤ ([48, 49, 50, 51, 52, 53, 54, 55, 56, 57, 65, 66, 67, 68, 69, 70, 71, 72, 73, 74, 75, 76, 77, 78, 79, 80, 81, 82, 83, 84, 85, 86, 87, 88, 89, 90, 60] : List Nat)[n]?.getD 0) && decide (([48, 49, 50, 51, 52, 53, 54, 55, 56, 57, 65, 66, 67, 68, 69, 70, 71, 72, 73, 74, 75, 76, 77, 78, 79, 80, 81, 82, 83, 84, 85, 86, 87, 88, 89, 90, 60] : List Nat)[n]?.getD 0 ≤ 90)) || ([48, 49, 50, 51, 52, 53, 54, 55, 56, 57, 65, 66, 67, 68, 69, 70, 71, 72, 73, 74, 75, 76, 77, 78, 79, 80, 81, 82, 83, 84, 85, 86, 87, 88, 89, 90, 60] : List Nat)[n]?.getD 0 == 60) = true := by decide +kernel
  obtain ⟨a, b⟩ := this n hn
  exact ⟨by rw [a], b⟩
def lineS (x : Str) : Str := asStr (tl x ++ chk x)
theorem tl_as (cs : List Nat) : tl (asStr cs) = cs := rfl
theorem as_tl (x : Str) : asStr (tl x) = x := str_ext rfl
theorem as_len (cs : List Nat) : (asStr cs).length = cs.length := by
  rw [← tl_len, tl_as]
theorem line_good {x : Str} (hx : x.length = 34) (hs : ∀ c ∈ tl x, isSg c = true) : isGood mF (lineS x) = true := by
  obtain ⟨o0, o1⟩ := chkO_in (vals x)
  obtain ⟨l0, l1⟩ := chkL_in (vals x)
  obtain ⟨io, so⟩ := sgI_idx o0 o1
  obtain ⟨il, sl⟩ := sgI_idx l0 l1
  have hv : vals (lineS x) = vals x ++ [idx mF (sgI (chkO (vals x))), idx mF (sgI (chkL (vals x)))] := by
    show (tl x ++ chk x).map (idx mF) = (tl x).map (idx mF) ++ _
    rw [List.map_append]
    rfl
  have hl : (lineS x).length = 36 := by
    unfold lineS
    rw [as_len, List.length_append, tl_len, hx]
    rfl
  rw [good_mF, hl, hv, sm_app, pl_app, vals_len, hx]
  simp only [Bool.and_eq_true, beq_iff_eq, List.all_eq_true, sm, pl]
  refine ⟨⟨trivial, fun c hc => ?_⟩, ?_, ?_⟩
  · have hc : c ∈ tl x ++ chk x := hc
    rcases List.mem_append.mp hc with hc | hc
    · exact hs c hc
    · simp only [chk, List.mem_cons, List.not_mem_nil, or_false] at hc
      rcases hc with rfl | rfl
      · exact so
      · exact sl
  · rw [io, il]
    unfold chkO at *
    omega
  · rw [io, il]
    unfold chkO chkL at *
    omega
/-! ### words -/
def fcap (c : Nat) : Nat := if 65 ≤ up1 c ∧ up1 c ≤ 90 then up1 c else 32
def wds (cs : List Nat) : List (List Nat) := wordsL (cs.map fcap)
def Cap (c : Nat) : Prop := 65 ≤ c ∧ c ≤ 90
def CapW (ws : List (List Nat)) : Prop := ∀ w ∈ ws, w ≠ [] ∧ ∀ c ∈ w, Cap c
theorem space_32 : Unicode.isSpace 32 = true := by decide +kernel
theorem space_cap : ∀ c, c < 91 → 65 ≤ c → Unicode.isSpace c = false := by decide +kernel
theorem fcap_or (c : Nat) : fcap c = 32 ∨ Cap (fcap c) := by
  unfold fcap
  split
  · rename_i h
    exact .inr h
  · exact .inl rfl
theorem wstep_space (st : List (List Nat) × List Nat) : TL.wstep st 32 = if st.2 = [] then st else (st.1 ++ [st.2], []) := if_pos space_32
theorem wstep_cap (st : List (List Nat) × List Nat) {c : Nat} (h : Cap c) : TL.wstep st c = (st.1, st.2 ++ [c]) := by
  unfold TL.wstep
  rw [if_neg]
  rw [space_cap c (by have := h.2; omega) h.1]
  exact Bool.false_ne_true
def stOk (st : List (List Nat) × List Nat) : Prop := CapW st.1 ∧ ∀ c ∈ st.2, Cap c
theorem stOk_step {st : List (List Nat) × List Nat} (h : stOk st) (d : Nat) : stOk (TL.wstep st (fcap d)) := by
  rcases fcap_or d with e | e
  · rw [e, wstep_space]
    by_cases h2 : st.2 = []
    · rw [if_pos h2]
      exact h
    · rw [if_neg h2]
      refine ⟨fun w hw => ?_, fun c hc => (List.not_mem_nil hc).elim⟩
      rcases List.mem_append.mp hw with hw | hw
      · exact h.1 w hw
      · have : w = st.2 := by simpa using hw
        subst this
        exact ⟨h2, h.2⟩
  · rw [wstep_cap st e]
    refine ⟨h.1, fun c hc => ?_⟩
    rcases List.mem_append.mp hc with hc | hc
    · exact h.2 c hc
    · have : c = fcap d := by simpa using hc
      subst this
      exact e
theorem stOk_fold : ∀ (cs : List Nat) (st : List (List Nat) × List Nat), stOk st → stOk ((cs.map fcap).foldl TL.wstep st)
  | [], st, h => h
  | c :: r, st, h => stOk_fold r _ (stOk_step h c)
theorem wds_cap (cs : List Nat) : CapW (wds cs) := by
  have h := stOk_fold cs ([], []) ⟨fun w hw => (List.not_mem_nil hw).elim, fun c hc => (List.not_mem_nil hc).elim⟩
  unfold wds wordsL TL.wfin
  split
  · exact h.1
  · rename_i h2
    intro w hw
    rcases List.mem_append.mp hw with hw | hw
    · exact h.1 w hw
    · have : w = ((cs.map fcap).foldl TL.wstep ([], [])).2 := by simpa using hw
      subst this
      exact ⟨h2, h.2⟩
theorem wds_end (cs : List Nat) : TL.wstep ((cs.map fcap).foldl TL.wstep ([], [])) 32 = (wds cs, []) := by
  rw [wstep_space]
  unfold wds wordsL TL.wfin
  by_cases h2 : ((cs.map fcap).foldl TL.wstep ([], [])).2 = []
  · rw [if_pos h2, if_pos h2]
    exact Prod.ext rfl h2
  · rw [if_neg h2, if_neg h2]
/-- a letter makes a word -/
theorem fold_ne : ∀ (cs : List Nat) (st : List (List Nat) × List Nat), (st.1 ≠ [] ∨ st.2 ≠ []) → (((cs.map fcap).foldl TL.wstep st).1 ≠ [] ∨ ((cs.map fcap).foldl TL.wstep st).2 ≠ [])
  | [], st, h => h
  | c :: r, st, h => by
    refine fold_ne r _ ?_
    rcases fcap_or c with e | e
    · rw [e, wstep_space]
      by_cases h2 : st.2 = []
      · rw [if_pos h2]
        exact h
      · rw [if_neg h2]
        exact .inl (by simp)
    · rw [wstep_cap st e]
      exact .inr (by simp)
theorem fold_letter : ∀ (cs : List Nat) (st : List (List Nat) × List Nat), (∃ c ∈ cs, Cap (fcap c)) → (((cs.map fcap).foldl TL.wstep st).1 ≠ [] ∨ ((cs.map fcap).foldl TL.wstep st).2 ≠ [])
  | [], st, h => by
    obtain ⟨c, hc, _⟩ := h
    cases hc
  | d :: r, st, h => by
    obtain ⟨c, hc, hcap⟩ := h
    rcases List.mem_cons.mp hc with rfl | hc
    · refine fold_ne r _ ?_
      rw [wstep_cap st hcap]
      exact .inr (by simp)
    · exact fold_letter r _ ⟨c, hc, hcap⟩
theorem wds_ne {cs : List Nat} (h : ∃ c ∈ cs, Cap (fcap c)) : wds cs ≠ [] := by
  have := fold_letter cs ([], []) h
  unfold wds wordsL TL.wfin
  split
  · rename_i h2
    rcases this with h | h
    · exact h
    · exact absurd h2 h
  · simp
theorem fold_len : ∀ (cs : List Nat) (st : List (List Nat) × List Nat), (((cs.map fcap).foldl TL.wstep st).1.map List.length).sum + ((cs.map fcap).foldl TL.wstep st).1.length + ((cs.map fcap).foldl TL.wstep st).2.length ≤ (st.1.map List.length).sum + st.1.length + st.2.length + cs.length
  | [], st => by simp
  | c :: r, st => by
    have ih := fold_len r (TL.wstep st (fcap c))
    have : ((TL.wstep st (fcap c)).1.map List.length).sum + (TL.wstep st (fcap c)).1.length + (TL.wstep st (fcap c)).2.length ≤ (st.1.map List.length).sum + st.1.length + st.2.length + 1 := by
      rcases fcap_or c with e | e
      · rw [e, wstep_space]
        by_cases h2 : st.2 = []
        · rw [if_pos h2]
          omega
        · rw [if_neg h2]
          simp
          omega
      · rw [wstep_cap st e]
        simp
        omega
    simp only [List.map_cons, List.foldl_cons, List.length_cons]
    omega
theorem wds_len (cs : List Nat) : ((wds cs).map List.length).sum + (wds cs).length ≤ cs.length + 1 := by
  have := fold_len cs ([], [])
  unfold wds wordsL TL.wfin
  split
  · simp at this
    omega
  · simp at this ⊢
    omega
/-! ### the field -/
def longs (ws : List (List Nat)) : List Nat := (List.range (ws.length - 1)).filter fun i => decide (1 < (ws[i + 1]?.getD []).length)
def stepW (ws : List (List Nat)) : List (List Nat) := match (longs ws).getLast? with
  | some i => ws.set (i + 1) ((ws[i + 1]?.getD []).take 1)
  | none => if 1 < ws.length then ws.dropLast else [(ws.headD []).take 24]
def jl (ws : List (List Nat)) : Nat := (ws.map List.length).sum + (ws.length - 1)
theorem sum_set : ∀ (ns : List Nat) (i v : Nat), i < ns.length → (ns.set i v).sum + ns[i]?.getD 0 = ns.sum + v
  | [], i, v, h => by simp at h
  | n :: r, 0, v, _ => by
    simp only [List.set_cons_zero, List.sum_cons, List.getElem?_cons_zero, Option.getD_some]
    omega
  | n :: r, i + 1, v, h => by
    have := sum_set r i v (by simpa using h)
    simp only [List.set_cons_succ, List.sum_cons, List.getElem?_cons_succ]
    omega
theorem longs_mem {ws : List (List Nat)} {i : Nat} (h : (longs ws).getLast? = some i) : i + 1 < ws.length ∧ 1 < (ws[i + 1]?.getD []).length := by
  have hm := List.mem_of_getLast? h
  unfold longs at hm
  rw [List.mem_filter, List.mem_range] at hm
  exact ⟨by omega, by simpa using hm.2⟩
theorem jl_step {ws : List (List Nat)} (h : 24 < jl ws) : jl (stepW ws) < jl ws := by
  unfold stepW
  cases hl : (longs ws).getLast? with
  | some i =>
    obtain ⟨h1, h2⟩ := longs_mem hl
    simp only
    have e := sum_set (ws.map List.length) (i + 1) ((ws[i + 1]?.getD []).take 1).length (by simpa using h1)
    rw [← List.map_set] at e
    rw [List.getElem?_map, List.getElem?_eq_getElem h1] at e
    rw [List.getElem?_eq_getElem h1] at h2 ⊢
    simp only [Option.map_some, Option.getD_some, List.length_take] at e h2 ⊢
    unfold jl
    rw [List.length_set]
    omega
  | none =>
    simp only
    by_cases h1 : 1 < ws.length
    · rw [if_pos h1]
      unfold jl at h ⊢
      have hne : ws ≠ [] := fun e => by rw [e] at h1; simp at h1
      have e := List.dropLast_concat_getLast hne
      have e2 := congrArg (fun z => (z.map List.length).sum) e
      simp only [List.map_append, List.sum_append, List.map_cons, List.map_nil, List.sum_cons, List.sum_nil] at e2
      rw [List.length_dropLast]
      omega
    · rw [if_neg h1]
      unfold jl at h ⊢
      cases ws with
      | nil => simp at h
      | cons w r =>
        cases r with
        | nil =>
          simp at h ⊢
          omega
        | cons w2 r => simp at h1
def fieldW (ws : List (List Nat)) : List (List Nat) := if h : 24 < jl ws then fieldW (stepW ws) else ws
termination_by jl ws
decreasing_by exact jl_step h
theorem fieldW_step {ws : List (List Nat)} (h : 24 < jl ws) : fieldW ws = fieldW (stepW ws) := by
  rw [fieldW, dif_pos h]
theorem fieldW_end {ws : List (List Nat)} (h : ¬ 24 < jl ws) : fieldW ws = ws := by
  rw [fieldW, dif_neg h]
theorem capW_set {ws : List (List Nat)} (h : CapW ws) (i : Nat) {w : List Nat} (h1 : w ≠ []) (h2 : ∀ c ∈ w, Cap c) : CapW (ws.set i w) := fun v hv => by
  rcases List.mem_or_eq_of_mem_set hv with hv | rfl
  · exact h v hv
  · exact ⟨h1, h2⟩
theorem stepW_cap {ws : List (List Nat)} (h : CapW ws) (hne : ws ≠ []) : CapW (stepW ws) ∧ stepW ws ≠ [] := by
  unfold stepW
  cases hl : (longs ws).getLast? with
  | some i =>
    obtain ⟨h1, h2⟩ := longs_mem hl
    simp only
    rw [List.getElem?_eq_getElem h1] at h2 ⊢
    simp only [Option.getD_some] at h2 ⊢
    have hw := h ws[i + 1] (List.getElem_mem h1)
    refine ⟨capW_set h _ (fun e => ?_) (fun c hc => hw.2 c (List.mem_of_mem_take hc)), fun e => ?_⟩
    · have := congrArg List.length e
      rw [List.length_take, List.length_nil] at this
      omega
    · have := congrArg List.length e
      simp at this
      exact hne this
  | none =>
    simp only
    by_cases h1 : 1 < ws.length
    · rw [if_pos h1]
      refine ⟨fun w hw => h w ((List.dropLast_sublist _).subset hw), fun e => ?_⟩
      have := congrArg List.length e
      simp at this
      omega
    · rw [if_neg h1]
      cases ws with
      | nil => exact absurd rfl hne
      | cons w r =>
        have hw := h w (by simp)
        refine ⟨fun v hv => ?_, by simp⟩
        have : v = w.take 24 := by simpa using hv
        subst this
        refine ⟨fun e => ?_, fun c hc => hw.2 c (List.mem_of_mem_take hc)⟩
        have := congrArg List.length e
        have hl := List.length_pos_iff.mpr hw.1
        rw [List.length_take, List.length_nil] at this
        omega
theorem fieldW_cap (ws : List (List Nat)) (h : CapW ws) (hne : ws ≠ []) : CapW (fieldW ws) ∧ fieldW ws ≠ [] ∧ jl (fieldW ws) ≤ 24 := by
  by_cases h1 : 24 < jl ws
  · rw [fieldW_step h1]
    obtain ⟨a, b⟩ := stepW_cap h hne
    exact fieldW_cap (stepW ws) a b
  · rw [fieldW_end h1]
    exact ⟨h, hne, by omega⟩
termination_by jl ws
decreasing_by exact jl_step h1
/-- the words with a sign between -/
def joinL (c : Nat) : List (List Nat) → List Nat
  | [] => []
  | [w] => w
  | w :: v :: r => w ++ [c] ++ joinL c (v :: r)
theorem join_tl (c : Nat) : ∀ ws : List (List Nat), tl (Str.join ⟨#[c]⟩ (ws.map asStr)) = joinL c ws
  | [] => rfl
  | [w] => rfl
  | w :: v :: r => by
    have ih := join_tl c (v :: r)
    show tl (asStr w ++ ⟨#[c]⟩ ++ Str.join ⟨#[c]⟩ ((v :: r).map asStr)) = _
    rw [tl_app, tl_app, ih]
    rfl
theorem joinL_len (c : Nat) : ∀ ws : List (List Nat), (joinL c ws).length = jl ws
  | [] => rfl
  | [w] => by simp [joinL, jl]
  | w :: v :: r => by
    have ih := joinL_len c (v :: r)
    unfold jl at ih ⊢
    simp only [joinL, List.length_append, ih, List.map_cons, List.sum_cons, List.length_cons, List.length_nil]
    omega
def fieldL (ws : List (List Nat)) : List Nat := joinL 60 (fieldW ws) ++ List.replicate (24 - jl (fieldW ws)) 60
theorem fieldL_len {ws : List (List Nat)} (h : CapW ws) (hne : ws ≠ []) : (fieldL ws).length = 24 := by
  have := (fieldW_cap ws h hne).2.2
  unfold fieldL
  rw [List.length_append, joinL_len, List.length_replicate]
  omega
theorem joinL_mem {c : Nat} : ∀ {ws : List (List Nat)} {d : Nat}, d ∈ joinL c ws → d = c ∨ ∃ w ∈ ws, d ∈ w
  | [], d, h => by cases h
  | [w], d, h => .inr ⟨w, by simp, h⟩
  | w :: v :: r, d, h => by
    simp only [joinL, List.mem_append, List.mem_singleton] at h
    rcases h with (h | h) | h
    · exact .inr ⟨w, by simp, h⟩
    · exact .inl h
    · rcases joinL_mem h with h | ⟨u, hu, hd⟩
      · exact .inl h
      · exact .inr ⟨u, List.mem_cons_of_mem _ hu, hd⟩
theorem isSg_cap {c : Nat} (h : Cap c) : isSg c = true := by
  unfold isSg
  have h1 := h.1
  have h2 := h.2
  simp [h1, h2]
theorem fieldL_sg {ws : List (List Nat)} (h : CapW ws) (hne : ws ≠ []) : ∀ c ∈ fieldL ws, isSg c = true := by
  intro c hc
  unfold fieldL at hc
  rcases List.mem_append.mp hc with hc | hc
  · rcases joinL_mem hc with rfl | ⟨w, hw, hd⟩
    · rfl
    · exact isSg_cap (((fieldW_cap ws h hne).1 w hw).2 c hd)
  · rw [List.eq_of_mem_replicate hc]
    rfl
end PL

namespace PL
open PySem PySem.Spec PyProof.Rows L2
/-! ### parts between a sign -/
def spl1 (c : Nat) : List Nat → List Nat → List (List Nat)
  | acc, [] => [acc]
  | acc, d :: r => if d = c then acc :: spl1 c [] r else spl1 c (acc ++ [d]) r
theorem spl_one (c : Nat) : ∀ (cs acc : List Nat), TL.spl [c] 0 acc cs = spl1 c acc cs
  | [], acc => rfl
  | d :: r, acc => by
    unfold TL.spl spl1
    have e : TL.pre [c] (d :: r) = true ↔ d = c := by
      unfold TL.pre
      simp
    by_cases h : d = c
    · rw [if_pos (e.mpr h), if_pos h]
      show acc :: TL.spl [c] 0 [] r = _
      rw [spl_one c r []]
    · rw [if_neg (fun z => h (e.mp z)), if_neg h, spl_one c r _]
theorem spl1_free (c : Nat) : ∀ (w acc : List Nat), c ∉ w → spl1 c acc w = [acc ++ w]
  | [], acc, _ => by simp [spl1]
  | d :: r, acc, h => by
    unfold spl1
    rw [if_neg (fun e => h (by simp [e])), spl1_free c r _ (fun hm => h (List.mem_cons_of_mem _ hm))]
    simp
theorem spl1_cut (c : Nat) : ∀ (w acc rest : List Nat), c ∉ w → spl1 c acc (w ++ c :: rest) = (acc ++ w) :: spl1 c [] rest
  | [], acc, rest, _ => by
    show spl1 c acc (c :: rest) = _
    rw [spl1]
    rw [if_pos rfl]
    simp
  | d :: r, acc, rest, h => by
    show spl1 c acc (d :: (r ++ c :: rest)) = _
    rw [spl1]
    rw [if_neg (fun e => h (by simp [e])), spl1_cut c r _ rest (fun hm => h (List.mem_cons_of_mem _ hm))]
    simp
theorem spl_join (c : Nat) : ∀ ws : List (List Nat), ws ≠ [] → (∀ w ∈ ws, c ∉ w) → splL c (joinL c ws) = ws := by
  have main : ∀ ws : List (List Nat), ws ≠ [] → (∀ w ∈ ws, c ∉ w) → spl1 c [] (joinL c ws) = ws := by
    intro ws
    induction ws with
    | nil => intro h; exact absurd rfl h
    | cons w r ih =>
      intro _ h
      cases r with
      | nil =>
        show spl1 c [] w = _
        rw [spl1_free c w [] (h w (by simp))]
        rfl
      | cons v r =>
        show spl1 c [] (w ++ [c] ++ joinL c (v :: r)) = _
        rw [List.append_assoc, List.singleton_append, spl1_cut c w [] _ (h w (by simp)), ih (by simp) fun u hu => h u (List.mem_cons_of_mem _ hu)]
        rfl
  intro ws h1 h2
  unfold splL
  rw [spl_one, main ws h1 h2]
/-! ### rstrip -/
def rst (c : Nat) (cs : List Nat) : List Nat := cs.take (cs.length - (cs.reverse.takeWhile (· == c)).length)
theorem rstrip_tl (x : Str) (c : Nat) : tl (Txt.rstripChars x ⟨#[c]⟩) = rst c (tl x) := by
  have e0 : (fun d : Nat => (#[c] : Array Nat).contains d) = (· == c) := by
    funext d
    simp [Bool.beq_eq_decide_eq]
  have e1 : Txt.rstripChars x ⟨#[c]⟩ = stripped (fun d : Nat => (#[c] : Array Nat).contains d) false true x := by
    unfold Txt.rstripChars Txt.stripBy
    split
    · rename_i h
      simp only [stripSame, Bool.and_eq_true, beq_iff_eq] at h
      show x = Builtin.Str.strSub x _ _
      have h2 : stripHi (fun d : Nat => (#[c] : Array Nat).contains d) true x (stripLo (fun d : Nat => (#[c] : Array Nat).contains d) false x) = x.length := h.2
      rw [h2]
      exact (strSub_whole x).symm
    · rfl
  rw [e1, e0]
  unfold stripped
  have e2 : stripLo (fun d : Nat => d == c) false x = 0 := rfl
  rw [e2]
  show (x.cps.extract 0 (stripHi (fun d : Nat => d == c) true x 0)).toList = _
  unfold stripHi rst
  rw [if_pos rfl]
  simp [Str.length]
theorem takeWhile_rep (c : Nat) : ∀ (k : Nat) (r : List Nat), (∀ d, r.head? = some d → d ≠ c) → (List.replicate k c ++ r).takeWhile (· == c) = List.replicate k c
  | 0, [], _ => rfl
  | 0, d :: r, h => by
    have := h d rfl
    simp [this]
  | k + 1, r, h => by
    rw [List.replicate_succ, List.cons_append, List.takeWhile_cons, if_pos (by simp), takeWhile_rep c k r h]
theorem rst_pad {c : Nat} {cs : List Nat} (k : Nat) (h : ∀ d, cs.getLast? = some d → d ≠ c) : rst c (cs ++ List.replicate k c) = cs := by
  unfold rst
  rw [List.reverse_append, List.reverse_replicate, takeWhile_rep c k cs.reverse (by rw [List.head?_reverse]; exact h)]
  simp
/-- how far a text goes that is stripped -/
def rstN (c : Nat) (cs : List Nat) : Nat := cs.length - (cs.reverse.takeWhile (· == c)).length
theorem rstN_le (c : Nat) (cs : List Nat) : rstN c cs ≤ cs.length := Nat.sub_le _ _
theorem rstN_tail {c : Nat} {cs : List Nat} {k : Nat} (h1 : rstN c cs ≤ k) (h2 : k < cs.length) : cs[k]? = some c := by
  have hr : cs.reverse = cs.reverse.takeWhile (· == c) ++ cs.reverse.dropWhile (· == c) := (List.takeWhile_append_dropWhile).symm
  have hl : (cs.reverse.takeWhile (· == c)).length ≤ cs.length := by
    have := congrArg List.length hr
    rw [List.length_append, List.length_reverse] at this
    omega
  unfold rstN at h1
  have e : cs[k]? = cs.reverse[cs.length - 1 - k]? := by
    rw [List.getElem?_reverse (by omega)]
    congr 1
    omega
  have hlt : cs.length - 1 - k < (cs.reverse.takeWhile (· == c)).length := by omega
  rw [e, hr, List.getElem?_append_left hlt, List.getElem?_eq_getElem hlt]
  have hm := List.getElem_mem hlt
  have := List.all_takeWhile (p := (· == c)) (l := cs.reverse)
  have := List.all_eq_true.mp this _ hm
  simpa using this
theorem rstN_last {c : Nat} {cs : List Nat} (h : 0 < rstN c cs) : ∃ d, cs[rstN c cs - 1]? = some d ∧ d ≠ c := by
  have hr : cs.reverse = cs.reverse.takeWhile (· == c) ++ cs.reverse.dropWhile (· == c) := (List.takeWhile_append_dropWhile).symm
  have hl := congrArg List.length hr
  rw [List.length_append, List.length_reverse] at hl
  unfold rstN at h ⊢
  generalize ht : cs.reverse.takeWhile (· == c) = t at *
  cases hd : cs.reverse.dropWhile (· == c) with
  | nil =>
    rw [hd] at hl
    simp at hl
    omega
  | cons d r =>
    have hne : d ≠ c := by
      have := List.head?_dropWhile_not (· == c) cs.reverse
      rw [hd] at this
      simpa using this
    refine ⟨d, ?_, hne⟩
    have e : cs[cs.length - t.length - 1]? = cs.reverse[t.length]? := by
      rw [List.getElem?_reverse (by omega)]
      congr 1
      omega
    rw [e, hr, hd, List.getElem?_append_right (by omega)]
    simp
/-! ### reading -/
def isDg (c : Nat) : Bool := decide (48 ≤ c) && decide (c ≤ 57)
def isCp (c : Nat) : Bool := decide (65 ≤ c) && decide (c ≤ 90)
def rdF (x : Str) : List Nat := ((tl x).drop 10).take 24
def rdW (x : Str) : List (List Nat) := splL 60 (rst 60 (rdF x))
def okR (x : Str) : Bool := isGood mF x && (((tl x).take 10).all isDg && (!decide ((tl x).take 4 = [48, 48, 48, 48]) && (!decide ([] ∈ rdW x) && (rdW x).all fun w => w.all isCp)))
def numV (cs : List Nat) : Int := ((NumText.digitsVal cs : Nat) : Int)
def readD (x : Str) : D := .tuple [.int (numV ((tl x).take 4)), .int (numV (((tl x).drop 4).take 6)), .list (strsD (rdW x))]
def readR (x : Str) : D := if okR x = true then readD x else .none
theorem digits_all {cs : List Nat} : cs.all isDg = true ↔ NumText.AllDigits cs := by
  unfold NumText.AllDigits isDg
  simp [List.all_eq_true]
theorem num_zero {cs : List Nat} (hl : cs.length = 4) (h : NumText.AllDigits cs) : numV cs = 0 ↔ cs = [48, 48, 48, 48] := by
  match cs, hl with
  | [a, b, c, d], _ =>
    have ha := h a (by simp)
    have hb := h b (by simp)
    have hc := h c (by simp)
    have hd := h d (by simp)
    unfold numV NumText.digitsVal
    simp only [List.foldl_cons, List.foldl_nil, List.cons.injEq, and_true]
    omega
theorem intText_of_digits {x : Str} {cs : List Nat} (hx : tl x = cs) (h : NumText.AllDigits cs) (h1 : cs ≠ []) (h2 : cs.length ≤ 4300) : intText? x = some (numV cs) := by
  subst hx
  exact intText_digits h h1 (by rw [← tl_len]; exact h2)
/-! ### numbers with zeros ahead -/
abbrev numS (n : Nat) : List Nat := TL.numL n
def padL (k n : Nat) : List Nat := List.replicate (k - (numS n).length) 48 ++ numS n
theorem val_zeros : ∀ (k : Nat) (cs : List Nat), NumText.digitsVal (List.replicate k 48 ++ cs) = NumText.digitsVal cs
  | 0, cs => rfl
  | k + 1, cs => by
    rw [List.replicate_succ, List.cons_append]
    have ih := val_zeros k cs
    unfold NumText.digitsVal at ih ⊢
    rw [List.foldl_cons]
    exact ih
theorem padL_val (k n : Nat) : numV (padL k n) = n := by
  unfold numV padL
  rw [val_zeros, TL.numL_val]
theorem padL_digits (k n : Nat) : NumText.AllDigits (padL k n) := fun c hc => by
  rcases List.mem_append.mp hc with hc | hc
  · rw [List.eq_of_mem_replicate hc]
    omega
  · exact TL.numL_digits n c hc
theorem padL_len {k n : Nat} (hk : 0 < k) (h : n < 10 ^ k) : (padL k n).length = k := by
  have := TL.numL_len hk h
  unfold padL
  rw [List.length_append, List.length_replicate]
  show k - (TL.numL n).length + (TL.numL n).length = k
  omega
def bodyL (p d : Nat) (ws : List (List Nat)) : List Nat := padL 4 p ++ padL 6 d ++ fieldL ws
def machL (p d : Nat) (ws : List (List Nat)) : Str := lineS (asStr (bodyL p d ws))
theorem isSg_dg {c : Nat} (h : 48 ≤ c ∧ c ≤ 57) : isSg c = true := by
  unfold isSg
  simp [h.1, h.2]
section
variable {p d : Nat} {ws : List (List Nat)}
theorem body_len (hp : p < 10000) (hd : d < 1000000) (h : CapW ws) (hne : ws ≠ []) : (bodyL p d ws).length = 34 := by
  unfold bodyL
  rw [List.length_append, List.length_append, padL_len (by decide) hp, padL_len (by decide) hd, fieldL_len h hne]
theorem body_sg (h : CapW ws) (hne : ws ≠ []) : ∀ c ∈ bodyL p d ws, isSg c = true := fun c hc => by
  unfold bodyL at hc
  rcases List.mem_append.mp hc with hc | hc
  · rcases List.mem_append.mp hc with hc | hc
    · exact isSg_dg (padL_digits 4 p c hc)
    · exact isSg_dg (padL_digits 6 d c hc)
  · exact fieldL_sg h hne c hc
theorem joinL_last : ∀ {ws : List (List Nat)}, CapW ws → ws ≠ [] → ∀ c, (joinL 60 ws).getLast? = some c → c ≠ 60
  | [], _, hne, _, _ => absurd rfl hne
  | [w], h, _, c, hc => by
    have := (h w (by simp)).2 c (List.mem_of_getLast? hc)
    have := this.1
    omega
  | w :: v :: r, h, _, c, hc => by
    have hne2 : joinL 60 (v :: r) ≠ [] := fun e => by
      have hj := joinL_len 60 (v :: r)
      rw [e] at hj
      have := List.length_pos_iff.mpr (h v (by simp)).1
      unfold jl at hj
      simp at hj
      omega
    show c ≠ 60
    rw [show joinL 60 (w :: v :: r) = w ++ [60] ++ joinL 60 (v :: r) from rfl, List.getLast?_append, List.getLast?_eq_some_getLast hne2, Option.some_or, ← List.getLast?_eq_some_getLast hne2] at hc
    exact joinL_last (fun u hu => h u (List.mem_cons_of_mem _ hu)) (by simp) c hc
theorem mach_tl : tl (machL p d ws) = bodyL p d ws ++ chk (asStr (bodyL p d ws)) := rfl
theorem mach_read (hp : p < 10000) (hp1 : 1 ≤ p) (hd : d < 1000000) (h : CapW ws) (hne : ws ≠ []) :
    okR (machL p d ws) = true ∧ readD (machL p d ws) = .tuple [.int p, .int d, .list (strsD (fieldW ws))] := by
  have l1 := padL_len (k := 4) (n := p) (by decide) hp
  have l2 := padL_len (k := 6) (n := d) (by decide) hd
  have l3 := fieldL_len h hne
  have e4 : (tl (machL p d ws)).take 4 = padL 4 p := by
    rw [mach_tl]
    unfold bodyL
    rw [List.append_assoc, List.append_assoc, List.take_left' l1]
  have e6 : ((tl (machL p d ws)).drop 4).take 6 = padL 6 d := by
    rw [mach_tl]
    unfold bodyL
    rw [List.append_assoc, List.append_assoc, List.drop_left' l1, List.take_left' l2]
  have e10 : (tl (machL p d ws)).take 10 = padL 4 p ++ padL 6 d := by
    rw [mach_tl]
    unfold bodyL
    rw [List.append_assoc, List.take_left' (by rw [List.length_append]; omega)]
  have eF : rdF (machL p d ws) = fieldL ws := by
    unfold rdF
    rw [mach_tl]
    unfold bodyL
    rw [List.append_assoc, List.drop_left' (by rw [List.length_append]; omega), List.take_left' l3]
  obtain ⟨c1, c2, c3⟩ := fieldW_cap ws h hne
  have eW : rdW (machL p d ws) = fieldW ws := by
    unfold rdW
    rw [eF]
    unfold fieldL
    rw [rst_pad _ (joinL_last c1 c2), spl_join 60 _ c2 fun w hw hm => by
      have := ((c1 w hw).2 60 hm).1
      omega]
  refine ⟨?_, ?_⟩
  · unfold okR
    rw [e4, e10, eW, show isGood mF (machL p d ws) = true from line_good (by rw [as_len]; exact body_len hp hd h hne) (by rw [tl_as]; exact body_sg h hne)]
    simp only [Bool.true_and, Bool.and_eq_true, Bool.not_eq_true', decide_eq_false_iff_not, List.all_eq_true]
    refine ⟨?_, ?_, ?_, ?_⟩
    · intro c hc
      have : NumText.AllDigits (padL 4 p ++ padL 6 d) := fun c hc => by
        rcases List.mem_append.mp hc with hc | hc
        · exact padL_digits 4 p c hc
        · exact padL_digits 6 d c hc
      exact List.all_eq_true.mp (digits_all.mpr this) c hc
    · intro e
      have := (num_zero l1 (padL_digits 4 p)).mpr e
      rw [padL_val] at this
      omega
    · intro hm
      exact (c1 _ hm).1 rfl
    · intro w hw c hc
      have := (c1 w hw).2 c hc
      unfold isCp
      simp [this.1, this.2]
  · unfold readD
    rw [e4, e6, eW, padL_val, padL_val]
end
/-- what stands in front of a strip, found by the greatest place -/
theorem rst_max {cs : List Nat} (hl : cs.length = 24) : (((((List.range 24).filter fun k => decide (cs[k]? ≠ some 60)).map fun k : Nat => (k : Int)) ++ [-1]).foldl max (-1) : Int) = (rstN 60 cs : Int) - 1 := by
  have hle := rstN_le 60 cs
  refine (max_uniq (n := -1) (ns := (((List.range 24).filter fun k => decide (cs[k]? ≠ some 60)).map fun k : Nat => (k : Int)) ++ [-1]) (m := (rstN 60 cs : Int) - 1) ?_ ?_).symm
  · by_cases h0 : rstN 60 cs = 0
    · rw [h0]
      simp
    · obtain ⟨d, hd, hne⟩ := rstN_last (c := 60) (cs := cs) (by omega)
      refine List.mem_cons_of_mem _ (List.mem_append_left _ (List.mem_map.mpr ⟨rstN 60 cs - 1, List.mem_filter.mpr ⟨List.mem_range.mpr (by omega), ?_⟩, by omega⟩))
      rw [hd]
      simpa using hne
  · intro y hy
    rcases List.mem_cons.mp hy with rfl | hy
    · omega
    · rcases List.mem_append.mp hy with hy | hy
      · obtain ⟨k, hk, rfl⟩ := List.mem_map.mp hy
        obtain ⟨h1, h2⟩ := List.mem_filter.mp hk
        have h1 := List.mem_range.mp h1
        have h2 : cs[k]? ≠ some 60 := by simpa using h2
        have : k < rstN 60 cs := Classical.byContradiction fun hn => h2 (rstN_tail (by omega) (by omega))
        omega
      · have : y = -1 := by simpa using hy
        omega
end PL

namespace PL
open PySem PySem.Spec PyProof.Rows L2
local macro_rules | `(tactic| ac_rfl) => `(tactic| ((conv => whnf); repeat ((first | refine Cif.yes ?_ | refine Cif.no ?_ | (refine And.intro ?_ ?_; · first | (show _ ≤ (_ : Int); omega) | (show _ < (_ : Int); omega) | assumption | exact trivial | exact rfl | (refine small ?_; first | omega | (simp only [List.length_map, List.length_cons, List.length_nil, List.length_append]; omega)) | (refine ltsmall ?_; first | omega | (simp only [List.length_map, List.length_cons, List.length_nil, List.length_append]; omega)) | (refine cdiv ?_ ?_ <;> omega) | (refine cmulR ?_ ?_ <;> omega) | (refine cmulL ?_ ?_ <;> omega) | (refine ⟨?_, ?_, ?_, ?_⟩ <;> omega))); (conv => whnf))))
local macro_rules | `(tactic| exists $e) => `(tactic| first | exact $e | exact And.right $e | exact And.right (And.right $e) | exact And.right (And.right (And.right $e)))
def P_machine_frame : PD := fun ds R => ds = [] ∧ R (.sh mF.enc)
-- machine_frame() slots: 
def q_machine_frame : QS :=
  (qRet (qTup (qCons (qOp opAdd (qOp opAdd (qC (.str "0123456789")) (qC (.str "ABCDEFGHIJKLMNOPQRSTUVWXYZ"))) (qC (.str "<"))) (qCons (qLst (qCons (qOp opMul (qLst (qCons (qC (.int 1)) qNil)) (qC (.int 36))) (qCons (qRgL2 (qC (.int 1)) (qOp opAdd (qC (.int 36)) (qC (.int 1)))) qNil))) qNil))))
theorem sgn_app : (txt "0123456789" ++ txt "ABCDEFGHIJKLMNOPQRSTUVWXYZ") ++ txt "<" = sgnS := by decide +kernel
theorem pure_machine_frame : ∀ ds R, ds.length = 0 → P_machine_frame ds R → q_machine_frame (endsOf R) (startEv 0 ds) := by
  rintro ds R - ⟨rfl, h⟩
  have e : mF.enc = .tuple [.str ((txt "0123456789" ++ txt "ABCDEFGHIJKLMNOPQRSTUVWXYZ") ++ txt "<"), .list [.list (List.replicate 36 [PyData.int 1]).flatten, .list (rgD 1 37)]] := by
    rw [sgn_app]
    simp [Fr.enc, mF, rowD, mR2, rgD]
  rw [e] at h
  ac_rfl
  refine ⟨small (by decide +kernel), ?_⟩
  ac_rfl
  refine ⟨small (by decide +kernel), ?_⟩
  ac_rfl
  refine ⟨by decide, ?_⟩
  ac_rfl
  exists h
def lowA (x : Str) : Prop := (∀ c ∈ tl x, c < 128) ∧ x.length ≤ 1000
def P_words_of : PD := fun ds R => ∃ x : Str, ds = [.str x] ∧ lowA x ∧ R (.ow (.l (strsD (wds (tl x)))))
-- words_of(name) slots: 0=name 1=plain 2=sign
def q_words_of : QS :=
  (qSeq (qAsg (qM1 opJoin (qC (.str "")) (qLc [2] (qiS (qM0 opUpper (qVar 0))) (qgN 2) qYes (qIf (qB (qOp (opInW id) (qVar 2) (qC (.str "ABCDEFGHIJKLMNOPQRSTUVWXYZ")))) (qVar 2) (qC (.str " "))))) (qgN 1))
  (qRet (qM0 opWords (qVar 1))))
theorem cap_mem {c : Nat} : c ∈ tl (txt "ABCDEFGHIJKLMNOPQRSTUVWXYZ") ↔ 65 ≤ c ∧ c ≤ 90 := by
  have : tl (txt "ABCDEFGHIJKLMNOPQRSTUVWXYZ") = [65, 66, 67, 68, 69, 70, 71, 72, 73, 74, 75, 76, 77, 78, 79, 80, 81, 82, 83, 84, 85, 86, 87, 88, 89, 90] := by decide +kernel
  rw [this]
  simp
  omega
theorem dig_mem {c : Nat} : c ∈ tl (txt "0123456789") ↔ 48 ≤ c ∧ c ≤ 57 := by
  have : tl (txt "0123456789") = [48, 49, 50, 51, 52, 53, 54, 55, 56, 57] := by decide +kernel
  rw [this]
  simp
  omega
theorem pure_words_of : ∀ ds R, ds.length = 1 → P_words_of ds R → q_words_of (endsOf R) (startEv 3 ds) := by
  rintro ds R - ⟨x, rfl, ⟨ha, hl⟩, h⟩
  ac_rfl
  refine ⟨by omega, ?_⟩
  ac_rfl
  refine lc0_map (vs := [2]) signD (fun c => .str ⟨#[if 65 ≤ c ∧ c ≤ 90 then c else 32]⟩) (tl (upS x)) (fun c hc acc K hac hK => ?_) ?_ ?_
  · ac_rfl
    refine ⟨fun hz => ?_, fun hz => ?_⟩
    · rw [if_pos (cap_mem.mp (of_decide_eq_true hz))] at hK
      ac_rfl
      exists hK
    · rw [if_neg (fun hh => of_decide_eq_false hz (cap_mem.mpr hh))] at hK
      ac_rfl
      exists hK
  · rw [tl_len]
    refine small ?_
    have : (upS x).length = x.length := by rw [← tl_len, ← tl_len]; simp [upS]
    omega
  · have eL : tl (Str.join Str.empty ((tl (upS x)).map fun c => (⟨#[if 65 ≤ c ∧ c ≤ 90 then c else 32]⟩ : Str))) = (tl x).map fcap := by
      have := join_signs ((tl (upS x)).map fun c => if 65 ≤ c ∧ c ≤ 90 then c else 32)
      rw [List.map_map] at this
      refine this.trans ?_
      show ((x.cps.map up1).toList.map _) = _
      rw [Array.toList_map, List.map_map]
      rfl
    ac_rfl
    rw [strsOf_map']
    ac_rfl
    refine ⟨small ?_, ?_⟩
    · show _ + _ * 0 ≤ _
      rw [List.map_map]
      have e3 : ((tl (upS x)).map (fun c : Nat => ((⟨#[if 65 ≤ c ∧ c ≤ 90 then c else 32]⟩ : Str)).length)).sum = x.length := by
        show ((tl (upS x)).map fun _ => 1).sum = _
        simp only [List.map_const', List.sum_replicate_nat, Nat.mul_one]
        rw [← tl_len x]
        simp [upS]
      have e3' : ((tl (upS x)).map ((fun z : Str => z.length) ∘ fun c : Nat => ((⟨#[if 65 ≤ c ∧ c ≤ 90 then c else 32]⟩ : Str)))).sum = x.length := e3
      rw [e3']
      omega
    ac_rfl
    have e5 : (Str.join Str.empty ((tl (upS x)).map fun c => (⟨#[if 65 ≤ c ∧ c ≤ 90 then c else 32]⟩ : Str))).length = x.length := by
      rw [← tl_len, eL, List.length_map, tl_len]
    refine ⟨by rw [sizeLine_eq]; show (Str.join Str.empty ((tl (upS x)).map fun c => (⟨#[if 65 ≤ c ∧ c ≤ 90 then c else 32]⟩ : Str))).length + 2 ≤ _; rw [e5]; omega, ?_⟩
    ac_rfl
    have e4 : wordsL (tl (Str.join Str.empty ((tl (upS x)).map fun c => (⟨#[if 65 ≤ c ∧ c ≤ 90 then c else 32]⟩ : Str)))) = wds (tl x) := by
      rw [eL]
      rfl
    rw [← e4] at h
    exact h
/-! ### fields -/
theorem strsD_len (ws : List (List Nat)) : (strsD ws).length = ws.length := by simp [strsD]
theorem strsD_set (ws : List (List Nat)) (i : Nat) (w : List Nat) : (strsD ws).set i (.str (asStr w)) = strsD (ws.set i w) := by simp [strsD, List.map_set]
theorem strsD_ix {ws : List (List Nat)} {i : Nat} {w : List Nat} (h : ws[i]? = some w) : ixD (strsD ws) (i : Int) = some (.str (asStr w)) := ixD_map _ h
theorem strsOf_strsD (ws : List (List Nat)) : strsOf (strsD ws) = some (ws.map asStr) := strsOf_map' _ _
/-- the words whose letters can be left -/
theorem longs_fil {ws : List (List Nat)} : ((List.range (ws.length - 1)).filter fun i => decide (1 < (ws[i + 1]?.getD []).length)) = longs ws := rfl
theorem cutD_lt {α : Type} (xs : List D) (k : Nat) : cutD xs none (some (k : Int)) = xs.take k := by
  unfold cutD
  rw [HT.sIx_none, HT.sIx_nat, List.drop_zero, Nat.sub_zero, List.take_eq_take_iff]
  omega
theorem cutD_ge (xs : List D) (k : Nat) : cutD xs (some (k : Int)) none = xs.drop k := by
  unfold cutD
  rw [HT.sIx_none, HT.sIx_nat]
  by_cases h : k ≤ xs.length
  · rw [Nat.min_eq_left h, List.take_of_length_le (by rw [List.length_drop]; omega)]
  · rw [Nat.min_eq_right (by omega), List.drop_eq_nil_of_le (Nat.le_refl _), List.drop_eq_nil_of_le (by omega)]
    simp
theorem tl_cutS (x : Str) (lo hi : Option Int) : tl (cutS x lo hi) = ((tl x).drop (HT.sIx x.length 0 lo)).take (HT.sIx x.length x.length hi - HT.sIx x.length 0 lo) := rfl
theorem cutS_lt (x : Str) (k : Nat) : cutS x none (some (k : Int)) = asStr ((tl x).take k) := by
  apply str_ext
  rw [tl_cutS, tl_as, HT.sIx_none, HT.sIx_nat, List.drop_zero, Nat.sub_zero, List.take_eq_take_iff, tl_len]
  omega
theorem cutS_ge (x : Str) (k : Nat) : cutS x (some (k : Int)) none = asStr ((tl x).drop k) := by
  apply str_ext
  rw [tl_cutS, tl_as, HT.sIx_none, HT.sIx_nat]
  by_cases h : k ≤ x.length
  · rw [Nat.min_eq_left h, List.take_of_length_le (by rw [List.length_drop, tl_len]; omega)]
  · rw [Nat.min_eq_right (by omega), List.drop_eq_nil_of_le (by rw [tl_len]; omega), List.drop_eq_nil_of_le (by rw [tl_len]; omega)]
    simp
theorem cutS_bt (x : Str) (j k : Nat) : cutS x (some (j : Int)) (some (k : Int)) = asStr (((tl x).drop j).take (k - j)) := by
  apply str_ext
  rw [tl_cutS, tl_as, HT.sIx_nat, HT.sIx_nat]
  by_cases h : j ≤ x.length
  · rw [Nat.min_eq_left h, List.take_eq_take_iff, List.length_drop, tl_len]
    omega
  · rw [Nat.min_eq_right (show x.length ≤ j by omega), List.drop_eq_nil_of_le (by rw [tl_len]; omega), List.drop_eq_nil_of_le (by rw [tl_len]; omega)]
    simp
def lenW (ws : List (List Nat)) : Prop := ws.length ≤ 1000 ∧ (∀ w ∈ ws, w.length ≤ 1000) ∧ jl ws ≤ 2000
def P_shorter : PD := fun ds R => ∃ ws : List (List Nat), ds = [.list (strsD ws)] ∧ lenW ws ∧ ws ≠ [] ∧ R (.ow (.l (strsD (stepW ws))))
-- shorter(words) slots: 0=words* 1=long 2=last 3=k
def q_shorter : QS :=
  (qSeq (qAsg (qLc [3] (qiR2 (qCons (qC (.int 1)) (qCons (qUn opLen (qVar 0)) qNil))) (qgN 3) (qB (qOp opGt (qUn opLen (qOp opIx (qVar 0) (qVar 3))) (qC (.int 1)))) (qVar 3)) (qgN 1))
  (qFrz 1 (qSeq (qIfS (qTru (qVar 1))
   (qSeq (qAsg (qOp opIx (qVar 1) (qUn opNeg (qC (.int 1)))) (qgN 2))
   (qRet (qOp opAdd (qOp opAdd (qSl (qVar 0) qoN (qoS (qVar 2))) (qLst (qCons (qSl (qOp opIx (qVar 0) (qVar 2)) qoN (qoS (qC (.int 1)))) qNil))) (qSl (qVar 0) (qoS (qOp opAdd (qVar 2) (qC (.int 1)))) qoN))))
   qNext)
  (qSeq (qIfS (qB (qOp opGt (qUn opLen (qVar 0)) (qC (.int 1))))
   (qRet (qSl (qVar 0) qoN (qoS (qUn opNeg (qC (.int 1))))))
   qNext)
  (qRet (qLst (qCons (qSl (qOp opIx (qVar 0) (qC (.int 0))) qoN (qoS (qC (.int 24)))) qNil)))))))
theorem stepW_none {ws : List (List Nat)} (h : longs ws = []) : stepW ws = if 1 < ws.length then ws.dropLast else [(ws.headD []).take 24] := by
  unfold stepW
  rw [h]
  rfl
theorem stepW_some {ws : List (List Nat)} {i : Nat} (h : (longs ws).getLast? = some i) : stepW ws = ws.set (i + 1) ((ws[i + 1]?.getD []).take 1) := by
  unfold stepW
  rw [h]
/-- the walk through the words -/
theorem longs_lc {ws : List (List Nat)} {vs : List Nat} {g : QG} {t : QT} {p : QE} {k : List D → Ev → Prop} {Γ : Ev} (hl : ws.length ≤ 1000)
    (hs : ∀ (i : Nat) (w : List Nat), ws[i + 1]? = some w → ∀ (acc : List D) (K : List D → Ev → Prop), acc.length < sizeLine → (1 < w.length → K (acc ++ [.int (1 + (i : Int))]) Γ) → (¬ 1 < w.length → K acc Γ) → g (.sh (.int (1 + (i : Int)))) Γ fun Γ1 => t Γ1 (fun b Γ2 => Cif b (p Γ2 (fun w Γ3 => shr w Γ3 fun y Γ4 => acc.length < sizeLine ∧ K (acc ++ [y]) (wipEv vs Γ4)) noEX) (K acc (wipEv vs Γ2))) noEX)
    (hk : k ((longs ws).map fun i : Nat => .int (1 + (i : Int))) Γ) : lcGo vs g t p k ((List.range ((strsD ws).length - 1 : Int).toNat).map fun i : Nat => .int (1 + (i : Int))) [] Γ := by
  have e : ((strsD ws).length - 1 : Int).toNat = ws.length - 1 := by rw [strsD_len]; omega
  rw [e]
  refine lc0_fil (fun i : Nat => .int (1 + (i : Int))) (fun i => decide (1 < (ws[i + 1]?.getD []).length)) (fun i : Nat => .int (1 + (i : Int))) _ (fun i hi acc K ha h1 h2 => ?_) (small (by simp; omega)) hk
  have hi : i < ws.length - 1 := by simpa using hi
  have ew : ws[i + 1]? = some ws[i + 1] := List.getElem?_eq_getElem (by omega)
  rw [ew] at h1 h2
  exact hs i _ ew acc K ha (fun h => h1 (by simpa using h)) (fun h => h2 (by simpa using h))
theorem pure_shorter : ∀ ds R, ds.length = 1 → P_shorter ds R → q_shorter (endsOf R) (startEv 4 ds) := by
  rintro ds R - ⟨ws, rfl, ⟨hl, hw, hj⟩, hne, h⟩
  have hpos := List.length_pos_iff.mpr hne
  have hsl := strsD_len ws
  ac_rfl
  refine longs_lc hl (fun i w ew acc K ha h1 h2 => ?_) ?_
  · have hwl := hw w (List.mem_of_getElem? ew)
    have el : (asStr w).length = w.length := as_len w
    have e1 : (1 + (i : Int)) = ((i + 1 : Nat) : Int) := by omega
    rw [e1] at h1 ⊢
    ac_rfl
    rw [strsD_ix ew]
    ac_rfl
    refine ⟨fun hz => ?_, fun hz => ?_⟩
    · have hz : 1 < w.length := by
        have : (1 : Int) < ((asStr w).length : Nat) := of_decide_eq_true hz
        omega
      ac_rfl
      exists h1 hz
    · have hz : ¬ 1 < w.length := by
        have : ¬ (1 : Int) < ((asStr w).length : Nat) := of_decide_eq_false hz
        omega
      exists h2 hz
  · cases hg : (longs ws).getLast? with
    | none =>
      have e0 : longs ws = [] := List.getLast?_eq_none_iff.mp hg
      have es := stepW_none e0
      rw [e0]
      ac_rfl
      rw [strsD_len]
      refine ⟨fun hz => ?_, fun hz => ?_⟩
      · have hz : 1 < ws.length := by
          have : (1 : Int) < (ws.length : Nat) := of_decide_eq_true hz
          omega
        rw [es, if_pos hz] at h
        ac_rfl
        rw [show cutD (strsD ws) none (some (-1)) = strsD ws.dropLast by
          unfold cutD
          rw [HT.sIx_none, List.drop_zero, Nat.sub_zero, show HT.sIx (strsD ws).length (strsD ws).length (some (-1)) = ws.length - 1 by
            unfold HT.sIx
            rw [strsD_len]
            simp
            omega]
          unfold strsD
          rw [← List.map_take, List.dropLast_eq_take]]
        exists h
      · have hz : ¬ 1 < ws.length := by
          have : ¬ (1 : Int) < (ws.length : Nat) := of_decide_eq_false hz
          omega
        rw [es, if_neg hz] at h
        obtain ⟨w, rfl⟩ : ∃ w, ws = [w] := by
          cases ws with
          | nil => exact absurd rfl hne
          | cons w r =>
            cases r with
            | nil => exact ⟨w, rfl⟩
            | cons v r => simp at hz
        have hwl := hw w (by simp)
        have el : (asStr w).length = w.length := as_len w
        ac_rfl
        rw [show cutS (asStr w) none (some 24) = asStr (w.take 24) from cutS_lt (asStr w) 24]
        exists h
    | some i =>
      obtain ⟨i1, i2⟩ := longs_mem hg
      have es := stepW_some hg
      have ew : ws[i + 1]? = some ws[i + 1] := List.getElem?_eq_getElem i1
      rw [ew] at es
      simp only [Option.getD_some] at es
      have hwl := hw ws[i + 1] (List.getElem_mem i1)
      have el : (asStr ws[i + 1]).length = ws[i + 1].length := as_len _
      have hn0 : longs ws ≠ [] := fun e => by rw [e] at hg; cases hg
      have e1 : (1 + (i : Int)) = ((i + 1 : Nat) : Int) := by omega
      have e2 : ((i + 1 : Nat) : Int) + 1 = ((i + 2 : Nat) : Int) := by omega
      obtain ⟨r, er⟩ := List.getLast?_eq_some_iff.mp hg
      have eLast : ixD ((longs ws).map fun i : Nat => PyData.int (1 + (i : Int))) (-1) = some (.int (1 + (i : Int))) := by
        rw [er]
        show (if 0 < _ then _ else _) = _
        simp
      have hll : ((longs ws).map fun i : Nat => PyData.int (1 + (i : Int))).isEmpty = false := by
        rw [er]
        simp
      rw [es, List.set_eq_take_append_cons_drop, if_pos i1] at h
      ac_rfl
      rw [hll]
      ac_rfl
      rw [eLast]
      ac_rfl
      rw [e1, cutD_lt (α := D)]
      ac_rfl
      rw [strsD_ix ew]
      ac_rfl
      refine ⟨small (by rw [List.length_take]; show _ + 1 ≤ _; omega), ?_⟩
      ac_rfl
      rw [show cutD (strsD ws) (some (((i + 1 : Nat) : Int) + 1)) none = (strsD ws).drop (i + 1 + 1) by rw [e2]; exact cutD_ge _ _, show cutS (asStr ws[i + 1]) none (some 1) = asStr (ws[i + 1].take 1) from cutS_lt (asStr ws[i + 1]) 1]
      refine ⟨small (by rw [List.length_append, List.length_take, List.length_drop]; show _ + 1 + _ ≤ _; omega), ?_⟩
      ac_rfl
      have e5 : (strsD ws).take (i + 1) ++ [PyData.str (asStr (ws[i + 1].take 1))] ++ (strsD ws).drop (i + 1 + 1) = strsD (ws.take (i + 1) ++ ws[i + 1].take 1 :: ws.drop (i + 1 + 1)) := by simp [strsD]
      rw [e5]
      exists h
end PL

namespace PL
open PySem PySem.Spec PyProof.Rows L2
local macro_rules | `(tactic| ac_rfl) => `(tactic| ((conv => whnf); repeat ((first | refine Cif.yes ?_ | refine Cif.no ?_ | (refine And.intro ?_ ?_; · first | (show _ ≤ (_ : Int); omega) | (show _ < (_ : Int); omega) | assumption | exact trivial | exact rfl | (refine small ?_; first | omega | (simp only [List.length_map, List.length_cons, List.length_nil, List.length_append]; omega)) | (refine ltsmall ?_; first | omega | (simp only [List.length_map, List.length_cons, List.length_nil, List.length_append]; omega)) | (refine cdiv ?_ ?_ <;> omega) | (refine cmulR ?_ ?_ <;> omega) | (refine cmulL ?_ ?_ <;> omega) | (refine ⟨?_, ?_, ?_, ?_⟩ <;> omega))); (conv => whnf))))
local macro_rules | `(tactic| exists $e) => `(tactic| first | exact $e | exact And.right $e | exact And.right (And.right $e) | exact And.right (And.right (And.right $e)))
theorem fill_eq : Str.ofString "<" = ⟨#[60]⟩ := by decide +kernel
theorem join_fill (ws : List (List Nat)) : Str.join (Str.ofString "<") (ws.map asStr) = asStr (joinL 60 ws) := by
  rw [fill_eq]
  exact str_ext (join_tl 60 ws)
theorem join_size (ws : List (List Nat)) : ((ws.map asStr).map (·.length)).sum + (ws.map asStr).length * (Str.ofString "<").length ≤ jl ws + 1 + ws.length := by
  rw [List.map_map, List.length_map, show (Str.ofString "<").length = 1 by rw [fill_eq]; rfl]
  have : (ws.map ((fun x : Str => x.length) ∘ asStr)) = ws.map List.length := List.map_congr_left fun w _ => as_len w
  have e2 : (ws.map ((fun x : Str => x.length) ∘ asStr)).sum = (ws.map List.length).sum := by rw [this]
  unfold jl
  show (ws.map ((fun x : Str => x.length) ∘ asStr)).sum + ws.length * 1 ≤ _
  omega
theorem fill_mul (n : Nat) : Txt.mul (Str.ofString "<") (n : Int) = asStr (List.replicate n 60) := by
  rw [fill_eq]
  apply str_ext
  show (Txt.mul ⟨#[60]⟩ (n : Int)).cps.toList = _
  rw [mul_one_list]
  rfl
theorem lenW_step {ws : List (List Nat)} (h : lenW ws) (hj : 24 < jl ws) : lenW (stepW ws) := by
  obtain ⟨h1, h2, h3⟩ := h
  have h4 := jl_step hj
  refine ⟨?_, ?_, by omega⟩
  · unfold stepW
    split
    · rw [List.length_set]
      exact h1
    · split
      · rw [List.length_dropLast]
        omega
      · simp
  · unfold stepW
    split
    · rename_i i hi
      intro w hw
      rcases List.mem_or_eq_of_mem_set hw with hw | rfl
      · exact h2 w hw
      · rw [List.length_take]
        omega
    · split
      · intro w hw
        exact h2 w ((List.dropLast_sublist _).subset hw)
      · intro w hw
        have : w = (ws.headD []).take 24 := by simpa using hw
        subst this
        rw [List.length_take]
        omega
theorem jl_ne {ws : List (List Nat)} (hj : 24 < jl ws) : ws ≠ [] := fun e => by
  rw [e] at hj
  simp [jl] at hj
def P_field_of : PD := fun ds R => ∃ ws : List (List Nat), ds = [.list (strsD ws)] ∧ lenW ws ∧ R (.sh (.str (asStr (fieldL ws))))
-- field_of(words) slots: 0=words 1=some 2=text
def q_field_of : QS :=
  (qSeq (qAsg (qUn opList (qVar 0)) (qgN 1))
  (qFrz 1 (qSeq (qWhile (qB (qOp opGt (qUn opLen (qM1 opJoin (qC (.str "<")) (qVar 1))) (qC (.int 24))))
   (qAsg (qCall 1 P_shorter (qCons (qVar 1) qNil)) (qgN 1)))
  (qSeq (qAsg (qM1 opJoin (qC (.str "<")) (qVar 1)) (qgN 2))
  (qRet (qOp opAdd (qVar 2) (qOp opMul (qC (.str "<")) (qOp opSub (qC (.int 24)) (qUn opLen (qVar 2))))))))))
def isSL (s : Sl) (ds : List D) : Prop := s = .sh (.list ds) ∨ s = .ow (.l ds)
theorem app_as (a b : List Nat) : asStr a ++ asStr b = asStr (a ++ b) := str_ext (tl_app _ _)
theorem pure_field_of : ∀ ds R, ds.length = 1 → P_field_of ds R → q_field_of (endsOf R) (startEv 3 ds) := by
  rintro ds R - ⟨ws0, rfl, hl0, h⟩
  ac_rfl
  refine ⟨fun m Γ => ∃ (ws : List (List Nat)) (s : Sl), Γ = [.sh (.list (strsD ws0)), s, .un] ∧ isSL s (strsD ws) ∧ lenW ws ∧ jl ws = m ∧ fieldW ws = fieldW ws0, ⟨jl ws0, ws0, _, rfl, .inl rfl, hl0, rfl, rfl⟩, ?_⟩
  rintro m Γ ⟨ws, s, rfl, hs, hl, rfl, hf⟩
  have hsz := join_size ws
  have hl1 := hl.1
  have hl3 := hl.2.2
  have key : ∀ s, isSL s (strsD ws) → (jl ws > 24 → qAsg (qCall 1 P_shorter (qCons (qVar 1) qNil)) (qgN 1) { endsOf R with nx := fun Γ' => ∃ m', m' < jl ws ∧ ∃ (ws : List (List Nat)) (s : Sl), Γ' = [.sh (.list (strsD ws0)), s, .un] ∧ isSL s (strsD ws) ∧ lenW ws ∧ jl ws = m' ∧ fieldW ws = fieldW ws0 } [.sh (.list (strsD ws0)), s, .un]) ∧
      (¬ jl ws > 24 → qSeq (qAsg (qM1 opJoin (qC (.str "<")) (qVar 1)) (qgN 2)) (qRet (qOp opAdd (qVar 2) (qOp opMul (qC (.str "<")) (qOp opSub (qC (.int 24)) (qUn opLen (qVar 2)))))) (endsOf R) [.sh (.list (strsD ws0)), s, .un]) := by
    intro s hs
    refine ⟨fun hg => ?_, fun hg => ?_⟩
    · have fin := (⟨jl (stepW ws), jl_step hg, stepW ws, .ow (.l (strsD (stepW ws))), rfl, .inr rfl, lenW_step hl hg, rfl, by rw [← fieldW_step hg, hf]⟩ : ∃ m', m' < jl ws ∧ ∃ (w' : List (List Nat)) (s : Sl), [Sl.sh (.list (strsD ws0)), Sl.ow (.l (strsD (stepW ws))), .un] = [.sh (.list (strsD ws0)), s, .un] ∧ isSL s (strsD w') ∧ lenW w' ∧ jl w' = m' ∧ fieldW w' = fieldW ws0)
      rcases hs with rfl | rfl
      · ac_rfl
        refine ⟨ws, rfl, hl, jl_ne hg, ?_⟩
        ac_rfl
        exact fin
      · ac_rfl
        refine ⟨ws, rfl, hl, jl_ne hg, ?_⟩
        ac_rfl
        exact fin
    · have ew : fieldW ws0 = ws := by rw [← hf, fieldW_end hg]
      have efl : fieldL ws0 = joinL 60 ws ++ List.replicate (24 - jl ws) 60 := by
        unfold fieldL
        rw [ew]
      rw [efl] at h
      have ejl : (asStr (joinL 60 ws)).length = jl ws := by rw [as_len, joinL_len]
      have e24 : (24 : Int) - ((asStr (joinL 60 ws)).length : Nat) = ((24 - jl ws : Nat) : Int) := by
        rw [ejl]
        omega
      have e1t : (Str.ofString "<").length = 1 := by rw [fill_eq]; rfl
      have fin : R (.sh (.str (asStr (joinL 60 ws) ++ asStr (List.replicate (24 - jl ws) 60)))) := by
        rw [app_as]
        exact h
      rcases hs with rfl | rfl
      · ac_rfl
        rw [strsOf_strsD]
        ac_rfl
        rw [join_fill]
        ac_rfl
        (try (refine ⟨small (by omega), ?_⟩; ac_rfl))
        rw [e24, fill_mul]
        refine ⟨by rw [e1t]; simp; omega, small (by rw [as_len, as_len, joinL_len, List.length_replicate]; omega), fin⟩
      · ac_rfl
        rw [strsOf_strsD]
        ac_rfl
        rw [join_fill]
        ac_rfl
        (try (refine ⟨small (by omega), ?_⟩; ac_rfl))
        rw [e24, fill_mul]
        refine ⟨by rw [e1t]; simp; omega, small (by rw [as_len, as_len, joinL_len, List.length_replicate]; omega), fin⟩
  obtain ⟨k1, k2⟩ := key s hs
  have ejl : (asStr (joinL 60 ws)).length = jl ws := by rw [as_len, joinL_len]
  rcases hs with rfl | rfl
  · clear key
    ac_rfl
    rw [strsOf_strsD]
    ac_rfl
    rw [join_fill]
    ac_rfl
    (try (refine ⟨small (by omega), ?_⟩; ac_rfl))
    rw [ejl]
    refine ⟨fun hz => ?_, fun hz => ?_⟩
    · have hz : (24 : Int) < ((jl ws : Nat) : Int) := of_decide_eq_true hz
      have fin := k1 (by omega)
      clear k1 k2
      ac_rfl
      exists fin
    · have hz : ¬ (24 : Int) < ((jl ws : Nat) : Int) := of_decide_eq_false hz
      have fin := k2 (by omega)
      clear k1 k2
      exists fin
  · clear key
    ac_rfl
    rw [strsOf_strsD]
    ac_rfl
    rw [join_fill]
    ac_rfl
    (try (refine ⟨small (by omega), ?_⟩; ac_rfl))
    rw [ejl]
    refine ⟨fun hz => ?_, fun hz => ?_⟩
    · have hz : (24 : Int) < ((jl ws : Nat) : Int) := of_decide_eq_true hz
      have fin := k1 (by omega)
      clear k1 k2
      ac_rfl
      exists fin
    · have hz : ¬ (24 : Int) < ((jl ws : Nat) : Int) := of_decide_eq_false hz
      have fin := k2 (by omega)
      clear k1 k2
      exists fin
end PL

namespace PL
open PySem PySem.Spec PyProof.Rows L2
local macro_rules | `(tactic| ac_rfl) => `(tactic| ((conv => whnf); repeat ((first | refine Cif.yes ?_ | refine Cif.no ?_ | (refine And.intro ?_ ?_; · first | (show _ ≤ (_ : Int); omega) | (show _ < (_ : Int); omega) | assumption | exact trivial | exact rfl | (refine small ?_; first | omega | (simp only [List.length_map, List.length_cons, List.length_nil, List.length_append]; omega)) | (refine ltsmall ?_; first | omega | (simp only [List.length_map, List.length_cons, List.length_nil, List.length_append]; omega)) | (refine cdiv ?_ ?_ <;> omega) | (refine cmulR ?_ ?_ <;> omega) | (refine cmulL ?_ ?_ <;> omega) | (refine ⟨?_, ?_, ?_, ?_⟩ <;> omega))); (conv => whnf))))
local macro_rules | `(tactic| exists $e) => `(tactic| first | exact $e | exact And.right $e | exact And.right (And.right $e) | exact And.right (And.right (And.right $e)))
def P__law_field : PD := P_field_of
def q__law_field_1 : QS :=
  (qSeq (qFor (qiR1 (qCons (qOp opMul (qC (.int 20)) (qC (.int 340))) qNil)) (qgN 1)
   (qSeq (qAsg (qM1 opJoin (qC (.str "<")) (qVar 0)) (qgN 2))
   (qSeq (qIfS (qB (qOp opLe (qUn opLen (qVar 2)) (qC (.int 24))))
    (qRet (qOp opAdd (qVar 2) (qOp opMul (qC (.str "<")) (qOp opSub (qC (.int 24)) (qUn opLen (qVar 2))))))
    qNext)
   (qSeq (qAsg (qLc [4] (qiR2 (qCons (qC (.int 1)) (qCons (qUn opLen (qVar 0)) qNil))) (qgN 4) (qB (qOp opGt (qUn opLen (qOp opIx (qVar 0) (qVar 4))) (qC (.int 1)))) (qVar 4)) (qgN 3))
   (qFrz 3 (qIfS (qB (qOp opGt (qUn opLen (qVar 3)) (qC (.int 0))))
    (qSetIx 0 (qOp opIx (qVar 3) (qOp opSub (qUn opLen (qVar 3)) (qC (.int 1)))) (qOp opIx (qOp opIx (qVar 0) (qOp opIx (qVar 3) (qOp opSub (qUn opLen (qVar 3)) (qC (.int 1))))) (qC (.int 0))))
    (qIfS (qB (qOp opGt (qUn opLen (qVar 0)) (qC (.int 1))))
     (qAsg (qSl (qVar 0) (qoS (qC (.int 0))) (qoS (qOp opSub (qUn opLen (qVar 0)) (qC (.int 1))))) (qgN 0))
     (qAsg (qLst (qCons (qSl (qOp opIx (qVar 0) (qC (.int 0))) (qoS (qC (.int 0))) (qoS (qC (.int 24)))) qNil)) (qgN 0)))))))))
  (qRet (qC (.str ""))))
-- _law_field(words) slots: 0=words* 1=turn 2=text 3=long 4=k
def q__law_field : QS :=
  (qSeq (qAsg (qUn opList (qVar 0)) (qgN 0))
  q__law_field_1)
theorem ixN_lt {n i : Nat} (h : i < n) : ixN n (i : Int) = some i := by
  unfold ixN
  rw [if_pos (by omega), if_pos (by omega)]
  simp
theorem first_sign {w : List Nat} (h : w ≠ []) : ixD w 0 = some (w.headD 0) := by
  cases w with
  | nil => exact absurd rfl h
  | cons c r => rfl
theorem take_one {w : List Nat} (h : w ≠ []) : w.take 1 = [w.headD 0] := by
  cases w with
  | nil => exact absurd rfl h
  | cons c r => rfl
theorem sign_as (c : Nat) : signD c = .str (asStr [c]) := rfl
theorem for_20 {g : QG} {t : QS} {P : PEnds} {Γ : Ev} (h : forGo g t P ((List.range 6800).map fun i : Nat => .int (i : Int)) Γ) : qFor (qiR1 (qCons (qOp opMul (qC (.int 20)) (qC (.int 340))) qNil)) g t P Γ :=
  ⟨cmulL (by decide) (by decide), (by decide : -(2 ^ 62) ≤ (20 * 340 : Int)), (by decide : (20 * 340 : Int) < 2 ^ 62), h⟩
theorem pure__law_field : ∀ ds R, ds.length = 1 → P__law_field ds R → q__law_field (endsOf R) (startEv 5 ds) := by
  rintro ds R - ⟨ws0, rfl, hl0, h⟩
  show q__law_field_1 (endsOf R) [.ow (.l (strsD ws0)), .un, .un, .un, .un]
  refine for_20 ?_
  refine forGo_ok (fun i : Nat => .int (i : Int)) (fun r Γ => ∃ (ws : List (List Nat)) (a b c : Sl), Γ = [.ow (.l (strsD ws)), a, b, c, .un] ∧ lenW ws ∧ jl ws < r.length ∧ fieldW ws = fieldW ws0) ?_ ?_ _ _ ⟨ws0, _, _, _, rfl, hl0, ?_, rfl⟩
  · rintro Γ ⟨ws, a, b, c, rfl, _, hlt, _⟩
    simp at hlt
  · rintro i r Γ K ⟨ws, a, b, c, rfl, hl, hlt, hf⟩ hK
    simp only [List.length_cons] at hlt
    have hsz := join_size ws
    have hl1 := hl.1
    have hl3 := hl.2.2
    have hsl := strsD_len ws
    have ejl : (asStr (joinL 60 ws)).length = jl ws := by rw [as_len, joinL_len]
    have e1t : (Str.ofString "<").length = 1 := by rw [fill_eq]; rfl
    have hK2 : 24 < jl ws → ∀ a b c : Sl, K [.ow (.l (strsD (stepW ws))), a, b, c, .un] := fun hg a b c => hK _ ⟨stepW ws, a, b, c, rfl, lenW_step hl hg, by have := jl_step hg; omega, by rw [← fieldW_step hg, hf]⟩
    clear hK
    ac_rfl
    rw [strsOf_strsD]
    ac_rfl
    rw [join_fill]
    ac_rfl
    rw [ejl]
    (try (refine ⟨small (by omega), ?_⟩; ac_rfl))
    refine ⟨fun hz => ?_, fun hz => ?_⟩
    · have hz : ((jl ws : Nat) : Int) ≤ 24 := of_decide_eq_true hz
      have ew : fieldW ws0 = ws := by rw [← hf, fieldW_end (by omega)]
      have efl : fieldL ws0 = joinL 60 ws ++ List.replicate (24 - jl ws) 60 := by
        unfold fieldL
        rw [ew]
      rw [efl] at h
      have e24 : (24 : Int) - ((jl ws : Nat) : Int) = ((24 - jl ws : Nat) : Int) := by omega
      have fin : R (.sh (.str (asStr (joinL 60 ws) ++ asStr (List.replicate (24 - jl ws) 60)))) := by
        rw [app_as]
        exact h
      clear hK2
      ac_rfl
      rw [ejl]
      (try (refine ⟨small (by omega), ?_⟩; ac_rfl))
      rw [e24, fill_mul]
      refine ⟨by rw [e1t]; simp; omega, small (by rw [as_len, as_len, joinL_len, List.length_replicate]; omega), fin⟩
    · have hz : ¬ ((jl ws : Nat) : Int) ≤ 24 := of_decide_eq_false hz
      have hg : 24 < jl ws := by omega
      have hK := hK2 hg
      clear hK2
      have hne := jl_ne hg
      have hpos := List.length_pos_iff.mpr hne
      ac_rfl
      refine longs_lc hl1 (fun i w ew acc K ha h1 h2 => ?_) ?_
      · have hwl := hl.2.1 w (List.mem_of_getElem? ew)
        have el : (asStr w).length = w.length := as_len w
        have e1 : (1 + (i : Int)) = ((i + 1 : Nat) : Int) := by omega
        rw [e1] at h1 ⊢
        ac_rfl
        rw [strsD_ix ew]
        ac_rfl
        refine ⟨fun hz => ?_, fun hz => ?_⟩
        · have hz : 1 < w.length := by
            have : (1 : Int) < ((asStr w).length : Nat) := of_decide_eq_true hz
            omega
          ac_rfl
          exists h1 hz
        · have hz : ¬ 1 < w.length := by
            have : ¬ (1 : Int) < ((asStr w).length : Nat) := of_decide_eq_false hz
            omega
          exists h2 hz
      · cases hgl : (longs ws).getLast? with
        | none =>
          have e0 : longs ws = [] := List.getLast?_eq_none_iff.mp hgl
          have es := stepW_none e0
          rw [e0]
          ac_rfl
          rw [strsD_len]
          refine ⟨fun hz => ?_, fun hz => ?_⟩
          · have hz : 1 < ws.length := by
              have : (1 : Int) < (ws.length : Nat) := of_decide_eq_true hz
              omega
            rw [es, if_pos hz] at hK
            ac_rfl
            rw [strsD_len]
            rw [show cutD (strsD ws) (some 0) (some ((ws.length : Int) - 1)) = strsD ws.dropLast by
              unfold cutD
              rw [show HT.sIx (strsD ws).length 0 (some 0) = 0 by rw [show (0 : Int) = ((0 : Nat) : Int) from rfl, HT.sIx_nat]; omega]
              rw [show (ws.length : Int) - 1 = ((ws.length - 1 : Nat) : Int) by omega, HT.sIx_nat, List.drop_zero, Nat.sub_zero, hsl, Nat.min_eq_left (by omega)]
              unfold strsD
              rw [← List.map_take, List.dropLast_eq_take]]
            exact hK _ _ _
          · have hz : ¬ 1 < ws.length := by
              have : ¬ (1 : Int) < (ws.length : Nat) := of_decide_eq_false hz
              omega
            rw [es, if_neg hz] at hK
            obtain ⟨w, rfl⟩ : ∃ w, ws = [w] := by
              cases ws with
              | nil => exact absurd rfl hne
              | cons w r =>
                cases r with
                | nil => exact ⟨w, rfl⟩
                | cons v r => simp at hz
            have hwl := hl.2.1 w (by simp)
            have el : (asStr w).length = w.length := as_len w
            ac_rfl
            rw [show cutS (asStr w) (some 0) (some 24) = asStr (w.take 24) from cutS_bt (asStr w) 0 24]
            exact hK _ _ _
        | some i =>
          obtain ⟨i1, i2⟩ := longs_mem hgl
          have es := stepW_some hgl
          have ew : ws[i + 1]? = some ws[i + 1] := List.getElem?_eq_getElem i1
          rw [ew] at es i2
          simp only [Option.getD_some] at es i2
          have hwl := hl.2.1 ws[i + 1] (List.getElem_mem i1)
          have el : (asStr ws[i + 1]).length = ws[i + 1].length := as_len _
          have e1 : (1 + (i : Int)) = ((i + 1 : Nat) : Int) := by omega
          obtain ⟨r, er⟩ := List.getLast?_eq_some_iff.mp hgl
          have hr : (longs ws).length ≤ ws.length := by
            unfold longs
            exact Nat.le_trans (List.length_filter_le _ _) (by simp)
          have hrl : (longs ws).length = r.length + 1 := by rw [er]; simp
          have eLast : ixD ((longs ws).map fun i : Nat => PyData.int (1 + (i : Int))) ((((longs ws).map fun i : Nat => PyData.int (1 + (i : Int))).length : Int) - 1) = some (.int ((i + 1 : Nat) : Int)) := by
            rw [List.length_map, hrl, show ((r.length + 1 : Nat) : Int) - 1 = ((r.length : Nat) : Int) by omega]
            rw [ixD_map _ (show (longs ws)[r.length]? = some i by rw [er]; simp), e1]
          have hwn : ws[i + 1] ≠ [] := fun e => by
            rw [e] at i2
            simp at i2
          rw [es, take_one hwn] at hK
          ac_rfl
          refine ⟨fun hz => ?_, fun hz => ?_⟩
          · clear hz
            ac_rfl
            rw [eLast]
            ac_rfl
            rw [strsD_ix ew]
            ac_rfl
            rw [show ixD (asStr ws[i + 1]).cps.toList 0 = some (ws[i + 1].headD 0) from first_sign hwn]
            ac_rfl
            rw [eLast]
            ac_rfl
            rw [hsl, ixN_lt i1]
            ac_rfl
            rw [show (strsD ws).set (i + 1) (signD (ws[i + 1].headD 0)) = strsD (ws.set (i + 1) [ws[i + 1].headD 0]) from strsD_set ws (i + 1) [ws[i + 1].headD 0]]
            exact hK _ _ _
          · have hz : ¬ (0 : Int) < ((((longs ws).map fun i : Nat => PyData.int (1 + (i : Int))).length : Nat) : Int) := of_decide_eq_false hz
            rw [List.length_map, hrl] at hz
            omega
  · have := hl0.2.2
    simp
    omega
end PL

namespace PL
open PySem PySem.Spec PyProof.Rows L2
local macro_rules | `(tactic| ac_rfl) => `(tactic| ((conv => whnf); repeat ((first | refine Cif.yes ?_ | refine Cif.no ?_ | (refine And.intro ?_ ?_; · first | (show _ ≤ (_ : Int); omega) | (show _ < (_ : Int); omega) | assumption | exact trivial | exact rfl | (refine small ?_; first | omega | (simp only [List.length_map, List.length_cons, List.length_nil, List.length_append]; omega)) | (refine ltsmall ?_; first | omega | (simp only [List.length_map, List.length_cons, List.length_nil, List.length_append]; omega)) | (refine cdiv ?_ ?_ <;> omega) | (refine cmulR ?_ ?_ <;> omega) | (refine cmulL ?_ ?_ <;> omega) | (refine ⟨?_, ?_, ?_, ?_⟩ <;> omega))); (conv => whnf))))
local macro_rules | `(tactic| exists $e) => `(tactic| first | exact $e | exact And.right $e | exact And.right (And.right $e) | exact And.right (And.right (And.right $e)))
def SgA (x : Str) : Prop := (∀ c ∈ tl x, isSg c = true) ∧ x.length ≤ 1000
theorem SgA.inL {x : Str} (h : SgA x) : InL mF x := fun c hc => mem_sgn.mpr (h.1 c hc)
theorem enum_sum {vs : List Nat} {g : QG} {p : QE} {k : List D → Ev → Prop} {Γ : Ev} (ws : List Nat) (hl : ws.length ≤ 1000)
    (hs : ∀ (i w : Nat), w ∈ ws → ∀ (acc : List D) (K : List D → Ev → Prop), acc.length < sizeLine → K (acc ++ [.int (((i : Int) + 1) * (w : Int))]) Γ → g (.sh (.tuple [.int (i : Nat), natD w])) Γ fun Γ1 => p Γ1 (fun w Γ3 => shr w Γ3 fun y Γ4 => acc.length < sizeLine ∧ K (acc ++ [y]) (wipEv vs Γ4)) noEX)
    (hk : k (((ws.zipIdx 0).map fun p => ((p.2 : Int) + 1) * (p.1 : Int)).map .int) Γ) : lcGo vs g qYes p k (enumD 0 (ws.map natD)) [] Γ := by
  have e : enumD 0 (ws.map natD) = (ws.zipIdx 0).map fun p => .tuple [.int (p.2 : Nat), natD p.1] := by
    have : ∀ (xs : List Nat) (k : Nat), enumD k (xs.map natD) = (xs.zipIdx k).map fun p => .tuple [.int (p.2 : Nat), natD p.1] := by
      intro xs
      induction xs with
      | nil => intro k; rfl
      | cons x r ih => intro k; simp [enumD, ih]
    exact this ws 0
  rw [e]
  refine lc0_map (fun p : Nat × Nat => .tuple [.int (p.2 : Nat), natD p.1]) (fun p => .int (((p.2 : Int) + 1) * (p.1 : Int))) _ (fun p hp acc K ha hK => ?_) (by rw [List.length_zipIdx]; exact small (by omega)) ?_
  · have hm : p.1 ∈ ws := by
      obtain ⟨w, i⟩ := p
      have := List.mem_zipIdx_iff_getElem?.mp hp
      exact List.mem_of_getElem? this
    exact hs p.2 p.1 hm acc K ha hK
  · rw [List.map_map] at hk
    exact hk
theorem val_lt {x : Str} (h : ∀ c ∈ tl x, isSg c = true) : ∀ w ∈ vals x, w < 37 := fun w hw => by
  obtain ⟨c, hc, rfl⟩ := List.mem_map.mp hw
  have := List.idxOf_lt_length_iff.mpr (mem_sgn.mpr (h c hc))
  rw [tl_len] at this
  have h2 := mF_m
  unfold Fr.m at h2
  show idx mF c < 37
  unfold idx
  omega
def P_check_signs : PD := fun ds R => ∃ x : Str, ds = [.str x] ∧ SgA x ∧ R (.sh (.str (asStr (chk x))))
-- check_signs(body) slots: 0=body 1=frame 2=signs 3=worths 4=plain 5=placed 6=last 7=k 8=worth
def q_check_signs : QS :=
  (qSeq (qAsg (qCall 0 P_machine_frame qNil) (qgN 1))
  (qSeq (qAsg (qOp opIx (qVar 1) (qC (.int 0))) (qgN 2))
  (qSeq (qAsg (qCall 2 P_worths_in (qCons (qVar 1) (qCons (qVar 0) qNil))) (qgN 3))
  (qFrz 3 (qSeq (qAsg (qUn opSum (qVar 3)) (qgN 4))
  (qSeq (qAsg (qUn opSum (qLc [7, 8] (qiE (qCons (qVar 3) qNil)) (qgTup 2 (qgCons (qgN 7) (qgCons (qgN 8) qgNil))) qYes (qOp opMul (qOp opAdd (qVar 7) (qC (.int 1))) (qVar 8)))) (qgN 5))
  (qSeq (qAsg (qOp opMod (qOp opSub (qOp opMul (qOp opSub (qC (.int 36)) (qC (.int 1))) (qVar 4)) (qVar 5)) (qUn opLen (qVar 2))) (qgN 6))
  (qRet (qOp opAdd (qOp opIx (qVar 2) (qOp opMod (qOp opSub (qUn opNeg (qVar 4)) (qVar 6)) (qUn opLen (qVar 2)))) (qOp opIx (qVar 2) (qVar 6)))))))))))
theorem pure_check_signs : ∀ ds R, ds.length = 1 → P_check_signs ds R → q_check_signs (endsOf R) (startEv 9 ds) := by
  rintro ds R - ⟨x, rfl, hx, h⟩
  have hvl := vals_len x
  have hxl := hx.2
  have m37 : mF.s.length = 37 := mF_m
  ac_rfl
  ac_rfl
  refine ⟨mF, x, rfl, mF_ok, hx.inL, hx.2, ?_⟩
  ac_rfl
  rw [show intsOf ((worths mF x).map natD) = some ((vals x).map fun n : Nat => (n : Int)) from intsOf_map' _ _]
  ac_rfl
  refine enum_sum (vs := [7, 8]) (vals x) (by omega) (fun i w hw acc K ha hK => ?_) ?_
  · ac_rfl
    refine ⟨by have := val_lt hx.1 w hw; exact cmulR (by omega) (by omega), ?_⟩
    ac_rfl
    exact hK
  · ac_rfl
    rw [intsOf_map' (fun i => i), List.map_id']
    ac_rfl
    rw [pl_sum, sm_sum, m37]
    rw [show ixD mF.s.cps.toList ((-sm (vals x) - ((36 - 1) * sm (vals x) - pl 0 (vals x)) % ((37 : Nat) : Int)) % ((37 : Nat) : Int)) = some (sgI (chkO (vals x))) from sgI_get (chkO_in _).1 (chkO_in _).2]
    ac_rfl
    rw [show ixD mF.s.cps.toList (((36 - 1) * sm (vals x) - pl 0 (vals x)) % ((37 : Nat) : Int)) = some (sgI (chkL (vals x))) from sgI_get (chkL_in _).1 (chkL_in _).2]
    ac_rfl
    exact ⟨small (by show 1 + 1 ≤ _; decide), h⟩
def P__law_values : PD := fun ds R => ∃ x : Str, ds = [.str x] ∧ SgA x ∧ R (.ow (.l ((vals x).map natD)))
-- _law_values(text) slots: 0=text 1=sign
def q__law_values : QS :=
  (qRet (qLc [1] (qiS (qVar 0)) (qgN 1) qYes (qM1 opIndex (qC (.str "0123456789ABCDEFGHIJKLMNOPQRSTUVWXYZ<")) (qVar 1))))
theorem pure__law_values : ∀ ds R, ds.length = 1 → P__law_values ds R → q__law_values (endsOf R) (startEv 2 ds) := by
  rintro ds R - ⟨x, rfl, hx, h⟩
  have hxl := hx.2
  ac_rfl
  refine lc0_map (vs := [1]) signD (fun c => natD (idx mF c)) (tl x) (fun c hc acc K ha hK => ?_) (by rw [tl_len]; exact small (by omega)) ?_
  · ac_rfl
    rw [show List.idxOf? c (Str.ofString "0123456789ABCDEFGHIJKLMNOPQRSTUVWXYZ<").cps.toList = some (idx mF c) from idxOf?_mem (mem_sgn.mpr (hx.1 c hc))]
    ac_rfl
    exists hK
  · have e : (vals x).map natD = (tl x).map fun c => natD (idx mF c) := by simp [vals, worths]
    rw [e] at h
    ac_rfl
    exists h
def P__law_with_checks : PD := fun ds R => ∃ x : Str, ds = [.str x] ∧ SgA x ∧ R (.sh (.str (lineS x)))
def q__law_with_checks_4 : QS :=
  (qSeq (qFor (qiR1 (qCons (qC (.int 37)) qNil)) (qgN 5)
   (qSeq (qAsg (qOp opMod (qUn opInt (qOp opSub (qOp opSub (qC (.int 0)) (qVar 3)) (qVar 5))) (qC (.int 37))) (qgN 6))
   (qIfS (qB (qOp opEq (qOp opMod (qUn opInt (qOp opAdd (qOp opAdd (qVar 4) (qOp opMul (qC (.int 35)) (qVar 6))) (qOp opMul (qC (.int 36)) (qVar 5)))) (qC (.int 37))) (qC (.int 0))))
    (qRet (qOp opAdd (qOp opAdd (qVar 0) (qOp opIx (qVar 1) (qVar 6))) (qOp opIx (qVar 1) (qVar 5))))
    qNext)))
  (qRet (qC (.str ""))))
-- _law_with_checks(body) slots: 0=body 1=signs 2=values 3=plain 4=placed 5=last 6=one 7=k 8=value
def q__law_with_checks : QS :=
  (qSeq (qAsg (qC (.str "0123456789ABCDEFGHIJKLMNOPQRSTUVWXYZ<")) (qgN 1))
  (qSeq (qAsg (qCall 1 P__law_values (qCons (qVar 0) qNil)) (qgN 2))
  (qFrz 2 (qSeq (qAsg (qUn opSum (qVar 2)) (qgN 3))
  (qSeq (qAsg (qUn opSum (qLc [7, 8] (qiE (qCons (qVar 2) qNil)) (qgTup 2 (qgCons (qgN 7) (qgCons (qgN 8) qgNil))) qYes (qOp opMul (qOp opAdd (qVar 7) (qC (.int 1))) (qVar 8)))) (qgN 4))
  q__law_with_checks_4)))))
theorem drop_cons {k n : Nat} {i : Nat} {r : List Nat} (h : (List.range n).drop k = i :: r) : k < n ∧ i = k ∧ r = (List.range n).drop (k + 1) := by
  by_cases hk : k < n
  · rw [List.drop_eq_getElem_cons (by simpa using hk)] at h
    simp only [List.getElem_range, List.cons.injEq] at h
    exact ⟨hk, h.1.symm, h.2.symm⟩
  · rw [List.drop_eq_nil_of_le (by simpa using hk)] at h
    cases h
theorem chk_uniq {s p : Int} {l : Nat} (hl : l < 37) (h : (p + 35 * ((0 - s - (l : Int)) % 37) + 36 * (l : Int)) % 37 = 0) : (l : Int) = (35 * s - p) % 37 := by omega
theorem chk_ok {s p : Int} : (p + 35 * ((0 - s - (35 * s - p) % 37) % 37) + 36 * ((35 * s - p) % 37)) % 37 = 0 := by omega
theorem for_37 {g : QG} {t : QS} {P : PEnds} {Γ : Ev} (h : forGo g t P ((List.range 37).map fun i : Nat => .int (i : Int)) Γ) : qFor (qiR1 (qCons (qC (.int 37)) qNil)) g t P Γ :=
  ⟨(by decide : -(2 ^ 62) ≤ (37 : Int)), (by decide : (37 : Int) < 2 ^ 62), h⟩
theorem with_4 {R : Wv → Prop} {x : Str} (hx : SgA x) (h : R (.sh (.str (lineS x)))) {x2 : Sl} : q__law_with_checks_4 (endsOf R) [.sh (.str x), .sh (.str sgnS), x2, .sh (.int (sm (vals x))), .sh (.int (pl 0 (vals x))), .un, .un, .un, .un] := by
  obtain ⟨o0, o1⟩ := chkO_in (vals x)
  obtain ⟨l0, l1⟩ := chkL_in (vals x)
  have hxl := hx.2
  have m37 : sgnS.length = 37 := mF_m
  have hfin : R (.sh (.str (x ++ ⟨#[sgI (chkO (vals x))]⟩ ++ ⟨#[sgI (chkL (vals x))]⟩))) := by
    have e : x ++ ⟨#[sgI (chkO (vals x))]⟩ ++ ⟨#[sgI (chkL (vals x))]⟩ = lineS x := by
      apply str_ext
      rw [tl_app, tl_app]
      show tl x ++ [_] ++ [_] = tl x ++ [_, _]
      simp
    rw [e]
    exact h
  refine for_37 ?_
  refine forGo_ok (fun i : Nat => .int (i : Int)) (fun r Γ => ∃ (k : Nat) (a b : Sl), Γ = [.sh (.str x), .sh (.str sgnS), x2, .sh (.int (sm (vals x))), .sh (.int (pl 0 (vals x))), a, b, .un, .un] ∧ r = (List.range 37).drop k ∧ (k : Int) ≤ chkL (vals x)) ?_ ?_ _ _ ⟨0, _, _, rfl, rfl, l0⟩
  · rintro Γ ⟨k, a, b, rfl, hr, hk⟩
    have := congrArg List.length hr
    simp at this
    omega
  · rintro i r Γ K ⟨k, a, b, rfl, hr, hk⟩ hK
    obtain ⟨hk37, rfl, rfl⟩ := drop_cons hr.symm
    ac_rfl
    rw [eqv_int]
    refine ⟨fun hz => ?_, fun hz => ?_⟩
    · have e := chk_uniq hk37 (of_decide_eq_true hz)
      have e : (i : Int) = chkL (vals x) := e
      clear hz hK
      ac_rfl
      rw [show ixD (Str.ofString "0123456789ABCDEFGHIJKLMNOPQRSTUVWXYZ<").cps.toList ((0 - sm (vals x) - (i : Int)) % 37) = some (sgI (chkO (vals x))) by
        rw [e, show (0 - sm (vals x) - chkL (vals x)) % 37 = chkO (vals x) by unfold chkO; congr 1; omega]
        exact sgI_get o0 o1]
      refine ⟨small (by show _ + 1 ≤ _; omega), ?_⟩
      ac_rfl
      rw [show ixD sgnS.cps.toList (i : Int) = some (sgI (chkL (vals x))) by
        rw [e]
        exact sgI_get l0 l1]
      ac_rfl
      refine ⟨small (by rw [app_len]; show _ + 1 + 1 ≤ _; omega), hfin⟩
    · have hne : (i : Int) ≠ chkL (vals x) := fun e => by
        refine of_decide_eq_false hz ?_
        rw [e]
        exact chk_ok
      exact hK _ ⟨i + 1, _, _, rfl, rfl, by omega⟩
theorem pure__law_with_checks : ∀ ds R, ds.length = 1 → P__law_with_checks ds R → q__law_with_checks (endsOf R) (startEv 9 ds) := by
  rintro ds R - ⟨x, rfl, hx, h⟩
  have hvl := vals_len x
  have hxl := hx.2
  obtain ⟨o0, o1⟩ := chkO_in (vals x)
  obtain ⟨l0, l1⟩ := chkL_in (vals x)
  ac_rfl
  refine ⟨x, rfl, hx, ?_⟩
  ac_rfl
  rw [show intsOf ((vals x).map natD) = some ((vals x).map fun n : Nat => (n : Int)) from intsOf_map' _ _]
  ac_rfl
  refine enum_sum (vs := [7, 8]) (vals x) (by omega) (fun i w hw acc K ha hK => ?_) ?_
  · ac_rfl
    refine ⟨by have := val_lt hx.1 w hw; exact cmulR (by omega) (by omega), ?_⟩
    ac_rfl
    exact hK
  · have fin := with_4 (R := R) hx h (x2 := .sh (.list ((vals x).map natD)))
    rw [← sm_sum, ← pl_sum (vals x) 0] at fin
    show (match intsOf (List.map PyData.int _) with | some ns => _ | none => False)
    rw [intsOf_map' (fun i => i), List.map_id']
    exact fin
end PL

namespace PL
open PySem PySem.Spec PyProof.Rows L2
local macro_rules | `(tactic| ac_rfl) => `(tactic| ((conv => whnf); repeat ((first | refine Cif.yes ?_ | refine Cif.no ?_ | (refine And.intro ?_ ?_; · first | (show _ ≤ (_ : Int); omega) | (show _ < (_ : Int); omega) | assumption | exact trivial | exact rfl | (refine small ?_; first | omega | (simp only [List.length_map, List.length_cons, List.length_nil, List.length_append]; omega)) | (refine ltsmall ?_; first | omega | (simp only [List.length_map, List.length_cons, List.length_nil, List.length_append]; omega)) | (refine cdiv ?_ ?_ <;> omega) | (refine cmulR ?_ ?_ <;> omega) | (refine cmulL ?_ ?_ <;> omega) | (refine ⟨?_, ?_, ?_, ?_⟩ <;> omega))); (conv => whnf))))
local macro_rules | `(tactic| exists $e) => `(tactic| first | exact $e | exact And.right $e | exact And.right (And.right $e) | exact And.right (And.right (And.right $e)))
def P__law_machine_line : PD := fun ds R => ∃ (p d : Nat) (ws : List (List Nat)), ds = [.int p, .int d, .list (strsD ws)] ∧ p < 10000 ∧ d < 1000000 ∧ lenW ws ∧ CapW ws ∧ ws ≠ [] ∧ R (.sh (.str (machL p d ws)))
-- _law_machine_line(person, day, words) slots: 0=person 1=day 2=words 3=one 4=other
def q__law_machine_line : QS :=
  (qSeq (qAsg (qOp opAdd (qC (.str "0000")) (qUn opStr (qVar 0))) (qgN 3))
  (qSeq (qAsg (qOp opAdd (qC (.str "000000")) (qUn opStr (qVar 1))) (qgN 4))
  (qRet (qCall 1 P__law_with_checks (qCons (qOp opAdd (qOp opAdd (qSl (qVar 3) (qoS (qOp opSub (qUn opLen (qVar 3)) (qC (.int 4)))) qoN) (qSl (qVar 4) (qoS (qOp opSub (qUn opLen (qVar 4)) (qC (.int 6)))) qoN)) (qCall 1 P__law_field (qCons (qVar 2) qNil))) qNil)))))
theorem tl_str (n : Nat) : tl (Str.ofString (toString ((n : Nat) : Int))) = numS n := TL.tl_num n
theorem str_len (n : Nat) : (Str.ofString (toString ((n : Nat) : Int))).length = (numS n).length := by rw [← tl_len, tl_str]
theorem log_ok {n : Nat} (h : n < 1000000) : ((n : Nat) : Int).natAbs.log2 < 1920 := by
  show n.log2 < 1920
  by_cases hz : n = 0
  · rw [hz]; decide
  · exact Nat.lt_trans ((Nat.log2_lt hz (k := 20)).mpr (by omega)) (by decide)
theorem drop_pad {k n : Nat} (h : (numS n).length ≤ k) : (List.replicate k 48 ++ numS n).drop (numS n).length = padL k n := by
  rw [List.drop_append_of_le_length (by rw [List.length_replicate]; exact h), List.drop_replicate]
  rfl
theorem zeros_4 : tl (Str.ofString "0000") = List.replicate 4 48 := by decide +kernel
theorem zeros_6 : tl (Str.ofString "000000") = List.replicate 6 48 := by decide +kernel
theorem pure__law_machine_line : ∀ ds R, ds.length = 3 → P__law_machine_line ds R → q__law_machine_line (endsOf R) (startEv 5 ds) := by
  rintro ds R - ⟨p, d, ws, rfl, hp, hd, hl, hc, hne, h⟩
  have l1 : (numS p).length ≤ 4 := TL.numL_len (by decide) hp
  have l2 : (numS d).length ≤ 6 := TL.numL_len (by decide) hd
  have s1 := str_len p
  have s2 := str_len d
  have z4 : (Str.ofString "0000").length = 4 := by rw [← tl_len, zeros_4]; rfl
  have z6 : (Str.ofString "000000").length = 6 := by rw [← tl_len, zeros_6]; rfl
  have a1 : (Str.ofString "0000" ++ Str.ofString (toString ((p : Nat) : Int))).length = 4 + (numS p).length := by rw [app_len, z4, s1]
  have a2 : (Str.ofString "000000" ++ Str.ofString (toString ((d : Nat) : Int))).length = 6 + (numS d).length := by rw [app_len, z6, s2]
  have c1 : cutS (Str.ofString "0000" ++ Str.ofString (toString ((p : Nat) : Int))) (some ((((Str.ofString "0000" ++ Str.ofString (toString ((p : Nat) : Int))).length : Nat) : Int) - 4)) none = asStr (padL 4 p) := by
    rw [a1, show (((4 + (numS p).length : Nat) : Int) - 4) = (((numS p).length : Nat) : Int) by omega, cutS_ge, tl_app, zeros_4, tl_str, drop_pad l1]
  have c2 : cutS (Str.ofString "000000" ++ Str.ofString (toString ((d : Nat) : Int))) (some ((((Str.ofString "000000" ++ Str.ofString (toString ((d : Nat) : Int))).length : Nat) : Int) - 6)) none = asStr (padL 6 d) := by
    rw [a2, show (((6 + (numS d).length : Nat) : Int) - 6) = (((numS d).length : Nat) : Int) by omega, cutS_ge, tl_app, zeros_6, tl_str, drop_pad l2]
  have p1 := padL_len (k := 4) (n := p) (by decide) hp
  have p2 := padL_len (k := 6) (n := d) (by decide) hd
  have f1 := fieldL_len hc hne
  ac_rfl
  refine ⟨log_ok (by omega), ?_⟩
  ac_rfl
  (try (refine ⟨small (by rw [z4, s1]; omega), ?_⟩; ac_rfl))
  refine ⟨log_ok (by omega), ?_⟩
  ac_rfl
  (try (refine ⟨small (by rw [z6, s2]; omega), ?_⟩; ac_rfl))
  (try (refine ⟨small (by rw [a1]; omega), ?_⟩; ac_rfl))
  (try (refine ⟨small (by rw [a1]; omega), ?_⟩; ac_rfl))
  (try (refine ⟨small (by rw [a2]; omega), ?_⟩; ac_rfl))
  (try (refine ⟨small (by rw [a2]; omega), ?_⟩; ac_rfl))
  rw [c1, c2]
  refine ⟨small (by rw [as_len, as_len]; omega), ?_⟩
  ac_rfl
  refine ⟨ws, rfl, hl, ?_⟩
  ac_rfl
  refine ⟨small (by rw [app_len, as_len, as_len, as_len]; omega), ?_⟩
  ac_rfl
  refine ⟨_, rfl, ?_, ?_⟩
  · rw [app_as, app_as]
    refine ⟨?_, ?_⟩
    · rw [tl_as]
      exact body_sg hc hne
    · rw [as_len]
      have := body_len hp hd hc hne
      unfold bodyL at this
      omega
  · rw [app_as, app_as]
    ac_rfl
    exists h
theorem txt_0 : Str.ofString "0" = ⟨#[48]⟩ := by decide +kernel
theorem rjust_pad {k n : Nat} : Txt.rjustF (Str.ofString (toString ((n : Nat) : Int))) ((k : Nat) : Int) 48 = asStr (padL k n) := by
  apply str_ext
  show (Txt.rjustF _ _ _).cps.toList = padL k n
  rw [rjustF_list]
  have e := tl_str n
  have e2 := str_len n
  show List.replicate (((k : Nat) : Int).toNat - _) 48 ++ tl (Str.ofString (toString ((n : Nat) : Int))) = _
  rw [e, e2]
  rfl
def P_machine_line (C : Str → Addr) : PDX := fun ds R EX => ∃ (p d : Nat) (x : Str), ds = [.int p, .int d, .str x] ∧ p < 10000 ∧ d < 1000000 ∧ lowA x ∧ (wds (tl x) = [] → EX (.ref (C "NoWord"))) ∧ (wds (tl x) ≠ [] → R (.sh (.str (machL p d (wds (tl x))))))
-- machine_line(person, day, name) slots: 0=person 1=day 2=name 3=words 4=body
def q_machine_line (C : Str → Addr) : QS :=
  (qSeq (qAsg (qCall 1 P_words_of (qCons (qVar 2) qNil)) (qgN 3))
  (qFrz 3 (qSeq (qIfS (qNot (qTru (qVar 3)))
   (qRaise (.ref (C "NoWord")))
   qNext)
  (qSeq (qAsg (qOp opAdd (qOp opAdd (qBM opRjust (qUn opStr (qVar 0)) (qCons (qC (.int 4)) (qCons (qC (.str "0")) qNil))) (qBM opRjust (qUn opStr (qVar 1)) (qCons (qC (.int 6)) (qCons (qC (.str "0")) qNil)))) (qCall 1 P_field_of (qCons (qVar 3) qNil))) (qgN 4))
  (qRet (qOp opAdd (qVar 4) (qCall 1 P_check_signs (qCons (qVar 4) qNil))))))))
theorem wds_lenW {x : Str} (h : lowA x) : lenW (wds (tl x)) := by
  have h1 := wds_len (tl x)
  have h2 := h.2
  rw [tl_len] at h1
  have h3 : ∀ w ∈ wds (tl x), w.length ≤ ((wds (tl x)).map List.length).sum := fun w hw => by
    have : ∀ ws : List (List Nat), ∀ w ∈ ws, w.length ≤ (ws.map List.length).sum := by
      intro ws
      induction ws with
      | nil => intro w hw; cases hw
      | cons v r ih =>
        intro w hw
        rw [List.map_cons, List.sum_cons]
        rcases List.mem_cons.mp hw with rfl | hw
        · omega
        · have := ih w hw
          omega
    exact this _ w hw
  have h4 : ∀ ws : List (List Nat), CapW ws → ws.length ≤ (ws.map List.length).sum := by
    intro ws
    induction ws with
    | nil => intro _; simp
    | cons v r ih =>
      intro hc
      have := ih fun u hu => hc u (List.mem_cons_of_mem _ hu)
      have := List.length_pos_iff.mpr (hc v (by simp)).1
      simp only [List.map_cons, List.sum_cons, List.length_cons]
      omega
  have h5 := h4 _ (wds_cap (tl x))
  refine ⟨by omega, fun w hw => ?_, ?_⟩
  · have := h3 w hw
    have := List.length_pos_of_mem hw
    omega
  · unfold jl
    omega
theorem pure_machine_line (C : Str → Addr) : ∀ ds R EX, ds.length = 3 → P_machine_line C ds R EX → q_machine_line C (endsX R EX) (startEv 5 ds) := by
  rintro ds R EX - ⟨p, d, x, rfl, hp, hd, hx, h1, h2⟩
  have hc := wds_cap (tl x)
  have hl := wds_lenW hx
  ac_rfl
  refine ⟨x, rfl, hx, ?_⟩
  ac_rfl
  cases hw : wds (tl x) with
  | nil =>
    have fin := h1 hw
    ac_rfl
    exists fin
  | cons w r =>
    have hne : wds (tl x) ≠ [] := by rw [hw]; simp
    have fin := h2 hne
    rw [hw] at hc hl fin hne
    clear h1 h2
    have p1 := padL_len (k := 4) (n := p) (by decide) hp
    have p2 := padL_len (k := 6) (n := d) (by decide) hd
    have f1 := fieldL_len hc hne
    have r1 : Txt.rjustF (Str.ofString (toString ((p : Nat) : Int))) 4 48 = asStr (padL 4 p) := rjust_pad (k := 4)
    have r2 : Txt.rjustF (Str.ofString (toString ((d : Nat) : Int))) 6 48 = asStr (padL 6 d) := rjust_pad (k := 6)
    have hb : SgA (asStr (padL 4 p) ++ asStr (padL 6 d) ++ asStr (fieldL (w :: r))) := by
      rw [app_as, app_as]
      refine ⟨?_, ?_⟩
      · rw [tl_as]
        exact body_sg hc hne
      · rw [as_len]
        have := body_len hp hd hc hne
        unfold bodyL at this
        omega
    have hb34 : (asStr (padL 4 p) ++ asStr (padL 6 d) ++ asStr (fieldL (w :: r))).length = 34 := by
      rw [app_as, app_as, as_len]
      exact body_len hp hd hc hne
    have fin2 : R (.sh (.str ((asStr (padL 4 p) ++ asStr (padL 6 d) ++ asStr (fieldL (w :: r))) ++ asStr (chk (asStr (padL 4 p) ++ asStr (padL 6 d) ++ asStr (fieldL (w :: r))))))) := by
      rw [app_as, app_as, app_as]
      exact fin
    clear fin
    ac_rfl
    refine ⟨log_ok (by omega), ?_⟩
    ac_rfl
    (try (rw [txt_0]; ac_rfl))
    rw [show Txt.rjustF (Str.ofString (toString ((p : Nat) : Int))) 4 (UInt8.ofNat '0'.val.toNat).toNat = asStr (padL 4 p) from r1]
    refine ⟨log_ok (by omega), ?_⟩
    ac_rfl
    (try rw [show Txt.rjustF (Str.ofString (toString ((d : Nat) : Int))) 6 (UInt8.ofNat '0'.val.toNat).toNat = asStr (padL 6 d) from r2])
    (try rw [r2])
    refine ⟨small (by rw [as_len, as_len]; omega), ?_⟩
    ac_rfl
    refine ⟨w :: r, rfl, hl, ?_⟩
    ac_rfl
    refine ⟨small (by rw [app_len, as_len, as_len, as_len]; omega), ?_⟩
    ac_rfl
    refine ⟨_, rfl, hb, ?_⟩
    ac_rfl
    refine ⟨small (by rw [hb34, as_len]; show 34 + 2 ≤ _; decide), ?_⟩
    exists fin2
end PL

namespace PL
open PySem PySem.Spec PyProof.Rows L2
local macro_rules | `(tactic| ac_rfl) => `(tactic| ((conv => whnf); repeat ((first | refine Cif.yes ?_ | refine Cif.no ?_ | (refine And.intro ?_ ?_; · first | (show _ ≤ (_ : Int); omega) | (show _ < (_ : Int); omega) | assumption | exact trivial | exact rfl | (refine small ?_; first | omega | (simp only [List.length_map, List.length_cons, List.length_nil, List.length_append]; omega)) | (refine ltsmall ?_; first | omega | (simp only [List.length_map, List.length_cons, List.length_nil, List.length_append]; omega)) | (refine cdiv ?_ ?_ <;> omega) | (refine cmulR ?_ ?_ <;> omega) | (refine cmulL ?_ ?_ <;> omega) | (refine ⟨?_, ?_, ?_, ?_⟩ <;> omega))); (conv => whnf))))
local macro_rules | `(tactic| exists $e) => `(tactic| first | exact $e | exact And.right $e | exact And.right (And.right $e) | exact And.right (And.right (And.right $e)))
def P__law_good_machine : PD := fun ds R => ∃ x : Str, ds = [.str x] ∧ x.length ≤ 1000 ∧ R (.sh (.bool (isGood mF x)))
-- _law_good_machine(text) slots: 0=text 1=values 2=sign 3=k 4=value
def q__law_good_machine : QS :=
  (qSeq (qIfS (qOr (qB (qOp opNe (qUn opLen (qVar 0)) (qC (.int 36)))) (qB (qOp opGt (qUn opLen (qLc [2] (qiS (qVar 0)) (qgN 2) (qB (qOp (opInW not) (qVar 2) (qC (.str "0123456789ABCDEFGHIJKLMNOPQRSTUVWXYZ<")))) (qVar 2))) (qC (.int 0)))))
   (qRet (qC (.bool false)))
   qNext)
  (qSeq (qAsg (qCall 1 P__law_values (qCons (qVar 0) qNil)) (qgN 1))
  (qFrz 1 (qRet (qAndV (qOp opEq (qOp opMod (qUn opSum (qVar 1)) (qC (.int 37))) (qC (.int 0))) (qOp opEq (qOp opMod (qUn opSum (qLc [3, 4] (qiE (qCons (qVar 1) qNil)) (qgTup 2 (qgCons (qgN 3) (qgCons (qgN 4) qgNil))) qYes (qOp opMul (qOp opAdd (qVar 3) (qC (.int 1))) (qVar 4)))) (qC (.int 37))) (qC (.int 0))))))))
theorem fil_len {α : Type} (p : α → Bool) (l : List α) : ((l.filter fun c => !p c).length : Int) > 0 ↔ l.all p = false := by
  induction l with
  | nil => simp
  | cons c r ih =>
    cases h : p c with
    | true =>
      rw [List.filter_cons_of_neg (by rw [h]; decide), List.all_cons, h, Bool.true_and]
      exact ih
    | false =>
      rw [List.filter_cons_of_pos (by rw [h]; rfl), List.all_cons, h, Bool.false_and]
      simp
theorem pure__law_good_machine : ∀ ds R, ds.length = 1 → P__law_good_machine ds R → q__law_good_machine (endsOf R) (startEv 5 ds) := by
  rintro ds R - ⟨x, rfl, hx, h⟩
  rw [good_mF] at h
  ac_rfl
  rw [show PyData.eqv (.int ((x.length : Nat) : Int)) (.int 36) = (x.length == 36) from eqv_nat _ 36]
  cases h36 : (x.length == 36) with
  | false =>
    rw [h36] at h
    ac_rfl
    exists h
  | true =>
    rw [h36] at h
    have h36 : x.length = 36 := by simpa using h36
    ac_rfl
    refine lc0_fil (vs := [2]) signD (fun c => !isSg c) signD (tl x) (fun c hc acc K ha hK1 hK2 => ?_) (by rw [tl_len]; exact small (by omega)) ?_
    · have e : decide (c ∈ (Str.ofString "0123456789ABCDEFGHIJKLMNOPQRSTUVWXYZ<").cps.toList) = isSg c := by
        rw [Bool.eq_iff_iff, decide_eq_true_eq]
        exact mem_sgn
      ac_rfl
      rw [e]
      refine ⟨fun hz => ?_, fun hz => ?_⟩
      · ac_rfl
        exists hK1 hz
      · exists hK2 hz
    · cases hall : (tl x).all isSg with
      | false =>
        rw [hall] at h
        have hpos := (fil_len isSg (tl x)).mpr hall
        ac_rfl
        rw [List.length_map]
        refine Cif.tt (by simpa using hpos) ?_
        ac_rfl
        exists h
      | true =>
        rw [hall] at h
        have hpos : ¬ (((tl x).filter fun c => !isSg c).length : Int) > 0 := fun hp => by
          have := (fil_len isSg (tl x)).mp hp
          rw [hall] at this
          cases this
        have hvl := vals_len x
        have hs : SgA x := ⟨fun c hc => List.all_eq_true.mp hall c hc, hx⟩
        ac_rfl
        rw [List.length_map]
        refine Cif.ff (by simpa using hpos) ?_
        ac_rfl
        refine ⟨x, rfl, hs, ?_⟩
        ac_rfl
        rw [show intsOf ((vals x).map natD) = some ((vals x).map fun n : Nat => (n : Int)) from intsOf_map' _ _]
        ac_rfl
        rw [sm_sum, eqv_int]
        have e1 : (sm (vals x) % 37 == 0) = decide (sm (vals x) % 37 = 0) := Bool.beq_eq_decide_eq ..
        have e2 : (pl 0 (vals x) % 37 == 0) = decide (pl 0 (vals x) % 37 = 0) := Bool.beq_eq_decide_eq ..
        rw [e1, e2] at h
        refine ⟨fun hz => ?_, fun hz => ?_⟩
        · rw [hz] at h
          ac_rfl
          refine enum_sum (vs := [3, 4]) (vals x) (by omega) (fun i w hw acc K ha hK => ?_) ?_
          · ac_rfl
            refine ⟨by have := val_lt hs.1 w hw; exact cmulR (by omega) (by omega), ?_⟩
            ac_rfl
            exact hK
          · ac_rfl
            rw [intsOf_map' (fun i => i), List.map_id']
            ac_rfl
            rw [pl_sum, eqv_int]
            exists h
        · rw [hz] at h
          exists h
def P_has_digits : PD := fun ds R => ∃ x : Str, ds = [.str x] ∧ x.length ≤ 1000 ∧ R (.sh (.bool ((tl x).all isDg)))
-- has_digits(text) slots: 0=text 1=sign
def q_has_digits : QS :=
  (qRet (qUn opAll (qLc [1] (qiS (qVar 0)) (qgN 1) qYes (qOp (opInW id) (qVar 1) (qC (.str "0123456789"))))))
theorem dg_mem {c : Nat} : decide (c ∈ (Str.ofString "0123456789").cps.toList) = isDg c := by
  rw [Bool.eq_iff_iff, decide_eq_true_eq]
  refine dig_mem.trans ?_
  unfold isDg
  simp
theorem cp_mem {c : Nat} : decide (c ∈ (Str.ofString "ABCDEFGHIJKLMNOPQRSTUVWXYZ").cps.toList) = isCp c := by
  rw [Bool.eq_iff_iff, decide_eq_true_eq]
  refine cap_mem.trans ?_
  unfold isCp
  simp
theorem all_id {α : Type} (f : α → Bool) (l : List α) : (l.map f).all id = l.all f := by
  rw [List.all_map]
  rfl
theorem pure_has_digits : ∀ ds R, ds.length = 1 → P_has_digits ds R → q_has_digits (endsOf R) (startEv 2 ds) := by
  rintro ds R - ⟨x, rfl, hx, h⟩
  ac_rfl
  refine lc0_map (vs := [1]) signD (fun c => .bool (isDg c)) (tl x) (fun c hc acc K ha hK => ?_) (by rw [tl_len]; exact small (by omega)) ?_
  · ac_rfl
    rw [dg_mem]
    exists hK
  · ac_rfl
    rw [boolsOf_map']
    ac_rfl
    rw [all_id]
    exists h
end PL

namespace PL
open PySem PySem.Spec PyProof.Rows L2
local macro_rules | `(tactic| ac_rfl) => `(tactic| ((conv => whnf); repeat ((first | refine Cif.yes ?_ | refine Cif.no ?_ | (refine And.intro ?_ ?_; · first | (show _ ≤ (_ : Int); omega) | (show _ < (_ : Int); omega) | assumption | exact trivial | exact rfl | (refine small ?_; first | omega | (simp only [List.length_map, List.length_cons, List.length_nil, List.length_append]; omega)) | (refine ltsmall ?_; first | omega | (simp only [List.length_map, List.length_cons, List.length_nil, List.length_append]; omega)) | (refine cdiv ?_ ?_ <;> omega) | (refine cmulR ?_ ?_ <;> omega) | (refine cmulL ?_ ?_ <;> omega) | (refine ⟨?_, ?_, ?_, ?_⟩ <;> omega))); (conv => whnf))))
local macro_rules | `(tactic| exists $e) => `(tactic| first | exact $e | exact And.right $e | exact And.right (And.right $e) | exact And.right (And.right (And.right $e)))
theorem hasDict_strs : ∀ xs : List Str, PyData.hasDictAll (xs.map .str) = false
  | [] => by simp [PyData.hasDictAll]
  | x :: r => by simp [PyData.hasDictAll, PyData.hasDict, hasDict_strs r]
theorem depth_strs : ∀ xs : List Str, PyData.depthAll (xs.map .str) ≤ 1
  | [] => by simp [PyData.depthAll]
  | x :: r => by
    have := depth_strs r
    simp only [List.map_cons, PyData.depthAll, PyData.depth]
    omega
theorem flat_strL (xs : List Str) : flat 60 (.list (xs.map .str)) = true := by
  have h := depth_strs xs
  have e1 : (PyData.list (xs.map .str)).hasDict = false := by simp [PyData.hasDict, hasDict_strs]
  have e2 : (PyData.list (xs.map .str)).depth ≤ 60 := by
    simp only [PyData.depth]
    omega
  simp [flat, e1, e2]
theorem strsD_str (ws : List (List Nat)) : strsD ws = (ws.map asStr).map .str := by simp [strsD]
theorem flat_strsD (ws : List (List Nat)) : flat 60 (.list (strsD ws)) = true := by rw [strsD_str]; exact flat_strL _
theorem flat_str (x : Str) : flat 60 (.str x) = true := rfl
theorem inD_strs (x : Str) : ∀ xs : List Str, inD (.str x) (xs.map .str) = decide (x ∈ xs)
  | [] => rfl
  | y :: r => by
    have ih := inD_strs x r
    unfold inD at ih ⊢
    rw [List.map_cons, List.any_cons, ih, eqv_str]
    by_cases h : y = x
    · simp [h]
    · have : ¬ x = y := fun e => h e.symm
      simp [h, this]
theorem as_inj {a b : List Nat} (h : asStr a = asStr b) : a = b := congrArg tl h
theorem inD_empty (ws : List (List Nat)) : inD (.str (Str.ofString "")) (strsD ws) = decide ([] ∈ ws) := by
  rw [strsD_str, inD_strs]
  apply decide_eq_decide.mpr
  rw [List.mem_map]
  exact ⟨fun ⟨w, hw, e⟩ => by
    have : w = [] := as_inj (e.trans (by decide +kernel : Str.ofString "" = asStr []))
    rw [← this]
    exact hw, fun h => ⟨[], h, by decide +kernel⟩⟩
def P_read_machine (C : Str → Addr) : PDX := fun ds R EX => ∃ x : Str, ds = [.str x] ∧ x.length ≤ 1000 ∧ (okR x = false → EX (.ref (C "InvalidLine"))) ∧ (okR x = true → R (.sh (readD x)))
-- read_machine(string) slots: 0=string 1=person 2=day 3=words 4=word 5=sign
def q_read_machine (C : Str → Addr) : QS :=
  (qSeq (qIfS (qNot (qB (qCall 2 P_is_good (qCons (qCall 0 P_machine_frame qNil) (qCons (qVar 0) qNil)))))
   (qRaise (.ref (C "InvalidLine")))
   qNext)
  (qSeq (qAsg (qSl (qVar 0) qoN (qoS (qC (.int 4)))) (qgN 1))
  (qSeq (qAsg (qSl (qVar 0) (qoS (qC (.int 4))) (qoS (qOp opAdd (qC (.int 4)) (qC (.int 6))))) (qgN 2))
  (qSeq (qAsg (qM1 opSplit (qM1 opRstrip (qSl (qVar 0) (qoS (qOp opAdd (qC (.int 4)) (qC (.int 6)))) (qoS (qOp opSub (qC (.int 36)) (qC (.int 2))))) (qC (.str "<"))) (qC (.str "<"))) (qgN 3))
  (qFrz 3 (qSeq (qIfS (qOr (qNot (qB (qCall 1 P_has_digits (qCons (qOp opAdd (qVar 1) (qVar 2)) qNil)))) (qOr (qB (qOp opEq (qUn opIntS (qVar 1)) (qC (.int 0)))) (qB (qOp (opInW id) (qC (.str "")) (qVar 3)))))
   (qRaise (.ref (C "InvalidLine")))
   qNext)
  (qSeq (qIfS (qNot (qB (qUn opAll (qLc2 [4, 5] [5] (qiL (qVar 3)) (qgN 4) qYes (qiS (qVar 4)) (qgN 5) qYes (qOp (opInW id) (qVar 5) (qC (.str "ABCDEFGHIJKLMNOPQRSTUVWXYZ")))))))
   (qRaise (.ref (C "InvalidLine")))
   qNext)
  (qRet (qTup (qCons (qUn opIntS (qVar 1)) (qCons (qUn opIntS (qVar 2)) (qCons (qVar 3) qNil))))))))))))
theorem caps_all (ws : List (List Nat)) : ((ws.map fun w => w.map fun c => isCp c).flatten).all id = ws.all fun w => w.all isCp := by
  induction ws with
  | nil => rfl
  | cons w r ih =>
    rw [List.map_cons, List.flatten_cons, List.all_append, ih, List.all_cons]
    congr 1
    rw [List.all_map]
    rfl
theorem spl_len (c : Nat) : ∀ (cs acc : List Nat), ((spl1 c acc cs).map List.length).sum ≤ acc.length + cs.length ∧ (spl1 c acc cs).length ≤ cs.length + 1
  | [], acc => by simp [spl1]
  | d :: r, acc => by
    unfold spl1
    split
    · have := spl_len c r []
      simp only [List.map_cons, List.sum_cons, List.length_cons, List.length_nil] at this ⊢
      omega
    · have := spl_len c r (acc ++ [d])
      simp only [List.length_append, List.length_cons, List.length_nil] at this ⊢
      omega
theorem rdW_len (x : Str) : ((rdW x).map List.length).sum ≤ 24 ∧ (rdW x).length ≤ 25 := by
  unfold rdW splL
  rw [spl_one]
  have h := spl_len 60 (rst 60 (rdF x)) []
  have : (rst 60 (rdF x)).length ≤ 24 := by
    unfold rst rdF
    simp only [List.length_take]
    omega
  simp only [List.length_nil] at h
  omega
theorem pure_read_machine (C : Str → Addr) : ∀ ds R EX, ds.length = 1 → P_read_machine C ds R EX → q_read_machine C (endsX R EX) (startEv 6 ds) := by
  rintro ds R EX - ⟨x, rfl, hx, h1, h2⟩
  have sl := rdW_len x
  cases hg : isGood mF x with
  | false =>
    have fin := h1 (by unfold okR; rw [hg]; rfl)
    clear h1 h2
    ac_rfl
    ac_rfl
    refine ⟨mF, x, rfl, mF_ok, by omega, ?_⟩
    rw [hg]
    ac_rfl
    exists fin
  | true =>
    have h36 : x.length = 36 := by
      rw [good_mF] at hg
      simp only [Bool.and_eq_true, beq_iff_eq] at hg
      exact hg.1.1
    have l36 : (tl x).length = 36 := by rw [tl_len]; exact h36
    have c1 : cutS x none (some 4) = asStr ((tl x).take 4) := cutS_lt x 4
    have c2 : cutS x (some 4) (some (4 + 6)) = asStr (((tl x).drop 4).take 6) := cutS_bt x 4 10
    have c3 : cutS x (some (4 + 6)) (some (36 - 2)) = asStr (rdF x) := cutS_bt x 10 34
    have c4 : Txt.rstripChars (asStr (rdF x)) (Str.ofString "<") = asStr (rst 60 (rdF x)) := by
      rw [fill_eq]
      exact str_ext (rstrip_tl _ _)
    have lF : (rdF x).length = 24 := by
      unfold rdF
      rw [List.length_take, List.length_drop, l36]
      rfl
    have lR : (rst 60 (rdF x)).length ≤ 24 := by
      unfold rst
      rw [List.length_take, lF]
      omega
    have c5 : splL (UInt8.ofNat '<'.val.toNat).toNat (tl (asStr (rst 60 (rdF x)))) = rdW x := rfl
    have p10 : asStr ((tl x).take 4) ++ asStr (((tl x).drop 4).take 6) = asStr ((tl x).take 10) := by
      rw [app_as]
      congr 1
      have : (tl x).take 10 = (tl x).take 4 ++ ((tl x).drop 4).take 6 := by
        rw [← List.take_add]
      exact this.symm
    have l4 : ((tl x).take 4).length = 4 := by rw [List.length_take, l36]; rfl
    have l6 : (((tl x).drop 4).take 6).length = 6 := by rw [List.length_take, List.length_drop, l36]; rfl
    ac_rfl
    ac_rfl
    refine ⟨mF, x, rfl, mF_ok, by omega, ?_⟩
    rw [hg]
    ac_rfl
    rw [c1]
    (try (refine ⟨small (by omega), ?_⟩; ac_rfl))
    rw [c2]
    (try (refine ⟨small (by omega), ?_⟩; ac_rfl))
    rw [c3]
    refine ⟨small (by rw [as_len]; omega), ?_⟩
    ac_rfl
    rw [c4]
    refine ⟨by decide, by rw [sizeLine_eq, as_len]; omega, ?_⟩
    ac_rfl
    rw [p10]
    (try (refine ⟨small (by rw [as_len, as_len, l4, l6]; decide), ?_⟩; ac_rfl))
    refine ⟨asStr ((tl x).take 10), rfl, by rw [as_len, List.length_take]; omega, ?_⟩
    rw [tl_as]
    have eO : okR x = (((tl x).take 10).all isDg && (!decide ((tl x).take 4 = [48, 48, 48, 48]) && (!decide ([] ∈ rdW x) && (rdW x).all fun w => w.all isCp))) := by
      unfold okR
      rw [hg, Bool.true_and]
    rw [eO] at h1 h2
    cases hd : ((tl x).take 10).all isDg with
    | false =>
      rw [hd] at h1
      have fin := h1 rfl
      clear h1 h2
      ac_rfl
      exists fin
    | true =>
      rw [hd] at h1 h2
      have dAll : NumText.AllDigits ((tl x).take 10) := digits_all.mp hd
      have d4 : NumText.AllDigits ((tl x).take 4) := fun c hc => dAll c (by
        rw [show (tl x).take 4 = ((tl x).take 10).take 4 by rw [List.take_take]; rfl] at hc
        exact List.mem_of_mem_take hc)
      have d6 : NumText.AllDigits (((tl x).drop 4).take 6) := fun c hc => dAll c (by
        have : (tl x).take 10 = (tl x).take 4 ++ ((tl x).drop 4).take 6 := by rw [← List.take_add]
        rw [this]
        exact List.mem_append_right _ hc)
      have i4 : intText? (asStr ((tl x).take 4)) = some (numV ((tl x).take 4)) := intText_of_digits rfl d4 (fun e => by rw [e] at l4; cases l4) (by omega)
      have i6 : intText? (asStr (((tl x).drop 4).take 6)) = some (numV (((tl x).drop 4).take 6)) := intText_of_digits rfl d6 (fun e => by rw [e] at l6; cases l6) (by omega)
      have z4 := num_zero l4 d4
      ac_rfl
      refine ⟨by rw [as_len]; omega, ?_⟩
      rw [i4]
      ac_rfl
      rw [eqv_int]
      refine ⟨fun hz => ?_, fun hz => ?_⟩
      · have e := z4.mp (of_decide_eq_true hz)
        have fin := h1 (by rw [e]; rfl)
        clear h1 h2
        ac_rfl
        exists fin
      · have e : ¬ (tl x).take 4 = [48, 48, 48, 48] := fun e => of_decide_eq_false hz (z4.mpr e)
        have e : decide ((tl x).take 4 = [48, 48, 48, 48]) = false := decide_eq_false e
        rw [e] at h1 h2
        ac_rfl
        rw [c5]
        refine ⟨Bool.and_eq_true_iff.mpr ⟨flat_str _, flat_strsD _⟩, ?_⟩
        rw [inD_empty]
        cases hm : decide ([] ∈ rdW x) with
        | true =>
          rw [hm] at h1
          have fin := h1 rfl
          clear h1 h2
          ac_rfl
          exists fin
        | false =>
          rw [hm] at h1 h2
          ac_rfl
          refine lc20_app (vs := [4, 5]) (vs1 := [5]) (fun w : List Nat => .str (asStr w)) (fun w => w.map fun c => .bool (isCp c)) (rdW x) (fun w hw acc K ha hK => ?_) ?_ ?_
          · ac_rfl
            refine lcGo_map (vs := [5]) signD (fun c => .bool (isCp c)) w _ (fun c hc acc2 K2 ha2 hK2 => ?_) (by simpa using ha) ?_
            · ac_rfl
              rw [cp_mem]
              exists hK2
            · ac_rfl
              exists hK
          · simp only [List.length_map]
            exact small (by show ((rdW x).map List.length).sum ≤ _; have := sl.1; omega)
          · have eb : (((rdW x).map fun w => w.map fun c => PyData.bool (isCp c)).flatten) = ((rdW x).map fun w => w.map fun c => isCp c).flatten.map PyData.bool := by
              rw [List.map_flatten, List.map_map]
              congr 1
              apply List.map_congr_left
              intro w _
              simp
            rw [eb]
            ac_rfl
            rw [boolsOf_map' (fun b => b), List.map_id']
            ac_rfl
            rw [caps_all]
            cases hc : (rdW x).all fun w => w.all isCp with
            | false =>
              rw [hc] at h1
              have fin := h1 rfl
              clear h1 h2
              ac_rfl
              exists fin
            | true =>
              rw [hc] at h2
              have fin := h2 rfl
              clear h1 h2
              ac_rfl
              refine ⟨by rw [as_len]; omega, ?_⟩
              rw [i4]
              ac_rfl
              refine ⟨by rw [as_len]; omega, ?_⟩
              rw [i6]
              ac_rfl
              exists fin
end PL

namespace PL
open PySem PySem.Spec PyProof.Rows L2
local macro_rules | `(tactic| ac_rfl) => `(tactic| ((conv => whnf); repeat ((first | refine Cif.yes ?_ | refine Cif.no ?_ | (refine And.intro ?_ ?_; · first | (show _ ≤ (_ : Int); omega) | (show _ < (_ : Int); omega) | assumption | exact trivial | exact rfl | (refine small ?_; first | omega | (simp only [List.length_map, List.length_cons, List.length_nil, List.length_append]; omega)) | (refine ltsmall ?_; first | omega | (simp only [List.length_map, List.length_cons, List.length_nil, List.length_append]; omega)) | (refine cdiv ?_ ?_ <;> omega) | (refine cmulR ?_ ?_ <;> omega) | (refine cmulL ?_ ?_ <;> omega) | (refine ⟨?_, ?_, ?_, ?_⟩ <;> omega))); (conv => whnf))))
local macro_rules | `(tactic| exists $e) => `(tactic| first | exact $e | exact And.right $e | exact And.right (And.right $e) | exact And.right (And.right (And.right $e)))
def P__law_read : PD := fun ds R => ∃ x : Str, ds = [.str x] ∧ x.length ≤ 1000 ∧ R (.sh (readR x))
def q__law_read_4 : QS :=
  (qSeq (qAsg (qM1 opSplit (qSl (qVar 2) (qoS (qC (.int 0))) (qoS (qOp opAdd (qVar 3) (qC (.int 1))))) (qC (.str "<"))) (qgN 4))
  (qFrz 4 (qSeq (qIfS (qOr (qB (qOp opEq (qSl (qVar 0) (qoS (qC (.int 0))) (qoS (qC (.int 4)))) (qC (.str "0000")))) (qOr (qB (qOp opLt (qVar 3) (qC (.int 0)))) (qB (qOp (opInW id) (qC (.str "")) (qVar 4)))))
   (qRet (qC .none))
   qNext)
  (qSeq (qFor (qiS (qM1 opJoin (qC (.str "")) (qVar 4))) (qgN 1)
   (qIfS (qOr (qB (qOp opLt (qVar 1) (qC (.str "A")))) (qB (qOp opGt (qVar 1) (qC (.str "Z")))))
    (qRet (qC .none))
    qNext))
  (qRet (qTup (qCons (qUn opIntS (qSl (qVar 0) (qoS (qC (.int 0))) (qoS (qC (.int 4))))) (qCons (qUn opIntS (qSl (qVar 0) (qoS (qC (.int 4))) (qoS (qC (.int 10))))) (qCons (qVar 4) qNil)))))))))
def q__law_read_3 : QS :=
  (qSeq (qAsg (qUn opMax (qOp opAdd (qLc [5] (qiR1 (qCons (qC (.int 24)) qNil)) (qgN 5) (qB (qOp opNe (qOp opIx (qVar 2) (qVar 5)) (qC (.str "<")))) (qVar 5)) (qLst (qCons (qUn opNeg (qC (.int 1))) qNil)))) (qgN 3))
  q__law_read_4)
-- _law_read(text) slots: 0=text 1=sign 2=field* 3=last 4=words 5=k
def q__law_read : QS :=
  (qSeq (qIfS (qNot (qB (qCall 1 P__law_good_machine (qCons (qVar 0) qNil))))
   (qRet (qC .none))
   qNext)
  (qSeq (qFor (qiS (qSl (qVar 0) (qoS (qC (.int 0))) (qoS (qC (.int 10))))) (qgN 1)
   (qIfS (qB (qOp (opInW not) (qVar 1) (qC (.str "0123456789"))))
    (qRet (qC .none))
    qNext))
  (qSeq (qAsg (qSl (qVar 0) (qoS (qC (.int 10))) (qoS (qC (.int 34)))) (qgN 2))
  q__law_read_3)))
theorem sLt_sign (a b : Nat) : sLt ⟨#[a]⟩ ⟨#[b]⟩ = decide (a < b) := by
  show decide ([a] < [b]) = _
  apply decide_eq_decide.mpr
  constructor
  · intro h
    cases h with
    | rel h => exact h
    | cons h => cases h
  · intro h
    exact List.Lex.rel h
theorem txt_A : Str.ofString "A" = ⟨#[65]⟩ := by decide +kernel
theorem txt_Z : Str.ofString "Z" = ⟨#[90]⟩ := by decide +kernel
theorem eqv_sign (a b : Nat) : PyData.eqv (signD a) (.str ⟨#[b]⟩) = decide (a = b) := by
  unfold signD
  rw [eqv_str, sign_inj]
theorem max_24 {vs : List Nat} {g : QG} {t : QT} {p pb : QE} {g2 : QG} {P : PEnds} {Γ : Ev} (hn : noOw Γ vs = true)
    (h : lcGo vs g t p (fun acc Γ2 => pb (backEv Γ vs Γ2) (fun w2 Γ2 => bor (.ow (.l acc)) Γ2 fun d1 => bor w2 Γ2 fun d2 => opAdd d1 d2 fun w => bor w Γ2 fun d => opMax d fun w => g2 w Γ2 P.nx) P.ex) ((List.range 24).map fun i : Nat => .int (i : Int)) [] (wipEv vs Γ)) :
    qAsg (qUn opMax (qOp opAdd (qLc vs (qiR1 (qCons (qC (.int 24)) qNil)) g t p) pb)) g2 P Γ :=
  ⟨(by decide : -(2 ^ 62) ≤ (24 : Int)), (by decide : (24 : Int) < 2 ^ 62), hn, h⟩
theorem join_flat : ∀ ws : List (List Nat), tl (Str.join (Str.ofString "") (ws.map asStr)) = ws.flatten
  | [] => rfl
  | [w] => by simp; rfl
  | w :: v :: r => by
    have ih := join_flat (v :: r)
    show tl (asStr w ++ Str.ofString "" ++ Str.join (Str.ofString "") ((v :: r).map asStr)) = _
    rw [tl_app, tl_app, ih, show tl (Str.ofString "") = [] by decide +kernel, List.append_nil]
    rfl
theorem join_size0 (ws : List (List Nat)) : ((ws.map asStr).map (·.length)).sum + (ws.map asStr).length * (Str.ofString "").length = (ws.map List.length).sum := by
  rw [List.map_map, List.length_map, show (Str.ofString "").length = 0 by decide +kernel]
  have : (ws.map ((fun x : Str => x.length) ∘ asStr)) = ws.map List.length := List.map_congr_left fun w _ => as_len w
  have e2 : (ws.map ((fun x : Str => x.length) ∘ asStr)).sum = (ws.map List.length).sum := by rw [this]
  show (ws.map ((fun x : Str => x.length) ∘ asStr)).sum + ws.length * 0 = _
  omega
theorem read_4 {R : Wv → Prop} {x : Str} (hx : x.length ≤ 1000) (hg : isGood mF x = true) (hd : ((tl x).take 10).all isDg = true) (h : R (.sh (readR x))) {x1 : Sl} :
    q__law_read_4 (endsOf R) [.sh (.str x), x1, .sh (.str (asStr (rdF x))), .sh (.int ((rstN 60 (rdF x) : Int) - 1)), .un, .un] := by
  have h36 : x.length = 36 := by
    rw [good_mF] at hg
    simp only [Bool.and_eq_true, beq_iff_eq] at hg
    exact hg.1.1
  have sl := rdW_len x
  have l36 : (tl x).length = 36 := by rw [tl_len]; exact h36
  have c1 : cutS x (some 0) (some 4) = asStr ((tl x).take 4) := cutS_bt x 0 4
  have c2 : cutS x (some 4) (some 10) = asStr (((tl x).drop 4).take 6) := cutS_bt x 4 10
  have lF : (rdF x).length = 24 := by
    unfold rdF
    rw [List.length_take, List.length_drop, l36]
    rfl
  have l4 : ((tl x).take 4).length = 4 := by rw [List.length_take, l36]; rfl
  have l6 : (((tl x).drop 4).take 6).length = 6 := by rw [List.length_take, List.length_drop, l36]; rfl
  have hle := rstN_le 60 (rdF x)
  have c3 : cutS (asStr (rdF x)) (some 0) (some ((rstN 60 (rdF x) : Int) - 1 + 1)) = asStr (rst 60 (rdF x)) := by
    rw [show (rstN 60 (rdF x) : Int) - 1 + 1 = ((rstN 60 (rdF x) : Nat) : Int) by omega, show (some (0 : Int)) = some ((0 : Nat) : Int) from rfl, cutS_bt]
    rfl
  have lR : (rst 60 (rdF x)).length ≤ 24 := by
    unfold rst
    rw [List.length_take, lF]
    omega
  have c5 : splL (UInt8.ofNat '<'.val.toNat).toNat (tl (asStr (rst 60 (rdF x)))) = rdW x := rfl
  have eO : okR x = (!decide ((tl x).take 4 = [48, 48, 48, 48]) && (!decide ([] ∈ rdW x) && (rdW x).all fun w => w.all isCp)) := by
    unfold okR
    rw [hg, hd, Bool.true_and, Bool.true_and]
  have dAll : NumText.AllDigits ((tl x).take 10) := digits_all.mp hd
  have d4 : NumText.AllDigits ((tl x).take 4) := fun c hc => dAll c (by
    rw [show (tl x).take 4 = ((tl x).take 10).take 4 by rw [List.take_take]; rfl] at hc
    exact List.mem_of_mem_take hc)
  have d6 : NumText.AllDigits (((tl x).drop 4).take 6) := fun c hc => dAll c (by
    have : (tl x).take 10 = (tl x).take 4 ++ ((tl x).drop 4).take 6 := by rw [← List.take_add]
    rw [this]
    exact List.mem_append_right _ hc)
  have i4 : intText? (asStr ((tl x).take 4)) = some (numV ((tl x).take 4)) := intText_of_digits rfl d4 (fun e => by rw [e] at l4; cases l4) (by omega)
  have i6 : intText? (asStr (((tl x).drop 4).take 6)) = some (numV (((tl x).drop 4).take 6)) := intText_of_digits rfl d6 (fun e => by rw [e] at l6; cases l6) (by omega)
  have e4 : PyData.eqv (.str (asStr ((tl x).take 4))) (.str (Str.ofString "0000")) = decide ((tl x).take 4 = [48, 48, 48, 48]) := by
    rw [eqv_str]
    apply decide_eq_decide.mpr
    constructor
    · intro e
      have := congrArg tl e
      rw [tl_as, zeros_4] at this
      exact this
    · intro e
      apply str_ext
      rw [tl_as, zeros_4, e]
      rfl
  have none_ : okR x = false → R (.sh .none) := fun e => by
    unfold readR at h
    rw [if_neg (by rw [e]; exact Bool.false_ne_true)] at h
    exact h
  have some_ : okR x = true → R (.sh (readD x)) := fun e => by
    unfold readR at h
    rw [if_pos e] at h
    exact h
  rw [eO] at none_ some_
  clear h
  ac_rfl
  rw [c3]
  refine ⟨small (by rw [as_len]; omega), ?_⟩
  ac_rfl
  refine ⟨by decide, by rw [sizeLine_eq, as_len]; omega, ?_⟩
  ac_rfl
  rw [c1]
  (try (refine ⟨small (by omega), ?_⟩; ac_rfl))
  rw [e4]
  cases h4 : decide ((tl x).take 4 = [48, 48, 48, 48]) with
  | true =>
    rw [h4] at none_
    have fin := none_ rfl
    clear none_ some_
    ac_rfl
    exists fin
  | false =>
    rw [h4] at none_ some_
    ac_rfl
    by_cases hr0 : rstN 60 (rdF x) = 0
    · have eW : rdW x = [[]] := by
        unfold rdW rst
        rw [show (rdF x).length - ((rdF x).reverse.takeWhile (· == 60)).length = 0 from hr0]
        rfl
      have fin := none_ (by rw [eW]; rfl)
      clear none_ some_
      refine Cif.tt (by rw [hr0]; rfl) ?_
      ac_rfl
      exists fin
    · refine Cif.ff (by
        simp
        omega) ?_
      ac_rfl
      rw [c5]
      refine ⟨Bool.and_eq_true_iff.mpr ⟨flat_str _, flat_strsD _⟩, ?_⟩
      rw [inD_empty]
      cases hm : decide ([] ∈ rdW x) with
      | true =>
        rw [hm] at none_
        have fin := none_ rfl
        clear none_ some_
        ac_rfl
        exists fin
      | false =>
        rw [hm] at none_ some_
        have hsz := join_size0 (rdW x)
        have hjl : (Str.join (Str.ofString "") ((rdW x).map asStr)).length ≤ 24 := by
          rw [← tl_len, join_flat, List.length_flatten]
          exact sl.1
        have ejf := join_flat (rdW x)
        ac_rfl
        rw [strsOf_strsD]
        ac_rfl
        rw [show (Str.join (Str.ofString "") (List.map asStr (rdW x))).cps.toList = (rdW x).flatten from ejf]
        refine forGo_ok signD (fun r Γ => ∃ (k : Nat) (a : Sl), Γ = [.sh (.str x), a, .sh (.str (asStr (rdF x))), .sh (.int ((rstN 60 (rdF x) : Int) - 1)), .sh (.list (strsD (rdW x))), .un] ∧ r = (rdW x).flatten.drop k ∧ ((rdW x).flatten.take k).all isCp = true) ?_ ?_ _ _ ⟨0, _, rfl, rfl, rfl⟩
        · rintro Γ ⟨k, a, rfl, hr, hk⟩
          have hk2 : (rdW x).flatten.take k = (rdW x).flatten := by
            have := congrArg List.length hr
            rw [List.length_nil, List.length_drop] at this
            exact List.take_of_length_le (by omega)
          rw [hk2, List.all_flatten] at hk
          have fin := some_ (by rw [hk]; rfl)
          clear none_ some_
          ac_rfl
          rw [c1]
          (try (refine ⟨small (by omega), ?_⟩; ac_rfl))
          refine ⟨by rw [as_len]; omega, ?_⟩
          rw [i4]
          ac_rfl
          rw [c2]
          (try (refine ⟨small (by omega), ?_⟩; ac_rfl))
          refine ⟨by rw [as_len]; omega, ?_⟩
          rw [i6]
          ac_rfl
          exists fin
        · rintro c r Γ K ⟨k, a, rfl, hr, hk⟩ hK
          have hkl : k < (rdW x).flatten.length := Classical.byContradiction fun hn => by
            rw [List.drop_eq_nil_of_le (by omega)] at hr
            cases hr
          rw [List.drop_eq_getElem_cons hkl] at hr
          obtain ⟨rfl, rfl⟩ := List.cons.inj hr
          generalize hc : (rdW x).flatten[k] = c at *
          have bad : isCp c = false → R (.sh .none) := fun hb => none_ (by
            have : ((rdW x).all fun w => w.all isCp) = false := by
              rw [← List.all_flatten, Bool.eq_false_iff]
              intro h
              have := List.all_eq_true.mp h _ (List.getElem_mem hkl)
              rw [hc, hb] at this
              cases this
            rw [this]
            rfl)
          have good : isCp c = true → K [.sh (.str x), .sh (signD c), .sh (.str (asStr (rdF x))), .sh (.int ((rstN 60 (rdF x) : Int) - 1)), .sh (.list (strsD (rdW x))), .un] := fun hg => hK _ ⟨k + 1, _, rfl, rfl, by
            rw [List.take_succ_eq_append_getElem hkl, List.all_append, hk, List.all_cons, hc, hg]
            rfl⟩
          clear none_ some_ hK
          ac_rfl
          rw [txt_A]
          rw [show sLt ⟨#[c]⟩ ⟨#[65]⟩ = decide (c < 65) from sLt_sign c 65]
          refine ⟨fun hz => ?_, fun hz => ?_⟩
          · have fin := bad (by
              have := of_decide_eq_true hz
              unfold isCp
              simp
              omega)
            clear good bad
            ac_rfl
            exists fin
          · have hz := of_decide_eq_false hz
            ac_rfl
            rw [txt_Z]
            rw [show (fun a b : Str => sLt b a) (⟨#[c]⟩ : Str) ⟨#[90]⟩ = decide (90 < c) from sLt_sign 90 c]
            refine ⟨fun hz2 => ?_, fun hz2 => ?_⟩
            · have fin := bad (by
                have := of_decide_eq_true hz2
                unfold isCp
                simp
                omega)
              clear good bad
              ac_rfl
              exists fin
            · have hz2 := of_decide_eq_false hz2
              exact good (by
                unfold isCp
                simp
                omega)
theorem read_3 {R : Wv → Prop} {x : Str} (hx : x.length ≤ 1000) (hl : (rdF x).length = 24) (hg : isGood mF x = true) (hd : ((tl x).take 10).all isDg = true) (h : R (.sh (readR x))) {x1 : Sl} :
    q__law_read_3 (endsOf R) [.sh (.str x), x1, .sh (.str (asStr (rdF x))), .un, .un, .un] := by
  have fin := fun {x1 : Sl} => read_4 (x1 := x1) hx hg hd h
  refine max_24 ?hn ?_
  case hn => rfl
  refine lc0_fil (vs := [5]) (fun i : Nat => .int (i : Int)) (fun k => decide ((rdF x)[k]? ≠ some 60)) (fun i : Nat => .int (i : Int)) _ (fun k hk acc K ha h1 h2 => ?_) (by simp; exact small (by omega)) ?_
  · have hk : k < 24 := by simpa using hk
    have ek : (rdF x)[k]? = some (rdF x)[k] := List.getElem?_eq_getElem (by omega)
    rw [ek] at h1 h2
    ac_rfl
    refine ⟨small (by rw [as_len]; omega), ?_⟩
    rw [show ixD (asStr (rdF x)).cps.toList (k : Int) = some (rdF x)[k] from ixD_nat ek]
    ac_rfl
    rw [fill_eq, eqv_sign]
    refine ⟨fun hz => ?_, fun hz => ?_⟩
    · ac_rfl
      refine h1 ?_
      simpa using hz
    · refine h2 ?_
      simpa using hz
  · have hmx := rst_max hl
    have hlen : ((((List.range 24).filter fun k => decide ((rdF x)[k]? ≠ some 60)).map fun k : Nat => (k : Int)) ++ [-1]).length ≤ 25 := by
      rw [List.length_append, List.length_map]
      have := List.length_filter_le (fun k => decide ((rdF x)[k]? ≠ some 60)) (List.range 24)
      simp at this ⊢
      omega
    have emap : ((List.range 24).filter fun k => decide ((rdF x)[k]? ≠ some 60)).map (fun i : Nat => PyData.int (i : Int)) ++ [PyData.int (-1)] = ((((List.range 24).filter fun k => decide ((rdF x)[k]? ≠ some 60)).map fun k : Nat => (k : Int)) ++ [-1]).map PyData.int := by simp
    obtain ⟨n, ns, hL⟩ : ∃ n ns, (((List.range 24).filter fun k => decide ((rdF x)[k]? ≠ some 60)).map fun k : Nat => (k : Int)) ++ [-1] = n :: ns := by
      cases hc : (((List.range 24).filter fun k => decide ((rdF x)[k]? ≠ some 60)).map fun k : Nat => (k : Int)) with
      | nil => exact ⟨_, _, rfl⟩
      | cons n r => exact ⟨_, _, rfl⟩
    have hn : -1 ≤ n := by
      have hm : n ∈ (((List.range 24).filter fun k => decide ((rdF x)[k]? ≠ some 60)).map fun k : Nat => (k : Int)) ++ [-1] := by rw [hL]; simp
      rcases List.mem_append.mp hm with hm | hm
      · obtain ⟨k, _, rfl⟩ := List.mem_map.mp hm
        omega
      · have : n = -1 := by simpa using hm
        omega
    have hv : ns.foldl max n = (rstN 60 (rdF x) : Int) - 1 := by
      rw [← hmx, hL, List.foldl_cons, show max (-1) n = n by omega]
    have fin := fin (x1 := x1)
    rw [← hv] at fin
    rw [hL] at hlen emap
    ac_rfl
    refine ⟨by rw [sizeLine_eq, List.length_map]; simp; have := List.length_filter_le (fun k => decide ((rdF x)[k]? ≠ some 60)) (List.range 24); simp at this; omega, ?_⟩
    ac_rfl
    rw [emap]
    rw [intsOf_map' (fun i => i), List.map_id']
    exact ⟨by omega, fin⟩
theorem pure__law_read : ∀ ds R, ds.length = 1 → P__law_read ds R → q__law_read (endsOf R) (startEv 6 ds) := by
  rintro ds R - ⟨x, rfl, hx, h⟩
  have sl := rdW_len x
  cases hg : isGood mF x with
  | false =>
    have e : readR x = .none := by
      unfold readR
      rw [if_neg]
      unfold okR
      rw [hg]
      exact Bool.false_ne_true
    rw [e] at h
    ac_rfl
    refine ⟨x, rfl, hx, ?_⟩
    rw [hg]
    ac_rfl
    exists h
  | true =>
    have h36 : x.length = 36 := by
      rw [good_mF] at hg
      simp only [Bool.and_eq_true, beq_iff_eq] at hg
      exact hg.1.1
    have l36 : (tl x).length = 36 := by rw [tl_len]; exact h36
    have c0 : cutS x (some 0) (some 10) = asStr ((tl x).take 10) := cutS_bt x 0 10
    have c1 : cutS x (some 0) (some 4) = asStr ((tl x).take 4) := cutS_bt x 0 4
    have c2 : cutS x (some 4) (some 10) = asStr (((tl x).drop 4).take 6) := cutS_bt x 4 10
    have c3 : cutS x (some 10) (some 34) = asStr (rdF x) := cutS_bt x 10 34
    have lF : (rdF x).length = 24 := by
      unfold rdF
      rw [List.length_take, List.length_drop, l36]
      rfl
    have lR : (rst 60 (rdF x)).length ≤ 24 := by
      unfold rst
      rw [List.length_take, lF]
      omega
    have l4 : ((tl x).take 4).length = 4 := by rw [List.length_take, l36]; rfl
    have l6 : (((tl x).drop 4).take 6).length = 6 := by rw [List.length_take, List.length_drop, l36]; rfl
    have eO : okR x = (((tl x).take 10).all isDg && (!decide ((tl x).take 4 = [48, 48, 48, 48]) && (!decide ([] ∈ rdW x) && (rdW x).all fun w => w.all isCp))) := by
      unfold okR
      rw [hg, Bool.true_and]
    ac_rfl
    refine ⟨x, rfl, hx, ?_⟩
    rw [hg]
    ac_rfl
    rw [c0]
    (try (refine ⟨small (by omega), ?_⟩; ac_rfl))
    refine forGo_ok signD (fun r Γ => ∃ (k : Nat) (a : Sl), Γ = [.sh (.str x), a, .un, .un, .un, .un] ∧ r = ((tl x).take 10).drop k ∧ (((tl x).take 10).take k).all isDg = true) ?_ ?_ _ _ ⟨0, _, rfl, rfl, rfl⟩
    · rintro Γ ⟨k, a, rfl, hr, hk⟩
      have hk10 : ((tl x).take 10).take k = (tl x).take 10 := by
        have := congrArg List.length hr
        rw [List.length_nil, List.length_drop] at this
        exact List.take_of_length_le (by omega)
      rw [hk10] at hk
      rw [hk, Bool.true_and] at eO
      have dAll : NumText.AllDigits ((tl x).take 10) := digits_all.mp hk
      have d4 : NumText.AllDigits ((tl x).take 4) := fun c hc => dAll c (by
        rw [show (tl x).take 4 = ((tl x).take 10).take 4 by rw [List.take_take]; rfl] at hc
        exact List.mem_of_mem_take hc)
      have d6 : NumText.AllDigits (((tl x).drop 4).take 6) := fun c hc => dAll c (by
        have : (tl x).take 10 = (tl x).take 4 ++ ((tl x).drop 4).take 6 := by rw [← List.take_add]
        rw [this]
        exact List.mem_append_right _ hc)
      have i4 : intText? (asStr ((tl x).take 4)) = some (numV ((tl x).take 4)) := intText_of_digits rfl d4 (fun e => by rw [e] at l4; cases l4) (by omega)
      have i6 : intText? (asStr (((tl x).drop 4).take 6)) = some (numV (((tl x).drop 4).take 6)) := intText_of_digits rfl d6 (fun e => by rw [e] at l6; cases l6) (by omega)
      have fin := fun {x1 : Sl} => read_3 (x1 := x1) hx lF hg hk h
      show x.length ≤ sizeLine ∧ q__law_read_3 (endsOf R) [.sh (.str x), a, .sh (.str (cutS x (some 10) (some 34))), .un, .un, .un]
      rw [c3]
      exact ⟨small (by omega), fin⟩
    · rintro c r Γ K ⟨k, a, rfl, hr, hk⟩ hK
      have hkl : k < ((tl x).take 10).length := Classical.byContradiction fun hn => by
        rw [List.drop_eq_nil_of_le (by omega)] at hr
        cases hr
      rw [List.drop_eq_getElem_cons hkl] at hr
      obtain ⟨rfl, rfl⟩ := List.cons.inj hr
      ac_rfl
      rw [dg_mem]
      cases hc : isDg ((tl x).take 10)[k] with
      | true =>
        ac_rfl
        refine hK _ ⟨k + 1, _, rfl, rfl, ?_⟩
        rw [List.take_succ_eq_append_getElem hkl, List.all_append, hk, List.all_cons, hc]
        rfl
      | false =>
        have e : readR x = .none := by
          unfold readR
          rw [if_neg]
          rw [eO]
          have : ((tl x).take 10).all isDg = false := by
            rw [Bool.eq_false_iff]
            intro h
            have := List.all_eq_true.mp h _ (List.getElem_mem hkl)
            rw [hc] at this
            cases this
          rw [this]
          exact Bool.false_ne_true
        rw [e] at h
        ac_rfl
        exists h
end PL

namespace PL
open PySem PySem.Spec PyProof.Rows L2
local macro_rules | `(tactic| ac_rfl) => `(tactic| ((conv => whnf); repeat ((first | refine Cif.yes ?_ | refine Cif.no ?_ | (refine And.intro ?_ ?_; · first | (show _ ≤ (_ : Int); omega) | (show _ < (_ : Int); omega) | assumption | exact trivial | exact rfl | (refine small ?_; first | omega | (simp only [List.length_map, List.length_cons, List.length_nil, List.length_append]; omega)) | (refine ltsmall ?_; first | omega | (simp only [List.length_map, List.length_cons, List.length_nil, List.length_append]; omega)) | (refine cdiv ?_ ?_ <;> omega) | (refine cmulR ?_ ?_ <;> omega) | (refine cmulL ?_ ?_ <;> omega) | (refine ⟨?_, ?_, ?_, ?_⟩ <;> omega))); (conv => whnf))))
local macro_rules | `(tactic| exists $e) => `(tactic| first | exact $e | exact And.right $e | exact And.right (And.right $e) | exact And.right (And.right (And.right $e)))
def P__law_told_line : PD := fun ds R => ∃ (p d : Nat) (x : Str), ds = [.int p, .int d, .str x] ∧ p < 10000 ∧ d < 1000000 ∧ lowA x ∧ (wds (tl x) = [] → R (.sh (.tuple [.str (txt "refused"), .bool true]))) ∧ (wds (tl x) ≠ [] → R (.sh (.tuple [.str (txt "told"), .str (machL p d (wds (tl x)))])))
-- _law_told_line(person, day, name) slots: 0=person 1=day 2=name 3=e
def q__law_told_line (C : Str → Addr) : QS :=
  (qTryAs 3 (C "NoWord") (qRet (qTup (qCons (qC (.str "told")) (qCons (qCallX 3 (P_machine_line C) (qCons (qVar 0) (qCons (qVar 1) (qCons (qVar 2) qNil)))) qNil))))
   (fun a => (qRet (qTup (qCons (qC (.str "refused")) (qCons (qAndV (qIsE 3 a true) (qNotV (qIsE 3 a false))) qNil))))))
theorem pure__law_told_line (C : Str → Addr) : ∀ ds R, ds.length = 3 → P__law_told_line ds R → q__law_told_line C (endsOf R) (startEv 4 ds) := by
  rintro ds R - ⟨p, d, x, rfl, hp, hd, hx, h1, h2⟩
  ac_rfl
  refine ⟨p, d, x, rfl, hp, hd, hx, fun h => ⟨rfl, fun a => ?_⟩, fun h => ?_⟩
  · have fin := h1 h
    clear h1 h2
    ac_rfl
    exists fin
  · have fin := h2 h
    clear h1 h2
    ac_rfl
    exists fin
def P__law_told_back : PD := fun ds R => ∃ x : Str, ds = [.str x] ∧ x.length ≤ 1000 ∧ R (.sh (readR x))
-- _law_told_back(text) slots: 0=text 1=e
def q__law_told_back (C : Str → Addr) : QS :=
  (qTryAs 1 (C "InvalidLine") (qRet (qCallX 1 (P_read_machine C) (qCons (qVar 0) qNil)))
   (fun a => (qRet (qOp opIx (qLst (qCons (qC (.str "other")) (qCons (qC .none) qNil))) (qUn opInt (qAndV (qIsE 1 a true) (qNotV (qIsE 1 a false))))))))
theorem pure__law_told_back (C : Str → Addr) : ∀ ds R, ds.length = 1 → P__law_told_back ds R → q__law_told_back C (endsOf R) (startEv 2 ds) := by
  rintro ds R - ⟨x, rfl, hx, h⟩
  ac_rfl
  refine ⟨x, rfl, hx, fun h0 => ⟨rfl, fun a => ?_⟩, fun h0 => ?_⟩
  · have e : readR x = .none := by
      unfold readR
      rw [if_neg (by rw [h0]; exact Bool.false_ne_true)]
    rw [e] at h
    ac_rfl
    exists h
  · have e : readR x = readD x := by
      unfold readR
      rw [if_pos h0]
    rw [e] at h
    exact h
def P__law_words_in : PD := fun ds R => ∃ x : Str, ds = [.str x] ∧ lowA x ∧ R (.ow (.l (strsD (wds (tl x)))))
-- _law_words_in(name) slots: 0=name 1=found 2=word 3=sign
def q__law_words_in : QS :=
  (qSeq (qAsg (qLst qNil) (qgN 1))
  (qSeq (qAsg (qC (.str "")) (qgN 2))
  (qSeq (qFor (qiS (qOp opAdd (qVar 0) (qC (.str " ")))) (qgN 3)
   (qIfS (qOr (qAnd (qB (qOp opGe (qVar 3) (qC (.str "a")))) (qB (qOp opLe (qVar 3) (qC (.str "z"))))) (qAnd (qB (qOp opGe (qVar 3) (qC (.str "A")))) (qB (qOp opLe (qVar 3) (qC (.str "Z"))))))
    (qAsg (qOp opAdd (qVar 2) (qM0 opUpper (qVar 3))) (qgN 2))
    (qIfS (qB (qOp opNe (qVar 2) (qC (.str ""))))
     (qSeq (qDrop (qApp 1 (qVar 2)))
     (qAsg (qC (.str "")) (qgN 2)))
     qNext)))
  (qRet (qVar 1)))))
theorem txt_a : Str.ofString "a" = ⟨#[97]⟩ := by decide +kernel
theorem txt_z : Str.ofString "z" = ⟨#[122]⟩ := by decide +kernel
theorem txt_sp : tl (Str.ofString " ") = [32] := by decide +kernel
def letter (c : Nat) : Bool := (decide (97 ≤ c) && decide (c ≤ 122)) || (decide (65 ≤ c) && decide (c ≤ 90))
theorem letter_cap {c : Nat} (h : letter c = true) : fcap c = up1 c ∧ Cap (fcap c) := by
  unfold letter at h
  simp only [Bool.or_eq_true, Bool.and_eq_true, decide_eq_true_eq] at h
  unfold fcap Cap up1
  split <;> split <;> first | omega | (constructor <;> omega)
theorem letter_no {c : Nat} (h : letter c = false) : fcap c = 32 := by
  unfold letter at h
  simp only [Bool.or_eq_false_iff, Bool.and_eq_false_iff, decide_eq_false_iff_not] at h
  unfold fcap up1
  split <;> split <;> omega
theorem fcap_sp : fcap 32 = 32 := by decide
theorem strsD_snoc (ws : List (List Nat)) (w : List Nat) : strsD ws ++ [.str (asStr w)] = strsD (ws ++ [w]) := by simp [strsD]
def wst (cs : List Nat) : List (List Nat) × List Nat := (cs.map fcap).foldl TL.wstep ([], [])
theorem wst_snoc (cs : List Nat) (c : Nat) : wst (cs ++ [c]) = TL.wstep (wst cs) (fcap c) := by
  unfold wst
  rw [List.map_append, List.foldl_append]
  rfl
theorem wst_len (cs : List Nat) : (wst cs).1.length + (wst cs).2.length ≤ cs.length := by
  have := fold_len cs ([], [])
  simp at this
  unfold wst
  omega
theorem pure__law_words_in : ∀ ds R, ds.length = 1 → P__law_words_in ds R → q__law_words_in (endsOf R) (startEv 4 ds) := by
  rintro ds R - ⟨x, rfl, ⟨ha, hl⟩, h⟩
  have tlen := tl_len x
  have etl : tl (x ++ Str.ofString " ") = tl x ++ [32] := by rw [tl_app, txt_sp]
  have e1 : (Str.ofString " ").length = 1 := by rw [← tl_len, txt_sp]; rfl
  ac_rfl
  rw [show (x ++ Str.ofString " ").cps.toList = tl x ++ [32] from etl]
  refine forGo_ok signD (fun r Γ => ∃ (done : List Nat) (a : Sl), Γ = [.sh (.str x), .ow (.l (strsD (wst done).1)), .sh (.str (asStr (wst done).2)), a] ∧ done ++ r = tl x ++ [32]) ?_ ?_ _ _ ⟨[], _, rfl, rfl⟩
  · rintro Γ ⟨done, a, rfl, hd⟩
    rw [List.append_nil] at hd
    subst hd
    have e : wst (tl x ++ [32]) = (wds (tl x), []) := by
      rw [wst_snoc, fcap_sp]
      exact wds_end (tl x)
    rw [e]
    ac_rfl
    exact h
  · rintro c r Γ K ⟨done, a, rfl, hd⟩ hK
    have hc : c < 128 := by
      have hm : c ∈ tl x ++ [32] := by rw [← hd]; simp
      rcases List.mem_append.mp hm with hm | hm
      · exact ha c hm
      · have : c = 32 := by simpa using hm
        omega
    have hlen := congrArg List.length hd
    simp only [List.length_append, List.length_cons, List.length_nil] at hlen
    have wl := wst_len done
    have next : K [.sh (.str x), .ow (.l (strsD (TL.wstep (wst done) (fcap c)).1)), .sh (.str (asStr (TL.wstep (wst done) (fcap c)).2)), .sh (signD c)] := hK _ ⟨done ++ [c], _, by rw [wst_snoc], by rw [← hd]; simp⟩
    clear hK
    generalize hst : wst done = st at *
    obtain ⟨s1, s2⟩ := st
    simp only at wl
    have yes : letter c = true → qAsg (qOp opAdd (qVar 2) (qM0 opUpper (qVar 3))) (qgN 2) { endsOf R with nx := K, ct := K, bk := qRet (qVar 1) (endsOf R) } [.sh (.str x), .ow (.l (strsD s1)), .sh (.str (asStr s2)), .sh (signD c)] := fun hlt => by
      obtain ⟨l1, l2⟩ := letter_cap hlt
      rw [wstep_cap _ l2, l1] at next
      ac_rfl
      refine ⟨fun d hd => ?_, ?_⟩
      · have : d = c := by simpa using hd
        omega
      ac_rfl
      refine ⟨by show 1 ≤ _; decide, ?_⟩
      ac_rfl
      refine ⟨small (by rw [as_len]; show _ + (#[c].map up1).size ≤ _; simp; omega), ?_⟩
      rw [show asStr s2 ++ upS ⟨#[c]⟩ = asStr (s2 ++ [up1 c]) by
        apply str_ext
        rw [tl_app]
        show s2 ++ (#[c].map up1).toList = _
        simp
        rfl]
      ac_rfl
      exact next
    have no : letter c = false → qIfS (qB (qOp opNe (qVar 2) (qC (.str ""))))
       (qSeq (qDrop (qApp 1 (qVar 2)))
       (qAsg (qC (.str "")) (qgN 2)))
       qNext { endsOf R with nx := K, ct := K, bk := qRet (qVar 1) (endsOf R) } [.sh (.str x), .ow (.l (strsD s1)), .sh (.str (asStr s2)), .sh (signD c)] := fun hlt => by
      rw [letter_no hlt, wstep_space] at next
      have e : PyData.eqv (.str (asStr s2)) (.str (Str.ofString "")) = decide (s2 = []) := by
        rw [eqv_str]
        apply decide_eq_decide.mpr
        exact ⟨fun h => as_inj (h.trans (by decide +kernel : Str.ofString "" = asStr [])), fun h => by rw [h]; decide +kernel⟩
      ac_rfl
      rw [e]
      by_cases h2 : s2 = []
      · rw [if_pos h2] at next
        refine Cif.ff (by simp [h2]) ?_
        exact next
      · rw [if_neg h2, ← strsD_snoc] at next
        refine Cif.tt (by simp [h2]) ?_
        ac_rfl
        refine ⟨by rw [strsD_len, sizeLine_eq]; omega, ?_⟩
        exact next
    have l1 : (fun a b : Str => !sLt a b) (⟨#[c]⟩ : Str) ⟨#[97]⟩ = decide (97 ≤ c) := by
      show (!sLt ⟨#[c]⟩ ⟨#[97]⟩) = _
      rw [sLt_sign, Bool.eq_iff_iff]
      simp
    have l2 : (fun a b : Str => !sLt b a) (⟨#[c]⟩ : Str) ⟨#[122]⟩ = decide (c ≤ 122) := by
      show (!sLt ⟨#[122]⟩ ⟨#[c]⟩) = _
      rw [sLt_sign, Bool.eq_iff_iff]
      simp
    have l3 : (fun a b : Str => !sLt a b) (⟨#[c]⟩ : Str) ⟨#[65]⟩ = decide (65 ≤ c) := by
      show (!sLt ⟨#[c]⟩ ⟨#[65]⟩) = _
      rw [sLt_sign, Bool.eq_iff_iff]
      simp
    have l4 : (fun a b : Str => !sLt b a) (⟨#[c]⟩ : Str) ⟨#[90]⟩ = decide (c ≤ 90) := by
      show (!sLt ⟨#[90]⟩ ⟨#[c]⟩) = _
      rw [sLt_sign, Bool.eq_iff_iff]
      simp
    clear hst next
    have caps : (65 ≤ c ∧ c ≤ 90 → letter c = true) ∧ (97 ≤ c ∧ c ≤ 122 → letter c = true) ∧ (¬ (65 ≤ c ∧ c ≤ 90) → ¬ (97 ≤ c ∧ c ≤ 122) → letter c = false) := by
      unfold letter
      refine ⟨fun h => by simp [h.1, h.2], fun h => by simp [h.1, h.2], fun h1 h2 => ?_⟩
      rw [Bool.or_eq_false_iff, Bool.and_eq_false_iff, Bool.and_eq_false_iff]
      simp
      omega
    have second : ¬ (97 ≤ c ∧ c ≤ 122) → qAnd (qB (qOp opGe (qVar 3) (qC (.str "A")))) (qB (qOp opLe (qVar 3) (qC (.str "Z")))) [.sh (.str x), .ow (.l (strsD s1)), .sh (.str (asStr s2)), .sh (signD c)] (fun b Γ1 => Cif b (qAsg (qOp opAdd (qVar 2) (qM0 opUpper (qVar 3))) (qgN 2) { endsOf R with nx := K, ct := K, bk := qRet (qVar 1) (endsOf R) } Γ1) (qIfS (qB (qOp opNe (qVar 2) (qC (.str ""))))
       (qSeq (qDrop (qApp 1 (qVar 2)))
       (qAsg (qC (.str "")) (qgN 2)))
       qNext { endsOf R with nx := K, ct := K, bk := qRet (qVar 1) (endsOf R) } Γ1)) (endsOf R).ex := fun hn => by
      have n65 : ¬ (65 ≤ c ∧ c ≤ 90) → _ := fun h => no (caps.2.2 h hn)
      have y65 : (65 ≤ c ∧ c ≤ 90) → _ := fun h => yes (caps.1 h)
      clear yes no caps
      ac_rfl
      rw [txt_A, l3]
      refine ⟨fun hz => ?_, fun hz => ?_⟩
      · have hz := of_decide_eq_true hz
        ac_rfl
        rw [txt_Z, l4]
        refine ⟨fun hz2 => ?_, fun hz2 => ?_⟩
        · exact y65 ⟨hz, of_decide_eq_true hz2⟩
        · exact n65 fun h => of_decide_eq_false hz2 h.2
      · have fin := n65 fun h => of_decide_eq_false hz h.1
        clear y65 n65
        ac_rfl
        exists fin
    have y97 : (97 ≤ c ∧ c ≤ 122) → _ := fun h => yes (caps.2.1 h)
    clear yes no caps
    ac_rfl
    rw [txt_a, l1]
    refine ⟨fun hz => ?_, fun hz => ?_⟩
    · have hz := of_decide_eq_true hz
      ac_rfl
      rw [txt_z, l2]
      refine ⟨fun hz2 => ?_, fun hz2 => ?_⟩
      · ac_rfl
        exists y97 ⟨hz, of_decide_eq_true hz2⟩
      · exact second fun h => of_decide_eq_false hz2 h.2
    · refine Cif.no ?_
      exact second fun h => of_decide_eq_false hz h.1
end PL

namespace PL
open PySem PySem.Spec PyProof.Rows L2
local macro_rules | `(tactic| ac_rfl) => `(tactic| ((conv => whnf); repeat ((first | refine Cif.yes ?_ | refine Cif.no ?_ | (refine And.intro ?_ ?_; · first | (show _ ≤ (_ : Int); omega) | (show _ < (_ : Int); omega) | assumption | exact trivial | exact rfl | (refine small ?_; first | omega | (simp only [List.length_map, List.length_cons, List.length_nil, List.length_append]; omega)) | (refine ltsmall ?_; first | omega | (simp only [List.length_map, List.length_cons, List.length_nil, List.length_append]; omega)) | (refine cdiv ?_ ?_ <;> omega) | (refine cmulR ?_ ?_ <;> omega) | (refine cmulL ?_ ?_ <;> omega) | (refine ⟨?_, ?_, ?_, ?_⟩ <;> omega))); (conv => whnf))))
local macro_rules | `(tactic| exists $e) => `(tactic| first | exact $e | exact And.right $e | exact And.right (And.right $e) | exact And.right (And.right (And.right $e)))
def P__law_long_name : PD := fun ds R => ∃ c : Int, ds = [.int c] ∧ ∀ x : Str, lowA x → x.length ≤ 300 → (∃ c ∈ tl x, Cap (fcap c)) → R (.sh (.str x))
-- _law_long_name(cell) slots: 0=cell 1=draws 2=found 3=k 4=size 5=word 6=j
def q__law_long_name : QS :=
  (qSeq (qAsg (qCall 3 P__law_numbers (qCons (qVar 0) (qCons (qC (.int 60)) (qCons (qC (.int 5040)) qNil)))) (qgN 1))
  (qFrz 1 (qSeq (qAsg (qC (.str "")) (qgN 2))
  (qSeq (qFor (qiR1 (qCons (qOp opAdd (qOp opMod (qOp opIx (qVar 1) (qC (.int 0))) (qOp opIx (qLst (qCons (qC (.int 2)) (qCons (qC (.int 4)) (qCons (qC (.int 8)) qNil)))) (qOp opMod (qOp opIx (qVar 1) (qC (.int 1))) (qC (.int 3))))) (qC (.int 1))) qNil)) (qgN 3)
   (qSeq (qAsg (qOp opIx (qLst (qCons (qC (.int 1)) (qCons (qC (.int 2)) (qCons (qC (.int 5)) (qCons (qC (.int 9)) (qCons (qC (.int 13)) (qCons (qC (.int 30)) qNil))))))) (qOp opMod (qOp opIx (qVar 1) (qOp opAdd (qC (.int 2)) (qOp opMul (qC (.int 6)) (qOp opMod (qVar 3) (qC (.int 9)))))) (qC (.int 6)))) (qgN 4))
   (qSeq (qAsg (qC (.str "")) (qgN 5))
   (qSeq (qFor (qiR1 (qCons (qVar 4) qNil)) (qgN 6)
    (qAsg (qOp opAdd (qVar 5) (qOp opIx (qC (.str "aBcdEfghIjklmnoPqrstuvwxyZ")) (qOp opMod (qOp opAdd (qOp opIx (qVar 1) (qOp opAdd (qC (.int 3)) (qOp opMul (qC (.int 6)) (qOp opMod (qVar 3) (qC (.int 9)))))) (qOp opMul (qVar 6) (qOp opAdd (qC (.int 1)) (qOp opMod (qOp opIx (qVar 1) (qOp opAdd (qC (.int 4)) (qOp opMul (qC (.int 6)) (qOp opMod (qVar 3) (qC (.int 9)))))) (qC (.int 25)))))) (qC (.int 26))))) (qgN 5)))
   (qAsg (qOp opAdd (qOp opAdd (qVar 2) (qVar 5)) (qOp opIx (qLst (qCons (qC (.str " ")) (qCons (qC (.str "-")) (qCons (qC (.str "  ")) (qCons (qC (.str "'")) (qCons (qC (.str "7")) (qCons (qC (.str "<")) (qCons (qC (.str ". ")) qNil)))))))) (qOp opMod (qOp opIx (qVar 1) (qOp opAdd (qC (.int 5)) (qOp opMul (qC (.int 6)) (qOp opMod (qVar 3) (qC (.int 9)))))) (qC (.int 7))))) (qgN 2))))))
  (qSeq (qIfS (qB (qOp opEq (qOp opMod (qOp opIx (qVar 1) (qC (.int 1))) (qC (.int 5))) (qC (.int 0))))
   (qAsg (qSl (qVar 2) (qoS (qC (.int 0))) (qoS (qOp opSub (qUn opLen (qVar 2)) (qC (.int 1))))) (qgN 2))
   qNext)
  (qSeq (qIfS (qB (qOp opEq (qOp opMod (qOp opIx (qVar 1) (qC (.int 1))) (qC (.int 7))) (qC (.int 0))))
   (qAsg (qOp opAdd (qC (.str "9 <")) (qVar 2)) (qgN 2))
   qNext)
  (qRet (qVar 2))))))))
theorem lit_i (xs : List Int) (i : Int) (h0 : 0 ≤ i) (h1 : i < xs.length) : ∃ a, a ∈ xs ∧ ixD (xs.map PyData.int) i = some (PyData.int a) := by
  obtain ⟨n, rfl⟩ : ∃ n : Nat, i = n := ⟨i.toNat, by omega⟩
  have h2 : n < xs.length := by omega
  exact ⟨xs[n], List.getElem_mem h2, ixD_map _ (List.getElem?_eq_getElem h2)⟩
theorem lit_s (xs : List Str) (i : Int) (h0 : 0 ≤ i) (h1 : i < xs.length) : ∃ a, a ∈ xs ∧ ixD (xs.map PyData.str) i = some (PyData.str a) := by
  obtain ⟨n, rfl⟩ : ∃ n : Nat, i = n := ⟨i.toNat, by omega⟩
  have h2 : n < xs.length := by omega
  exact ⟨xs[n], List.getElem_mem h2, ixD_map _ (List.getElem?_eq_getElem h2)⟩
theorem lit_c (xs : List Nat) (i : Int) (h0 : 0 ≤ i) (h1 : i < xs.length) : ∃ a, a ∈ xs ∧ ixD xs i = some a := by
  obtain ⟨n, rfl⟩ : ∃ n : Nat, i = n := ⟨i.toNat, by omega⟩
  have h2 : n < xs.length := by omega
  exact ⟨xs[n], List.getElem_mem h2, List.getElem?_eq_getElem h2⟩
abbrev alphaS : Str := Str.ofString "aBcdEfghIjklmnoPqrstuvwxyZ"
theorem alpha_len : (tl alphaS).length = 26 := by decide +kernel
theorem alpha_ok : ∀ c ∈ tl alphaS, c < 128 ∧ 65 ≤ fcap c ∧ fcap c ≤ 90 := by decide +kernel
def sepsL : List Str := [Str.ofString " ", Str.ofString "-", Str.ofString "  ", Str.ofString "'", Str.ofString "7", Str.ofString "<", Str.ofString ". "]
theorem seps_ok : ∀ s ∈ sepsL, (∀ c ∈ tl s, c < 128) ∧ 1 ≤ s.length ∧ s.length ≤ 2 := by decide +kernel
def Strt (x : Str) : Prop := ∃ c r, tl x = c :: r ∧ r ≠ [] ∧ Cap (fcap c)
theorem low_app {x y : Str} (hx : ∀ c ∈ tl x, c < 128) (hy : ∀ c ∈ tl y, c < 128) : ∀ c ∈ tl (x ++ y), c < 128 := fun c hc => by
  rw [tl_app] at hc
  rcases List.mem_append.mp hc with hc | hc
  · exact hx c hc
  · exact hy c hc
theorem name_end {R : Wv → Prop} {x : Str} (h : ∀ x : Str, lowA x → x.length ≤ 300 → (∃ c ∈ tl x, Cap (fcap c)) → R (.sh (.str x))) (h1 : ∀ c ∈ tl x, c < 128) (h2 : x.length ≤ 290) (h3 : ∃ c ∈ tl x, Cap (fcap c)) :
    R (.sh (.str x)) ∧ R (.sh (.str (Str.ofString "9 <" ++ x))) := by
  have e : (Str.ofString "9 <").length = 3 := by decide +kernel
  have e2 : ∀ c ∈ tl (Str.ofString "9 <"), c < 128 := by decide +kernel
  obtain ⟨c, hc, hcap⟩ := h3
  refine ⟨h x ⟨h1, by omega⟩ (by omega) ⟨c, hc, hcap⟩, h _ ⟨low_app e2 h1, by rw [app_len]; omega⟩ (by rw [app_len]; omega) ⟨c, ?_, hcap⟩⟩
  rw [tl_app]
  exact List.mem_append_right _ hc
theorem pure__law_long_name : ∀ ds R, ds.length = 1 → P__law_long_name ds R → q__law_long_name (endsOf R) (startEv 7 ds) := by
  rintro ds R - ⟨cell, rfl, h⟩
  ac_rfl
  refine ⟨cell, 60, 5040, rfl, by decide, by decide, by decide, fun dr hdr hdb => ?_⟩
  have g : ∀ i : Nat, i < 60 → ∃ v, ixD (dr.map PyData.int) (i : Int) = some (.int v) ∧ 0 ≤ v ∧ v < 5040 := fun i hi => by
    have e : dr[i]? = some dr[i] := List.getElem?_eq_getElem (by omega)
    exact ⟨_, ixD_map _ e, hdb _ (List.getElem_mem (by omega))⟩
  obtain ⟨v0, e0, b0, c0⟩ := g 0 (by decide)
  obtain ⟨v1, e1, b1, c1⟩ := g 1 (by decide)
  obtain ⟨m, hm, em⟩ := lit_i [2, 4, 8] (v1 % 3) (by omega) (by simp; omega)
  simp only [List.mem_cons, List.not_mem_nil, or_false] at hm
  have hm8 : 1 ≤ m ∧ m ≤ 8 := by omega
  have n0 := Int.emod_nonneg v0 (show m ≠ 0 by omega)
  have n1 := Int.emod_lt_of_pos v0 (show 0 < m by omega)
  obtain ⟨n, hn⟩ : ∃ n : Nat, v0 % m + 1 = n := ⟨(v0 % m + 1).toNat, by omega⟩
  have hnb : 1 ≤ n ∧ n ≤ 8 := by omega
  ac_rfl
  rw [show ixD (dr.map PyData.int) 0 = _ from e0]
  ac_rfl
  rw [show ixD (dr.map PyData.int) 1 = _ from e1]
  ac_rfl
  rw [show ixD [PyData.int 2, PyData.int 4, PyData.int 8] (v1 % 3) = _ from em]
  ac_rfl
  rw [hn, Int.toNat_natCast]
  refine forGo_ok (fun i : Nat => .int (i : Int)) (fun r Γ => ∃ (k : Nat) (x : Str) (a b c d : Sl), Γ = [.sh (.int cell), .sh (.list (dr.map .int)), .sh (.str x), a, b, c, d] ∧ r = (List.range n).drop k ∧ k ≤ n ∧ (∀ c ∈ tl x, c < 128) ∧ x.length ≤ 32 * k ∧ (1 ≤ k → Strt x)) ?_ ?_ _ _ ⟨0, _, _, _, _, _, rfl, rfl, Nat.zero_le _, by decide +kernel, by decide +kernel, fun h => absurd h (by decide)⟩
  · rintro Γ ⟨k, x, a, b, c, d, rfl, hr, hk, h1, h2, h3⟩
    have hkn : k = n := by
      have := congrArg List.length hr
      simp at this
      omega
    obtain ⟨ch, r, etl, hr2, hcap⟩ := h3 (by omega)
    have hx2 : 2 ≤ x.length := by
      rw [← tl_len, etl]
      have := List.length_pos_iff.mpr hr2
      simp
      omega
    have cut : cutS x (some 0) (some ((x.length : Int) - 1)) = asStr ((tl x).take (x.length - 1)) := by
      rw [show (x.length : Int) - 1 = ((x.length - 1 : Nat) : Int) by omega]
      exact cutS_bt x 0 (x.length - 1)
    have f1 := name_end h h1 (by omega) ⟨ch, by rw [etl]; simp, hcap⟩
    have f2 := name_end (x := asStr ((tl x).take (x.length - 1))) h (fun c hc => h1 c (List.mem_of_mem_take hc)) (by rw [as_len, List.length_take, tl_len]; omega) ⟨ch, by
      rw [tl_as, etl, show x.length - 1 = (x.length - 2) + 1 by omega, List.take_succ_cons]
      simp, hcap⟩
    have e9 : (Str.ofString "9 <").length = 3 := by decide +kernel
    clear h
    have tail : ∀ y : Str, y.length ≤ 290 → R (.sh (.str y)) ∧ R (.sh (.str (Str.ofString "9 <" ++ y))) → qSeq (qIfS (qB (qOp opEq (qOp opMod (qOp opIx (qVar 1) (qC (.int 1))) (qC (.int 7))) (qC (.int 0))))
       (qAsg (qOp opAdd (qC (.str "9 <")) (qVar 2)) (qgN 2))
       qNext)
      (qRet (qVar 2)) (endsOf R) [.sh (.int cell), .sh (.list (dr.map .int)), .sh (.str y), a, b, c, d] := fun y hy hR => by
      ac_rfl
      rw [show ixD (dr.map PyData.int) 1 = _ from e1]
      ac_rfl
      rw [eqv_int]
      refine ⟨fun hz => ?_, fun hz => ?_⟩
      · ac_rfl
        exists hR.2
      · ac_rfl
        exists hR.1
    have t1 := tail x (by omega) f1
    have t2 := tail _ (by rw [as_len, List.length_take, tl_len]; omega) f2
    clear tail f1 f2
    ac_rfl
    rw [show ixD (dr.map PyData.int) 1 = _ from e1]
    ac_rfl
    rw [eqv_int]
    refine ⟨fun hz => ?_, fun hz => ?_⟩
    · ac_rfl
      rw [cut]
      exists t2
    · exists t1
  · rintro i r Γ K ⟨k, x, a, b, c, d, rfl, hr, hk, h1, h2, h3⟩ hK
    obtain ⟨hkn, rfl, rfl⟩ := drop_cons hr.symm
    have i9 : (i : Int) % 9 = i := by omega
    obtain ⟨v2, e2, b2, c2⟩ := g (2 + 6 * i) (by omega)
    obtain ⟨v3, e3, b3, c3⟩ := g (3 + 6 * i) (by omega)
    obtain ⟨v4, e4, b4, c4⟩ := g (4 + 6 * i) (by omega)
    obtain ⟨v5, e5, b5, c5⟩ := g (5 + 6 * i) (by omega)
    obtain ⟨sz, hsz, esz⟩ := lit_i [1, 2, 5, 9, 13, 30] (v2 % 6) (by omega) (by simp; omega)
    obtain ⟨sp, hsp, esp⟩ := lit_s sepsL (v5 % 7) (by omega) (by simp [sepsL]; omega)
    simp only [List.mem_cons, List.not_mem_nil, or_false] at hsz
    obtain ⟨z, rfl⟩ : ∃ z : Nat, sz = z := ⟨sz.toNat, by omega⟩
    have hz30 : 1 ≤ z ∧ z ≤ 30 := by omega
    obtain ⟨sp1, sp2, sp3⟩ := seps_ok sp hsp
    clear hsz h
    ac_rfl
    rw [i9, show (2 : Int) + 6 * (i : Int) = ((2 + 6 * i : Nat) : Int) by omega]
    rw [show ixD (dr.map PyData.int) ((2 + 6 * i : Nat) : Int) = _ from e2]
    ac_rfl
    rw [show ixD [PyData.int 1, PyData.int 2, PyData.int 5, PyData.int 9, PyData.int 13, PyData.int 30] (v2 % 6) = _ from esz]
    ac_rfl
    rw [show ((z : Nat) : Int).toNat = z by simp]
    refine forGo_ok (fun i : Nat => .int (i : Int)) (fun r Γ => ∃ (j : Nat) (y : Str) (e : Sl), Γ = [.sh (.int cell), .sh (.list (dr.map .int)), .sh (.str x), .sh (.int (i : Nat)), .sh (.int (z : Nat)), .sh (.str y), e] ∧ r = (List.range z).drop j ∧ j ≤ z ∧ y.length = j ∧ (∀ c ∈ tl y, c < 128) ∧ (1 ≤ j → ∃ c r, tl y = c :: r ∧ Cap (fcap c))) ?_ ?_ _ _ ⟨0, _, _, rfl, rfl, Nat.zero_le _, by decide +kernel, by decide +kernel, fun h => absurd h (by decide)⟩
    · rintro Γ ⟨j, y, e, rfl, hr, hj, hy1, hy2, hy3⟩
      have hjz : j = z := by
        have := congrArg List.length hr
        simp at this
        omega
      obtain ⟨ch, r, etl, hcap⟩ := hy3 (by omega)
      have next : K [.sh (.int cell), .sh (.list (dr.map .int)), .sh (.str ((x ++ y) ++ sp)), .sh (.int (i : Nat)), .sh (.int (z : Nat)), .sh (.str y), e] := hK _ ⟨i + 1, (x ++ y) ++ sp, _, _, _, _, rfl, rfl, by omega, low_app (low_app h1 hy2) sp1, by rw [app_len, app_len]; omega, fun _ => by
        by_cases hi : 1 ≤ i
        · obtain ⟨c0, r0, et0, hr0, hc0⟩ := h3 hi
          refine ⟨c0, r0 ++ (tl y ++ tl sp), by rw [tl_app, tl_app, et0]; simp, fun e => hr0 ?_, hc0⟩
          exact (List.append_eq_nil_iff.mp e).1
        · have hi : i = 0 := by omega
          have ex : tl x = [] := List.eq_nil_of_length_eq_zero (by rw [tl_len]; omega)
          refine ⟨ch, r ++ tl sp, by rw [tl_app, tl_app, ex, etl]; simp, fun e => ?_, hcap⟩
          have := (List.append_eq_nil_iff.mp e).2
          have := congrArg List.length this
          rw [tl_len, List.length_nil] at this
          omega⟩
      clear hK
      ac_rfl
      rw [i9, show (5 : Int) + 6 * (i : Int) = ((5 + 6 * i : Nat) : Int) by omega]
      rw [show ixD (dr.map PyData.int) ((5 + 6 * i : Nat) : Int) = _ from e5]
      ac_rfl
      rw [show ixD [PyData.str (Str.ofString " "), PyData.str (Str.ofString "-"), PyData.str (Str.ofString "  "), PyData.str (Str.ofString "'"), PyData.str (Str.ofString "7"), PyData.str (Str.ofString "<"), PyData.str (Str.ofString ". ")] (v5 % 7) = _ from esp]
      ac_rfl
      refine ⟨small (by rw [app_len]; omega), ?_⟩
      exists next
    · rintro j r Γ K2 ⟨j', y, e, rfl, hr, hj, hy1, hy2, hy3⟩ hK2
      obtain ⟨hjz, rfl, rfl⟩ := drop_cons hr.symm
      obtain ⟨ch, hch, ech⟩ := lit_c (tl alphaS) ((v3 + (j : Int) * (1 + v4 % 25)) % 26) (by omega) (by rw [alpha_len]; omega)
      have ach := alpha_ok ch hch
      have next : K2 [.sh (.int cell), .sh (.list (dr.map .int)), .sh (.str x), .sh (.int (i : Nat)), .sh (.int (z : Nat)), .sh (.str (y ++ ⟨#[ch]⟩)), .sh (.int (j : Nat))] := hK2 _ ⟨j + 1, y ++ ⟨#[ch]⟩, _, rfl, rfl, by omega, by rw [app_len, hy1]; rfl, low_app hy2 (fun c hc => by
          have : c = ch := by simpa using hc
          omega), fun _ => by
        by_cases hj1 : 1 ≤ j
        · obtain ⟨c0, r0, et0, hc0⟩ := hy3 hj1
          exact ⟨c0, r0 ++ [ch], by rw [tl_app, et0]; rfl, hc0⟩
        · have ey : tl y = [] := List.eq_nil_of_length_eq_zero (by rw [tl_len]; omega)
          exact ⟨ch, [], by rw [tl_app, ey]; rfl, ach.2⟩⟩
      clear hK2 hK
      have al : alphaS.length = 26 := by rw [← tl_len]; exact alpha_len
      ac_rfl
      rw [i9, show (3 : Int) + 6 * (i : Int) = ((3 + 6 * i : Nat) : Int) by omega]
      rw [show ixD (dr.map PyData.int) ((3 + 6 * i : Nat) : Int) = _ from e3]
      ac_rfl
      rw [i9, show (4 : Int) + 6 * (i : Int) = ((4 + 6 * i : Nat) : Int) by omega]
      rw [show ixD (dr.map PyData.int) ((4 + 6 * i : Nat) : Int) = _ from e4]
      ac_rfl
      refine ⟨small (by rw [show (Str.ofString "aBcdEfghIjklmnoPqrstuvwxyZ").length = 26 from al]; decide), ?_⟩
      rw [show ixD (Str.ofString "aBcdEfghIjklmnoPqrstuvwxyZ").cps.toList ((v3 + (j : Int) * (1 + v4 % 25)) % 26) = some ch from ech]
      ac_rfl
      exists next
end PL

namespace PL
open PySem PySem.Spec PyProof.Rows L2
local macro_rules | `(tactic| ac_rfl) => `(tactic| ((conv => whnf); repeat ((first | refine Cif.yes ?_ | refine Cif.no ?_ | (refine And.intro ?_ ?_; · first | (show _ ≤ (_ : Int); omega) | (show _ < (_ : Int); omega) | assumption | exact trivial | exact rfl | (refine small ?_; first | omega | (simp only [List.length_map, List.length_cons, List.length_nil, List.length_append]; omega)) | (refine ltsmall ?_; first | omega | (simp only [List.length_map, List.length_cons, List.length_nil, List.length_append]; omega)) | (refine cdiv ?_ ?_ <;> omega) | (refine cmulR ?_ ?_ <;> omega) | (refine cmulL ?_ ?_ <;> omega) | (refine ⟨?_, ?_, ?_, ?_⟩ <;> omega))); (conv => whnf))))
local macro_rules | `(tactic| exists $e) => `(tactic| first | exact $e | exact And.right $e | exact And.right (And.right $e) | exact And.right (And.right (And.right $e)))
local macro_rules | `(tactic| ac_nf) => `(tactic| (repeat ((first | (refine ⟨by decide +kernel, ?_⟩) | (refine ⟨small (by omega), ?_⟩) | (refine ⟨small (by simp only [app_len]; omega), ?_⟩) | (refine ⟨by simp only [sizeLine_eq, List.length_append, List.length_cons, List.length_nil, List.length_map]; omega, ?_⟩)); (ac_rfl))))
def P__law_strings : PD := fun ds R => ∃ (x : Str) (dr : List Int), ds = [.str x, .list (dr.map .int)] ∧ x.length = 36 ∧ (∀ c ∈ tl x, isSg c = true) ∧ dr.length = 10 ∧ ∀ ss : List Str, ss.length ≤ 100 → (∀ s ∈ ss, s.length ≤ 1000) → R (.ow (.l (ss.map .str)))
def q__law_strings_9 : QS :=
  (qSeq (qFor (qiL (qVar 8)) (qgN 9)
   (qSeq (qDrop (qApp 6 (qCall 1 P__law_with_checks (qCons (qVar 9) qNil))))
   (qDrop (qApp 6 (qOp opAdd (qVar 9) (qSl (qVar 0) (qoS (qC (.int 34))) qoN))))))
  (qRet (qVar 6)))
def q__law_strings_8 : QS :=
  (qSeq (qAsg (qOp opAdd (qVar 8) (qLst (qCons (qOp opAdd (qSl (qVar 5) (qoS (qC (.int 0))) (qoS (qC (.int 10)))) (qOp opMul (qC (.str "A")) (qC (.int 24)))) (qCons (qOp opAdd (qSl (qVar 5) (qoS (qC (.int 0))) (qoS (qC (.int 10)))) (qOp opMul (qC (.str "B<")) (qC (.int 12)))) (qCons (qOp opAdd (qOp opAdd (qSl (qVar 5) (qoS (qC (.int 0))) (qoS (qC (.int 10)))) (qOp opMul (qC (.str "<")) (qC (.int 23)))) (qC (.str "C"))) (qCons (qOp opAdd (qSl (qVar 5) (qoS (qC (.int 0))) (qoS (qC (.int 33)))) (qC (.str "D"))) (qCons (qOp opAdd (qOp opAdd (qSl (qVar 5) (qoS (qC (.int 0))) (qoS (qC (.int 4)))) (qC (.str "12345Z"))) (qSl (qVar 5) (qoS (qC (.int 10))) qoN)) qNil))))))) (qgN 8))
  (qFrz 8 q__law_strings_9))
def q__law_strings_7 : QS :=
  (qSeq (qAsg (qOp opAdd (qVar 8) (qLst (qCons (qOp opAdd (qC (.str "A")) (qSl (qVar 5) (qoS (qC (.int 1))) qoN)) (qCons (qOp opAdd (qOp opAdd (qSl (qVar 5) (qoS (qC (.int 0))) (qoS (qC (.int 9)))) (qC (.str "<"))) (qSl (qVar 5) (qoS (qC (.int 10))) qoN)) (qCons (qOp opAdd (qOp opAdd (qSl (qVar 5) (qoS (qC (.int 0))) (qoS (qC (.int 4)))) (qC (.str "999999"))) (qSl (qVar 5) (qoS (qC (.int 10))) qoN)) (qCons (qOp opAdd (qC (.str "9999")) (qSl (qVar 5) (qoS (qC (.int 4))) qoN)) (qCons (qOp opAdd (qOp opAdd (qSl (qVar 5) (qoS (qC (.int 0))) (qoS (qVar 7))) (qC (.str "Q"))) (qSl (qVar 5) (qoS (qOp opAdd (qVar 7) (qC (.int 1)))) qoN)) (qCons (qOp opAdd (qC (.str "0001000000")) (qSl (qVar 5) (qoS (qC (.int 10))) qoN)) qNil)))))))) (qgN 8))
  (qFrz 8 q__law_strings_8))
def q__law_strings_6 : QS :=
  (qSeq (qAsg (qLst (qCons (qOp opAdd (qC (.str "0000")) (qSl (qVar 5) (qoS (qC (.int 4))) qoN)) (qCons (qOp opAdd (qSl (qVar 5) (qoS (qC (.int 0))) (qoS (qC (.int 10)))) (qOp opMul (qC (.str "<")) (qC (.int 24)))) (qCons (qOp opAdd (qOp opAdd (qSl (qVar 5) (qoS (qC (.int 0))) (qoS (qC (.int 10)))) (qC (.str "<"))) (qSl (qVar 5) (qoS (qC (.int 10))) (qoS (qC (.int 33))))) (qCons (qOp opAdd (qOp opAdd (qSl (qVar 5) (qoS (qC (.int 0))) (qoS (qVar 7))) (qC (.str "7"))) (qSl (qVar 5) (qoS (qOp opAdd (qVar 7) (qC (.int 1)))) qoN)) (qCons (qOp opAdd (qOp opAdd (qSl (qVar 5) (qoS (qC (.int 0))) (qoS (qVar 7))) (qC (.str "<"))) (qSl (qVar 5) (qoS (qOp opAdd (qVar 7) (qC (.int 1)))) qoN)) qNil)))))) (qgN 8))
  (qFrz 8 q__law_strings_7))
def q__law_strings_4 : QS :=
  (qSeq (qAsg (qLst (qCons (qVar 0) (qCons (qOp opAdd (qOp opAdd (qSl (qVar 0) (qoS (qC (.int 0))) (qoS (qVar 3))) (qVar 4)) (qSl (qVar 0) (qoS (qOp opAdd (qVar 3) (qC (.int 1)))) qoN)) (qCons (qSl (qVar 0) (qoS (qC (.int 0))) (qoS (qC (.int 35)))) (qCons (qOp opAdd (qVar 0) (qC (.str "<"))) (qCons (qOp opAdd (qVar 0) (qC (.str "\n"))) (qCons (qC (.str "")) (qCons (qM0 opLower (qVar 0)) (qCons (qOp opAdd (qOp opAdd (qSl (qVar 0) (qoS (qC (.int 0))) (qoS (qVar 3))) (qC (.str " "))) (qSl (qVar 0) (qoS (qOp opAdd (qVar 3) (qC (.int 1)))) qoN)) (qCons (qUn opRevS (qVar 0)) qNil)))))))))) (qgN 6))
  (qSeq (qAsg (qOp opAdd (qC (.int 10)) (qOp opMod (qOp opIx (qVar 1) (qC (.int 2))) (qC (.int 24)))) (qgN 7))
  q__law_strings_6))
-- _law_strings(line, draws) slots: 0=line 1=draws 2=signs 3=spot 4=sign 5=body 6=found 7=place 8=bodies 9=some
def q__law_strings : QS :=
  (qSeq (qAsg (qC (.str "0123456789ABCDEFGHIJKLMNOPQRSTUVWXYZ<")) (qgN 2))
  (qSeq (qAsg (qOp opMod (qOp opIx (qVar 1) (qC (.int 0))) (qC (.int 36))) (qgN 3))
  (qSeq (qAsg (qOp opIx (qVar 2) (qOp opMod (qOp opIx (qVar 1) (qC (.int 1))) (qC (.int 37)))) (qgN 4))
  (qSeq (qAsg (qSl (qVar 0) (qoS (qC (.int 0))) (qoS (qC (.int 34)))) (qgN 5))
  q__law_strings_4))))
theorem sg_cut {x : Str} (h : ∀ c ∈ tl x, isSg c = true) (lo hi : Option Int) : ∀ c ∈ tl (cutS x lo hi), isSg c = true := fun c hc => by
  rw [tl_cutS] at hc
  exact h c (List.mem_of_mem_drop (List.mem_of_mem_take hc))
theorem sg_app {x y : Str} (hx : ∀ c ∈ tl x, isSg c = true) (hy : ∀ c ∈ tl y, isSg c = true) : ∀ c ∈ tl (x ++ y), isSg c = true := fun c hc => by
  rw [tl_app] at hc
  rcases List.mem_append.mp hc with hc | hc
  · exact hx c hc
  · exact hy c hc
theorem str_snoc (fs : List Str) (a : Str) : fs.map PyData.str ++ [.str a] = (fs ++ [a]).map .str := by simp
theorem strings_9 {R : Wv → Prop} {x : Str} {bs fs : List Str} (hx : x.length = 36) (hb : ∀ b ∈ bs, (∀ c ∈ tl b, isSg c = true) ∧ b.length ≤ 100) (hbl : bs.length ≤ 20) (hf : ∀ b ∈ fs, b.length ≤ 1000) (hfl : fs.length ≤ 20)
    (h : ∀ ss : List Str, ss.length ≤ 100 → (∀ s ∈ ss, s.length ≤ 1000) → R (.ow (.l (ss.map .str)))) {x1 x2 x3 x4 x5 x7 x9 : Sl} :
    q__law_strings_9 (endsOf R) [.sh (.str x), x1, x2, x3, x4, x5, .ow (.l (fs.map .str)), x7, .sh (.list (bs.map .str)), x9] := by
  have c34 : cutS x (some 34) none = asStr ((tl x).drop 34) := cutS_ge x 34
  have l34 : (asStr ((tl x).drop 34)).length = 2 := by rw [as_len, List.length_drop, tl_len, hx]
  ac_rfl
  refine forGo_ok PyData.str (fun r Γ => ∃ (gs : List Str) (x9 : Sl), Γ = [.sh (.str x), x1, x2, x3, x4, x5, .ow (.l (gs.map .str)), x7, .sh (.list (bs.map .str)), x9] ∧ (∀ b ∈ r, (∀ c ∈ tl b, isSg c = true) ∧ b.length ≤ 100) ∧ gs.length + 2 * r.length ≤ 60 ∧ ∀ b ∈ gs, b.length ≤ 1000) ?_ ?_ _ _ ⟨fs, _, rfl, hb, by omega, hf⟩
  · rintro Γ ⟨gs, x9, rfl, _, hl, hg⟩
    ac_rfl
    exact h gs (by simp at hl; omega) hg
  · rintro b r Γ K ⟨gs, x9, rfl, hr, hl, hg⟩ hK
    have hb1 := hr b (by simp)
    simp only [List.length_cons] at hl
    have hbl := hb1.2
    have ll : (lineS b).length = b.length + 2 := by
      unfold lineS
      rw [as_len, List.length_append, tl_len]
      rfl
    have next : K [.sh (.str x), x1, x2, x3, x4, x5, .ow (.l (gs.map .str ++ [.str (lineS b)] ++ [.str (b ++ asStr ((tl x).drop 34))])), x7, .sh (.list (bs.map .str)), .sh (.str b)] := by
      rw [str_snoc, str_snoc]
      refine hK _ ⟨gs ++ [lineS b] ++ [b ++ asStr ((tl x).drop 34)], _, rfl, fun c hc => hr c (List.mem_cons_of_mem _ hc), by simp; omega, fun c hc => ?_⟩
      rcases List.mem_append.mp hc with hc | hc
      · rcases List.mem_append.mp hc with hc | hc
        · exact hg c hc
        · have : c = lineS b := by simpa using hc
          subst this
          omega
      · have : c = b ++ asStr ((tl x).drop 34) := by simpa using hc
        subst this
        rw [app_len, l34]
        omega
    clear hK
    ac_rfl
    refine ⟨b, rfl, ⟨hb1.1, by omega⟩, ?_⟩
    ac_rfl
    (try (refine ⟨by rw [sizeLine_eq, List.length_map]; omega, ?_⟩; ac_rfl))
    rw [c34]
    (try (refine ⟨small (by omega), ?_⟩; ac_rfl))
    (try (refine ⟨small (by rw [l34]; omega), ?_⟩; ac_rfl))
    (try (refine ⟨by rw [sizeLine_eq, List.length_append, List.length_map]; simp; omega, ?_⟩; ac_rfl))
    exact next
abbrev S1 : Str := Str.ofString "<"
theorem lits : (Str.ofString "<").length = 1 ∧ (Str.ofString "\n").length = 1 ∧ (Str.ofString " ").length = 1 ∧ (Str.ofString "0000").length = 4 ∧ (Str.ofString "7").length = 1 ∧ (Str.ofString "A").length = 1 ∧ (Str.ofString "999999").length = 6 ∧ (Str.ofString "9999").length = 4 ∧ (Str.ofString "Q").length = 1 ∧ (Str.ofString "0001000000").length = 10 ∧ (Str.ofString "C").length = 1 ∧ (Str.ofString "D").length = 1 ∧ (Str.ofString "12345Z").length = 6 ∧ (Txt.mul (Str.ofString "<") 24).length = 24 ∧ (Txt.mul (Str.ofString "A") 24).length = 24 ∧ (Txt.mul (Str.ofString "B<") 12).length = 24 ∧ (Txt.mul (Str.ofString "<") 23).length = 23 ∧ (Str.ofString "").length = 0 := by decide +kernel
theorem litsg : ∀ y ∈ [Str.ofString "<", Str.ofString "0000", Str.ofString "7", Str.ofString "A", Str.ofString "999999", Str.ofString "9999", Str.ofString "Q", Str.ofString "0001000000", Str.ofString "C", Str.ofString "D", Str.ofString "12345Z", Txt.mul (Str.ofString "<") 24, Txt.mul (Str.ofString "A") 24, Txt.mul (Str.ofString "B<") 12, Txt.mul (Str.ofString "<") 23], ∀ c ∈ tl y, isSg c = true := by decide +kernel
theorem strings_8 {R : Wv → Prop} {x B : Str} {bs fs : List Str} {pl : Int} (hx : x.length = 36) (hB : ∀ c ∈ tl B, isSg c = true) (hBl : B.length ≤ 34) (hb : ∀ b ∈ bs, (∀ c ∈ tl b, isSg c = true) ∧ b.length ≤ 100) (hbl : bs.length = 11) (hf : ∀ b ∈ fs, b.length ≤ 1000) (hfl : fs.length ≤ 20)
    (h : ∀ ss : List Str, ss.length ≤ 100 → (∀ s ∈ ss, s.length ≤ 1000) → R (.ow (.l (ss.map .str)))) {x1 x2 x3 x4 x9 : Sl} :
    q__law_strings_8 (endsOf R) [.sh (.str x), x1, x2, x3, x4, .sh (.str B), .ow (.l (fs.map .str)), .sh (.int pl), .sh (.list (bs.map .str)), x9] := by
  obtain ⟨z1, z2, z3, z4, z5, z6, z7, z8, z9, z10, z11, z12, z13, z14, z15, z16, z17, z18⟩ := lits
  have c1 := cutS_le B (some 0) (some 10)
  have c2 := cutS_le B (some 0) (some 33)
  have c3 := cutS_le B (some 0) (some 4)
  have c4 := cutS_le B (some 10) none
  have fin := strings_9 (R := R) (x1 := x1) (x2 := x2) (x3 := x3) (x4 := x4) (x5 := .sh (.str B)) (x7 := .sh (.int pl)) (x9 := x9) hx (bs := bs ++ [cutS B (some 0) (some 10) ++ Txt.mul (Str.ofString "A") 24, cutS B (some 0) (some 10) ++ Txt.mul (Str.ofString "B<") 12, (cutS B (some 0) (some 10) ++ Txt.mul (Str.ofString "<") 23) ++ Str.ofString "C", cutS B (some 0) (some 33) ++ Str.ofString "D", (cutS B (some 0) (some 4) ++ Str.ofString "12345Z") ++ cutS B (some 10) none]) (fs := fs) (fun b hb2 => by
    rcases List.mem_append.mp hb2 with hb2 | hb2
    · exact hb b hb2
    · simp only [List.mem_cons, List.not_mem_nil, or_false] at hb2
      have g := litsg
      rcases hb2 with rfl | rfl | rfl | rfl | rfl
      · exact ⟨sg_app (sg_cut hB _ _) (g _ (by simp)), by rw [app_len]; omega⟩
      · exact ⟨sg_app (sg_cut hB _ _) (g _ (by simp)), by rw [app_len]; omega⟩
      · exact ⟨sg_app (sg_app (sg_cut hB _ _) (g _ (by simp))) (g _ (by simp)), by rw [app_len, app_len]; omega⟩
      · exact ⟨sg_app (sg_cut hB _ _) (g _ (by simp)), by rw [app_len]; omega⟩
      · exact ⟨sg_app (sg_app (sg_cut hB _ _) (g _ (by simp))) (sg_cut hB _ _), by rw [app_len, app_len]; omega⟩) (by simp; omega) hf hfl h
  rw [List.map_append] at fin
  clear h hb hf
  unfold q__law_strings_8 qSeq
  generalize q__law_strings_9 = Z at fin ⊢
  ac_rfl
  ac_nf
  exists fin
theorem strings_7 {R : Wv → Prop} {x B : Str} {bs fs : List Str} {pl : Int} (hx : x.length = 36) (hB : ∀ c ∈ tl B, isSg c = true) (hBl : B.length ≤ 34) (hb : ∀ b ∈ bs, (∀ c ∈ tl b, isSg c = true) ∧ b.length ≤ 100) (hbl : bs.length = 5) (hf : ∀ b ∈ fs, b.length ≤ 1000) (hfl : fs.length ≤ 20)
    (h : ∀ ss : List Str, ss.length ≤ 100 → (∀ s ∈ ss, s.length ≤ 1000) → R (.ow (.l (ss.map .str)))) {x1 x2 x3 x4 x9 : Sl} :
    q__law_strings_7 (endsOf R) [.sh (.str x), x1, x2, x3, x4, .sh (.str B), .ow (.l (fs.map .str)), .sh (.int pl), .sh (.list (bs.map .str)), x9] := by
  obtain ⟨z1, z2, z3, z4, z5, z6, z7, z8, z9, z10, z11, z12, z13, z14, z15, z16, z17, z18⟩ := lits
  have c1 := cutS_le B (some 1) none
  have c2 := cutS_le B (some 0) (some 9)
  have c3 := cutS_le B (some 0) (some 4)
  have c4 := cutS_le B (some 10) none
  have c5 := cutS_le B (some 4) none
  have c6 := cutS_le B (some 0) (some pl)
  have c7 := cutS_le B (some (pl + 1)) none
  have fin := strings_8 (R := R) (B := B) (pl := pl) (x1 := x1) (x2 := x2) (x3 := x3) (x4 := x4) (x9 := x9) hx hB hBl (bs := bs ++ [Str.ofString "A" ++ cutS B (some 1) none, (cutS B (some 0) (some 9) ++ Str.ofString "<") ++ cutS B (some 10) none, (cutS B (some 0) (some 4) ++ Str.ofString "999999") ++ cutS B (some 10) none, Str.ofString "9999" ++ cutS B (some 4) none, (cutS B (some 0) (some pl) ++ Str.ofString "Q") ++ cutS B (some (pl + 1)) none, Str.ofString "0001000000" ++ cutS B (some 10) none]) (fs := fs) (fun b hb2 => by
    rcases List.mem_append.mp hb2 with hb2 | hb2
    · exact hb b hb2
    · simp only [List.mem_cons, List.not_mem_nil, or_false] at hb2
      have g := litsg
      rcases hb2 with rfl | rfl | rfl | rfl | rfl | rfl
      · exact ⟨sg_app (g _ (by simp)) (sg_cut hB _ _), by rw [app_len]; omega⟩
      · exact ⟨sg_app (sg_app (sg_cut hB _ _) (g _ (by simp))) (sg_cut hB _ _), by rw [app_len, app_len]; omega⟩
      · exact ⟨sg_app (sg_app (sg_cut hB _ _) (g _ (by simp))) (sg_cut hB _ _), by rw [app_len, app_len]; omega⟩
      · exact ⟨sg_app (g _ (by simp)) (sg_cut hB _ _), by rw [app_len]; omega⟩
      · exact ⟨sg_app (sg_app (sg_cut hB _ _) (g _ (by simp))) (sg_cut hB _ _), by rw [app_len, app_len]; omega⟩
      · exact ⟨sg_app (g _ (by simp)) (sg_cut hB _ _), by rw [app_len]; omega⟩) (by simp; omega) hf hfl h
  rw [List.map_append] at fin
  clear h hb hf
  unfold q__law_strings_7 qSeq
  generalize q__law_strings_8 = Z at fin ⊢
  ac_rfl
  ac_nf
  exists fin
theorem strings_6 {R : Wv → Prop} {x B : Str} {fs : List Str} {pl : Int} (hx : x.length = 36) (hB : ∀ c ∈ tl B, isSg c = true) (hBl : B.length ≤ 34) (hf : ∀ b ∈ fs, b.length ≤ 1000) (hfl : fs.length ≤ 20)
    (h : ∀ ss : List Str, ss.length ≤ 100 → (∀ s ∈ ss, s.length ≤ 1000) → R (.ow (.l (ss.map .str)))) {x1 x2 x3 x4 x8 x9 : Sl} :
    q__law_strings_6 (endsOf R) [.sh (.str x), x1, x2, x3, x4, .sh (.str B), .ow (.l (fs.map .str)), .sh (.int pl), x8, x9] := by
  obtain ⟨z1, z2, z3, z4, z5, z6, z7, z8, z9, z10, z11, z12, z13, z14, z15, z16, z17, z18⟩ := lits
  have c1 := cutS_le B (some 0) (some 10)
  have c2 := cutS_le B (some 10) (some 33)
  have c5 := cutS_le B (some 4) none
  have c6 := cutS_le B (some 0) (some pl)
  have c7 := cutS_le B (some (pl + 1)) none
  have fin := strings_7 (R := R) (B := B) (pl := pl) (x1 := x1) (x2 := x2) (x3 := x3) (x4 := x4) (x9 := x9) hx hB hBl (bs := [Str.ofString "0000" ++ cutS B (some 4) none, cutS B (some 0) (some 10) ++ Txt.mul (Str.ofString "<") 24, (cutS B (some 0) (some 10) ++ Str.ofString "<") ++ cutS B (some 10) (some 33), (cutS B (some 0) (some pl) ++ Str.ofString "7") ++ cutS B (some (pl + 1)) none, (cutS B (some 0) (some pl) ++ Str.ofString "<") ++ cutS B (some (pl + 1)) none]) (fs := fs) (fun b hb2 => by
    simp only [List.mem_cons, List.not_mem_nil, or_false] at hb2
    have g := litsg
    rcases hb2 with rfl | rfl | rfl | rfl | rfl
    · exact ⟨sg_app (g _ (by simp)) (sg_cut hB _ _), by rw [app_len]; omega⟩
    · exact ⟨sg_app (sg_cut hB _ _) (g _ (by simp)), by rw [app_len]; omega⟩
    · exact ⟨sg_app (sg_app (sg_cut hB _ _) (g _ (by simp))) (sg_cut hB _ _), by rw [app_len, app_len]; omega⟩
    · exact ⟨sg_app (sg_app (sg_cut hB _ _) (g _ (by simp))) (sg_cut hB _ _), by rw [app_len, app_len]; omega⟩
    · exact ⟨sg_app (sg_app (sg_cut hB _ _) (g _ (by simp))) (sg_cut hB _ _), by rw [app_len, app_len]; omega⟩) rfl hf hfl h
  clear h hf
  unfold q__law_strings_6 qSeq
  generalize q__law_strings_7 = Z at fin ⊢
  ac_rfl
  ac_nf
  exists fin
theorem pure__law_strings : ∀ ds R, ds.length = 2 → P__law_strings ds R → q__law_strings (endsOf R) (startEv 10 ds) := by
  rintro ds R - ⟨x, dr, rfl, hx, hs, hdr, h⟩
  obtain ⟨z1, z2, z3, z4, z5, z6, z7, z8, z9, z10, z11, z12, z13, z14, z15, z16, z17, z18⟩ := lits
  have g : ∀ i : Nat, i < 10 → ∃ v, ixD (dr.map PyData.int) (i : Int) = some (.int v) := fun i hi => ⟨_, ixD_map _ (List.getElem?_eq_getElem (by omega))⟩
  obtain ⟨v0, e0⟩ := g 0 (by decide)
  obtain ⟨v1, e1⟩ := g 1 (by decide)
  obtain ⟨v2, e2⟩ := g 2 (by decide)
  have m37 : sgnS.length = 37 := mF_m
  obtain ⟨sg, hsg, esg⟩ := lit_c (tl sgnS) (v1 % 37) (by omega) (by rw [tl_len, m37]; omega)
  have c1 := cutS_le x (some 0) (some (v0 % 36))
  have c2 := cutS_le x (some (v0 % 36 + 1)) none
  have c3 := cutS_le x (some 0) (some 35)
  have lo : (loS x).length = x.length := by rw [← tl_len, ← tl_len]; simp [loS]
  have rv : (revS x).length = x.length := by rw [← tl_len, ← tl_len]; simp [revS]
  have l128 : ∀ c ∈ tl x, c < 128 := fun c hc => by
    have := hs c hc
    unfold isSg at this
    simp at this
    omega
  have fin := strings_6 (R := R) (x := x) (B := cutS x (some 0) (some 34)) (pl := 10 + v2 % 24) (x1 := .sh (.list (dr.map .int))) (x2 := .sh (.str sgnS)) (x3 := .sh (.int (v0 % 36))) (x4 := .sh (signD sg)) (x8 := .un) (x9 := .un) hx (sg_cut hs _ _) (by
    rw [show cutS x (some 0) (some 34) = asStr ((tl x).take 34) from cutS_bt x 0 34, as_len, List.length_take]
    omega) (fs := [x, (cutS x (some 0) (some (v0 % 36)) ++ ⟨#[sg]⟩) ++ cutS x (some (v0 % 36 + 1)) none, cutS x (some 0) (some 35), x ++ Str.ofString "<", x ++ Str.ofString "\n", Str.ofString "", loS x, (cutS x (some 0) (some (v0 % 36)) ++ Str.ofString " ") ++ cutS x (some (v0 % 36 + 1)) none, revS x]) (fun b hb => by
    simp only [List.mem_cons, List.not_mem_nil, or_false] at hb
    rcases hb with rfl | rfl | rfl | rfl | rfl | rfl | rfl | rfl | rfl
    · omega
    · rw [app_len, app_len]
      show _ + 1 + _ ≤ _
      omega
    · omega
    · rw [app_len]
      omega
    · rw [app_len]
      omega
    · omega
    · omega
    · rw [app_len, app_len]
      omega
    · omega) (by simp) h
  clear h
  unfold q__law_strings q__law_strings_4 qSeq
  generalize q__law_strings_6 = Z at fin ⊢
  ac_rfl
  rw [show ixD (dr.map PyData.int) 0 = _ from e0]
  ac_rfl
  rw [show ixD (dr.map PyData.int) 1 = _ from e1]
  ac_rfl
  ac_nf
  rw [show ixD (Str.ofString "0123456789ABCDEFGHIJKLMNOPQRSTUVWXYZ<").cps.toList (v1 % 37) = some sg from esg]
  ac_rfl
  ac_nf
  refine ⟨small (by rw [app_len]; show _ + 1 + _ ≤ _; omega), ?_⟩
  ac_rfl
  ac_nf
  (try (refine ⟨by omega, ?_⟩; ac_rfl; ac_nf))
  (try (rw [show ixD (dr.map PyData.int) 2 = _ from e2]; ac_rfl; ac_nf))
  exact fin
end PL

namespace PL
open PySem PySem.Spec PyProof.Rows L2
local macro_rules | `(tactic| ac_rfl) => `(tactic| ((conv => whnf); repeat ((first | refine Cif.yes ?_ | refine Cif.no ?_ | (refine And.intro ?_ ?_; · first | (show _ ≤ (_ : Int); omega) | (show _ < (_ : Int); omega) | assumption | exact trivial | exact rfl | (refine small ?_; first | omega | (simp only [List.length_map, List.length_cons, List.length_nil, List.length_append]; omega)) | (refine ltsmall ?_; first | omega | (simp only [List.length_map, List.length_cons, List.length_nil, List.length_append]; omega)) | (refine cdiv ?_ ?_ <;> omega) | (refine cmulR ?_ ?_ <;> omega) | (refine cmulL ?_ ?_ <;> omega) | (refine ⟨?_, ?_, ?_, ?_⟩ <;> omega))); (conv => whnf))))
local macro_rules | `(tactic| exists $e) => `(tactic| first | exact $e | exact And.right $e | exact And.right (And.right $e) | exact And.right (And.right (And.right $e)))
local macro_rules | `(tactic| ac_nf) => `(tactic| (repeat ((first | (refine ⟨by decide +kernel, ?_⟩) | (refine ⟨small (by omega), ?_⟩) | (refine ⟨small (by simp only [app_len]; omega), ?_⟩) | (refine ⟨by simp only [sizeLine_eq, List.length_append, List.length_cons, List.length_nil, List.length_map]; omega, ?_⟩)); (ac_rfl))))
def P_law : PD := fun ds R => ∃ ns : List Int, ds = [scrD ns] ∧ ns.length ≤ 63 ∧ R (.sh (.bool true))
def q_law_5 (C : Str → Addr) : QS :=
  (qSeq (qFor (qiL (qCall 2 P__law_strings (qCons (qVar 2) (qCons (qVar 1) qNil)))) (qgN 12)
   (qIfS (qNot (qB (qCall 2 P__law_same (qCons (qCall 1 P__law_told_back (qCons (qVar 12) qNil)) (qCons (qCall 1 P__law_read (qCons (qVar 12) qNil)) qNil)))))
    (qRet (qC (.bool false)))
    qNext))
  (qRet (qC (.bool true))))
def q_law_4 (C : Str → Addr) : QS :=
  (qSeq (qFor (qiL (qLst (qCons (qC (.str "")) (qCons (qC (.str " ")) (qCons (qC (.str "123 <4")) (qCons (qC (.str ".-'")) (qCons (qOp opMul (qC (.str "[")) (qC (.int 320))) qNil))))))) (qgN 4)
   (qIfS (qOr (qNot (qB (qCall 2 P__law_same (qCons (qCall 1 P_words_of (qCons (qVar 4) qNil)) (qCons (qLst qNil) qNil))))) (qB (qOp opNe (qCall 3 P__law_told_line (qCons (qC (.int 7)) (qCons (qC (.int 7)) (qCons (qVar 4) qNil)))) (qTup (qCons (qC (.str "refused")) (qCons (qC (.bool true)) qNil))))))
    (qRet (qC (.bool false)))
    qNext))
  (q_law_5 C))
def q_law_3 (C : Str → Addr) : QS :=
  (qSeq (qFor (qiR1 (qCons (qC (.int 3)) qNil)) (qgN 3)
   (qSeq (qAsg (qCall 1 P__law_long_name (qCons (qCall 2 P__law_cell (qCons (qVar 0) (qCons (qVar 3) qNil))) qNil)) (qgN 4))
   (qSeq (qAsg (qCall 1 P__law_words_in (qCons (qVar 4) qNil)) (qgN 5))
   (qFrz 5 (qSeq (qAsg (qOp opIx (qLst (qCons (qOp opAdd (qC (.int 1)) (qOp opMod (qOp opIx (qVar 1) (qVar 3)) (qC (.int 9999)))) (qCons (qC (.int 1)) (qCons (qC (.int 9999)) qNil)))) (qOp opMul (qOp opMod (qOp opFdiv (qOp opIx (qVar 1) (qVar 3)) (qC (.int 9999))) (qC (.int 3))) (qUn opInt (qOp opMod (qOp opIx (qVar 1) (qC (.int 9))) (qC (.int 2)))))) (qgN 6))
   (qSeq (qAsg (qOp opIx (qLst (qCons (qOp opMod (qOp opIx (qVar 1) (qOp opAdd (qC (.int 3)) (qVar 3))) (qC (.int 1000000))) (qCons (qC (.int 0)) (qCons (qC (.int 999999)) qNil)))) (qOp opMul (qOp opMod (qOp opFdiv (qOp opIx (qVar 1) (qOp opAdd (qC (.int 3)) (qVar 3))) (qC (.int 1000000))) (qC (.int 3))) (qUn opInt (qOp opMod (qOp opFdiv (qOp opIx (qVar 1) (qC (.int 9))) (qC (.int 2))) (qC (.int 2)))))) (qgN 7))
   (qSeq (qAsg (qCall 1 P_words_of (qCons (qVar 4) qNil)) (qgN 8))
   (qFrz 8 (qSeq (qIfS (qNot (qB (qCall 2 P__law_same (qCons (qVar 8) (qCons (qVar 5) qNil)))))
    (qRet (qC (.bool false)))
    qNext)
   (qSeq (qAsg (qUn opList (qVar 5)) (qgN 9))
   (qFrz 9 (qSeq (qIfS (qOr (qNot (qB (qCall 2 P__law_same (qCons (qCall 1 P_field_of (qCons (qVar 9) qNil)) (qCons (qCall 1 P__law_field (qCons (qVar 5) qNil)) qNil))))) (qOr (qB (qOp opNe (qVar 9) (qVar 5))) (qB (qOp opNe (qUn opLen (qCall 1 P__law_field (qCons (qVar 5) qNil))) (qC (.int 24))))))
    (qRet (qC (.bool false)))
    qNext)
   (qSeq (qAsg (qCall 3 P__law_machine_line (qCons (qVar 6) (qCons (qVar 7) (qCons (qVar 5) qNil)))) (qgN 2))
   (qSeq (qIfS (qNot (qB (qCall 2 P__law_same (qCons (qCall 3 P__law_told_line (qCons (qVar 6) (qCons (qVar 7) (qCons (qVar 4) qNil)))) (qCons (qTup (qCons (qC (.str "told")) (qCons (qVar 2) qNil))) qNil)))))
    (qRet (qC (.bool false)))
    qNext)
   (qSeq (qAsg (qCall 1 P__law_read (qCons (qVar 2) qNil)) (qgN 10))
   (qSeq (qIfS (qOr (qB (qOp opIs (qVar 10) (qC .none))) (qOr (qB (qOp opNe (qOp opIx (qVar 10) (qC (.int 0))) (qVar 6))) (qOr (qB (qOp opNe (qOp opIx (qVar 10) (qC (.int 1))) (qVar 7))) (qNot (qB (qCall 2 P__law_same (qCons (qCallX 1 (P_read_machine C) (qCons (qVar 2) qNil)) (qCons (qVar 10) qNil))))))))
    (qRet (qC (.bool false)))
    qNext)
   (qSeq (qAsg (qM1 opJoin (qC (.str "<")) (qVar 5)) (qgN 11))
   (qIfS (qAnd (qB (qOp opLt (qUn opLen (qVar 11)) (qC (.int 25)))) (qB (qOp opNe (qOp opIx (qVar 10) (qC (.int 2))) (qVar 5))))
    (qRet (qC (.bool false)))
    qNext))))))))))))))))))
  (q_law_4 C))
-- law(script) slots: 0=script 1=draws 2=line 3=k 4=name 5=words 6=person 7=day 8=told 9=handed 10=cut 11=whole 12=text
def q_law (C : Str → Addr) : QS :=
  (qSeq (qAsg (qCall 3 P__law_numbers (qCons (qCall 2 P__law_cell (qCons (qVar 0) (qCons (qC (.int 3)) qNil))) (qCons (qC (.int 10)) (qCons (qC (.int 16000000)) qNil)))) (qgN 1))
  (qFrz 1 (qSeq (qIfS (qNot (qB (qCall 2 P__law_same (qCons (qCall 0 P_machine_frame qNil) (qCons (qTup (qCons (qC (.str "0123456789ABCDEFGHIJKLMNOPQRSTUVWXYZ<")) (qCons (qLst (qCons (qOp opMul (qLst (qCons (qC (.int 1)) qNil)) (qC (.int 36))) (qCons (qRgL2 (qC (.int 1)) (qC (.int 37))) qNil))) qNil))) qNil)))))
   (qRet (qC (.bool false)))
   qNext)
  (qSeq (qAsg (qC (.str "")) (qgN 2))
  (q_law_3 C)))))
theorem plain_strs : ∀ xs : List Str, PyData.plainAll (xs.map .str) = true
  | [] => rfl
  | x :: r => by simp [PyData.plainAll, PyData.plain, plain_strs r]
theorem eqv_strsD (ws : List (List Nat)) : PyData.eqv (.list (strsD ws)) (.list (strsD ws)) = true := PySem.SeqAt.eqv_refl_plain _ (by
  rw [strsD_str]
  simp only [PyData.plain]
  exact plain_strs _)
theorem same_strs (n : Nat) (xs : List Str) (h : xs.length ≤ 1000000) : sameOk (n + 2) (.list (xs.map .str)) = true := by
  simp only [sameOk, List.length_map, List.all_map, Bool.and_eq_true, decide_eq_true_eq, List.all_eq_true]
  exact ⟨h, fun x _ => rfl⟩
theorem same_strsD (n : Nat) (ws : List (List Nat)) (h : ws.length ≤ 1000000) : sameOk (n + 2) (.list (strsD ws)) = true := by
  rw [strsD_str]
  exact same_strs n _ (by simpa using h)
theorem same_read (x : Str) : sameOk 4 (readR x) = true := by
  unfold readR
  split
  · have h := same_strsD 1 (rdW x) (by have := (rdW_len x).2; omega)
    show (decide (3 ≤ 1000000) && (true && (true && (sameOk 3 (.list (strsD (rdW x))) && true)))) = true
    rw [h]
    rfl
  · rfl
theorem same_mF : sameOk 4 mF.enc = true := by decide +kernel
theorem law_5 {R : Wv → Prop} {C : Str → Addr} {x : Str} {dr : List Int} (hx : x.length = 36) (hs : ∀ c ∈ tl x, isSg c = true) (hdr : dr.length = 10) (h : R (.sh (.bool true))) {x0 x3 x4 x5 x6 x7 x8 x9 x10 x11 x12 : Sl} :
    q_law_5 C (endsOf R) [x0, .sh (.list (dr.map .int)), .sh (.str x), x3, x4, x5, x6, x7, x8, x9, x10, x11, x12] := by
  ac_rfl
  refine ⟨x, dr, rfl, hx, hs, hdr, fun ss hl hss => ?_⟩
  ac_rfl
  refine forGo_ok PyData.str (fun r Γ => ∃ a : Sl, Γ = [x0, .sh (.list (dr.map .int)), .sh (.str x), x3, x4, x5, x6, x7, x8, x9, x10, x11, a] ∧ ∀ s ∈ r, s.length ≤ 1000) ?_ ?_ _ _ ⟨_, rfl, hss⟩
  · rintro Γ ⟨a, rfl, _⟩
    ac_rfl
    exact h
  · rintro s r Γ K ⟨a, rfl, hr⟩ hK
    have hs1 := hr s (by simp)
    have next := hK [x0, .sh (.list (dr.map .int)), .sh (.str x), x3, x4, x5, x6, x7, x8, x9, x10, x11, .sh (.str s)] ⟨_, rfl, fun t ht => hr t (List.mem_cons_of_mem _ ht)⟩
    clear hK h
    ac_rfl
    refine ⟨s, rfl, hs1, ?_⟩
    ac_rfl
    refine ⟨s, rfl, hs1, ?_⟩
    ac_rfl
    refine ⟨_, rfl, same_read s, ?_⟩
    ac_rfl
    exact next
def namesL : List Str := [Str.ofString "", Str.ofString " ", Str.ofString "123 <4", Str.ofString ".-'", Txt.mul (Str.ofString "[") 320]
theorem names_ok : ∀ s ∈ namesL, (∀ c ∈ tl s, c < 128) ∧ s.length ≤ 1000 ∧ wds (tl s) = [] := by decide +kernel
theorem seq_i {p q : QS} {P : PEnds} {Γ : Ev} (h : p { P with nx := q P } Γ) : qSeq p q P Γ := h
theorem asg_c {d : D} {i : Nat} {P : PEnds} {Γ : Ev} (h : P.nx (Γ.set i (.sh d))) : qAsg (qC d) (qgN i) P Γ := h
theorem for_names {g : QG} {t : QS} {P : PEnds} {Γ : Ev} (h : forGo g t P (namesL.map PyData.str) Γ) : qFor (qiL (qLst (qCons (qC (.str "")) (qCons (qC (.str " ")) (qCons (qC (.str "123 <4")) (qCons (qC (.str ".-'")) (qCons (qOp opMul (qC (.str "[")) (qC (.int 320))) qNil))))))) g t P Γ :=
  ⟨(by decide : (320 : Int) < 2 ^ 20), (by decide : -(2 ^ 20) < (320 : Int)), (by decide +kernel : (Str.ofString "[").length * (320 : Int).toNat ≤ 2 ^ 20), small (by decide), h⟩
theorem eqv_ref : PyData.eqv (.tuple [.str (txt "refused"), .bool true]) (.tuple [.str (txt "refused"), .bool true]) = true := PySem.SeqAt.eqv_refl_plain _ rfl
theorem law_4 {R : Wv → Prop} {C : Str → Addr} {x : Str} {dr : List Int} (hx : x.length = 36) (hs : ∀ c ∈ tl x, isSg c = true) (hdr : dr.length = 10) (h : R (.sh (.bool true))) {x0 x3 x4 x5 x6 x7 x8 x9 x10 x11 x12 : Sl} :
    q_law_4 C (endsOf R) [x0, .sh (.list (dr.map .int)), .sh (.str x), x3, x4, x5, x6, x7, x8, x9, x10, x11, x12] := by
  have fin := fun {x4 : Sl} => law_5 (R := R) (C := C) hx hs hdr h (x0 := x0) (x3 := x3) (x4 := x4) (x5 := x5) (x6 := x6) (x7 := x7) (x8 := x8) (x9 := x9) (x10 := x10) (x11 := x11) (x12 := x12)
  refine seq_i ?_
  refine for_names ?_
  refine forGo_ok PyData.str (fun r Γ => ∃ a : Sl, Γ = [x0, .sh (.list (dr.map .int)), .sh (.str x), x3, a, x5, x6, x7, x8, x9, x10, x11, x12] ∧ ∀ s ∈ r, s ∈ namesL) ?_ ?_ _ _ ⟨_, rfl, fun s hs => hs⟩
  · rintro Γ ⟨a, rfl, _⟩
    exact fin
  · rintro s r Γ K ⟨a, rfl, hr⟩ hK
    obtain ⟨s1, s2, s3⟩ := names_ok s (hr s (by simp))
    have next := hK [x0, .sh (.list (dr.map .int)), .sh (.str x), x3, .sh (.str s), x5, x6, x7, x8, x9, x10, x11, x12] ⟨_, rfl, fun t ht => hr t (List.mem_cons_of_mem _ ht)⟩
    clear hK h
    ac_rfl
    refine ⟨s, rfl, ⟨s1, s2⟩, ?_⟩
    rw [s3]
    ac_rfl
    refine ⟨_, rfl, rfl, ?_⟩
    ac_rfl
    refine ⟨7, 7, s, rfl, by decide, by decide, ⟨s1, s2⟩, fun _ => ?_, fun hn => absurd s3 hn⟩
    ac_rfl
    (try (rw [show PyData.eqv (PyData.tuple [PyData.str (txt "refused"), PyData.bool true]) (PyData.tuple [PyData.str (Str.ofString "refused"), PyData.bool true]) = true from eqv_ref]))
    (try refine Cif.no ?_)
    exists next
def LineOk (x : Str) : Prop := x.length = 36 ∧ ∀ c ∈ tl x, isSg c = true
theorem mach_ok {p d : Nat} {ws : List (List Nat)} (hp : p < 10000) (hd : d < 1000000) (h : CapW ws) (hne : ws ≠ []) : LineOk (machL p d ws) := by
  have g := line_good (x := asStr (bodyL p d ws)) (by rw [as_len]; exact body_len hp hd h hne) (by rw [tl_as]; exact body_sg h hne)
  rw [good_mF] at g
  simp only [Bool.and_eq_true, beq_iff_eq, List.all_eq_true] at g
  exact ⟨g.1.1, g.1.2⟩
theorem for_3 {g : QG} {t : QS} {P : PEnds} {Γ : Ev} (h : forGo g t P ((List.range 3).map fun i : Nat => .int (i : Int)) Γ) : qFor (qiR1 (qCons (qC (.int 3)) qNil)) g t P Γ :=
  ⟨(by decide : -(2 ^ 62) ≤ (3 : Int)), (by decide : (3 : Int) < 2 ^ 62), h⟩
theorem drop_cons3 {k n : Nat} {i : Nat} {r : List Nat} (h : (List.range n).drop k = i :: r) : k < n ∧ i = k ∧ r = (List.range n).drop (k + 1) := drop_cons h
theorem law_3 {R : Wv → Prop} {C : Str → Addr} {ns dr : List Int} (hns : ns.length ≤ 63) (hdr : dr.length = 10) (hdb : ∀ d ∈ dr, 0 ≤ d ∧ d < 16000000) (h : R (.sh (.bool true))) :
    q_law_3 C (endsOf R) [.sh (scrD ns), .sh (.list (dr.map .int)), .sh (.str (Str.ofString "")), .un, .un, .un, .un, .un, .un, .un, .un, .un, .un] := by
  have fin := fun {x : Str} (hx : LineOk x) {x3 x4 x5 x6 x7 x8 x9 x10 x11 x12 : Sl} => law_4 (R := R) (C := C) hx.1 hx.2 hdr h (x0 := .sh (scrD ns)) (x3 := x3) (x4 := x4) (x5 := x5) (x6 := x6) (x7 := x7) (x8 := x8) (x9 := x9) (x10 := x10) (x11 := x11) (x12 := x12)
  have g : ∀ i : Nat, i < 10 → ∃ v, ixD (dr.map PyData.int) (i : Int) = some (.int v) ∧ 0 ≤ v ∧ v < 16000000 := fun i hi => by
    have e : dr[i]? = some dr[i] := List.getElem?_eq_getElem (by omega)
    exact ⟨_, ixD_map _ e, hdb _ (List.getElem_mem (by omega))⟩
  obtain ⟨v9, e9, b9, c9⟩ := g 9 (by decide)
  refine seq_i ?_
  refine for_3 ?_
  refine forGo_ok (fun i : Nat => .int (i : Int)) (fun r Γ => ∃ (k : Nat) (x : Str) (x3 x4 x5 x6 x7 x8 x9 x10 x11 x12 : Sl), Γ = [.sh (scrD ns), .sh (.list (dr.map .int)), .sh (.str x), x3, x4, x5, x6, x7, x8, x9, x10, x11, x12] ∧ r = (List.range 3).drop k ∧ k ≤ 3 ∧ (1 ≤ k → LineOk x)) ?_ ?_ _ _ ⟨0, _, _, _, _, _, _, _, _, _, _, _, rfl, rfl, by decide, fun h => absurd h (by decide)⟩
  · rintro Γ ⟨k, x, x3, x4, x5, x6, x7, x8, x9, x10, x11, x12, rfl, hr, hk, hx⟩
    have hk3 : k = 3 := by
      have := congrArg List.length hr
      simp at this
      omega
    exact fin (hx (by omega))
  · rintro k r Γ K ⟨k', x, x3, x4, x5, x6, x7, x8, x9, x10, x11, x12, rfl, hr, hk, hx⟩ hK
    obtain ⟨hk3, rfl, rfl⟩ := drop_cons3 hr.symm
    obtain ⟨vk, ek, bk, ck⟩ := g k (by omega)
    obtain ⟨vd, ed, bd, cd⟩ := g (3 + k) (by omega)
    have i1 : 0 ≤ vk / 9999 % 3 * (v9 % 2) ∧ vk / 9999 % 3 * (v9 % 2) < 3 := by
      have : v9 % 2 = 0 ∨ v9 % 2 = 1 := by omega
      rcases this with e | e <;> rw [e] <;> omega
    have i2 : 0 ≤ vd / 1000000 % 3 * (v9 / 2 % 2) ∧ vd / 1000000 % 3 * (v9 / 2 % 2) < 3 := by
      have : v9 / 2 % 2 = 0 ∨ v9 / 2 % 2 = 1 := by omega
      rcases this with e | e <;> rw [e] <;> omega
    obtain ⟨p, hp, ep⟩ := lit_i [1 + vk % 9999, 1, 9999] (vk / 9999 % 3 * (v9 % 2)) i1.1 (by simpa using i1.2)
    obtain ⟨d, hd, ed2⟩ := lit_i [vd % 1000000, 0, 999999] (vd / 1000000 % 3 * (v9 / 2 % 2)) i2.1 (by simpa using i2.2)
    simp only [List.mem_cons, List.not_mem_nil, or_false] at hp hd
    obtain ⟨p, rfl⟩ : ∃ n : Nat, p = n := ⟨p.toNat, by omega⟩
    obtain ⟨d, rfl⟩ : ∃ n : Nat, d = n := ⟨d.toNat, by omega⟩
    have hp1 : 1 ≤ p ∧ p < 10000 := by omega
    have hd1 : d < 1000000 := by omega
    clear hp hd h fin
    ac_rfl
    refine ⟨ns, k, rfl, hns, fun cell => ?_⟩
    ac_rfl
    refine ⟨cell, rfl, fun y hy hyl hyc => ?_⟩
    have hc := wds_cap (tl y)
    have hne := wds_ne hyc
    have hlw := wds_lenW hy
    have lok := mach_ok hp1.2 hd1 hc hne
    obtain ⟨r1, r2⟩ := mach_read hp1.2 hp1.1 hd1 hc hne
    have rR : readR (machL p d (wds (tl y))) = .tuple [.int p, .int d, .list (strsD (fieldW (wds (tl y))))] := by
      unfold readR
      rw [if_pos r1, r2]
    have next : ∀ x6 x7 x8 x9 x10 x11 : Sl, K [.sh (scrD ns), .sh (.list (dr.map .int)), .sh (.str (machL p d (wds (tl y)))), .sh (.int (k : Nat)), .sh (.str y), .sh (.list (strsD (wds (tl y)))), x6, x7, x8, x9, x10, x11, x12] := fun x6 x7 x8 x9 x10 x11 => hK _ ⟨k + 1, _, _, _, _, _, _, _, _, _, _, _, rfl, rfl, by omega, fun _ => lok⟩
    clear hK
    generalize hws : wds (tl y) = ws at *
    have fcap := fieldW_cap ws hc hne
    have flen := fieldL_len hc hne
    ac_rfl
    refine ⟨y, rfl, hy, ?_⟩
    rw [hws]
    ac_rfl
    rw [show ixD (dr.map PyData.int) (k : Int) = _ from ek]
    ac_rfl
    rw [show ixD (dr.map PyData.int) (k : Int) = _ from ek]
    ac_rfl
    rw [show ixD (dr.map PyData.int) 9 = _ from e9]
    ac_rfl
    rw [show ixD [PyData.int (1 + vk % 9999), PyData.int 1, PyData.int 9999] (vk / 9999 % 3 * (v9 % 2)) = _ from ep]
    ac_rfl
    rw [show (3 : Int) + (k : Int) = ((3 + k : Nat) : Int) by omega, show ixD (dr.map PyData.int) ((3 + k : Nat) : Int) = _ from ed]
    ac_rfl
    rw [show (3 : Int) + (k : Int) = ((3 + k : Nat) : Int) by omega, show ixD (dr.map PyData.int) ((3 + k : Nat) : Int) = _ from ed]
    ac_rfl
    rw [show ixD (dr.map PyData.int) 9 = _ from e9]
    ac_rfl
    rw [show ixD [PyData.int (vd % 1000000), PyData.int 0, PyData.int 999999] (vd / 1000000 % 3 * (v9 / 2 % 2)) = _ from ed2]
    ac_rfl
    refine ⟨y, rfl, hy, ?_⟩
    rw [hws]
    ac_rfl
    refine ⟨_, rfl, same_strsD 2 ws (by have := hlw.1; omega), ?_⟩
    ac_rfl
    refine ⟨ws, rfl, hlw, ?_⟩
    ac_rfl
    refine ⟨ws, rfl, hlw, ?_⟩
    ac_rfl
    refine ⟨_, rfl, rfl, ?_⟩
    ac_rfl
    refine ⟨Bool.and_eq_true_iff.mpr ⟨flat_strsD _, flat_strsD _⟩, ?_⟩
    ac_rfl
    refine Cif.ff (show (!PyData.eqv (.list (strsD ws)) (.list (strsD ws))) = false by rw [eqv_strsD]; rfl) ?_
    ac_rfl
    refine ⟨ws, rfl, hlw, ?_⟩
    ac_rfl
    have el : (asStr (fieldL ws)).length = 24 := by rw [as_len]; exact flen
    rw [el]
    refine ⟨small (by decide), ?_⟩
    ac_rfl
    refine ⟨p, d, ws, rfl, hp1.2, hd1, hlw, hc, hne, ?_⟩
    ac_rfl
    refine ⟨p, d, y, rfl, hp1.2, hd1, hy, fun e => absurd (hws.symm.trans e) hne, fun _ => ?_⟩
    rw [hws]
    ac_rfl
    refine ⟨_, rfl, rfl, ?_⟩
    ac_rfl
    refine ⟨machL p d ws, rfl, by rw [lok.1]; decide, ?_⟩
    rw [rR]
    ac_rfl
    refine Cif.ff (show (!PyData.eqv (.int ((p : Nat) : Int)) (.int ((p : Nat) : Int))) = false by rw [eqv_int]; simp) ?_
    ac_rfl
    refine Cif.ff (show (!PyData.eqv (.int ((d : Nat) : Int)) (.int ((d : Nat) : Int))) = false by rw [eqv_int]; simp) ?_
    ac_rfl
    refine ⟨machL p d ws, rfl, by rw [lok.1]; decide, fun e => absurd (e.symm.trans r1) (by decide), fun _ => ?_⟩
    rw [r2]
    ac_rfl
    refine ⟨_, rfl, ?_, ?_⟩
    · have := same_read (machL p d ws)
      rw [rR] at this
      exact this
    ac_rfl
    have hsz := join_size ws
    rw [strsOf_strsD]
    ac_rfl
    have hl1 := hlw.1
    have hl3 := hlw.2.2
    have ejl : (asStr (joinL 60 ws)).length = jl ws := by rw [as_len, joinL_len]
    refine ⟨by omega, ?_⟩
    rw [join_fill]
    ac_rfl
    (try (refine ⟨small (by omega), ?_⟩; ac_rfl))
    rw [ejl]
    refine ⟨fun hz => ?_, fun hz => ?_⟩
    · have hz : ((jl ws : Nat) : Int) < 25 := of_decide_eq_true hz
      have ef : fieldW ws = ws := fieldW_end (by omega)
      rw [ef]
      ac_rfl
      refine ⟨Bool.and_eq_true_iff.mpr ⟨flat_strsD _, flat_strsD _⟩, ?_⟩
      ac_rfl
      refine Cif.ff (show (!PyData.eqv (.list (strsD ws)) (.list (strsD ws))) = false by rw [eqv_strsD]; rfl) ?_
      exact next _ _ _ _ _ _
    · refine Cif.no ?_
      exact next _ _ _ _ _ _
theorem pure_law (C : Str → Addr) : ∀ ds R, ds.length = 1 → P_law ds R → q_law C (endsOf R) (startEv 13 ds) := by
  rintro ds R - ⟨ns, rfl, hns, h⟩
  have fin := fun {dr : List Int} (hdr) (hdb) => law_3 (R := R) (C := C) (ns := ns) (dr := dr) hns hdr hdb h
  ac_rfl
  refine ⟨ns, 3, rfl, hns, fun i => ?_⟩
  ac_rfl
  refine ⟨i, 10, 16000000, rfl, by decide, by decide, by decide, fun dr hdr hdb => ?_⟩
  have fin := fin hdr hdb
  clear h
  ac_rfl
  ac_rfl
  refine ⟨by decide, ?_⟩
  ac_rfl
  refine ⟨mF.enc, ?_, same_mF, ?_⟩
  · have e : mF.enc = .tuple [.str sgnS, .list [.list (List.replicate 36 [PyData.int 1]).flatten, .list (rgD 1 37)]] := by
      simp [Fr.enc, mF, rowD, mR2, rgD]
    rw [e]
    rfl
  refine Cif.ff (c := !true) rfl ?_
  show qSeq (qAsg (qC (.str (Str.ofString ""))) (qgN 2)) (q_law_3 C) (endsOf R) _
  refine seq_i ?_
  refine asg_c ?_
  exact fin
end PL

namespace PL
open PySem PySem.Spec PyProof.Rows L2

structure Mg (mg : Str → Option Value) : Prop where
  all_ : mg "all" = none
  bool_ : mg "bool" = none
  enumerate_ : mg "enumerate" = none
  int_ : mg "int" = none
  isinstance_ : mg "isinstance" = none
  len_ : mg "len" = none
  list_ : mg "list" = none
  max_ : mg "max" = none
  range_ : mg "range" = none
  str_ : mg "str" = none
  sum_ : mg "sum" = none
  tuple_ : mg "tuple" = none
  zip_ : mg "zip" = none
  k_CAPITALS : ∃ t, mg "CAPITALS" = some (.str "ABCDEFGHIJKLMNOPQRSTUVWXYZ" t)
  k_DAY : ∃ t, mg "DAY" = some (.int 6 t)
  k_DIGITS : ∃ t, mg "DIGITS" = some (.str "0123456789" t)
  k_FIELD : ∃ t, mg "FIELD" = some (.int 24 t)
  k_FILL : ∃ t, mg "FILL" = some (.str "<" t)
  k_PERSON : ∃ t, mg "PERSON" = some (.int 4 t)
  k_SIZE : ∃ t, mg "SIZE" = some (.int 36 t)
def topS (i : Nat) : Stmt := PySem.Challenge.pw_lettersacross_k79_machine_lines_cut_writ.main.body.getD i (.Pass ⟨0, 0, 0, 0⟩)
structure Xf (K : PySem.W.Frag) (mg : Str → Option Value) (C : Str → Addr) : Prop where
  x_InvalidLine : ExcOk K mg "InvalidLine" (C "InvalidLine")
  exm_InvalidLine : PySem.W.exmOne K (.ref (C "InvalidLine")) (.ref (C "InvalidLine")) = some true
  ec_InvalidLine : ExcC K (C "InvalidLine")
  x_NoWord : ExcOk K mg "NoWord" (C "NoWord")
  exm_NoWord : PySem.W.exmOne K (.ref (C "NoWord")) (.ref (C "NoWord")) = some true
  ec_NoWord : ExcC K (C "NoWord")
  m_InvalidLine : mg "InvalidLine" = some (.ref (C "InvalidLine"))
  m_NoWord : mg "NoWord" = some (.ref (C "NoWord"))
  m_ScriptError : mg "ScriptError" = some (.ref (C "ScriptError"))
  kit_InvalidLine_NoWord : PySem.W.kitOne K (.ref (C "InvalidLine")) (.ref (C "NoWord")) = some false
  kit_InvalidLine_ScriptError : PySem.W.kitOne K (.ref (C "InvalidLine")) (.ref (C "ScriptError")) = some true
  kit_NoWord_InvalidLine : PySem.W.kitOne K (.ref (C "NoWord")) (.ref (C "InvalidLine")) = some false
  kit_NoWord_ScriptError : PySem.W.kitOne K (.ref (C "NoWord")) (.ref (C "ScriptError")) = some true

section
variable {P : Program} {w : World} {K : PySem.W.Frag} {mg : Str → Option Value} {base : Heap} {C : Str → Addr}
abbrev s_size_of : Stmt := topS 5
abbrev N_size_of : List Str := ["frame"]
theorem sc_size_of : FnScope N_size_of ["frame"] (defScope s_size_of) := ⟨rfl, rfl, rfl, by decide +kernel, rfl, by decide +kernel, by decide +kernel⟩
theorem cal_size_of {f : Addr} {fd : FuncData} (M : Mg mg) (XF : Xf K mg C) (F : L2.Fun K "size_of" "size_of" s_size_of f fd) (hm : mg "size_of" = some (.ref f)) (b : Binds K fd ["frame"] []) : Cal P w K mg base 1 "size_of" (spD 1 P_size_of) :=
  have nd := sc_size_of.nd
  cal_mk F hm b sc_size_of fun cdv A outer s H E hr => ⟨_, q_size_of, (dss_one (ds_ret (d_len M.len_ (d_sub_ix (d_sub_ix (d_var 0) d_int) d_int)))), pure_size_of⟩

abbrev s_worths_in : Stmt := topS 6
abbrev N_worths_in : List Str := ["frame", "line", "sign"]
theorem sc_worths_in : FnScope N_worths_in ["frame", "line"] (defScope s_worths_in) := ⟨rfl, rfl, rfl, by decide +kernel, rfl, by decide +kernel, by decide +kernel⟩
theorem cal_worths_in {f : Addr} {fd : FuncData} (M : Mg mg) (XF : Xf K mg C) (F : L2.Fun K "worths_in" "worths_in" s_worths_in f fd) (hm : mg "worths_in" = some (.ref f)) (b : Binds K fd ["frame", "line"] []) : Cal P w K mg base 1 "worths_in" (spD 2 P_worths_in) :=
  have nd := sc_worths_in.nd
  cal_mk F hm b sc_worths_in fun cdv A outer s H E hr => ⟨_, q_worths_in, (dss_one (ds_ret (b_lc (own := [("sign", 2)]) rfl nd (di_str (d_var 1)) (blkOk_by (by kernel_rfl)) (fun _ _ _ _ _ => (dg_name nd)) (fun _ _ _ _ _ => dts_nil) (fun _ _ _ _ _ => (d_index (d_sub_ix (d_var 0) d_int) (d_var 2)))))), pure_worths_in⟩

abbrev s_remainders : Stmt := topS 7
abbrev N_remainders : List Str := ["frame", "line", "worths", "modulus", "weights", "weight", "worth"]
theorem sc_remainders : FnScope N_remainders ["frame", "line"] (defScope s_remainders) := ⟨rfl, rfl, rfl, by decide +kernel, rfl, by decide +kernel, by decide +kernel⟩
theorem cal_remainders {f : Addr} {fd : FuncData} (M : Mg mg) (XF : Xf K mg C) (c_worths_in : Cal P w K mg base 1 "worths_in" (spD 2 P_worths_in)) (F : L2.Fun K "remainders" "remainders" s_remainders f fd) (hm : mg "remainders" = some (.ref f)) (b : Binds K fd ["frame", "line"] []) : Cal P w K mg base 2 "remainders" (spD 2 P_remainders) :=
  have nd := sc_remainders.nd
  cal_mk F hm b sc_remainders fun cdv A outer s H E hr => ⟨_, q_remainders, (dss_cons (ds_set nd (d_call c_worths_in hr (da_cons (d_var 0) (da_cons (d_var 1) da_nil))))
  (dss_frz 2 (dss_cons (ds_set nd (d_len M.len_ (d_sub_ix (d_var 0) d_int)))
  (dss_one (ds_ret (d_tuple1 M.tuple_ (b_lc (own := [("weights", 4)]) rfl nd (di_list (d_sub_ix (d_var 0) d_int)) (blkOk_by (by kernel_rfl)) (fun _ _ _ _ _ => (dg_name nd)) (fun _ _ _ _ _ => dts_nil) (fun _ _ _ _ _ => (d_mod (d_sum rfl M.sum_ (b_lc (own := [("weight", 5), ("worth", 6)]) rfl nd (di_zip M.zip_ (da_cons (d_var 4) (da_cons (d_var 2) da_nil))) (blkOk_by (by kernel_rfl)) (fun _ _ _ _ _ => (dg_tup rfl (dgs_cons (dg_name nd) (dgs_cons (dg_name nd) dgs_nil)))) (fun _ _ _ _ _ => dts_nil) (fun _ _ _ _ _ => (d_mul (d_var 5) (d_var 6))))) (d_var 3)))))))))), pure_remainders⟩

abbrev s_zeros : Stmt := topS 8
abbrev N_zeros : List Str := ["frame"]
theorem sc_zeros : FnScope N_zeros ["frame"] (defScope s_zeros) := ⟨rfl, rfl, rfl, by decide +kernel, rfl, by decide +kernel, by decide +kernel⟩
theorem cal_zeros {f : Addr} {fd : FuncData} (M : Mg mg) (XF : Xf K mg C) (F : L2.Fun K "zeros" "zeros" s_zeros f fd) (hm : mg "zeros" = some (.ref f)) (b : Binds K fd ["frame"] []) : Cal P w K mg base 1 "zeros" (spD 1 P_zeros) :=
  have nd := sc_zeros.nd
  cal_mk F hm b sc_zeros fun cdv A outer s H E hr => ⟨_, q_zeros, (dss_one (ds_ret (d_mulT (d_tup (da_cons d_int da_nil)) (d_len M.len_ (d_sub_ix (d_var 0) d_int))))), pure_zeros⟩

abbrev s_is_line : Stmt := topS 9
abbrev N_is_line : List Str := ["frame", "string", "sign"]
theorem sc_is_line : FnScope N_is_line ["frame", "string"] (defScope s_is_line) := ⟨rfl, rfl, rfl, by decide +kernel, rfl, by decide +kernel, by decide +kernel⟩
theorem cal_is_line {f : Addr} {fd : FuncData} (M : Mg mg) (XF : Xf K mg C) (c_size_of : Cal P w K mg base 1 "size_of" (spD 1 P_size_of)) (F : L2.Fun K "is_line" "is_line" s_is_line f fd) (hm : mg "is_line" = some (.ref f)) (b : Binds K fd ["frame", "string"] []) : Cal P w K mg base 2 "is_line" (spD 2 P_is_line) :=
  have nd := sc_is_line.nd
  cal_mk F hm b sc_is_line fun cdv A outer s H E hr => ⟨_, q_is_line, (dss_one (ds_ret (d_and (d_cmp (or_eq hr) os_eq (d_len M.len_ (d_var 1)) (d_call c_size_of hr (da_cons (d_var 0) da_nil))) (d_one (d_all rfl M.all_ (b_lc (own := [("sign", 2)]) rfl nd (di_str (d_var 1)) (blkOk_by (by kernel_rfl)) (fun _ _ _ _ _ => (dg_name nd)) (fun _ _ _ _ _ => dts_nil) (fun _ _ _ _ _ => (d_cmp (or_in hr) os_in (d_var 2) (d_sub_ix (d_var 0) d_int))))))))), pure_is_line⟩

abbrev s_is_good : Stmt := topS 10
abbrev N_is_good : List Str := ["frame", "string"]
theorem sc_is_good : FnScope N_is_good ["frame", "string"] (defScope s_is_good) := ⟨rfl, rfl, rfl, by decide +kernel, rfl, by decide +kernel, by decide +kernel⟩
theorem cal_is_good {f : Addr} {fd : FuncData} (M : Mg mg) (XF : Xf K mg C) (c_is_line : Cal P w K mg base 2 "is_line" (spD 2 P_is_line)) (c_remainders : Cal P w K mg base 2 "remainders" (spD 2 P_remainders)) (c_zeros : Cal P w K mg base 1 "zeros" (spD 1 P_zeros)) (F : L2.Fun K "is_good" "is_good" s_is_good f fd) (hm : mg "is_good" = some (.ref f)) (b : Binds K fd ["frame", "string"] []) : Cal P w K mg base 3 "is_good" (spD 2 P_is_good) :=
  have nd := sc_is_good.nd
  cal_mk F hm b sc_is_good fun cdv A outer s H E hr => ⟨_, q_is_good, (dss_one (ds_ret (d_and (d_call c_is_line hr (da_cons (d_var 0) (da_cons (d_var 1) da_nil))) (d_one (d_cmp (or_eq hr) os_eq (d_call c_remainders hr (da_cons (d_var 0) (da_cons (d_var 1) da_nil))) (d_call c_zeros hr (da_cons (d_var 0) da_nil))))))), pure_is_good⟩

abbrev s_machine_frame : Stmt := topS 19
abbrev N_machine_frame : List Str := []
theorem sc_machine_frame : FnScope N_machine_frame [] (defScope s_machine_frame) := ⟨rfl, rfl, rfl, by decide +kernel, rfl, by decide +kernel, by decide +kernel⟩
theorem cal_machine_frame {f : Addr} {fd : FuncData} (M : Mg mg) (XF : Xf K mg C) (F : L2.Fun K "machine_frame" "machine_frame" s_machine_frame f fd) (hm : mg "machine_frame" = some (.ref f)) (b : Binds K fd [] []) : Cal P w K mg base 1 "machine_frame" (spD 0 P_machine_frame) :=
  have nd := sc_machine_frame.nd
  cal_mk F hm b sc_machine_frame fun cdv A outer s H E hr => ⟨_, q_machine_frame, (dss_one (ds_ret (d_tup (da_cons (d_add (d_add (d_gsx M.k_DIGITS) (d_gsx M.k_CAPITALS)) (d_gsx M.k_FILL)) (da_cons (d_lst (da_cons (d_mul (d_lst (da_cons d_int da_nil)) (d_gix M.k_SIZE)) (da_cons (d_listR2 rfl M.list_ M.range_ d_int (d_add (d_gix M.k_SIZE) d_int)) da_nil))) da_nil))))), pure_machine_frame⟩

abbrev s_words_of : Stmt := topS 20
abbrev N_words_of : List Str := ["name", "plain", "sign"]
theorem sc_words_of : FnScope N_words_of ["name"] (defScope s_words_of) := ⟨rfl, rfl, rfl, by decide +kernel, rfl, by decide +kernel, by decide +kernel⟩
theorem cal_words_of {f : Addr} {fd : FuncData} (M : Mg mg) (XF : Xf K mg C) (F : L2.Fun K "words_of" "words_of" s_words_of f fd) (hm : mg "words_of" = some (.ref f)) (b : Binds K fd ["name"] []) : Cal P w K mg base 1 "words_of" (spD 1 P_words_of) :=
  have nd := sc_words_of.nd
  cal_mk F hm b sc_words_of fun cdv A outer s H E hr => ⟨_, q_words_of, (dss_cons (ds_set nd (d_join d_str (b_lc (own := [("sign", 2)]) rfl nd (di_str (d_upper (d_var 0))) (blkOk_by (by kernel_rfl)) (fun _ _ _ _ _ => (dg_name nd)) (fun _ _ _ _ _ => dts_nil) (fun _ _ _ _ _ => (d_if (d_tcmp (or_in hr) os_in (d_var 2) (d_gsx M.k_CAPITALS)) (d_var 2) d_str)))))
  (dss_one (ds_ret (d_words (d_var 1))))), pure_words_of⟩

abbrev s_shorter : Stmt := topS 21
abbrev N_shorter : List Str := ["words", "long", "last", "k"]
theorem sc_shorter : FnScope N_shorter ["words"] (defScope s_shorter) := ⟨rfl, rfl, rfl, by decide +kernel, rfl, by decide +kernel, by decide +kernel⟩
theorem cal_shorter {f : Addr} {fd : FuncData} (M : Mg mg) (XF : Xf K mg C) (F : L2.Fun K "shorter" "shorter" s_shorter f fd) (hm : mg "shorter" = some (.ref f)) (b : Binds K fd ["words"] []) : Cal P w K mg base 1 "shorter" (spD 1 P_shorter) :=
  have nd := sc_shorter.nd
  cal_mk F hm b sc_shorter fun cdv A outer s H E hr => ⟨_, q_shorter, (dss_cons (bs_setLc (own := [("k", 3)]) rfl nd (di_range2 M.range_ (da_cons d_int (da_cons (d_len M.len_ (d_var 0)) da_nil))) (blkOk_by (by kernel_rfl)) (fun _ _ _ _ _ => (dg_name nd)) (fun _ _ _ _ _ => (dts_one (d_tcmp or_gt os_ord (d_len M.len_ (d_sub_ix (d_var 0) (d_var 3))) d_int))) (fun _ _ _ _ _ => (d_var 3)) (sw_true rfl rfl rfl (by decide +kernel)))
  (dss_frz 1 (dss_cons (ds_if (d_tru (d_var 1))
   (dss_cons (ds_set nd (d_sub_ix (d_var 1) (d_neg d_int)))
   (dss_one (ds_ret (d_add (d_add (d_slice (d_var 0) do_none (do_some (d_var 2))) (d_lst (da_cons (d_slice (d_sub_ix (d_var 0) (d_var 2)) do_none (do_some d_int)) da_nil))) (d_slice (d_var 0) (do_some (d_add (d_var 2) d_int)) do_none)))))
   dss_nil)
  (dss_cons (ds_if (d_tcmp or_gt os_ord (d_len M.len_ (d_var 0)) d_int)
   (dss_one (ds_ret (d_slice (d_var 0) do_none (do_some (d_neg d_int)))))
   dss_nil)
  (dss_one (ds_ret (d_lst (da_cons (d_slice (d_sub_ix (d_var 0) d_int) do_none (do_some (d_gix M.k_FIELD))) da_nil)))))))), pure_shorter⟩

abbrev s_field_of : Stmt := topS 22
abbrev N_field_of : List Str := ["words", "some", "text"]
theorem sc_field_of : FnScope N_field_of ["words"] (defScope s_field_of) := ⟨rfl, rfl, rfl, by decide +kernel, rfl, by decide +kernel, by decide +kernel⟩
theorem cal_field_of {f : Addr} {fd : FuncData} (M : Mg mg) (XF : Xf K mg C) (c_shorter : Cal P w K mg base 1 "shorter" (spD 1 P_shorter)) (F : L2.Fun K "field_of" "field_of" s_field_of f fd) (hm : mg "field_of" = some (.ref f)) (b : Binds K fd ["words"] []) : Cal P w K mg base 2 "field_of" (spD 1 P_field_of) :=
  have nd := sc_field_of.nd
  cal_mk F hm b sc_field_of fun cdv A outer s H E hr => ⟨_, q_field_of, (dss_cons (ds_set nd (d_list1 M.list_ (d_var 0)))
  (dss_frz 1 (dss_cons (ds_while PassesOwn.never (d_tcmp or_gt os_ord (d_len M.len_ (d_join (d_gsx M.k_FILL) (d_var 1))) (d_gix M.k_FIELD))
   (dss_one (ds_set nd (d_call c_shorter hr (da_cons (d_var 1) da_nil)))))
  (dss_cons (ds_set nd (d_join (d_gsx M.k_FILL) (d_var 1)))
  (dss_one (ds_ret (d_add (d_var 2) (d_mul (d_gsx M.k_FILL) (d_sub (d_gix M.k_FIELD) (d_len M.len_ (d_var 2))))))))))), pure_field_of⟩

abbrev s_check_signs : Stmt := topS 23
abbrev N_check_signs : List Str := ["body", "frame", "signs", "worths", "plain", "placed", "last", "k", "worth"]
theorem sc_check_signs : FnScope N_check_signs ["body"] (defScope s_check_signs) := ⟨rfl, rfl, rfl, by decide +kernel, rfl, by decide +kernel, by decide +kernel⟩
theorem cal_check_signs {f : Addr} {fd : FuncData} (M : Mg mg) (XF : Xf K mg C) (c_machine_frame : Cal P w K mg base 1 "machine_frame" (spD 0 P_machine_frame)) (c_worths_in : Cal P w K mg base 1 "worths_in" (spD 2 P_worths_in)) (F : L2.Fun K "check_signs" "check_signs" s_check_signs f fd) (hm : mg "check_signs" = some (.ref f)) (b : Binds K fd ["body"] []) : Cal P w K mg base 2 "check_signs" (spD 1 P_check_signs) :=
  have nd := sc_check_signs.nd
  cal_mk F hm b sc_check_signs fun cdv A outer s H E hr => ⟨_, q_check_signs, (dss_cons (ds_set nd (d_call0 c_machine_frame hr))
  (dss_cons (ds_set nd (d_sub_ix (d_var 1) d_int))
  (dss_cons (ds_set nd (d_call c_worths_in hr (da_cons (d_var 1) (da_cons (d_var 0) da_nil))))
  (dss_frz 3 (dss_cons (ds_set nd (d_sum rfl M.sum_ (d_var 3)))
  (dss_cons (ds_set nd (d_sum rfl M.sum_ (b_lc (own := [("k", 7), ("worth", 8)]) rfl nd (di_enum M.enumerate_ (da_cons (d_var 3) da_nil)) (blkOk_by (by kernel_rfl)) (fun _ _ _ _ _ => (dg_tup rfl (dgs_cons (dg_name nd) (dgs_cons (dg_name nd) dgs_nil)))) (fun _ _ _ _ _ => dts_nil) (fun _ _ _ _ _ => (d_mul (d_add (d_var 7) d_int) (d_var 8))))))
  (dss_cons (ds_set nd (d_mod (d_sub (d_mul (d_sub (d_gix M.k_SIZE) d_int) (d_var 4)) (d_var 5)) (d_len M.len_ (d_var 2))))
  (dss_one (ds_ret (d_add (d_sub_ix (d_var 2) (d_mod (d_sub (d_neg (d_var 4)) (d_var 6)) (d_len M.len_ (d_var 2)))) (d_sub_ix (d_var 2) (d_var 6)))))))))))), pure_check_signs⟩

abbrev s_machine_line : Stmt := topS 24
abbrev N_machine_line : List Str := ["person", "day", "name", "words", "body"]
theorem sc_machine_line : FnScope N_machine_line ["person", "day", "name"] (defScope s_machine_line) := ⟨rfl, rfl, rfl, by decide +kernel, rfl, by decide +kernel, by decide +kernel⟩
theorem cal_machine_line {f : Addr} {fd : FuncData} (M : Mg mg) (XF : Xf K mg C) (c_check_signs : Cal P w K mg base 2 "check_signs" (spD 1 P_check_signs)) (c_field_of : Cal P w K mg base 2 "field_of" (spD 1 P_field_of)) (c_words_of : Cal P w K mg base 1 "words_of" (spD 1 P_words_of)) (F : L2.Fun K "machine_line" "machine_line" s_machine_line f fd) (hm : mg "machine_line" = some (.ref f)) (b : Binds K fd ["person", "day", "name"] []) : CalX P w K mg base 3 "machine_line" (spX 3 (P_machine_line C)) :=
  have nd := sc_machine_line.nd
  calx_mk F hm b sc_machine_line fun cdv A outer s H E hr => ⟨_, q_machine_line C, (dss_cons (ds_set nd (d_call c_words_of hr (da_cons (d_var 2) da_nil)))
  (dss_frz 3 (dss_cons (ds_if (dt_not (d_tru (d_var 3)))
   (dss_one (ds_raise rfl (takes_of rfl rfl rfl rfl) (pmk_of XF.x_NoWord)))
   dss_nil)
  (dss_cons (ds_set nd (d_add (d_add (d_rjust (d_str1 M.str_ (d_var 0)) (da_cons (d_gix M.k_PERSON) (da_cons d_str da_nil))) (d_rjust (d_str1 M.str_ (d_var 1)) (da_cons (d_gix M.k_DAY) (da_cons d_str da_nil)))) (d_call c_field_of hr (da_cons (d_var 3) da_nil))))
  (dss_one (ds_ret (d_add (d_var 4) (d_call c_check_signs hr (da_cons (d_var 4) da_nil))))))))), pure_machine_line C⟩

abbrev s_has_digits : Stmt := topS 25
abbrev N_has_digits : List Str := ["text", "sign"]
theorem sc_has_digits : FnScope N_has_digits ["text"] (defScope s_has_digits) := ⟨rfl, rfl, rfl, by decide +kernel, rfl, by decide +kernel, by decide +kernel⟩
theorem cal_has_digits {f : Addr} {fd : FuncData} (M : Mg mg) (XF : Xf K mg C) (F : L2.Fun K "has_digits" "has_digits" s_has_digits f fd) (hm : mg "has_digits" = some (.ref f)) (b : Binds K fd ["text"] []) : Cal P w K mg base 1 "has_digits" (spD 1 P_has_digits) :=
  have nd := sc_has_digits.nd
  cal_mk F hm b sc_has_digits fun cdv A outer s H E hr => ⟨_, q_has_digits, (dss_one (ds_ret (d_all rfl M.all_ (b_lc (own := [("sign", 1)]) rfl nd (di_str (d_var 0)) (blkOk_by (by kernel_rfl)) (fun _ _ _ _ _ => (dg_name nd)) (fun _ _ _ _ _ => dts_nil) (fun _ _ _ _ _ => (d_cmp (or_in hr) os_in (d_var 1) (d_gsx M.k_DIGITS))))))), pure_has_digits⟩

abbrev s_read_machine : Stmt := topS 26
abbrev N_read_machine : List Str := ["string", "person", "day", "words", "word", "sign"]
theorem sc_read_machine : FnScope N_read_machine ["string"] (defScope s_read_machine) := ⟨rfl, rfl, rfl, by decide +kernel, rfl, by decide +kernel, by decide +kernel⟩
theorem cal_read_machine {f : Addr} {fd : FuncData} (M : Mg mg) (XF : Xf K mg C) (c_has_digits : Cal P w K mg base 1 "has_digits" (spD 1 P_has_digits)) (c_is_good : Cal P w K mg base 3 "is_good" (spD 2 P_is_good)) (c_machine_frame : Cal P w K mg base 1 "machine_frame" (spD 0 P_machine_frame)) (F : L2.Fun K "read_machine" "read_machine" s_read_machine f fd) (hm : mg "read_machine" = some (.ref f)) (b : Binds K fd ["string"] []) : CalX P w K mg base 4 "read_machine" (spX 1 (P_read_machine C)) :=
  have nd := sc_read_machine.nd
  calx_mk F hm b sc_read_machine fun cdv A outer s H E hr => ⟨_, q_read_machine C, (dss_cons (ds_if (dt_not (d_tb (d_call c_is_good hr (da_cons (d_call0 c_machine_frame hr) (da_cons (d_var 0) da_nil)))))
   (dss_one (ds_raise rfl (takes_of rfl rfl rfl rfl) (pmk_of XF.x_InvalidLine)))
   dss_nil)
  (dss_cons (ds_set nd (d_slice (d_var 0) do_none (do_some (d_gix M.k_PERSON))))
  (dss_cons (ds_set nd (d_slice (d_var 0) (do_some (d_gix M.k_PERSON)) (do_some (d_add (d_gix M.k_PERSON) (d_gix M.k_DAY)))))
  (dss_cons (ds_set nd (d_split (d_rstrip (d_slice (d_var 0) (do_some (d_add (d_gix M.k_PERSON) (d_gix M.k_DAY))) (do_some (d_sub (d_gix M.k_SIZE) d_int))) (d_gsx M.k_FILL)) (d_gsx M.k_FILL)))
  (dss_frz 3 (dss_cons (ds_if (dw_or (dt_not (d_tb (d_call c_has_digits hr (da_cons (d_add (d_var 1) (d_var 2)) da_nil)))) (dw_or (d_tcmp (or_eq hr) os_eq (d_intS M.int_ (d_var 1)) d_int) (dw_or1 (d_tcmp (or_in hr) os_in d_str (d_var 3))))).dt
   (dss_one (ds_raise rfl (takes_of rfl rfl rfl rfl) (pmk_of XF.x_InvalidLine)))
   dss_nil)
  (dss_cons (ds_if (dt_not (d_tb (d_all rfl M.all_ (b_lc2 (own := [("word", 4), ("sign", 5)]) [5] rfl nd (di_list (d_var 3)) (blkOk_by (by kernel_rfl)) (fun _ _ _ _ _ => (dg_name nd)) (fun _ _ _ _ _ => dts_nil) (fun _ _ _ _ _ => (di_str (d_var 4))) (fun _ _ _ _ _ => (dg_name nd)) (fun _ _ _ _ _ => dts_nil) (fun _ _ _ _ _ => (d_cmp (or_in hr) os_in (d_var 5) (d_gsx M.k_CAPITALS)))))))
   (dss_one (ds_raise rfl (takes_of rfl rfl rfl rfl) (pmk_of XF.x_InvalidLine)))
   dss_nil)
  (dss_one (ds_ret (d_tup (da_cons (d_intS M.int_ (d_var 1)) (da_cons (d_intS M.int_ (d_var 2)) (da_cons (d_var 3) da_nil))))))))))))), pure_read_machine C⟩

abbrev s__law_cell : Stmt := topS 28
abbrev N__law_cell : List Str := ["script", "k"]
theorem sc__law_cell : FnScope N__law_cell ["script", "k"] (defScope s__law_cell) := ⟨rfl, rfl, rfl, by decide +kernel, rfl, by decide +kernel, by decide +kernel⟩
theorem cal__law_cell {f : Addr} {fd : FuncData} (M : Mg mg) (XF : Xf K mg C) (F : L2.Fun K "_law_cell" "_law_cell" s__law_cell f fd) (hm : mg "_law_cell" = some (.ref f)) (b : Binds K fd ["script", "k"] []) : Cal P w K mg base 1 "_law_cell" (spD 2 P__law_cell) :=
  have nd := sc__law_cell.nd
  cal_mk F hm b sc__law_cell fun cdv A outer s H E hr => ⟨_, q__law_cell, (dss_cons (ds_if (d_tcmp or_lt os_ord (d_var 1) (d_len M.len_ (d_var 0)))
   (dss_one (ds_ret (d_int1 M.int_ (d_sub_ix (d_var 0) (d_var 1)))))
   dss_nil)
  (dss_one (ds_ret d_int))), pure__law_cell⟩

abbrev s__law_numbers : Stmt := topS 29
abbrev N__law_numbers : List Str := ["cell", "count", "limit", "found", "k", "mixed"]
theorem sc__law_numbers : FnScope N__law_numbers ["cell", "count", "limit"] (defScope s__law_numbers) := ⟨rfl, rfl, rfl, by decide +kernel, rfl, by decide +kernel, by decide +kernel⟩
theorem cal__law_numbers {f : Addr} {fd : FuncData} (M : Mg mg) (XF : Xf K mg C) (F : L2.Fun K "_law_numbers" "_law_numbers" s__law_numbers f fd) (hm : mg "_law_numbers" = some (.ref f)) (b : Binds K fd ["cell", "count", "limit"] []) : Cal P w K mg base 1 "_law_numbers" (spD 3 P__law_numbers) :=
  have nd := sc__law_numbers.nd
  cal_mk F hm b sc__law_numbers fun cdv A outer s H E hr => ⟨_, q__law_numbers, (dss_cons (ds_set nd (d_lst da_nil))
  (dss_cons (ds_if (d_tcmp or_ge os_ord (d_var 0) (d_pow d_int d_int))
   (dss_cons (ds_for PassesOwn.never rfl (di_range1 M.range_ (da_cons (d_var 1) da_nil)) (dg_name nd)
    (dss_cons (ds_expr (d_append 3 (d_mod (d_int1 M.int_ (d_var 0)) (d_var 2))))
    (dss_one (ds_set nd (d_fdiv (d_int1 M.int_ (d_var 0)) (d_var 2))))))
   (dss_one (ds_ret (d_var 3))))
   dss_nil)
  (dss_cons (ds_for PassesOwn.never rfl (di_range1 M.range_ (da_cons (d_var 1) da_nil)) (dg_name nd)
   (dss_cons (ds_set nd (d_mod (d_int1 M.int_ (d_add (d_add (d_mul (d_var 0) d_int) (d_mul (d_var 4) d_int)) d_int)) d_int))
   (dss_cons (ds_set nd (d_mod (d_int1 M.int_ (d_add (d_add (d_add (d_mul (d_var 5) (d_var 5)) (d_mul (d_var 5) d_int)) (d_mul (d_var 4) d_int)) d_int)) d_int))
   (dss_one (ds_expr (d_append 3 (d_mod (d_int1 M.int_ (d_fdiv (d_var 5) d_int)) (d_var 2))))))))
  (dss_one (ds_ret (d_var 3)))))), pure__law_numbers⟩

abbrev s__law_same : Stmt := topS 30
abbrev N__law_same : List Str := ["told", "due", "k"]
theorem sc__law_same : FnScope N__law_same ["told", "due"] (defScope s__law_same) := ⟨rfl, rfl, rfl, by decide +kernel, rfl, by decide +kernel, by decide +kernel⟩
theorem calr__law_same {f : Addr} {fd : FuncData} (M : Mg mg) (XF : Xf K mg C) (F : L2.Fun K "_law_same" "_law_same" s__law_same f fd) (hm : mg "_law_same" = some (.ref f)) (b : Binds K fd ["told", "due"] []) : ∀ n : Nat, Cal P w K mg base (n + 1) "_law_same" (spD 2 (PR__law_same n))
  | 0 => cal_no F hm b sc__law_same
  | m + 1 =>
    have nd := sc__law_same.nd
    have c__law_same := calr__law_same M XF F hm b m
    cal_mk (k := m + 1) F hm b sc__law_same fun cdv A outer s H E hr => ⟨_, q__law_same (PR__law_same m), (dss_cons (ds_if (d_tb (d_isi (T := "list") (by simp) M.isinstance_ M.list_ (by decide +kernel) (d_var 1)))
   (dss_one (ds_if (dw_or (dt_not (d_tb (d_isi (T := "list") (by simp) M.isinstance_ M.list_ (by decide +kernel) (d_var 0)))) (dw_or1 (d_tcmp (or_ne hr) os_ne (d_len M.len_ (d_var 0)) (d_len M.len_ (d_var 1))))).dt
    (dss_one (ds_ret d_bl))
    dss_nil))
   (dss_one (ds_if (d_tb (d_isi (T := "tuple") (by simp) M.isinstance_ M.tuple_ (by decide +kernel) (d_var 1)))
    (dss_one (ds_if (dw_or (dt_not (d_tb (d_isi (T := "tuple") (by simp) M.isinstance_ M.tuple_ (by decide +kernel) (d_var 0)))) (dw_or1 (d_tcmp (or_ne hr) os_ne (d_len M.len_ (d_var 0)) (d_len M.len_ (d_var 1))))).dt
     (dss_one (ds_ret d_bl))
     dss_nil))
    (dss_one (ds_if (d_tcmp op_isN os_is (d_var 1) d_non)
     (dss_one (ds_ret (d_cmp op_isN os_is (d_var 0) d_non)))
     (dss_one (ds_if (d_tb (d_isi (T := "bool") (by simp) M.isinstance_ M.bool_ (by decide +kernel) (d_var 1)))
      (dss_one (ds_ret (d_and (d_isi (T := "bool") (by simp) M.isinstance_ M.bool_ (by decide +kernel) (d_var 0)) (d_one (d_cmp (or_eq hr) os_eq (d_var 0) (d_var 1))))))
      (dss_one (ds_if (d_tb (d_isi (T := "int") (by simp) M.isinstance_ M.int_ (by decide +kernel) (d_var 1)))
       (dss_one (ds_ret (d_and (d_isi (T := "int") (by simp) M.isinstance_ M.int_ (by decide +kernel) (d_var 0)) (d_and (d_not (d_isi (T := "bool") (by simp) M.isinstance_ M.bool_ (by decide +kernel) (d_var 0))) (d_one (d_cmp (or_eq hr) os_eq (d_var 0) (d_var 1)))))))
       (dss_one (ds_ret (d_and (d_isi (T := "str") (by simp) M.isinstance_ M.str_ (by decide +kernel) (d_var 0)) (d_one (d_cmp (or_eq hr) os_eq (d_var 0) (d_var 1)))))))))))))))
  (dss_cons (ds_for PassesOwn.never rfl (di_range1 M.range_ (da_cons (d_len M.len_ (d_var 1)) da_nil)) (dg_name nd)
   (dss_one (ds_if (dt_not (d_tb (d_call c__law_same hr (da_cons (d_sub_ix (d_var 0) (d_var 2)) (da_cons (d_sub_ix (d_var 1) (d_var 2)) da_nil)) (hk := Nat.le_refl _))))
    (dss_one (ds_ret d_bl))
    dss_nil)))
  (dss_one (ds_ret d_bl)))), pure__law_same m⟩
theorem cal__law_same {f : Addr} {fd : FuncData} (M : Mg mg) (XF : Xf K mg C) (F : L2.Fun K "_law_same" "_law_same" s__law_same f fd) (hm : mg "_law_same" = some (.ref f)) (b : Binds K fd ["told", "due"] []) : Cal P w K mg base 5 "_law_same" (spD 2 P__law_same) := calr__law_same M XF F hm b 4

abbrev s__law_words_in : Stmt := topS 31
abbrev N__law_words_in : List Str := ["name", "found", "word", "sign"]
theorem sc__law_words_in : FnScope N__law_words_in ["name"] (defScope s__law_words_in) := ⟨rfl, rfl, rfl, by decide +kernel, rfl, by decide +kernel, by decide +kernel⟩
theorem cal__law_words_in {f : Addr} {fd : FuncData} (M : Mg mg) (XF : Xf K mg C) (F : L2.Fun K "_law_words_in" "_law_words_in" s__law_words_in f fd) (hm : mg "_law_words_in" = some (.ref f)) (b : Binds K fd ["name"] []) : Cal P w K mg base 1 "_law_words_in" (spD 1 P__law_words_in) :=
  have nd := sc__law_words_in.nd
  cal_mk F hm b sc__law_words_in fun cdv A outer s H E hr => ⟨_, q__law_words_in, (dss_cons (ds_set nd (d_lst da_nil))
  (dss_cons (ds_set nd d_str)
  (dss_cons (ds_for PassesOwn.never rfl (di_str (d_add (d_var 0) d_str)) (dg_name nd)
   (dss_one (ds_if (dw_or (dw_and (d_tcmp or_ge os_ord (d_var 3) d_str) (dw_and1 (d_tcmp or_le os_ord (d_var 3) d_str))).dt (dw_or1 (dw_and (d_tcmp or_ge os_ord (d_var 3) d_str) (dw_and1 (d_tcmp or_le os_ord (d_var 3) d_str))).dt)).dt
    (dss_one (ds_set nd (d_add (d_var 2) (d_upper (d_var 3)))))
    (dss_one (ds_if (d_tcmp (or_ne hr) os_ne (d_var 2) d_str)
     (dss_cons (ds_expr (d_append 1 (d_var 2)))
     (dss_one (ds_set nd d_str)))
     dss_nil)))))
  (dss_one (ds_ret (d_var 1)))))), pure__law_words_in⟩

abbrev s__law_field : Stmt := topS 32
abbrev N__law_field : List Str := ["words", "turn", "text", "long", "k"]
theorem sc__law_field : FnScope N__law_field ["words"] (defScope s__law_field) := ⟨rfl, rfl, rfl, by decide +kernel, rfl, by decide +kernel, by decide +kernel⟩
theorem cal__law_field {f : Addr} {fd : FuncData} (M : Mg mg) (XF : Xf K mg C) (F : L2.Fun K "_law_field" "_law_field" s__law_field f fd) (hm : mg "_law_field" = some (.ref f)) (b : Binds K fd ["words"] []) : Cal P w K mg base 1 "_law_field" (spD 1 P__law_field) :=
  have nd := sc__law_field.nd
  cal_mk F hm b sc__law_field fun cdv A outer s H E hr => ⟨_, q__law_field, (dss_cons (ds_set nd (d_list1 M.list_ (d_var 0)))
  (dss_cons (ds_for PassesOwn.never rfl (di_range1 M.range_ (da_cons (d_mul d_int d_int) da_nil)) (dg_name nd)
   (dss_cons (ds_set nd (d_join d_str (d_var 0)))
   (dss_cons (ds_if (d_tcmp or_le os_ord (d_len M.len_ (d_var 2)) d_int)
    (dss_one (ds_ret (d_add (d_var 2) (d_mul d_str (d_sub d_int (d_len M.len_ (d_var 2)))))))
    dss_nil)
   (dss_cons (bs_setLc (own := [("k", 4)]) rfl nd (di_range2 M.range_ (da_cons d_int (da_cons (d_len M.len_ (d_var 0)) da_nil))) (blkOk_by (by kernel_rfl)) (fun _ _ _ _ _ => (dg_name nd)) (fun _ _ _ _ _ => (dts_one (d_tcmp or_gt os_ord (d_len M.len_ (d_sub_ix (d_var 0) (d_var 4))) d_int))) (fun _ _ _ _ _ => (d_var 4)) (sw_true rfl rfl rfl (by decide +kernel)))
   (dss_frz 3 (dss_one (ds_if (d_tcmp or_gt os_ord (d_len M.len_ (d_var 3)) d_int)
    (dss_one (ds_setIx 0 (d_sub_ix (d_var 3) (d_sub (d_len M.len_ (d_var 3)) d_int)) (d_sub_ix (d_sub_ix (d_var 0) (d_sub_ix (d_var 3) (d_sub (d_len M.len_ (d_var 3)) d_int))) d_int)))
    (dss_one (ds_if (d_tcmp or_gt os_ord (d_len M.len_ (d_var 0)) d_int)
     (dss_one (ds_set nd (d_slice (d_var 0) (do_some d_int) (do_some (d_sub (d_len M.len_ (d_var 0)) d_int)))))
     (dss_one (ds_set nd (d_lst (da_cons (d_slice (d_sub_ix (d_var 0) d_int) (do_some d_int) (do_some d_int)) da_nil)))))))))))))
  (dss_one (ds_ret d_str)))), pure__law_field⟩

abbrev s__law_values : Stmt := topS 33
abbrev N__law_values : List Str := ["text", "sign"]
theorem sc__law_values : FnScope N__law_values ["text"] (defScope s__law_values) := ⟨rfl, rfl, rfl, by decide +kernel, rfl, by decide +kernel, by decide +kernel⟩
theorem cal__law_values {f : Addr} {fd : FuncData} (M : Mg mg) (XF : Xf K mg C) (F : L2.Fun K "_law_values" "_law_values" s__law_values f fd) (hm : mg "_law_values" = some (.ref f)) (b : Binds K fd ["text"] []) : Cal P w K mg base 1 "_law_values" (spD 1 P__law_values) :=
  have nd := sc__law_values.nd
  cal_mk F hm b sc__law_values fun cdv A outer s H E hr => ⟨_, q__law_values, (dss_one (ds_ret (b_lc (own := [("sign", 1)]) rfl nd (di_str (d_var 0)) (blkOk_by (by kernel_rfl)) (fun _ _ _ _ _ => (dg_name nd)) (fun _ _ _ _ _ => dts_nil) (fun _ _ _ _ _ => (d_index d_str (d_var 1)))))), pure__law_values⟩

abbrev s__law_with_checks : Stmt := topS 34
abbrev N__law_with_checks : List Str := ["body", "signs", "values", "plain", "placed", "last", "one", "k", "value"]
theorem sc__law_with_checks : FnScope N__law_with_checks ["body"] (defScope s__law_with_checks) := ⟨rfl, rfl, rfl, by decide +kernel, rfl, by decide +kernel, by decide +kernel⟩
theorem cal__law_with_checks {f : Addr} {fd : FuncData} (M : Mg mg) (XF : Xf K mg C) (c__law_values : Cal P w K mg base 1 "_law_values" (spD 1 P__law_values)) (F : L2.Fun K "_law_with_checks" "_law_with_checks" s__law_with_checks f fd) (hm : mg "_law_with_checks" = some (.ref f)) (b : Binds K fd ["body"] []) : Cal P w K mg base 2 "_law_with_checks" (spD 1 P__law_with_checks) :=
  have nd := sc__law_with_checks.nd
  cal_mk F hm b sc__law_with_checks fun cdv A outer s H E hr => ⟨_, q__law_with_checks, (dss_cons (ds_set nd d_str)
  (dss_cons (ds_set nd (d_call c__law_values hr (da_cons (d_var 0) da_nil)))
  (dss_frz 2 (dss_cons (ds_set nd (d_sum rfl M.sum_ (d_var 2)))
  (dss_cons (ds_set nd (d_sum rfl M.sum_ (b_lc (own := [("k", 7), ("value", 8)]) rfl nd (di_enum M.enumerate_ (da_cons (d_var 2) da_nil)) (blkOk_by (by kernel_rfl)) (fun _ _ _ _ _ => (dg_tup rfl (dgs_cons (dg_name nd) (dgs_cons (dg_name nd) dgs_nil)))) (fun _ _ _ _ _ => dts_nil) (fun _ _ _ _ _ => (d_mul (d_add (d_var 7) d_int) (d_var 8))))))
  (dss_cons (ds_for PassesOwn.never rfl (di_range1 M.range_ (da_cons d_int da_nil)) (dg_name nd)
   (dss_cons (ds_set nd (d_mod (d_int1 M.int_ (d_sub (d_sub d_int (d_var 3)) (d_var 5))) d_int))
   (dss_one (ds_if (d_tcmp (or_eq hr) os_eq (d_mod (d_int1 M.int_ (d_add (d_add (d_var 4) (d_mul d_int (d_var 6))) (d_mul d_int (d_var 5)))) d_int) d_int)
    (dss_one (ds_ret (d_add (d_add (d_var 0) (d_sub_ix (d_var 1) (d_var 6))) (d_sub_ix (d_var 1) (d_var 5)))))
    dss_nil))))
  (dss_one (ds_ret d_str)))))))), pure__law_with_checks⟩

abbrev s__law_machine_line : Stmt := topS 35
abbrev N__law_machine_line : List Str := ["person", "day", "words", "one", "other"]
theorem sc__law_machine_line : FnScope N__law_machine_line ["person", "day", "words"] (defScope s__law_machine_line) := ⟨rfl, rfl, rfl, by decide +kernel, rfl, by decide +kernel, by decide +kernel⟩
theorem cal__law_machine_line {f : Addr} {fd : FuncData} (M : Mg mg) (XF : Xf K mg C) (c__law_field : Cal P w K mg base 1 "_law_field" (spD 1 P__law_field)) (c__law_with_checks : Cal P w K mg base 2 "_law_with_checks" (spD 1 P__law_with_checks)) (F : L2.Fun K "_law_machine_line" "_law_machine_line" s__law_machine_line f fd) (hm : mg "_law_machine_line" = some (.ref f)) (b : Binds K fd ["person", "day", "words"] []) : Cal P w K mg base 3 "_law_machine_line" (spD 3 P__law_machine_line) :=
  have nd := sc__law_machine_line.nd
  cal_mk F hm b sc__law_machine_line fun cdv A outer s H E hr => ⟨_, q__law_machine_line, (dss_cons (ds_set nd (d_add d_str (d_str1 M.str_ (d_var 0))))
  (dss_cons (ds_set nd (d_add d_str (d_str1 M.str_ (d_var 1))))
  (dss_one (ds_ret (d_call c__law_with_checks hr (da_cons (d_add (d_add (d_slice (d_var 3) (do_some (d_sub (d_len M.len_ (d_var 3)) d_int)) do_none) (d_slice (d_var 4) (do_some (d_sub (d_len M.len_ (d_var 4)) d_int)) do_none)) (d_call c__law_field hr (da_cons (d_var 2) da_nil))) da_nil)))))), pure__law_machine_line⟩

abbrev s__law_good_machine : Stmt := topS 36
abbrev N__law_good_machine : List Str := ["text", "values", "sign", "k", "value"]
theorem sc__law_good_machine : FnScope N__law_good_machine ["text"] (defScope s__law_good_machine) := ⟨rfl, rfl, rfl, by decide +kernel, rfl, by decide +kernel, by decide +kernel⟩
theorem cal__law_good_machine {f : Addr} {fd : FuncData} (M : Mg mg) (XF : Xf K mg C) (c__law_values : Cal P w K mg base 1 "_law_values" (spD 1 P__law_values)) (F : L2.Fun K "_law_good_machine" "_law_good_machine" s__law_good_machine f fd) (hm : mg "_law_good_machine" = some (.ref f)) (b : Binds K fd ["text"] []) : Cal P w K mg base 2 "_law_good_machine" (spD 1 P__law_good_machine) :=
  have nd := sc__law_good_machine.nd
  cal_mk F hm b sc__law_good_machine fun cdv A outer s H E hr => ⟨_, q__law_good_machine, (dss_cons (ds_if (dw_or (d_tcmp (or_ne hr) os_ne (d_len M.len_ (d_var 0)) d_int) (dw_or1 (d_tcmp or_gt os_ord (d_len M.len_ (b_lc (own := [("sign", 2)]) rfl nd (di_str (d_var 0)) (blkOk_by (by kernel_rfl)) (fun _ _ _ _ _ => (dg_name nd)) (fun _ _ _ _ _ => (dts_one (d_tcmp (or_notIn hr) os_in (d_var 2) d_str))) (fun _ _ _ _ _ => (d_var 2)))) d_int))).dt
   (dss_one (ds_ret d_bl))
   dss_nil)
  (dss_cons (ds_set nd (d_call c__law_values hr (da_cons (d_var 0) da_nil)))
  (dss_frz 1 (dss_one (ds_ret (d_and (d_cmp (or_eq hr) os_eq (d_mod (d_sum rfl M.sum_ (d_var 1)) d_int) d_int) (d_one (d_cmp (or_eq hr) os_eq (d_mod (d_sum rfl M.sum_ (b_lc (own := [("k", 3), ("value", 4)]) rfl nd (di_enum M.enumerate_ (da_cons (d_var 1) da_nil)) (blkOk_by (by kernel_rfl)) (fun _ _ _ _ _ => (dg_tup rfl (dgs_cons (dg_name nd) (dgs_cons (dg_name nd) dgs_nil)))) (fun _ _ _ _ _ => dts_nil) (fun _ _ _ _ _ => (d_mul (d_add (d_var 3) d_int) (d_var 4))))) d_int) d_int)))))))), pure__law_good_machine⟩

abbrev s__law_long_name : Stmt := topS 37
abbrev N__law_long_name : List Str := ["cell", "draws", "found", "k", "size", "word", "j"]
theorem sc__law_long_name : FnScope N__law_long_name ["cell"] (defScope s__law_long_name) := ⟨rfl, rfl, rfl, by decide +kernel, rfl, by decide +kernel, by decide +kernel⟩
theorem cal__law_long_name {f : Addr} {fd : FuncData} (M : Mg mg) (XF : Xf K mg C) (c__law_numbers : Cal P w K mg base 1 "_law_numbers" (spD 3 P__law_numbers)) (F : L2.Fun K "_law_long_name" "_law_long_name" s__law_long_name f fd) (hm : mg "_law_long_name" = some (.ref f)) (b : Binds K fd ["cell"] []) : Cal P w K mg base 2 "_law_long_name" (spD 1 P__law_long_name) :=
  have nd := sc__law_long_name.nd
  cal_mk F hm b sc__law_long_name fun cdv A outer s H E hr => ⟨_, q__law_long_name, (dss_cons (ds_set nd (d_call c__law_numbers hr (da_cons (d_var 0) (da_cons d_int (da_cons d_int da_nil)))))
  (dss_frz 1 (dss_cons (ds_set nd d_str)
  (dss_cons (ds_for PassesOwn.never rfl (di_range1 M.range_ (da_cons (d_add (d_mod (d_sub_ix (d_var 1) d_int) (d_sub_ix (d_lst (da_cons d_int (da_cons d_int (da_cons d_int da_nil)))) (d_mod (d_sub_ix (d_var 1) d_int) d_int))) d_int) da_nil)) (dg_name nd)
   (dss_cons (ds_set nd (d_sub_ix (d_lst (da_cons d_int (da_cons d_int (da_cons d_int (da_cons d_int (da_cons d_int (da_cons d_int da_nil))))))) (d_mod (d_sub_ix (d_var 1) (d_add d_int (d_mul d_int (d_mod (d_var 3) d_int)))) d_int)))
   (dss_cons (ds_set nd d_str)
   (dss_cons (ds_for PassesOwn.never rfl (di_range1 M.range_ (da_cons (d_var 4) da_nil)) (dg_name nd)
    (dss_one (ds_set nd (d_add (d_var 5) (d_sub_ix d_str (d_mod (d_add (d_sub_ix (d_var 1) (d_add d_int (d_mul d_int (d_mod (d_var 3) d_int)))) (d_mul (d_var 6) (d_add d_int (d_mod (d_sub_ix (d_var 1) (d_add d_int (d_mul d_int (d_mod (d_var 3) d_int)))) d_int)))) d_int))))))
   (dss_one (ds_set nd (d_add (d_add (d_var 2) (d_var 5)) (d_sub_ix (d_lst (da_cons d_str (da_cons d_str (da_cons d_str (da_cons d_str (da_cons d_str (da_cons d_str (da_cons d_str da_nil)))))))) (d_mod (d_sub_ix (d_var 1) (d_add d_int (d_mul d_int (d_mod (d_var 3) d_int)))) d_int)))))))))
  (dss_cons (ds_if (d_tcmp (or_eq hr) os_eq (d_mod (d_sub_ix (d_var 1) d_int) d_int) d_int)
   (dss_one (ds_set nd (d_slice (d_var 2) (do_some d_int) (do_some (d_sub (d_len M.len_ (d_var 2)) d_int)))))
   dss_nil)
  (dss_cons (ds_if (d_tcmp (or_eq hr) os_eq (d_mod (d_sub_ix (d_var 1) d_int) d_int) d_int)
   (dss_one (ds_set nd (d_add d_str (d_var 2))))
   dss_nil)
  (dss_one (ds_ret (d_var 2))))))))), pure__law_long_name⟩

abbrev s__law_read : Stmt := topS 38
abbrev N__law_read : List Str := ["text", "sign", "field", "last", "words", "k"]
theorem sc__law_read : FnScope N__law_read ["text"] (defScope s__law_read) := ⟨rfl, rfl, rfl, by decide +kernel, rfl, by decide +kernel, by decide +kernel⟩
theorem cal__law_read {f : Addr} {fd : FuncData} (M : Mg mg) (XF : Xf K mg C) (c__law_good_machine : Cal P w K mg base 2 "_law_good_machine" (spD 1 P__law_good_machine)) (F : L2.Fun K "_law_read" "_law_read" s__law_read f fd) (hm : mg "_law_read" = some (.ref f)) (b : Binds K fd ["text"] []) : Cal P w K mg base 3 "_law_read" (spD 1 P__law_read) :=
  have nd := sc__law_read.nd
  cal_mk F hm b sc__law_read fun cdv A outer s H E hr => ⟨_, q__law_read, (dss_cons (ds_if (dt_not (d_tb (d_call c__law_good_machine hr (da_cons (d_var 0) da_nil))))
   (dss_one (ds_ret d_non))
   dss_nil)
  (dss_cons (ds_for PassesOwn.never rfl (di_str (d_slice (d_var 0) (do_some d_int) (do_some d_int))) (dg_name nd)
   (dss_one (ds_if (d_tcmp (or_notIn hr) os_in (d_var 1) d_str)
    (dss_one (ds_ret d_non))
    dss_nil)))
  (dss_cons (ds_set nd (d_slice (d_var 0) (do_some d_int) (do_some d_int)))
  (dss_cons (ds_set nd (d_max hr rfl M.max_ (d_add (b_lc (own := [("k", 5)]) rfl nd (di_range1 M.range_ (da_cons d_int da_nil)) (blkOk_by (by kernel_rfl)) (fun _ _ _ _ _ => (dg_name nd)) (fun _ _ _ _ _ => (dts_one (d_tcmp (or_ne hr) os_ne (d_sub_ix (d_var 2) (d_var 5)) d_str))) (fun _ _ _ _ _ => (d_var 5))) (d_lst (da_cons (d_neg d_int) da_nil)))))
  (dss_cons (ds_set nd (d_split (d_slice (d_var 2) (do_some d_int) (do_some (d_add (d_var 3) d_int))) d_str))
  (dss_frz 4 (dss_cons (ds_if (dw_or (d_tcmp (or_eq hr) os_eq (d_slice (d_var 0) (do_some d_int) (do_some d_int)) d_str) (dw_or (d_tcmp or_lt os_ord (d_var 3) d_int) (dw_or1 (d_tcmp (or_in hr) os_in d_str (d_var 4))))).dt
   (dss_one (ds_ret d_non))
   dss_nil)
  (dss_cons (ds_for PassesOwn.never rfl (di_str (d_join d_str (d_var 4))) (dg_name nd)
   (dss_one (ds_if (dw_or (d_tcmp or_lt os_ord (d_var 1) d_str) (dw_or1 (d_tcmp or_gt os_ord (d_var 1) d_str))).dt
    (dss_one (ds_ret d_non))
    dss_nil)))
  (dss_one (ds_ret (d_tup (da_cons (d_intS M.int_ (d_slice (d_var 0) (do_some d_int) (do_some d_int))) (da_cons (d_intS M.int_ (d_slice (d_var 0) (do_some d_int) (do_some d_int))) (da_cons (d_var 4) da_nil)))))))))))))), pure__law_read⟩

abbrev s__law_told_line : Stmt := topS 39
abbrev N__law_told_line : List Str := ["person", "day", "name", "e"]
theorem sc__law_told_line : FnScope N__law_told_line ["person", "day", "name"] (defScope s__law_told_line) := ⟨rfl, rfl, rfl, by decide +kernel, rfl, by decide +kernel, by decide +kernel⟩
theorem cal__law_told_line {f : Addr} {fd : FuncData} (M : Mg mg) (XF : Xf K mg C) (c_machine_line : CalX P w K mg base 3 "machine_line" (spX 3 (P_machine_line C))) (F : L2.Fun K "_law_told_line" "_law_told_line" s__law_told_line f fd) (hm : mg "_law_told_line" = some (.ref f)) (b : Binds K fd ["person", "day", "name"] []) : Cal P w K mg base 4 "_law_told_line" (spD 3 P__law_told_line) :=
  have nd := sc__law_told_line.nd
  cal_mk F hm b sc__law_told_line fun cdv A outer s H E hr => ⟨_, q__law_told_line C, (dss_one (ds_try_as (C "NoWord") nd ⟨rfl, by decide, .inl XF.m_NoWord⟩ XF.exm_NoWord takes0 (fun W' pn xe tk pp => (dss_one (ds_ret (d_tup (da_cons d_str (da_cons (d_callX c_machine_line hr tk (da_cons (d_var 0) (da_cons (d_var 1) (da_cons (d_var 2) da_nil)))) da_nil))))))
   (fun a oe pn hz hf => (dss_one (ds_ret (d_tup (da_cons d_str (da_cons (d_and (d_isE 3 XF.ec_NoWord hz hf M.isinstance_ XF.m_ScriptError XF.kit_NoWord_ScriptError) (d_one (d_not (d_isE 3 XF.ec_NoWord hz hf M.isinstance_ XF.m_InvalidLine XF.kit_NoWord_InvalidLine)))) da_nil)))))))), pure__law_told_line C⟩

abbrev s__law_told_back : Stmt := topS 40
abbrev N__law_told_back : List Str := ["text", "e"]
theorem sc__law_told_back : FnScope N__law_told_back ["text"] (defScope s__law_told_back) := ⟨rfl, rfl, rfl, by decide +kernel, rfl, by decide +kernel, by decide +kernel⟩
theorem cal__law_told_back {f : Addr} {fd : FuncData} (M : Mg mg) (XF : Xf K mg C) (c_read_machine : CalX P w K mg base 4 "read_machine" (spX 1 (P_read_machine C))) (F : L2.Fun K "_law_told_back" "_law_told_back" s__law_told_back f fd) (hm : mg "_law_told_back" = some (.ref f)) (b : Binds K fd ["text"] []) : Cal P w K mg base 5 "_law_told_back" (spD 1 P__law_told_back) :=
  have nd := sc__law_told_back.nd
  cal_mk F hm b sc__law_told_back fun cdv A outer s H E hr => ⟨_, q__law_told_back C, (dss_one (ds_try_as (C "InvalidLine") nd ⟨rfl, by decide, .inl XF.m_InvalidLine⟩ XF.exm_InvalidLine takes0 (fun W' pn xe tk pp => (dss_one (ds_ret (d_callX c_read_machine hr tk (da_cons (d_var 0) da_nil)))))
   (fun a oe pn hz hf => (dss_one (ds_ret (d_sub_ix (d_lst (da_cons d_str (da_cons d_non da_nil))) (d_int1 M.int_ (d_and (d_isE 1 XF.ec_InvalidLine hz hf M.isinstance_ XF.m_ScriptError XF.kit_InvalidLine_ScriptError) (d_one (d_not (d_isE 1 XF.ec_InvalidLine hz hf M.isinstance_ XF.m_NoWord XF.kit_InvalidLine_NoWord))))))))))), pure__law_told_back C⟩

abbrev s__law_strings : Stmt := topS 41
abbrev N__law_strings : List Str := ["line", "draws", "signs", "spot", "sign", "body", "found", "place", "bodies", "some"]
theorem sc__law_strings : FnScope N__law_strings ["line", "draws"] (defScope s__law_strings) := ⟨rfl, rfl, rfl, by decide +kernel, rfl, by decide +kernel, by decide +kernel⟩
theorem cal__law_strings {f : Addr} {fd : FuncData} (M : Mg mg) (XF : Xf K mg C) (c__law_with_checks : Cal P w K mg base 2 "_law_with_checks" (spD 1 P__law_with_checks)) (F : L2.Fun K "_law_strings" "_law_strings" s__law_strings f fd) (hm : mg "_law_strings" = some (.ref f)) (b : Binds K fd ["line", "draws"] []) : Cal P w K mg base 3 "_law_strings" (spD 2 P__law_strings) :=
  have nd := sc__law_strings.nd
  cal_mk F hm b sc__law_strings fun cdv A outer s H E hr => ⟨_, q__law_strings, (dss_cons (ds_set nd d_str)
  (dss_cons (ds_set nd (d_mod (d_sub_ix (d_var 1) d_int) d_int))
  (dss_cons (ds_set nd (d_sub_ix (d_var 2) (d_mod (d_sub_ix (d_var 1) d_int) d_int)))
  (dss_cons (ds_set nd (d_slice (d_var 0) (do_some d_int) (do_some d_int)))
  (dss_cons (ds_set nd (d_lst (da_cons (d_var 0) (da_cons (d_add (d_add (d_slice (d_var 0) (do_some d_int) (do_some (d_var 3))) (d_var 4)) (d_slice (d_var 0) (do_some (d_add (d_var 3) d_int)) do_none)) (da_cons (d_slice (d_var 0) (do_some d_int) (do_some d_int)) (da_cons (d_add (d_var 0) d_str) (da_cons (d_add (d_var 0) d_str) (da_cons d_str (da_cons (d_lower (d_var 0)) (da_cons (d_add (d_add (d_slice (d_var 0) (do_some d_int) (do_some (d_var 3))) d_str) (d_slice (d_var 0) (do_some (d_add (d_var 3) d_int)) do_none)) (da_cons (d_revS (d_var 0)) da_nil)))))))))))
  (dss_cons (ds_set nd (d_add d_int (d_mod (d_sub_ix (d_var 1) d_int) d_int)))
  (dss_cons (ds_set nd (d_lst (da_cons (d_add d_str (d_slice (d_var 5) (do_some d_int) do_none)) (da_cons (d_add (d_slice (d_var 5) (do_some d_int) (do_some d_int)) (d_mul d_str d_int)) (da_cons (d_add (d_add (d_slice (d_var 5) (do_some d_int) (do_some d_int)) d_str) (d_slice (d_var 5) (do_some d_int) (do_some d_int))) (da_cons (d_add (d_add (d_slice (d_var 5) (do_some d_int) (do_some (d_var 7))) d_str) (d_slice (d_var 5) (do_some (d_add (d_var 7) d_int)) do_none)) (da_cons (d_add (d_add (d_slice (d_var 5) (do_some d_int) (do_some (d_var 7))) d_str) (d_slice (d_var 5) (do_some (d_add (d_var 7) d_int)) do_none)) da_nil)))))))
  (dss_frz 8 (dss_cons (ds_set nd (d_add (d_var 8) (d_lst (da_cons (d_add d_str (d_slice (d_var 5) (do_some d_int) do_none)) (da_cons (d_add (d_add (d_slice (d_var 5) (do_some d_int) (do_some d_int)) d_str) (d_slice (d_var 5) (do_some d_int) do_none)) (da_cons (d_add (d_add (d_slice (d_var 5) (do_some d_int) (do_some d_int)) d_str) (d_slice (d_var 5) (do_some d_int) do_none)) (da_cons (d_add d_str (d_slice (d_var 5) (do_some d_int) do_none)) (da_cons (d_add (d_add (d_slice (d_var 5) (do_some d_int) (do_some (d_var 7))) d_str) (d_slice (d_var 5) (do_some (d_add (d_var 7) d_int)) do_none)) (da_cons (d_add d_str (d_slice (d_var 5) (do_some d_int) do_none)) da_nil)))))))))
  (dss_frz 8 (dss_cons (ds_set nd (d_add (d_var 8) (d_lst (da_cons (d_add (d_slice (d_var 5) (do_some d_int) (do_some d_int)) (d_mul d_str d_int)) (da_cons (d_add (d_slice (d_var 5) (do_some d_int) (do_some d_int)) (d_mul d_str d_int)) (da_cons (d_add (d_add (d_slice (d_var 5) (do_some d_int) (do_some d_int)) (d_mul d_str d_int)) d_str) (da_cons (d_add (d_slice (d_var 5) (do_some d_int) (do_some d_int)) d_str) (da_cons (d_add (d_add (d_slice (d_var 5) (do_some d_int) (do_some d_int)) d_str) (d_slice (d_var 5) (do_some d_int) do_none)) da_nil))))))))
  (dss_frz 8 (dss_cons (ds_for PassesOwn.never rfl (di_list (d_var 8)) (dg_name nd)
   (dss_cons (ds_expr (d_append 6 (d_call c__law_with_checks hr (da_cons (d_var 9) da_nil))))
   (dss_one (ds_expr (d_append 6 (d_add (d_var 9) (d_slice (d_var 0) (do_some d_int) do_none)))))))
  (dss_one (ds_ret (d_var 6)))))))))))))))), pure__law_strings⟩

abbrev s_law : Stmt := topS 42
abbrev N_law : List Str := ["script", "draws", "line", "k", "name", "words", "person", "day", "told", "handed", "cut", "whole", "text"]
theorem sc_law : FnScope N_law ["script"] (defScope s_law) := ⟨rfl, rfl, rfl, by decide +kernel, rfl, by decide +kernel, by decide +kernel⟩
theorem ok_law {f : Addr} {fd : FuncData} (M : Mg mg) (XF : Xf K mg C) (c__law_cell : Cal P w K mg base 1 "_law_cell" (spD 2 P__law_cell)) (c__law_field : Cal P w K mg base 1 "_law_field" (spD 1 P__law_field)) (c__law_long_name : Cal P w K mg base 2 "_law_long_name" (spD 1 P__law_long_name)) (c__law_machine_line : Cal P w K mg base 3 "_law_machine_line" (spD 3 P__law_machine_line)) (c__law_numbers : Cal P w K mg base 1 "_law_numbers" (spD 3 P__law_numbers)) (c__law_read : Cal P w K mg base 3 "_law_read" (spD 1 P__law_read)) (c__law_same : Cal P w K mg base 5 "_law_same" (spD 2 P__law_same)) (c__law_strings : Cal P w K mg base 3 "_law_strings" (spD 2 P__law_strings)) (c__law_told_back : Cal P w K mg base 5 "_law_told_back" (spD 1 P__law_told_back)) (c__law_told_line : Cal P w K mg base 4 "_law_told_line" (spD 3 P__law_told_line)) (c__law_words_in : Cal P w K mg base 1 "_law_words_in" (spD 1 P__law_words_in)) (c_field_of : Cal P w K mg base 2 "field_of" (spD 1 P_field_of)) (c_machine_frame : Cal P w K mg base 1 "machine_frame" (spD 0 P_machine_frame)) (c_read_machine : CalX P w K mg base 4 "read_machine" (spX 1 (P_read_machine C))) (c_words_of : Cal P w K mg base 1 "words_of" (spD 1 P_words_of)) (F : L2.Fun K "law" "law" s_law f fd) : FnOk P w K mg base CX0 6 f fd ["script"] (spD 1 P_law) :=
  have nd := sc_law.nd
  fnok_mk F sc_law fun cdv A outer s H E hr => ⟨_, q_law C, (dss_cons (ds_set nd (d_call c__law_numbers hr (da_cons (d_call c__law_cell hr (da_cons (d_var 0) (da_cons d_int da_nil))) (da_cons d_int (da_cons d_int da_nil)))))
  (dss_frz 1 (dss_cons (ds_if (dt_not (d_tb (d_call c__law_same hr (da_cons (d_call0 c_machine_frame hr) (da_cons (d_tup (da_cons d_str (da_cons (d_lst (da_cons (d_mul (d_lst (da_cons d_int da_nil)) d_int) (da_cons (d_listR2 rfl M.list_ M.range_ d_int d_int) da_nil))) da_nil))) da_nil)))))
   (dss_one (ds_ret d_bl))
   dss_nil)
  (dss_cons (ds_set nd d_str)
  (dss_cons (ds_for PassesOwn.never rfl (di_range1 M.range_ (da_cons d_int da_nil)) (dg_name nd)
   (dss_cons (ds_set nd (d_call c__law_long_name hr (da_cons (d_call c__law_cell hr (da_cons (d_var 0) (da_cons (d_var 3) da_nil))) da_nil)))
   (dss_cons (ds_set nd (d_call c__law_words_in hr (da_cons (d_var 4) da_nil)))
   (dss_frz 5 (dss_cons (ds_set nd (d_sub_ix (d_lst (da_cons (d_add d_int (d_mod (d_sub_ix (d_var 1) (d_var 3)) d_int)) (da_cons d_int (da_cons d_int da_nil)))) (d_mul (d_mod (d_fdiv (d_sub_ix (d_var 1) (d_var 3)) d_int) d_int) (d_int1 M.int_ (d_mod (d_sub_ix (d_var 1) d_int) d_int)))))
   (dss_cons (ds_set nd (d_sub_ix (d_lst (da_cons (d_mod (d_sub_ix (d_var 1) (d_add d_int (d_var 3))) d_int) (da_cons d_int (da_cons d_int da_nil)))) (d_mul (d_mod (d_fdiv (d_sub_ix (d_var 1) (d_add d_int (d_var 3))) d_int) d_int) (d_int1 M.int_ (d_mod (d_fdiv (d_sub_ix (d_var 1) d_int) d_int) d_int)))))
   (dss_cons (ds_set nd (d_call c_words_of hr (da_cons (d_var 4) da_nil)))
   (dss_frz 8 (dss_cons (ds_if (dt_not (d_tb (d_call c__law_same hr (da_cons (d_var 8) (da_cons (d_var 5) da_nil)))))
    (dss_one (ds_ret d_bl))
    dss_nil)
   (dss_cons (ds_set nd (d_list1 M.list_ (d_var 5)))
   (dss_frz 9 (dss_cons (ds_if (dw_or (dt_not (d_tb (d_call c__law_same hr (da_cons (d_call c_field_of hr (da_cons (d_var 9) da_nil)) (da_cons (d_call c__law_field hr (da_cons (d_var 5) da_nil)) da_nil))))) (dw_or (d_tcmp (or_ne hr) os_ne (d_var 9) (d_var 5)) (dw_or1 (d_tcmp (or_ne hr) os_ne (d_len M.len_ (d_call c__law_field hr (da_cons (d_var 5) da_nil))) d_int)))).dt
    (dss_one (ds_ret d_bl))
    dss_nil)
   (dss_cons (ds_set nd (d_call c__law_machine_line hr (da_cons (d_var 6) (da_cons (d_var 7) (da_cons (d_var 5) da_nil)))))
   (dss_cons (ds_if (dt_not (d_tb (d_call c__law_same hr (da_cons (d_call c__law_told_line hr (da_cons (d_var 6) (da_cons (d_var 7) (da_cons (d_var 4) da_nil)))) (da_cons (d_tup (da_cons d_str (da_cons (d_var 2) da_nil))) da_nil)))))
    (dss_one (ds_ret d_bl))
    dss_nil)
   (dss_cons (ds_set nd (d_call c__law_read hr (da_cons (d_var 2) da_nil)))
   (dss_cons (ds_if (dw_or (d_tcmp op_isN os_is (d_var 10) d_non) (dw_or (d_tcmp (or_ne hr) os_ne (d_sub_ix (d_var 10) d_int) (d_var 6)) (dw_or (d_tcmp (or_ne hr) os_ne (d_sub_ix (d_var 10) d_int) (d_var 7)) (dw_or1 (dt_not (d_tb (d_call c__law_same hr (da_cons (d_callX c_read_machine hr takes0 (da_cons (d_var 2) da_nil)) (da_cons (d_var 10) da_nil))))))))).dt
    (dss_one (ds_ret d_bl))
    dss_nil)
   (dss_cons (ds_set nd (d_join d_str (d_var 5)))
   (dss_one (ds_if (dw_and (d_tcmp or_lt os_ord (d_len M.len_ (d_var 11)) d_int) (dw_and1 (d_tcmp (or_ne hr) os_ne (d_sub_ix (d_var 10) d_int) (d_var 5)))).dt
    (dss_one (ds_ret d_bl))
    dss_nil)))))))))))))))))))
  (dss_cons (ds_for PassesOwn.never rfl (di_list (d_lst (da_cons d_str (da_cons d_str (da_cons d_str (da_cons d_str (da_cons (d_mul d_str d_int) da_nil))))))) (dg_name nd)
   (dss_one (ds_if (dw_or (dt_not (d_tb (d_call c__law_same hr (da_cons (d_call c_words_of hr (da_cons (d_var 4) da_nil)) (da_cons (d_lst da_nil) da_nil))))) (dw_or1 (d_tcmp (or_ne hr) os_ne (d_call c__law_told_line hr (da_cons d_int (da_cons d_int (da_cons (d_var 4) da_nil)))) (d_tup (da_cons d_str (da_cons d_bl da_nil)))))).dt
    (dss_one (ds_ret d_bl))
    dss_nil)))
  (dss_cons (ds_for PassesOwn.never rfl (di_list (d_call c__law_strings hr (da_cons (d_var 2) (da_cons (d_var 1) da_nil)))) (dg_name nd)
   (dss_one (ds_if (dt_not (d_tb (d_call c__law_same hr (da_cons (d_call c__law_told_back hr (da_cons (d_var 12) da_nil)) (da_cons (d_call c__law_read hr (da_cons (d_var 12) da_nil)) da_nil)))))
    (dss_one (ds_ret d_bl))
    dss_nil)))
  (dss_one (ds_ret d_bl))))))))), pure_law C⟩

end
theorem all_mk {l : PySem.W.OpenLaw} {w : World} {K : PySem.W.Frag} {h : Heap} {mg : Str → Option Value} {fa : Addr} (X : K.In h) (G : h.Ns mainGlobals mg) (hfa : mg "law" = some (.ref fa))
    {f0 : Addr} {od0 an0 : Option Addr} {sl0 : Array (Option Value)} {oc0 kV0 dc0 pm0 cd0 ct0 : Value}
    {f1 : Addr} {od1 an1 : Option Addr} {sl1 : Array (Option Value)} {oc1 kV1 dc1 pm1 cd1 ct1 : Value}
    {f2 : Addr} {od2 an2 : Option Addr} {sl2 : Array (Option Value)} {oc2 kV2 dc2 pm2 cd2 ct2 : Value}
    {f3 : Addr} {od3 an3 : Option Addr} {sl3 : Array (Option Value)} {oc3 kV3 dc3 pm3 cd3 ct3 : Value}
    {f4 : Addr} {od4 an4 : Option Addr} {sl4 : Array (Option Value)} {oc4 kV4 dc4 pm4 cd4 ct4 : Value}
    {f5 : Addr} {od5 an5 : Option Addr} {sl5 : Array (Option Value)} {oc5 kV5 dc5 pm5 cd5 ct5 : Value}
    {f6 : Addr} {od6 an6 : Option Addr} {sl6 : Array (Option Value)} {oc6 kV6 dc6 pm6 cd6 ct6 : Value}
    {f7 : Addr} {od7 an7 : Option Addr} {sl7 : Array (Option Value)} {oc7 kV7 dc7 pm7 cd7 ct7 : Value}
    {f8 : Addr} {od8 an8 : Option Addr} {sl8 : Array (Option Value)} {oc8 kV8 dc8 pm8 cd8 ct8 : Value}
    {f9 : Addr} {od9 an9 : Option Addr} {sl9 : Array (Option Value)} {oc9 kV9 dc9 pm9 cd9 ct9 : Value}
    {f10 : Addr} {od10 an10 : Option Addr} {sl10 : Array (Option Value)} {oc10 kV10 dc10 pm10 cd10 ct10 : Value}
    {f11 : Addr} {od11 an11 : Option Addr} {sl11 : Array (Option Value)} {oc11 kV11 dc11 pm11 cd11 ct11 : Value}
    {f12 : Addr} {od12 an12 : Option Addr} {sl12 : Array (Option Value)} {oc12 kV12 dc12 pm12 cd12 ct12 : Value}
    {f13 : Addr} {od13 an13 : Option Addr} {sl13 : Array (Option Value)} {oc13 kV13 dc13 pm13 cd13 ct13 : Value}
    {f14 : Addr} {od14 an14 : Option Addr} {sl14 : Array (Option Value)} {oc14 kV14 dc14 pm14 cd14 ct14 : Value}
    {f15 : Addr} {od15 an15 : Option Addr} {sl15 : Array (Option Value)} {oc15 kV15 dc15 pm15 cd15 ct15 : Value}
    {f16 : Addr} {od16 an16 : Option Addr} {sl16 : Array (Option Value)} {oc16 kV16 dc16 pm16 cd16 ct16 : Value}
    {f17 : Addr} {od17 an17 : Option Addr} {sl17 : Array (Option Value)} {oc17 kV17 dc17 pm17 cd17 ct17 : Value}
    {f18 : Addr} {od18 an18 : Option Addr} {sl18 : Array (Option Value)} {oc18 kV18 dc18 pm18 cd18 ct18 : Value}
    {f19 : Addr} {od19 an19 : Option Addr} {sl19 : Array (Option Value)} {oc19 kV19 dc19 pm19 cd19 ct19 : Value}
    {f20 : Addr} {od20 an20 : Option Addr} {sl20 : Array (Option Value)} {oc20 kV20 dc20 pm20 cd20 ct20 : Value}
    {f21 : Addr} {od21 an21 : Option Addr} {sl21 : Array (Option Value)} {oc21 kV21 dc21 pm21 cd21 ct21 : Value}
    {f22 : Addr} {od22 an22 : Option Addr} {sl22 : Array (Option Value)} {oc22 kV22 dc22 pm22 cd22 ct22 : Value}
    {f23 : Addr} {od23 an23 : Option Addr} {sl23 : Array (Option Value)} {oc23 kV23 dc23 pm23 cd23 ct23 : Value}
    {f24 : Addr} {od24 an24 : Option Addr} {sl24 : Array (Option Value)} {oc24 kV24 dc24 pm24 cd24 ct24 : Value}
    {f25 : Addr} {od25 an25 : Option Addr} {sl25 : Array (Option Value)} {oc25 kV25 dc25 pm25 cd25 ct25 : Value}
    {f26 : Addr} {od26 an26 : Option Addr} {sl26 : Array (Option Value)} {oc26 kV26 dc26 pm26 cd26 ct26 : Value}
    {f27 : Addr} {od27 an27 : Option Addr} {sl27 : Array (Option Value)} {oc27 kV27 dc27 pm27 cd27 ct27 : Value}
    {f28 : Addr} {od28 an28 : Option Addr} {sl28 : Array (Option Value)} {oc28 kV28 dc28 pm28 cd28 ct28 : Value}
    (a0 : PySem.W.nsIn K mainGlobals "size_of" = some (some (.ref f0))) (l0 : K.lookup f0 = some ⟨oc0, od0, .func (PySem.W.fnOf "size_of" "size_of" (defArgs s_size_of) (defBody s_size_of) (defScope s_size_of) .none kV0 dc0 pm0 an0 cd0 ct0), sl0⟩) (c0 : PySem.W.codeIn K cd0 "size_of" = true) (k0 : PySem.W.keepIn K (.ref f0) = true)
    (a1 : PySem.W.nsIn K mainGlobals "worths_in" = some (some (.ref f1))) (l1 : K.lookup f1 = some ⟨oc1, od1, .func (PySem.W.fnOf "worths_in" "worths_in" (defArgs s_worths_in) (defBody s_worths_in) (defScope s_worths_in) .none kV1 dc1 pm1 an1 cd1 ct1), sl1⟩) (c1 : PySem.W.codeIn K cd1 "worths_in" = true) (k1 : PySem.W.keepIn K (.ref f1) = true)
    (a2 : PySem.W.nsIn K mainGlobals "remainders" = some (some (.ref f2))) (l2 : K.lookup f2 = some ⟨oc2, od2, .func (PySem.W.fnOf "remainders" "remainders" (defArgs s_remainders) (defBody s_remainders) (defScope s_remainders) .none kV2 dc2 pm2 an2 cd2 ct2), sl2⟩) (c2 : PySem.W.codeIn K cd2 "remainders" = true) (k2 : PySem.W.keepIn K (.ref f2) = true)
    (a3 : PySem.W.nsIn K mainGlobals "zeros" = some (some (.ref f3))) (l3 : K.lookup f3 = some ⟨oc3, od3, .func (PySem.W.fnOf "zeros" "zeros" (defArgs s_zeros) (defBody s_zeros) (defScope s_zeros) .none kV3 dc3 pm3 an3 cd3 ct3), sl3⟩) (c3 : PySem.W.codeIn K cd3 "zeros" = true) (k3 : PySem.W.keepIn K (.ref f3) = true)
    (a4 : PySem.W.nsIn K mainGlobals "is_line" = some (some (.ref f4))) (l4 : K.lookup f4 = some ⟨oc4, od4, .func (PySem.W.fnOf "is_line" "is_line" (defArgs s_is_line) (defBody s_is_line) (defScope s_is_line) .none kV4 dc4 pm4 an4 cd4 ct4), sl4⟩) (c4 : PySem.W.codeIn K cd4 "is_line" = true) (k4 : PySem.W.keepIn K (.ref f4) = true)
    (a5 : PySem.W.nsIn K mainGlobals "is_good" = some (some (.ref f5))) (l5 : K.lookup f5 = some ⟨oc5, od5, .func (PySem.W.fnOf "is_good" "is_good" (defArgs s_is_good) (defBody s_is_good) (defScope s_is_good) .none kV5 dc5 pm5 an5 cd5 ct5), sl5⟩) (c5 : PySem.W.codeIn K cd5 "is_good" = true) (k5 : PySem.W.keepIn K (.ref f5) = true)
    (a6 : PySem.W.nsIn K mainGlobals "machine_frame" = some (some (.ref f6))) (l6 : K.lookup f6 = some ⟨oc6, od6, .func (PySem.W.fnOf "machine_frame" "machine_frame" (defArgs s_machine_frame) (defBody s_machine_frame) (defScope s_machine_frame) .none kV6 dc6 pm6 an6 cd6 ct6), sl6⟩) (c6 : PySem.W.codeIn K cd6 "machine_frame" = true) (k6 : PySem.W.keepIn K (.ref f6) = true)
    (a7 : PySem.W.nsIn K mainGlobals "words_of" = some (some (.ref f7))) (l7 : K.lookup f7 = some ⟨oc7, od7, .func (PySem.W.fnOf "words_of" "words_of" (defArgs s_words_of) (defBody s_words_of) (defScope s_words_of) .none kV7 dc7 pm7 an7 cd7 ct7), sl7⟩) (c7 : PySem.W.codeIn K cd7 "words_of" = true) (k7 : PySem.W.keepIn K (.ref f7) = true)
    (a8 : PySem.W.nsIn K mainGlobals "shorter" = some (some (.ref f8))) (l8 : K.lookup f8 = some ⟨oc8, od8, .func (PySem.W.fnOf "shorter" "shorter" (defArgs s_shorter) (defBody s_shorter) (defScope s_shorter) .none kV8 dc8 pm8 an8 cd8 ct8), sl8⟩) (c8 : PySem.W.codeIn K cd8 "shorter" = true) (k8 : PySem.W.keepIn K (.ref f8) = true)
    (a9 : PySem.W.nsIn K mainGlobals "field_of" = some (some (.ref f9))) (l9 : K.lookup f9 = some ⟨oc9, od9, .func (PySem.W.fnOf "field_of" "field_of" (defArgs s_field_of) (defBody s_field_of) (defScope s_field_of) .none kV9 dc9 pm9 an9 cd9 ct9), sl9⟩) (c9 : PySem.W.codeIn K cd9 "field_of" = true) (k9 : PySem.W.keepIn K (.ref f9) = true)
    (a10 : PySem.W.nsIn K mainGlobals "check_signs" = some (some (.ref f10))) (l10 : K.lookup f10 = some ⟨oc10, od10, .func (PySem.W.fnOf "check_signs" "check_signs" (defArgs s_check_signs) (defBody s_check_signs) (defScope s_check_signs) .none kV10 dc10 pm10 an10 cd10 ct10), sl10⟩) (c10 : PySem.W.codeIn K cd10 "check_signs" = true) (k10 : PySem.W.keepIn K (.ref f10) = true)
    (a11 : PySem.W.nsIn K mainGlobals "machine_line" = some (some (.ref f11))) (l11 : K.lookup f11 = some ⟨oc11, od11, .func (PySem.W.fnOf "machine_line" "machine_line" (defArgs s_machine_line) (defBody s_machine_line) (defScope s_machine_line) .none kV11 dc11 pm11 an11 cd11 ct11), sl11⟩) (c11 : PySem.W.codeIn K cd11 "machine_line" = true) (k11 : PySem.W.keepIn K (.ref f11) = true)
    (a12 : PySem.W.nsIn K mainGlobals "has_digits" = some (some (.ref f12))) (l12 : K.lookup f12 = some ⟨oc12, od12, .func (PySem.W.fnOf "has_digits" "has_digits" (defArgs s_has_digits) (defBody s_has_digits) (defScope s_has_digits) .none kV12 dc12 pm12 an12 cd12 ct12), sl12⟩) (c12 : PySem.W.codeIn K cd12 "has_digits" = true) (k12 : PySem.W.keepIn K (.ref f12) = true)
    (a13 : PySem.W.nsIn K mainGlobals "read_machine" = some (some (.ref f13))) (l13 : K.lookup f13 = some ⟨oc13, od13, .func (PySem.W.fnOf "read_machine" "read_machine" (defArgs s_read_machine) (defBody s_read_machine) (defScope s_read_machine) .none kV13 dc13 pm13 an13 cd13 ct13), sl13⟩) (c13 : PySem.W.codeIn K cd13 "read_machine" = true) (k13 : PySem.W.keepIn K (.ref f13) = true)
    (a14 : PySem.W.nsIn K mainGlobals "_law_cell" = some (some (.ref f14))) (l14 : K.lookup f14 = some ⟨oc14, od14, .func (PySem.W.fnOf "_law_cell" "_law_cell" (defArgs s__law_cell) (defBody s__law_cell) (defScope s__law_cell) .none kV14 dc14 pm14 an14 cd14 ct14), sl14⟩) (c14 : PySem.W.codeIn K cd14 "_law_cell" = true) (k14 : PySem.W.keepIn K (.ref f14) = true)
    (a15 : PySem.W.nsIn K mainGlobals "_law_numbers" = some (some (.ref f15))) (l15 : K.lookup f15 = some ⟨oc15, od15, .func (PySem.W.fnOf "_law_numbers" "_law_numbers" (defArgs s__law_numbers) (defBody s__law_numbers) (defScope s__law_numbers) .none kV15 dc15 pm15 an15 cd15 ct15), sl15⟩) (c15 : PySem.W.codeIn K cd15 "_law_numbers" = true) (k15 : PySem.W.keepIn K (.ref f15) = true)
    (a16 : PySem.W.nsIn K mainGlobals "_law_same" = some (some (.ref f16))) (l16 : K.lookup f16 = some ⟨oc16, od16, .func (PySem.W.fnOf "_law_same" "_law_same" (defArgs s__law_same) (defBody s__law_same) (defScope s__law_same) .none kV16 dc16 pm16 an16 cd16 ct16), sl16⟩) (c16 : PySem.W.codeIn K cd16 "_law_same" = true) (k16 : PySem.W.keepIn K (.ref f16) = true)
    (a17 : PySem.W.nsIn K mainGlobals "_law_words_in" = some (some (.ref f17))) (l17 : K.lookup f17 = some ⟨oc17, od17, .func (PySem.W.fnOf "_law_words_in" "_law_words_in" (defArgs s__law_words_in) (defBody s__law_words_in) (defScope s__law_words_in) .none kV17 dc17 pm17 an17 cd17 ct17), sl17⟩) (c17 : PySem.W.codeIn K cd17 "_law_words_in" = true) (k17 : PySem.W.keepIn K (.ref f17) = true)
    (a18 : PySem.W.nsIn K mainGlobals "_law_field" = some (some (.ref f18))) (l18 : K.lookup f18 = some ⟨oc18, od18, .func (PySem.W.fnOf "_law_field" "_law_field" (defArgs s__law_field) (defBody s__law_field) (defScope s__law_field) .none kV18 dc18 pm18 an18 cd18 ct18), sl18⟩) (c18 : PySem.W.codeIn K cd18 "_law_field" = true) (k18 : PySem.W.keepIn K (.ref f18) = true)
    (a19 : PySem.W.nsIn K mainGlobals "_law_values" = some (some (.ref f19))) (l19 : K.lookup f19 = some ⟨oc19, od19, .func (PySem.W.fnOf "_law_values" "_law_values" (defArgs s__law_values) (defBody s__law_values) (defScope s__law_values) .none kV19 dc19 pm19 an19 cd19 ct19), sl19⟩) (c19 : PySem.W.codeIn K cd19 "_law_values" = true) (k19 : PySem.W.keepIn K (.ref f19) = true)
    (a20 : PySem.W.nsIn K mainGlobals "_law_with_checks" = some (some (.ref f20))) (l20 : K.lookup f20 = some ⟨oc20, od20, .func (PySem.W.fnOf "_law_with_checks" "_law_with_checks" (defArgs s__law_with_checks) (defBody s__law_with_checks) (defScope s__law_with_checks) .none kV20 dc20 pm20 an20 cd20 ct20), sl20⟩) (c20 : PySem.W.codeIn K cd20 "_law_with_checks" = true) (k20 : PySem.W.keepIn K (.ref f20) = true)
    (a21 : PySem.W.nsIn K mainGlobals "_law_machine_line" = some (some (.ref f21))) (l21 : K.lookup f21 = some ⟨oc21, od21, .func (PySem.W.fnOf "_law_machine_line" "_law_machine_line" (defArgs s__law_machine_line) (defBody s__law_machine_line) (defScope s__law_machine_line) .none kV21 dc21 pm21 an21 cd21 ct21), sl21⟩) (c21 : PySem.W.codeIn K cd21 "_law_machine_line" = true) (k21 : PySem.W.keepIn K (.ref f21) = true)
    (a22 : PySem.W.nsIn K mainGlobals "_law_good_machine" = some (some (.ref f22))) (l22 : K.lookup f22 = some ⟨oc22, od22, .func (PySem.W.fnOf "_law_good_machine" "_law_good_machine" (defArgs s__law_good_machine) (defBody s__law_good_machine) (defScope s__law_good_machine) .none kV22 dc22 pm22 an22 cd22 ct22), sl22⟩) (c22 : PySem.W.codeIn K cd22 "_law_good_machine" = true) (k22 : PySem.W.keepIn K (.ref f22) = true)
    (a23 : PySem.W.nsIn K mainGlobals "_law_long_name" = some (some (.ref f23))) (l23 : K.lookup f23 = some ⟨oc23, od23, .func (PySem.W.fnOf "_law_long_name" "_law_long_name" (defArgs s__law_long_name) (defBody s__law_long_name) (defScope s__law_long_name) .none kV23 dc23 pm23 an23 cd23 ct23), sl23⟩) (c23 : PySem.W.codeIn K cd23 "_law_long_name" = true) (k23 : PySem.W.keepIn K (.ref f23) = true)
    (a24 : PySem.W.nsIn K mainGlobals "_law_read" = some (some (.ref f24))) (l24 : K.lookup f24 = some ⟨oc24, od24, .func (PySem.W.fnOf "_law_read" "_law_read" (defArgs s__law_read) (defBody s__law_read) (defScope s__law_read) .none kV24 dc24 pm24 an24 cd24 ct24), sl24⟩) (c24 : PySem.W.codeIn K cd24 "_law_read" = true) (k24 : PySem.W.keepIn K (.ref f24) = true)
    (a25 : PySem.W.nsIn K mainGlobals "_law_told_line" = some (some (.ref f25))) (l25 : K.lookup f25 = some ⟨oc25, od25, .func (PySem.W.fnOf "_law_told_line" "_law_told_line" (defArgs s__law_told_line) (defBody s__law_told_line) (defScope s__law_told_line) .none kV25 dc25 pm25 an25 cd25 ct25), sl25⟩) (c25 : PySem.W.codeIn K cd25 "_law_told_line" = true) (k25 : PySem.W.keepIn K (.ref f25) = true)
    (a26 : PySem.W.nsIn K mainGlobals "_law_told_back" = some (some (.ref f26))) (l26 : K.lookup f26 = some ⟨oc26, od26, .func (PySem.W.fnOf "_law_told_back" "_law_told_back" (defArgs s__law_told_back) (defBody s__law_told_back) (defScope s__law_told_back) .none kV26 dc26 pm26 an26 cd26 ct26), sl26⟩) (c26 : PySem.W.codeIn K cd26 "_law_told_back" = true) (k26 : PySem.W.keepIn K (.ref f26) = true)
    (a27 : PySem.W.nsIn K mainGlobals "_law_strings" = some (some (.ref f27))) (l27 : K.lookup f27 = some ⟨oc27, od27, .func (PySem.W.fnOf "_law_strings" "_law_strings" (defArgs s__law_strings) (defBody s__law_strings) (defScope s__law_strings) .none kV27 dc27 pm27 an27 cd27 ct27), sl27⟩) (c27 : PySem.W.codeIn K cd27 "_law_strings" = true) (k27 : PySem.W.keepIn K (.ref f27) = true)
    (a28 : PySem.W.nsIn K mainGlobals "law" = some (some (.ref f28))) (l28 : K.lookup f28 = some ⟨oc28, od28, .func (PySem.W.fnOf "law" "law" (defArgs s_law) (defBody s_law) (defScope s_law) .none kV28 dc28 pm28 an28 cd28 ct28), sl28⟩) (c28 : PySem.W.codeIn K cd28 "law" = true) (k28 : PySem.W.keepIn K (.ref f28) = true)
    (z_all : PySem.W.nsIn K mainGlobals "all" = some none)
    (z_bool : PySem.W.nsIn K mainGlobals "bool" = some none)
    (z_enumerate : PySem.W.nsIn K mainGlobals "enumerate" = some none)
    (z_int : PySem.W.nsIn K mainGlobals "int" = some none)
    (z_isinstance : PySem.W.nsIn K mainGlobals "isinstance" = some none)
    (z_len : PySem.W.nsIn K mainGlobals "len" = some none)
    (z_list : PySem.W.nsIn K mainGlobals "list" = some none)
    (z_max : PySem.W.nsIn K mainGlobals "max" = some none)
    (z_range : PySem.W.nsIn K mainGlobals "range" = some none)
    (z_str : PySem.W.nsIn K mainGlobals "str" = some none)
    (z_sum : PySem.W.nsIn K mainGlobals "sum" = some none)
    (z_tuple : PySem.W.nsIn K mainGlobals "tuple" = some none)
    (z_zip : PySem.W.nsIn K mainGlobals "zip" = some none)
    {t_CAPITALS : Tok} (w_CAPITALS : PySem.W.nsIn K mainGlobals "CAPITALS" = some (some (.str "ABCDEFGHIJKLMNOPQRSTUVWXYZ" t_CAPITALS)))
    {t_DAY : Tok} (w_DAY : PySem.W.nsIn K mainGlobals "DAY" = some (some (.int 6 t_DAY)))
    {t_DIGITS : Tok} (w_DIGITS : PySem.W.nsIn K mainGlobals "DIGITS" = some (some (.str "0123456789" t_DIGITS)))
    {t_FIELD : Tok} (w_FIELD : PySem.W.nsIn K mainGlobals "FIELD" = some (some (.int 24 t_FIELD)))
    {t_FILL : Tok} (w_FILL : PySem.W.nsIn K mainGlobals "FILL" = some (some (.str "<" t_FILL)))
    {t_PERSON : Tok} (w_PERSON : PySem.W.nsIn K mainGlobals "PERSON" = some (some (.int 4 t_PERSON)))
    {t_SIZE : Tok} (w_SIZE : PySem.W.nsIn K mainGlobals "SIZE" = some (some (.int 36 t_SIZE)))
    {C_InvalidLine C_NoWord C_ScriptError : Addr} (y_InvalidLine : PySem.W.nsIn K mainGlobals "InvalidLine" = some (some (.ref C_InvalidLine))) (y_NoWord : PySem.W.nsIn K mainGlobals "NoWord" = some (some (.ref C_NoWord))) (y_ScriptError : PySem.W.nsIn K mainGlobals "ScriptError" = some (some (.ref C_ScriptError)))
    (xr_InvalidLine : ExcRaw K C_InvalidLine)
    (xr_NoWord : ExcRaw K C_NoWord)
    (kt_InvalidLine_NoWord : PySem.W.kitOne K (.ref C_InvalidLine) (.ref C_NoWord) = some false)
    (kt_InvalidLine_ScriptError : PySem.W.kitOne K (.ref C_InvalidLine) (.ref C_ScriptError) = some true)
    (kt_NoWord_InvalidLine : PySem.W.kitOne K (.ref C_NoWord) (.ref C_InvalidLine) = some false)
    (kt_NoWord_ScriptError : PySem.W.kitOne K (.ref C_NoWord) (.ref C_ScriptError) = some true)
    : ∃ fd : FuncData, (∀ (s : Shared) (v : Value), BindsTo s fd ⟨[v], []⟩ [("script", v)]) ∧ ∀ base : Heap, K.In base → base.Ns mainGlobals mg → FnOk l.prog w K mg base CX0 6 fa fd ["script"] (spD 1 P_law) := by
  have e := hfa.symm.trans (PySem.W.mg_of X G a28)
  cases e
  have M : Mg mg := ⟨PySem.W.mg_none_of X G z_all, PySem.W.mg_none_of X G z_bool, PySem.W.mg_none_of X G z_enumerate, PySem.W.mg_none_of X G z_int, PySem.W.mg_none_of X G z_isinstance, PySem.W.mg_none_of X G z_len, PySem.W.mg_none_of X G z_list, PySem.W.mg_none_of X G z_max, PySem.W.mg_none_of X G z_range, PySem.W.mg_none_of X G z_str, PySem.W.mg_none_of X G z_sum, PySem.W.mg_none_of X G z_tuple, PySem.W.mg_none_of X G z_zip, ⟨t_CAPITALS, PySem.W.mg_of X G w_CAPITALS⟩, ⟨t_DAY, PySem.W.mg_of X G w_DAY⟩, ⟨t_DIGITS, PySem.W.mg_of X G w_DIGITS⟩, ⟨t_FIELD, PySem.W.mg_of X G w_FIELD⟩, ⟨t_FILL, PySem.W.mg_of X G w_FILL⟩, ⟨t_PERSON, PySem.W.mg_of X G w_PERSON⟩, ⟨t_SIZE, PySem.W.mg_of X G w_SIZE⟩⟩
  have e_InvalidLine := PySem.W.mg_of X G y_InvalidLine
  have h_InvalidLine := ec_of e_InvalidLine
  have e_NoWord := PySem.W.mg_of X G y_NoWord
  have h_NoWord := ec_of e_NoWord
  have e_ScriptError := PySem.W.mg_of X G y_ScriptError
  have h_ScriptError := ec_of e_ScriptError
  have XF : Xf K mg (ec mg) := { x_InvalidLine := by rw [h_InvalidLine]; exact xr_InvalidLine.ok e_InvalidLine, exm_InvalidLine := by rw [h_InvalidLine]; exact xr_InvalidLine.exm, ec_InvalidLine := by rw [h_InvalidLine]; exact xr_InvalidLine.ec, x_NoWord := by rw [h_NoWord]; exact xr_NoWord.ok e_NoWord, exm_NoWord := by rw [h_NoWord]; exact xr_NoWord.exm, ec_NoWord := by rw [h_NoWord]; exact xr_NoWord.ec, m_InvalidLine := by rw [h_InvalidLine]; exact e_InvalidLine, m_NoWord := by rw [h_NoWord]; exact e_NoWord, m_ScriptError := by rw [h_ScriptError]; exact e_ScriptError, kit_InvalidLine_NoWord := by rw [h_InvalidLine, h_NoWord]; exact kt_InvalidLine_NoWord, kit_InvalidLine_ScriptError := by rw [h_InvalidLine, h_ScriptError]; exact kt_InvalidLine_ScriptError, kit_NoWord_InvalidLine := by rw [h_NoWord, h_InvalidLine]; exact kt_NoWord_InvalidLine, kit_NoWord_ScriptError := by rw [h_NoWord, h_ScriptError]; exact kt_NoWord_ScriptError }
  have F0 := fun_mk (st := s_size_of) l0 c0 k0
  have b0 := F0.binds (ps := ["frame"]) fun _ _ _ _ _ _ us hl => match us, hl with | [_], _ => rfl
  have F1 := fun_mk (st := s_worths_in) l1 c1 k1
  have b1 := F1.binds (ps := ["frame", "line"]) fun _ _ _ _ _ _ us hl => match us, hl with | [_, _], _ => rfl
  have F2 := fun_mk (st := s_remainders) l2 c2 k2
  have b2 := F2.binds (ps := ["frame", "line"]) fun _ _ _ _ _ _ us hl => match us, hl with | [_, _], _ => rfl
  have F3 := fun_mk (st := s_zeros) l3 c3 k3
  have b3 := F3.binds (ps := ["frame"]) fun _ _ _ _ _ _ us hl => match us, hl with | [_], _ => rfl
  have F4 := fun_mk (st := s_is_line) l4 c4 k4
  have b4 := F4.binds (ps := ["frame", "string"]) fun _ _ _ _ _ _ us hl => match us, hl with | [_, _], _ => rfl
  have F5 := fun_mk (st := s_is_good) l5 c5 k5
  have b5 := F5.binds (ps := ["frame", "string"]) fun _ _ _ _ _ _ us hl => match us, hl with | [_, _], _ => rfl
  have F6 := fun_mk (st := s_machine_frame) l6 c6 k6
  have b6 := F6.binds (ps := []) fun _ _ _ _ _ _ us hl => match us, hl with | [], _ => rfl
  have F7 := fun_mk (st := s_words_of) l7 c7 k7
  have b7 := F7.binds (ps := ["name"]) fun _ _ _ _ _ _ us hl => match us, hl with | [_], _ => rfl
  have F8 := fun_mk (st := s_shorter) l8 c8 k8
  have b8 := F8.binds (ps := ["words"]) fun _ _ _ _ _ _ us hl => match us, hl with | [_], _ => rfl
  have F9 := fun_mk (st := s_field_of) l9 c9 k9
  have b9 := F9.binds (ps := ["words"]) fun _ _ _ _ _ _ us hl => match us, hl with | [_], _ => rfl
  have F10 := fun_mk (st := s_check_signs) l10 c10 k10
  have b10 := F10.binds (ps := ["body"]) fun _ _ _ _ _ _ us hl => match us, hl with | [_], _ => rfl
  have F11 := fun_mk (st := s_machine_line) l11 c11 k11
  have b11 := F11.binds (ps := ["person", "day", "name"]) fun _ _ _ _ _ _ us hl => match us, hl with | [_, _, _], _ => rfl
  have F12 := fun_mk (st := s_has_digits) l12 c12 k12
  have b12 := F12.binds (ps := ["text"]) fun _ _ _ _ _ _ us hl => match us, hl with | [_], _ => rfl
  have F13 := fun_mk (st := s_read_machine) l13 c13 k13
  have b13 := F13.binds (ps := ["string"]) fun _ _ _ _ _ _ us hl => match us, hl with | [_], _ => rfl
  have F14 := fun_mk (st := s__law_cell) l14 c14 k14
  have b14 := F14.binds (ps := ["script", "k"]) fun _ _ _ _ _ _ us hl => match us, hl with | [_, _], _ => rfl
  have F15 := fun_mk (st := s__law_numbers) l15 c15 k15
  have b15 := F15.binds (ps := ["cell", "count", "limit"]) fun _ _ _ _ _ _ us hl => match us, hl with | [_, _, _], _ => rfl
  have F16 := fun_mk (st := s__law_same) l16 c16 k16
  have b16 := F16.binds (ps := ["told", "due"]) fun _ _ _ _ _ _ us hl => match us, hl with | [_, _], _ => rfl
  have F17 := fun_mk (st := s__law_words_in) l17 c17 k17
  have b17 := F17.binds (ps := ["name"]) fun _ _ _ _ _ _ us hl => match us, hl with | [_], _ => rfl
  have F18 := fun_mk (st := s__law_field) l18 c18 k18
  have b18 := F18.binds (ps := ["words"]) fun _ _ _ _ _ _ us hl => match us, hl with | [_], _ => rfl
  have F19 := fun_mk (st := s__law_values) l19 c19 k19
  have b19 := F19.binds (ps := ["text"]) fun _ _ _ _ _ _ us hl => match us, hl with | [_], _ => rfl
  have F20 := fun_mk (st := s__law_with_checks) l20 c20 k20
  have b20 := F20.binds (ps := ["body"]) fun _ _ _ _ _ _ us hl => match us, hl with | [_], _ => rfl
  have F21 := fun_mk (st := s__law_machine_line) l21 c21 k21
  have b21 := F21.binds (ps := ["person", "day", "words"]) fun _ _ _ _ _ _ us hl => match us, hl with | [_, _, _], _ => rfl
  have F22 := fun_mk (st := s__law_good_machine) l22 c22 k22
  have b22 := F22.binds (ps := ["text"]) fun _ _ _ _ _ _ us hl => match us, hl with | [_], _ => rfl
  have F23 := fun_mk (st := s__law_long_name) l23 c23 k23
  have b23 := F23.binds (ps := ["cell"]) fun _ _ _ _ _ _ us hl => match us, hl with | [_], _ => rfl
  have F24 := fun_mk (st := s__law_read) l24 c24 k24
  have b24 := F24.binds (ps := ["text"]) fun _ _ _ _ _ _ us hl => match us, hl with | [_], _ => rfl
  have F25 := fun_mk (st := s__law_told_line) l25 c25 k25
  have b25 := F25.binds (ps := ["person", "day", "name"]) fun _ _ _ _ _ _ us hl => match us, hl with | [_, _, _], _ => rfl
  have F26 := fun_mk (st := s__law_told_back) l26 c26 k26
  have b26 := F26.binds (ps := ["text"]) fun _ _ _ _ _ _ us hl => match us, hl with | [_], _ => rfl
  have F27 := fun_mk (st := s__law_strings) l27 c27 k27
  have b27 := F27.binds (ps := ["line", "draws"]) fun _ _ _ _ _ _ us hl => match us, hl with | [_, _], _ => rfl
  have F28 := fun_mk (st := s_law) l28 c28 k28
  refine ⟨PySem.W.fnOf "law" "law" (defArgs s_law) (defBody s_law) (defScope s_law) .none kV28 dc28 pm28 an28 cd28 ct28, fun s v => .of_eq rfl, fun base _ _ => ?_⟩
  have D_size_of : Cal l.prog w K mg base 1 "size_of" (spD 1 P_size_of) := cal_size_of M XF F0 (PySem.W.mg_of X G a0) b0
  have D_worths_in : Cal l.prog w K mg base 1 "worths_in" (spD 2 P_worths_in) := cal_worths_in M XF F1 (PySem.W.mg_of X G a1) b1
  have D_remainders : Cal l.prog w K mg base 2 "remainders" (spD 2 P_remainders) := cal_remainders M XF D_worths_in F2 (PySem.W.mg_of X G a2) b2
  have D_zeros : Cal l.prog w K mg base 1 "zeros" (spD 1 P_zeros) := cal_zeros M XF F3 (PySem.W.mg_of X G a3) b3
  have D_is_line : Cal l.prog w K mg base 2 "is_line" (spD 2 P_is_line) := cal_is_line M XF D_size_of F4 (PySem.W.mg_of X G a4) b4
  have D_is_good : Cal l.prog w K mg base 3 "is_good" (spD 2 P_is_good) := cal_is_good M XF D_is_line D_remainders D_zeros F5 (PySem.W.mg_of X G a5) b5
  have D_machine_frame : Cal l.prog w K mg base 1 "machine_frame" (spD 0 P_machine_frame) := cal_machine_frame M XF F6 (PySem.W.mg_of X G a6) b6
  have D_words_of : Cal l.prog w K mg base 1 "words_of" (spD 1 P_words_of) := cal_words_of M XF F7 (PySem.W.mg_of X G a7) b7
  have D_shorter : Cal l.prog w K mg base 1 "shorter" (spD 1 P_shorter) := cal_shorter M XF F8 (PySem.W.mg_of X G a8) b8
  have D_field_of : Cal l.prog w K mg base 2 "field_of" (spD 1 P_field_of) := cal_field_of M XF D_shorter F9 (PySem.W.mg_of X G a9) b9
  have D_check_signs : Cal l.prog w K mg base 2 "check_signs" (spD 1 P_check_signs) := cal_check_signs M XF D_machine_frame D_worths_in F10 (PySem.W.mg_of X G a10) b10
  have D_machine_line : CalX l.prog w K mg base 3 "machine_line" (spX 3 (P_machine_line (ec mg))) := cal_machine_line M XF D_check_signs D_field_of D_words_of F11 (PySem.W.mg_of X G a11) b11
  have D_has_digits : Cal l.prog w K mg base 1 "has_digits" (spD 1 P_has_digits) := cal_has_digits M XF F12 (PySem.W.mg_of X G a12) b12
  have D_read_machine : CalX l.prog w K mg base 4 "read_machine" (spX 1 (P_read_machine (ec mg))) := cal_read_machine M XF D_has_digits D_is_good D_machine_frame F13 (PySem.W.mg_of X G a13) b13
  have D__law_cell : Cal l.prog w K mg base 1 "_law_cell" (spD 2 P__law_cell) := cal__law_cell M XF F14 (PySem.W.mg_of X G a14) b14
  have D__law_numbers : Cal l.prog w K mg base 1 "_law_numbers" (spD 3 P__law_numbers) := cal__law_numbers M XF F15 (PySem.W.mg_of X G a15) b15
  have D__law_same : Cal l.prog w K mg base 5 "_law_same" (spD 2 P__law_same) := cal__law_same M XF F16 (PySem.W.mg_of X G a16) b16
  have D__law_words_in : Cal l.prog w K mg base 1 "_law_words_in" (spD 1 P__law_words_in) := cal__law_words_in M XF F17 (PySem.W.mg_of X G a17) b17
  have D__law_field : Cal l.prog w K mg base 1 "_law_field" (spD 1 P__law_field) := cal__law_field M XF F18 (PySem.W.mg_of X G a18) b18
  have D__law_values : Cal l.prog w K mg base 1 "_law_values" (spD 1 P__law_values) := cal__law_values M XF F19 (PySem.W.mg_of X G a19) b19
  have D__law_with_checks : Cal l.prog w K mg base 2 "_law_with_checks" (spD 1 P__law_with_checks) := cal__law_with_checks M XF D__law_values F20 (PySem.W.mg_of X G a20) b20
  have D__law_machine_line : Cal l.prog w K mg base 3 "_law_machine_line" (spD 3 P__law_machine_line) := cal__law_machine_line M XF D__law_field D__law_with_checks F21 (PySem.W.mg_of X G a21) b21
  have D__law_good_machine : Cal l.prog w K mg base 2 "_law_good_machine" (spD 1 P__law_good_machine) := cal__law_good_machine M XF D__law_values F22 (PySem.W.mg_of X G a22) b22
  have D__law_long_name : Cal l.prog w K mg base 2 "_law_long_name" (spD 1 P__law_long_name) := cal__law_long_name M XF D__law_numbers F23 (PySem.W.mg_of X G a23) b23
  have D__law_read : Cal l.prog w K mg base 3 "_law_read" (spD 1 P__law_read) := cal__law_read M XF D__law_good_machine F24 (PySem.W.mg_of X G a24) b24
  have D__law_told_line : Cal l.prog w K mg base 4 "_law_told_line" (spD 3 P__law_told_line) := cal__law_told_line M XF D_machine_line F25 (PySem.W.mg_of X G a25) b25
  have D__law_told_back : Cal l.prog w K mg base 5 "_law_told_back" (spD 1 P__law_told_back) := cal__law_told_back M XF D_read_machine F26 (PySem.W.mg_of X G a26) b26
  have D__law_strings : Cal l.prog w K mg base 3 "_law_strings" (spD 2 P__law_strings) := cal__law_strings M XF D__law_with_checks F27 (PySem.W.mg_of X G a27) b27
  exact ok_law M XF D__law_cell D__law_field D__law_long_name D__law_machine_line D__law_numbers D__law_read D__law_same D__law_strings D__law_told_back D__law_told_line D__law_words_in D_field_of D_machine_frame D_read_machine D_words_of F28

end PL
open PySem PySem.W PyProof.Rows
set_option maxHeartbeats 0 in
theorem PySem.Challenge.cw_lettersacross_k79_machine_lines_cut_writ_holds : PySem.Challenge.rw_lettersacross_k79_machine_lines_cut_writ.Holds := by
  w_on; o_law; k_head; (case hw => w_witness2)
  k_fill
  refine L2.walk_of (l := PySem.Challenge.rw_lettersacross_k79_machine_lines_cut_writ) (n := 63) (k := 6) (x := "script") (CX := fun _ => L2.CX0) (sp := fun _ => PL.spD 1 PL.P_law) rfl (by decide) rfl ⟨rfl, by decide, by decide⟩ (fun w h Y => PySem.W.kIn_of Y) ?F ?hsp (fun _ _ _ _ _ h => h)
  case hsp =>
    intro w H a ns hl hO hS
    refine PL.law_sp ?hk hO hS ⟨ns, rfl, hl, rfl⟩
    (case hk => kernel_rfl)
  case F =>
    intro w mg fa h KX G hmg
    refine' PL.all_mk KX G hmg ?a0 ?l0 ?c0 ?k0 ?a1 ?l1 ?c1 ?k1 ?a2 ?l2 ?c2 ?k2 ?a3 ?l3 ?c3 ?k3 ?a4 ?l4 ?c4 ?k4 ?a5 ?l5 ?c5 ?k5 ?a6 ?l6 ?c6 ?k6 ?a7 ?l7 ?c7 ?k7 ?a8 ?l8 ?c8 ?k8 ?a9 ?l9 ?c9 ?k9 ?a10 ?l10 ?c10 ?k10 ?a11 ?l11 ?c11 ?k11 ?a12 ?l12 ?c12 ?k12 ?a13 ?l13 ?c13 ?k13 ?a14 ?l14 ?c14 ?k14 ?a15 ?l15 ?c15 ?k15 ?a16 ?l16 ?c16 ?k16 ?a17 ?l17 ?c17 ?k17 ?a18 ?l18 ?c18 ?k18 ?a19 ?l19 ?c19 ?k19 ?a20 ?l20 ?c20 ?k20 ?a21 ?l21 ?c21 ?k21 ?a22 ?l22 ?c22 ?k22 ?a23 ?l23 ?c23 ?k23 ?a24 ?l24 ?c24 ?k24 ?a25 ?l25 ?c25 ?k25 ?a26 ?l26 ?c26 ?k26 ?a27 ?l27 ?c27 ?k27 ?a28 ?l28 ?c28 ?k28 ?z_all ?z_bool ?z_enumerate ?z_int ?z_isinstance ?z_len ?z_list ?z_max ?z_range ?z_str ?z_sum ?z_tuple ?z_zip ?w_CAPITALS ?w_DAY ?w_DIGITS ?w_FIELD ?w_FILL ?w_PERSON ?w_SIZE ?y_InvalidLine ?y_NoWord ?y_ScriptError ?xr_InvalidLine ?xr_NoWord ?kt_InvalidLine_NoWord ?kt_InvalidLine_ScriptError ?kt_NoWord_InvalidLine ?kt_NoWord_ScriptError
    (case a0 => k_is)
    (case l0 => k_is)
    (case c0 => k_is)
    (case k0 => k_is)
    (case a1 => k_is)
    (case l1 => k_is)
    (case c1 => k_is)
    (case k1 => k_is)
    (case a2 => k_is)
    (case l2 => k_is)
    (case c2 => k_is)
    (case k2 => k_is)
    (case a3 => k_is)
    (case l3 => k_is)
    (case c3 => k_is)
    (case k3 => k_is)
    (case a4 => k_is)
    (case l4 => k_is)
    (case c4 => k_is)
    (case k4 => k_is)
    (case a5 => k_is)
    (case l5 => k_is)
    (case c5 => k_is)
    (case k5 => k_is)
    (case a6 => k_is)
    (case l6 => k_is)
    (case c6 => k_is)
    (case k6 => k_is)
    (case a7 => k_is)
    (case l7 => k_is)
    (case c7 => k_is)
    (case k7 => k_is)
    (case a8 => k_is)
    (case l8 => k_is)
    (case c8 => k_is)
    (case k8 => k_is)
    (case a9 => k_is)
    (case l9 => k_is)
    (case c9 => k_is)
    (case k9 => k_is)
    (case a10 => k_is)
    (case l10 => k_is)
    (case c10 => k_is)
    (case k10 => k_is)
    (case a11 => k_is)
    (case l11 => k_is)
    (case c11 => k_is)
    (case k11 => k_is)
    (case a12 => k_is)
    (case l12 => k_is)
    (case c12 => k_is)
    (case k12 => k_is)
    (case a13 => k_is)
    (case l13 => k_is)
    (case c13 => k_is)
    (case k13 => k_is)
    (case a14 => k_is)
    (case l14 => k_is)
    (case c14 => k_is)
    (case k14 => k_is)
    (case a15 => k_is)
    (case l15 => k_is)
    (case c15 => k_is)
    (case k15 => k_is)
    (case a16 => k_is)
    (case l16 => k_is)
    (case c16 => k_is)
    (case k16 => k_is)
    (case a17 => k_is)
    (case l17 => k_is)
    (case c17 => k_is)
    (case k17 => k_is)
    (case a18 => k_is)
    (case l18 => k_is)
    (case c18 => k_is)
    (case k18 => k_is)
    (case a19 => k_is)
    (case l19 => k_is)
    (case c19 => k_is)
    (case k19 => k_is)
    (case a20 => k_is)
    (case l20 => k_is)
    (case c20 => k_is)
    (case k20 => k_is)
    (case a21 => k_is)
    (case l21 => k_is)
    (case c21 => k_is)
    (case k21 => k_is)
    (case a22 => k_is)
    (case l22 => k_is)
    (case c22 => k_is)
    (case k22 => k_is)
    (case a23 => k_is)
    (case l23 => k_is)
    (case c23 => k_is)
    (case k23 => k_is)
    (case a24 => k_is)
    (case l24 => k_is)
    (case c24 => k_is)
    (case k24 => k_is)
    (case a25 => k_is)
    (case l25 => k_is)
    (case c25 => k_is)
    (case k25 => k_is)
    (case a26 => k_is)
    (case l26 => k_is)
    (case c26 => k_is)
    (case k26 => k_is)
    (case a27 => k_is)
    (case l27 => k_is)
    (case c27 => k_is)
    (case k27 => k_is)
    (case a28 => k_is)
    (case l28 => k_is)
    (case c28 => k_is)
    (case k28 => k_is)
    (case z_all => k_is)
    (case z_bool => k_is)
    (case z_enumerate => k_is)
    (case z_int => k_is)
    (case z_isinstance => k_is)
    (case z_len => k_is)
    (case z_list => k_is)
    (case z_max => k_is)
    (case z_range => k_is)
    (case z_str => k_is)
    (case z_sum => k_is)
    (case z_tuple => k_is)
    (case z_zip => k_is)
    (case w_CAPITALS => k_is)
    (case w_DAY => k_is)
    (case w_DIGITS => k_is)
    (case w_FIELD => k_is)
    (case w_FILL => k_is)
    (case w_PERSON => k_is)
    (case w_SIZE => k_is)
    (case y_InvalidLine => k_is)
    (case y_NoWord => k_is)
    (case y_ScriptError => k_is)
    (case xr_InvalidLine => refine ⟨?_, ?_, ?_, ?_, ?_, ⟨?_, ?_, ?_, ?_, ?_, ?_, ?_, ?_⟩⟩ <;> first | k_is | k_exc | kernel_rfl)
    (case xr_NoWord => refine ⟨?_, ?_, ?_, ?_, ?_, ⟨?_, ?_, ?_, ?_, ?_, ?_, ?_, ?_⟩⟩ <;> first | k_is | k_exc | kernel_rfl)
    (case kt_InvalidLine_NoWord => kernel_rfl)
    (case kt_InvalidLine_ScriptError => kernel_rfl)
    (case kt_NoWord_InvalidLine => kernel_rfl)
    (case kt_NoWord_ScriptError => kernel_rfl)


