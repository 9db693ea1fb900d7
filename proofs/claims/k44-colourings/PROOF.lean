import PyProof.Rows.All
import Wide.All
import OpenK.AllK
import Wide.FinOn
import KE.KStateDown
import Lean
import HandS.Base
import HandS.Call
import HandS.Ends
import HandS.More
import HandS.Words
import HandS.WordsExc
import HandS.Defaults
import HandS.Head0
import HandS.Head1
import HandS.Head2
import HandS.HeadEnd
import HandS.HeadHook1
import HandS.HeadHook2
import HandS.ForMost
import HandS.Walk
import HandS.IsInst
import HandS.Deep
import HandS.TupAny
import HandS.Style
import HandS.TupLen
import HandS.SortInts
import KE.SortData
import HandS.DictComp
import HandS.Conv
import KE.OsArith
import KE.KEqDeep
import PySem.Challenge.RW_turnedapart_k44_whole_colourings
set_option Elab.async false
set_option linter.all false
set_option maxRecDepth 100000
set_option maxHeartbeats 0
/-! CL, a layer of plain values over HandS: data D, what stands for them (Rv), slots that own what they hold (Sl), states (Rs). -/
namespace CL
open PySem PySem.Spec PyProof.Rows L2
/-- plain data: what a value stands for -/
inductive D where
  | non | bl (b : Bool) | int (i : Int) | str (x : Str)
  | tup (ds : List D) | lst (ds : List D) | dic (t : Bool) (kvs : List (D × D)) | ins (c : Str) (fs : List (Str × D))
  deriving Inhabited
def kD : Key → D
  | .inl i => .int i
  | .inr x => .str x
mutual
/-- v stands for d, by what stands in F (never changed) -/
inductive Rv (K : PySem.W.Frag) (F : Hp) : V → D → Prop
  | non : Rv K F .non .non
  | bl (b : Bool) : Rv K F (.bl b) (.bl b)
  | int (i : Int) : Rv K F (.int i) (.int i)
  | str (x : Str) : Rv K F (.str x) (.str x)
  | tup {a : Addr} {xs : List V} {ds : List D} : F a = some (.tup xs) → RvA K F xs ds → Rv K F (.ref a) (.tup ds)
  | lst {a : Addr} {xs : List V} {ds : List D} : F a = some (.lst xs) → RvA K F xs ds → Rv K F (.ref a) (.lst ds)
  | dK {a : Addr} {kvs : List (Key × V)} {ds : List (D × D)} : F a = some (.dK kvs) → RvM K F (kvs.map fun p => (kD p.1, p.2)) ds → Rv K F (.ref a) (.dic false ds)
  | dT {a : Addr} {kvs : List (List Key × V)} {ds : List (D × D)} : F a = some (.dT kvs) → RvM K F (kvs.map fun p => (D.tup (p.1.map kD), p.2)) ds → Rv K F (.ref a) (.dic true ds)
  | ins {a dx : Addr} {fs : List (Str × V)} {ds : List (Str × D)} {c : Str} : F a = some (.ins (He.ga K c) dx fs) → RvF K F fs ds → Rv K F (.ref a) (.ins c ds)
inductive RvA (K : PySem.W.Frag) (F : Hp) : List V → List D → Prop
  | nil : RvA K F [] []
  | cons {v : V} {vs : List V} {d : D} {ds : List D} : Rv K F v d → RvA K F vs ds → RvA K F (v :: vs) (d :: ds)
inductive RvM (K : PySem.W.Frag) (F : Hp) : List (D × V) → List (D × D) → Prop
  | nil : RvM K F [] []
  | cons {k : D} {v : V} {vs : List (D × V)} {d : D} {ds : List (D × D)} : Rv K F v d → RvM K F vs ds → RvM K F ((k, v) :: vs) ((k, d) :: ds)
inductive RvF (K : PySem.W.Frag) (F : Hp) : List (Str × V) → List (Str × D) → Prop
  | nil : RvF K F [] []
  | cons {k : Str} {v : V} {vs : List (Str × V)} {d : D} {ds : List (Str × D)} : Rv K F v d → RvF K F vs ds → RvF K F ((k, v) :: vs) ((k, d) :: ds)
end
section
variable {K : PySem.W.Frag} {F F' : Hp}
mutual
theorem Rv.mono (s : Same F F') : ∀ (d : D) (v : V), Rv K F v d → Rv K F' v d
  | .non, _, h => by cases h; exact .non
  | .bl _, _, h => by cases h; exact .bl _
  | .int _, _, h => by cases h; exact .int _
  | .str _, _, h => by cases h; exact .str _
  | .tup ds, _, h => by cases h with | tup h1 h2 => exact .tup (s _ _ h1) (RvA.mono s ds _ h2)
  | .lst ds, _, h => by cases h with | lst h1 h2 => exact .lst (s _ _ h1) (RvA.mono s ds _ h2)
  | .dic false ds, _, h => by cases h with | dK h1 h2 => exact .dK (s _ _ h1) (RvM.mono s ds _ h2)
  | .dic true ds, _, h => by cases h with | dT h1 h2 => exact .dT (s _ _ h1) (RvM.mono s ds _ h2)
  | .ins c ds, _, h => by cases h with | ins h1 h2 => exact .ins (s _ _ h1) (RvF.mono s ds _ h2)
theorem RvA.mono (s : Same F F') : ∀ (ds : List D) (vs : List V), RvA K F vs ds → RvA K F' vs ds
  | [], _, h => by cases h; exact .nil
  | d :: ds, _, h => by cases h with | cons h1 h2 => exact .cons (Rv.mono s d _ h1) (RvA.mono s ds _ h2)
theorem RvM.mono (s : Same F F') : ∀ (ds : List (D × D)) (vs : List (D × V)), RvM K F vs ds → RvM K F' vs ds
  | [], _, h => by cases h; exact .nil
  | (k, d) :: ds, _, h => by cases h with | cons h1 h2 => exact .cons (Rv.mono s d _ h1) (RvM.mono s ds _ h2)
theorem RvF.mono (s : Same F F') : ∀ (ds : List (Str × D)) (vs : List (Str × V)), RvF K F vs ds → RvF K F' vs ds
  | [], _, h => by cases h; exact .nil
  | (k, d) :: ds, _, h => by cases h with | cons h1 h2 => exact .cons (Rv.mono s d _ h1) (RvF.mono s ds _ h2)
end
end
theorem Rv.up {K : PySem.W.Frag} {F F' : Hp} {d : D} {v : V} (h : Rv K F v d) (s : Same F F') : Rv K F' v d := Rv.mono s d v h
theorem RvA.up {K : PySem.W.Frag} {F F' : Hp} {ds : List D} {vs : List V} (h : RvA K F vs ds) (s : Same F F') : RvA K F' vs ds := RvA.mono s ds vs h
theorem RvM.up {K : PySem.W.Frag} {F F' : Hp} {ds : List (D × D)} {vs : List (D × V)} (h : RvM K F vs ds) (s : Same F F') : RvM K F' vs ds := RvM.mono s ds vs h
theorem RvF.up {K : PySem.W.Frag} {F F' : Hp} {ds : List (Str × D)} {vs : List (Str × V)} (h : RvF K F vs ds) (s : Same F F') : RvF K F' vs ds := RvF.mono s ds vs h
section
variable {K : PySem.W.Frag} {F : Hp}
theorem RvA.length : ∀ {vs : List V} {ds : List D}, RvA K F vs ds → vs.length = ds.length
  | _, _, .nil => rfl
  | _, _, .cons _ t => by rw [List.length_cons, List.length_cons, RvA.length t]
theorem RvA.get : ∀ {vs : List V} {ds : List D} {i : Nat} {d : D}, RvA K F vs ds → ds[i]? = some d → ∃ v, vs[i]? = some v ∧ Rv K F v d
  | _, _, _, _, .nil, e => by simp at e
  | _, _, 0, _, .cons r _, e => by simp at e; subst e; exact ⟨_, rfl, r⟩
  | _, _, i + 1, d, .cons _ t, e => by
    obtain ⟨u, h1, h2⟩ := RvA.get (i := i) (d := d) t (by simpa using e)
    exact ⟨u, by simpa using h1, h2⟩
theorem RvA.get' : ∀ {vs : List V} {ds : List D} {i : Nat} {v : V}, RvA K F vs ds → vs[i]? = some v → ∃ d, ds[i]? = some d ∧ Rv K F v d
  | _, _, _, _, .nil, e => by simp at e
  | _, _, 0, _, .cons r _, e => by simp at e; subst e; exact ⟨_, rfl, r⟩
  | _, _, i + 1, v, .cons _ t, e => by
    obtain ⟨u, h1, h2⟩ := RvA.get' (i := i) (v := v) t (by simpa using e)
    exact ⟨u, by simpa using h1, h2⟩
theorem RvA.append : ∀ {vs ws : List V} {ds es : List D}, RvA K F vs ds → RvA K F ws es → RvA K F (vs ++ ws) (ds ++ es)
  | _, _, _, _, .nil, s => s
  | _, _, _, _, .cons r t, s => .cons r (RvA.append t s)
theorem RvA.take : ∀ {vs : List V} {ds : List D} (n : Nat), RvA K F vs ds → RvA K F (vs.take n) (ds.take n)
  | _, _, 0, _ => by simp; exact .nil
  | _, _, _ + 1, .nil => .nil
  | _, _, n + 1, .cons r t => .cons r (RvA.take n t)
theorem RvA.drop : ∀ {vs : List V} {ds : List D} (n : Nat), RvA K F vs ds → RvA K F (vs.drop n) (ds.drop n)
  | _, _, 0, r => r
  | _, _, _ + 1, .nil => .nil
  | _, _, n + 1, .cons _ t => RvA.drop n t
theorem RvA.set : ∀ {vs : List V} {ds : List D} (i : Nat) {v : V} {d : D}, RvA K F vs ds → Rv K F v d → RvA K F (vs.set i v) (ds.set i d)
  | _, _, _, _, _, .nil, _ => .nil
  | _, _, 0, _, _, .cons _ t, r => .cons r t
  | _, _, i + 1, _, _, .cons q t, r => .cons q (RvA.set i t r)
theorem RvA.erase : ∀ {vs : List V} {ds : List D} (i : Nat), RvA K F vs ds → RvA K F (vs.eraseIdx i) (ds.eraseIdx i)
  | _, _, _, .nil => .nil
  | _, _, 0, .cons _ t => t
  | _, _, i + 1, .cons q t => .cons q (RvA.erase i t)
theorem RvA.dropLast {vs : List V} {ds : List D} (r : RvA K F vs ds) : RvA K F vs.dropLast ds.dropLast := by
  rw [List.dropLast_eq_take, List.dropLast_eq_take, r.length]; exact r.take _
theorem RvA.reverse : ∀ {vs : List V} {ds : List D}, RvA K F vs ds → RvA K F vs.reverse ds.reverse
  | _, _, .nil => .nil
  | _, _, .cons r t => by rw [List.reverse_cons, List.reverse_cons]; exact (RvA.reverse t).append (.cons r .nil)
theorem RvM.length : ∀ {vs : List (D × V)} {ds : List (D × D)}, RvM K F vs ds → vs.length = ds.length
  | _, _, .nil => rfl
  | _, _, .cons _ t => by rw [List.length_cons, List.length_cons, RvM.length t]
end
/-! ### data are equal or not -/
mutual
def D.beq : D → D → Bool
  | .non, .non => true
  | .bl a, .bl b => decide (a = b)
  | .int a, .int b => decide (a = b)
  | .str a, .str b => decide (a = b)
  | .tup a, .tup b => D.beqA a b
  | .lst a, .lst b => D.beqA a b
  | .dic t a, .dic u b => decide (t = u) && D.beqM a b
  | .ins c a, .ins d b => decide (c = d) && D.beqF a b
  | _, _ => false
def D.beqA : List D → List D → Bool
  | [], [] => true
  | x :: xs, y :: ys => D.beq x y && D.beqA xs ys
  | _, _ => false
def D.beqM : List (D × D) → List (D × D) → Bool
  | [], [] => true
  | (x, u) :: xs, (y, v) :: ys => D.beq x y && (D.beq u v && D.beqM xs ys)
  | _, _ => false
def D.beqF : List (Str × D) → List (Str × D) → Bool
  | [], [] => true
  | (x, u) :: xs, (y, v) :: ys => decide (x = y) && (D.beq u v && D.beqF xs ys)
  | _, _ => false
end
mutual
theorem D.beq_iff : ∀ a b : D, D.beq a b = true ↔ a = b
  | .non, b => by cases b <;> simp [D.beq]
  | .bl _, b => by cases b <;> simp [D.beq]
  | .int _, b => by cases b <;> simp [D.beq]
  | .str _, b => by cases b <;> simp [D.beq]
  | .tup a, b => by cases b <;> simp [D.beq, D.beqA_iff a]
  | .lst a, b => by cases b <;> simp [D.beq, D.beqA_iff a]
  | .dic t a, b => by cases b <;> simp [D.beq, D.beqM_iff a]
  | .ins c a, b => by cases b <;> simp [D.beq, D.beqF_iff a]
theorem D.beqA_iff : ∀ a b : List D, D.beqA a b = true ↔ a = b
  | [], b => by cases b <;> simp [D.beqA]
  | x :: xs, b => by cases b <;> simp [D.beqA, D.beq_iff x, D.beqA_iff xs]
theorem D.beqM_iff : ∀ a b : List (D × D), D.beqM a b = true ↔ a = b
  | [], b => by cases b <;> simp [D.beqM]
  | (x, u) :: xs, b => by
    cases b with
    | nil => simp [D.beqM]
    | cons y ys => obtain ⟨y1, y2⟩ := y; simp [D.beqM, D.beq_iff x, D.beq_iff u, D.beqM_iff xs, and_assoc]
theorem D.beqF_iff : ∀ a b : List (Str × D), D.beqF a b = true ↔ a = b
  | [], b => by cases b <;> simp [D.beqF]
  | (x, u) :: xs, b => by
    cases b with
    | nil => simp [D.beqF]
    | cons y ys => obtain ⟨y1, y2⟩ := y; simp [D.beqF, D.beq_iff u, D.beqF_iff xs, and_assoc]
end
instance : DecidableEq D := fun a b => if h : D.beq a b = true then isTrue ((D.beq_iff a b).mp h) else isFalse fun e => h ((D.beq_iff a b).mpr e)
/-! ### data of the model (PyData) -/
mutual
def D.py : D → PyData
  | .non => .none
  | .bl b => .bool b
  | .int i => .int i
  | .str x => .str x
  | .tup ds => .tuple (D.pyA ds)
  | .lst ds => .list (D.pyA ds)
  | .dic _ _ => .none
  | .ins _ _ => .none
def D.pyA : List D → List PyData
  | [] => []
  | d :: ds => D.py d :: D.pyA ds
end
mutual
/-- neither dicts nor instances within, shallow, sound texts -/
def D.plain : Nat → D → Bool
  | _, .non => true
  | _, .bl _ => true
  | _, .int _ => true
  | _, .str x => PyData.strOk x
  | 0, .tup _ => false
  | 0, .lst _ => false
  | n + 1, .tup ds => D.plainA n ds
  | n + 1, .lst ds => D.plainA n ds
  | _, .dic _ _ => false
  | _, .ins _ _ => false
def D.plainA : Nat → List D → Bool
  | _, [] => true
  | n, d :: ds => D.plain n d && D.plainA n ds
end
mutual
theorem Rv.dp {K : PySem.W.Frag} {H : Hp} : ∀ (n : Nat) (d : D) (v : V), D.plain n d = true → Rv K H v d → Dp K H v (D.py d)
  | _, .non, _, _, h => by cases h; simp only [D.py]; exact .non
  | _, .bl _, _, _, h => by cases h; simp only [D.py]; exact .bl _
  | _, .int _, _, _, h => by cases h; simp only [D.py]; exact .int _
  | _, .str _, _, _, h => by cases h; simp only [D.py]; exact .str _
  | 0, .tup ds, _, p, h => by simp [D.plain] at p
  | 0, .lst ds, _, p, h => by simp [D.plain] at p
  | n + 1, .tup ds, _, p, h => by
    cases h with
    | tup h1 h2 => simp only [D.py]; exact .tup (SqT.of h1) (RvA.dp n ds _ (by simpa [D.plain] using p) h2)
  | n + 1, .lst ds, _, p, h => by
    cases h with
    | lst h1 h2 => simp only [D.py]; exact .lst (SqL.of h1) (RvA.dp n ds _ (by simpa [D.plain] using p) h2)
  | _, .dic _ _, _, p, _ => by simp [D.plain] at p
  | _, .ins _ _, _, p, _ => by simp [D.plain] at p
theorem RvA.dp {K : PySem.W.Frag} {H : Hp} : ∀ (n : Nat) (ds : List D) (vs : List V), D.plainA n ds = true → RvA K H vs ds → DpAll K H vs (D.pyA ds)
  | _, [], _, _, h => by cases h; simp only [D.pyA]; exact .nil
  | n, d :: ds, _, p, h => by
    have p' : D.plain n d = true ∧ D.plainA n ds = true := by simpa [D.plainA] using p
    cases h with
    | cons h1 h2 => simp only [D.pyA]; exact .cons (Rv.dp n d _ p'.1 h1) (RvA.dp n ds _ p'.2 h2)
end
mutual
theorem plain_lay : ∀ (n : Nat) (d : D), D.plain n d = true → (D.py d).canLay0 = true ∧ (D.py d).depth ≤ n
  | _, .non, _ => by simp [D.py, PyData.canLay0, PyData.depth]
  | _, .bl _, _ => by simp [D.py, PyData.canLay0, PyData.depth]
  | _, .int _, _ => by simp [D.py, PyData.canLay0, PyData.depth]
  | _, .str _, p => by simpa [D.py, PyData.canLay0, PyData.depth, D.plain] using p
  | 0, .tup _, p => by simp [D.plain] at p
  | 0, .lst _, p => by simp [D.plain] at p
  | n + 1, .tup ds, p => by
    have q := plain_layA n ds (by simpa [D.plain] using p)
    simp only [D.py, PyData.canLay0, PyData.depth]
    exact ⟨q.1, by omega⟩
  | n + 1, .lst ds, p => by
    have q := plain_layA n ds (by simpa [D.plain] using p)
    simp only [D.py, PyData.canLay0, PyData.depth]
    exact ⟨q.1, by omega⟩
  | _, .dic _ _, p => by simp [D.plain] at p
  | _, .ins _ _, p => by simp [D.plain] at p
theorem plain_layA : ∀ (n : Nat) (ds : List D), D.plainA n ds = true → PyData.canLayAll0 (D.pyA ds) = true ∧ PyData.depthAll (D.pyA ds) ≤ n
  | _, [], _ => by simp [D.pyA, PyData.canLayAll0, PyData.depthAll]
  | n, d :: ds, p => by
    have p' : D.plain n d = true ∧ D.plainA n ds = true := by simpa [D.plainA] using p
    have q1 := plain_lay n d p'.1
    have q2 := plain_layA n ds p'.2
    simp only [D.pyA, PyData.canLayAll0, PyData.depthAll]
    exact ⟨by rw [q1.1, q2.1]; rfl, by omega⟩
end
theorem plain_shaped {d : D} (h : D.plain 30 d = true) : SeqAt.shaped (D.py d) = true := by
  have q := plain_lay 30 d h
  show ((D.py d).canLay0 && decide ((D.py d).depth ≤ 64)) = true
  rw [q.1, decide_eq_true (show (D.py d).depth ≤ 64 by omega)]; rfl
/-! ### growth: new things, F's among them -/
structure Ex (F H F' H' : Hp) : Prop where
  ff : Same F F'
  hh : Same H H'
  fh : Same F' H'
  nw : ∀ b, F b = none → H b ≠ none → F' b = none
theorem same_upd {H : Hp} {p : Addr} {o : HO} (h : H p = none) : Same H (upd H p o) := fun b x e => by
  rw [upd_ne (ne_of_none e h)]
  exact e
section
variable {F H F' H' F2 H2 : Hp} {p : Addr} {o : HO}
theorem Ex.refl (s : Same F H) : Ex F H F H := ⟨Same.refl _, Same.refl _, s, fun _ e _ => e⟩
theorem Ex.trans (a : Ex F H F' H') (b : Ex F' H' F2 H2) : Ex F H F2 H2 := ⟨a.ff.trans b.ff, a.hh.trans b.hh, b.fh, fun c e n => b.nw c (a.nw c e n) (by
  cases q : H c with
  | none => exact absurd q n
  | some u => rw [a.hh c u q]; intro z; cases z)⟩
theorem none_of (s : Same F H) (h : H p = none) : F p = none := by
  cases q : F p with
  | none => rfl
  | some u => rw [s p u q] at h; cases h
theorem same_upd2 (s : Same F H) : Same (upd F p o) (upd H p o) := fun b x e => by
  by_cases hb : b = p
  · subst hb; rw [upd_same] at e ⊢; exact e
  · rw [upd_ne hb] at e ⊢; exact s b x e
theorem Ex.new (s : Same F H) (h : H p = none) : Ex F H (upd F p o) (upd H p o) := ⟨same_upd (none_of s h), same_upd h, same_upd2 s, fun b e n => by
  rw [upd_ne (by rintro rfl; exact n h)]; exact e⟩
theorem Ex.newH (s : Same F H) (h : H p = none) : Ex F H F (upd H p o) := ⟨Same.refl _, same_upd h, s.trans (same_upd h), fun _ e _ => e⟩
end
/-- F grows, but not into N -/
structure Mo (N F F' : Hp) : Prop where
  ff : Same F F'
  nw : ∀ b, N b ≠ none → F b = none → F' b = none
theorem Mo.refl (N F : Hp) : Mo N F F := ⟨Same.refl _, fun _ _ e => e⟩
theorem Mo.trans {N F F' F2 : Hp} (a : Mo N F F') (b : Mo N F' F2) : Mo N F F2 := ⟨a.ff.trans b.ff, fun c n e => b.nw c n (a.nw c n e)⟩
theorem Ex.mo {N F H F' H' : Hp} (e : Ex F H F' H') (n : Same N H) : Mo N F F' := ⟨e.ff, fun b hb hf => e.nw b hf (by
  cases q : N b with
  | none => exact absurd q hb
  | some u => rw [n b u q]; intro z; cases z)⟩
/-! ### slots -/
/-- something that a slot owns, by a description of its own -/
structure OwnP where
  p : PySem.W.Frag → Hp → Hp → V → List Addr → Prop
  loc : ∀ K F F' H H' v fp, p K F H v fp → Same F F' → (∀ b ∈ fp, ∀ o, H b = some o → H' b = some o) → p K F' H' v fp
  trk : ∀ K F H v fp, p K F H v fp → ∀ b ∈ fp, H b ≠ none
/-- what a slot holds: nothing that is known; data for good; a list, a list of lists, a dict, another thing, an instance that it alone owns -/
inductive Sl where
  | un | fz (d : D) | ow (ds : List D) | oo (dss : List (List D)) | od (t : Bool) (kvs : List (D × D)) | ob (P : OwnP) | op (p : Addr) (ds : List D) | oi (x dx : Addr) (c : Str) (fs : List (Str × D))
abbrev Ev := List Sl
inductive All2 {α β : Type} (R : α → β → Prop) : List α → List β → Prop
  | nil : All2 R [] []
  | cons {a : α} {b : β} {as : List α} {bs : List β} : R a b → All2 R as bs → All2 R (a :: as) (b :: bs)
/-- a dict's object stands for kvs -/
def DicO (K : PySem.W.Frag) (F : Hp) (o : HO) : Bool → List (D × D) → Prop
  | false, kvs => ∃ ks : List (Key × V), o = .dK ks ∧ RvM K F (ks.map fun p => (kD p.1, p.2)) kvs
  | true, kvs => ∃ ks : List (List Key × V), o = .dT ks ∧ RvM K F (ks.map fun p => (D.tup (p.1.map kD), p.2)) kvs
def SlOk (K : PySem.W.Frag) (F H : Hp) (s : Sl) (o : Option (Option V)) (fp : List Addr) : Prop := match s with
  | .un => fp = []
  | .fz d => fp = [] ∧ ∃ v, o = some (some v) ∧ Rv K F v d
  | .ow ds => ∃ p vs, o = some (some (.ref p)) ∧ fp = [p] ∧ H p = some (.lst vs) ∧ RvA K F vs ds
  | .oo dss => ∃ p qs, o = some (some (.ref p)) ∧ fp = p :: qs ∧ H p = some (.lst (qs.map .ref)) ∧ All2 (fun q ds => ∃ vs, H q = some (.lst vs) ∧ RvA K F vs ds) qs dss
  | .od t kvs => ∃ p ob, o = some (some (.ref p)) ∧ fp = [p] ∧ H p = some ob ∧ DicO K F ob t kvs
  | .ob P => ∃ v, o = some (some v) ∧ P.p K F H v fp
  | .op p ds => ∃ vs, o = some (some (.ref p)) ∧ fp = [p] ∧ H p = some (.lst vs) ∧ RvA K F vs ds
  | .oi x dx c fs => ∃ vs, o = some (some (.ref x)) ∧ fp = [x] ∧ H x = some (.ins (He.ga K c) dx vs) ∧ RvF K F vs fs
theorem All2.mono {α β : Type} {R R' : α → β → Prop} : ∀ {as : List α} {bs : List β}, All2 R as bs → (∀ a b, a ∈ as → R a b → R' a b) → All2 R' as bs
  | _, _, .nil, _ => .nil
  | _, _, .cons r t, f => .cons (f _ _ List.mem_cons_self r) (All2.mono t fun a b h => f a b (List.mem_cons_of_mem _ h))
theorem DicO.up {K : PySem.W.Frag} {F F' : Hp} {o : HO} {t : Bool} {kvs : List (D × D)} (h : DicO K F o t kvs) (s : Same F F') : DicO K F' o t kvs := by
  cases t with
  | false => obtain ⟨ks, e, r⟩ := h; exact ⟨ks, e, r.up s⟩
  | true => obtain ⟨ks, e, r⟩ := h; exact ⟨ks, e, r.up s⟩
theorem SlOk.up {K : PySem.W.Frag} {F F' H H' : Hp} {s : Sl} {o : Option (Option V)} {fp : List Addr} (h : SlOk K F H s o fp) (sf : Same F F') (k : ∀ b ∈ fp, ∀ u, H b = some u → H' b = some u) : SlOk K F' H' s o fp := by
  cases s with
  | un => exact h
  | fz d => obtain ⟨e, v, e2, r⟩ := h; exact ⟨e, v, e2, r.up sf⟩
  | ow ds => obtain ⟨p, vs, e1, e2, e3, r⟩ := h; exact ⟨p, vs, e1, e2, k p (by simp [e2]) _ e3, r.up sf⟩
  | oo dss =>
    obtain ⟨p, qs, e1, e2, e3, r⟩ := h
    exact ⟨p, qs, e1, e2, k p (by simp [e2]) _ e3, r.mono fun q ds hq ⟨vs, e, rr⟩ => ⟨vs, k q (by simp [e2, hq]) _ e, rr.up sf⟩⟩
  | od t kvs => obtain ⟨p, ob, e1, e2, e3, r⟩ := h; exact ⟨p, ob, e1, e2, k p (by simp [e2]) _ e3, r.up sf⟩
  | ob P => obtain ⟨v, e1, r⟩ := h; exact ⟨v, e1, P.loc _ _ _ _ _ _ _ r sf k⟩
  | op p ds => obtain ⟨vs, e1, e2, e3, r⟩ := h; exact ⟨vs, e1, e2, k p (by simp [e2]) _ e3, r.up sf⟩
  | oi x dx c fs => obtain ⟨vs, e1, e2, e3, r⟩ := h; exact ⟨vs, e1, e2, k x (by simp [e2]) _ e3, r.up sf⟩
theorem SlOk.trk {K : PySem.W.Frag} {F H : Hp} {s : Sl} {o : Option (Option V)} {fp : List Addr} (h : SlOk K F H s o fp) : ∀ b ∈ fp, H b ≠ none := by
  intro b hb
  have sm : ∀ {z : Option HO} {u : HO}, z = some u → z ≠ none := fun e q => by rw [e] at q; cases q
  cases s with
  | un => cases h; cases hb
  | fz d => obtain ⟨e, _⟩ := h; subst e; cases hb
  | ow ds => obtain ⟨p, vs, e1, e2, e3, r⟩ := h; subst e2; simp at hb; subst hb; exact sm e3
  | oo dss =>
    obtain ⟨p, qs, e1, e2, e3, r⟩ := h
    subst e2
    rcases List.mem_cons.mp hb with rfl | hb
    · exact sm e3
    · have : ∀ {as : List Addr} {bs : List (List D)}, All2 (fun q ds => ∃ vs, H q = some (.lst vs) ∧ RvA K F vs ds) as bs → ∀ b ∈ as, H b ≠ none := by
        intro as bs a
        induction a with
        | nil => intro b hb; cases hb
        | cons r _ ih =>
          intro b hb
          rcases List.mem_cons.mp hb with rfl | hb
          · obtain ⟨vs, e, _⟩ := r; exact sm e
          · exact ih b hb
      exact this r b hb
  | od t kvs => obtain ⟨p, ob, e1, e2, e3, r⟩ := h; subst e2; simp at hb; subst hb; exact sm e3
  | ob P => obtain ⟨v, e1, r⟩ := h; exact P.trk _ _ _ _ _ r b hb
  | op p ds => obtain ⟨vs, e1, e2, e3, r⟩ := h; subst e2; simp at hb; subst hb; exact sm e3
  | oi x dx c fs => obtain ⟨vs, e1, e2, e3, r⟩ := h; subst e2; simp at hb; subst hb; exact sm e3
/-! ### states -/
/-- the slots σ over H stand for ρ; F: what is for good; N: what must stay as it is besides; fps: what each slot owns -/
structure RsF (K : PySem.W.Frag) (N F H : Hp) (σ : L2.St) (ρ : Ev) (fps : Nat → List Addr) : Prop where
  fh : Same F H
  nh : Same N H
  len : ρ.length = σ.length
  ok : ∀ i s, ρ[i]? = some s → SlOk K F H s σ[i]? (fps i)
  nd : ∀ i, (fps i).Nodup
  dj : ∀ i j p, p ∈ fps i → p ∈ fps j → i = j
  out : ∀ i p, p ∈ fps i → F p = none ∧ N p = none ∧ H p ≠ none
def Rs (K : PySem.W.Frag) (N F H : Hp) (σ : L2.St) (ρ : Ev) : Prop := ∃ fps, RsF K N F H σ ρ fps
theorem some_ne {z : Option HO} {u : HO} (e : z = some u) : z ≠ none := fun q => by rw [e] at q; cases q
section
variable {K : PySem.W.Frag} {N F H F' H' : Hp} {σ σ' : L2.St} {ρ : Ev} {i : Nat} {fps : Nat → List Addr}
theorem Rs.fh (R : Rs K N F H σ ρ) : Same F H := let ⟨_, r⟩ := R; r.fh
theorem Rs.nh (R : Rs K N F H σ ρ) : Same N H := let ⟨_, r⟩ := R; r.nh
theorem Rs.len (R : Rs K N F H σ ρ) : ρ.length = σ.length := let ⟨_, r⟩ := R; r.len
theorem Rs.exd (R : Rs K N F H σ ρ) (e : Ex F H F' H') : Rs K N F' H' σ ρ := by
  obtain ⟨fps, r⟩ := R
  refine ⟨fps, e.fh, r.nh.trans e.hh, r.len, fun i s hs => (r.ok i s hs).up e.ff fun b _ u hu => e.hh b u hu, r.nd, r.dj, fun i p hp => ?_⟩
  obtain ⟨q1, q2, q3⟩ := r.out i p hp
  refine ⟨e.nw p q1 q3, q2, ?_⟩
  cases q : H p with
  | none => exact absurd q q3
  | some u => exact some_ne (e.hh p u q)
theorem Rs.fzv {d : D} (R : Rs K N F H σ ρ) (h : ρ[i]? = some (.fz d)) : ∃ v, σ[i]? = some (some v) ∧ Rv K F v d := by
  obtain ⟨fps, r⟩ := R
  obtain ⟨_, v, e, q⟩ := r.ok i _ h
  exact ⟨v, e, q⟩
/-- THE STEP: slot i alone changes -/
theorem RsF.put {s' : Sl} {fp' : List Addr} (r : RsF K N F H σ ρ fps) (hf : Same F F') (hfh : Same F' H') (hn : Same N H') (keep : ∀ b u, H b = some u → b ∉ fps i → H' b = some u)
    (nw : ∀ b, F b = none → H b ≠ none → b ∉ fps i → F' b = none) (hl : σ'.length = σ.length) (hσ : ∀ k, k ≠ i → σ'[k]? = σ[k]?) (ok : i < σ.length → SlOk K F' H' s' σ'[i]? fp') (nd : fp'.Nodup)
    (new : ∀ p ∈ fp', (p ∈ fps i ∨ H p = none) ∧ F' p = none ∧ N p = none ∧ H' p ≠ none) : RsF K N F' H' σ' (ρ.set i s') fun k => if k = i then fp' else fps k := by
  have old : ∀ k p, k ≠ i → p ∈ fps k → p ∉ fps i ∧ H p ≠ none := fun k p hk hp => ⟨fun q => hk (r.dj k i p hp q), (r.out k p hp).2.2⟩
  refine ⟨hfh, hn, by rw [List.length_set, hl, r.len], fun k s hs => ?_, fun k => ?_, fun k j p hk hj => ?_, fun k p hk => ?_⟩
  · by_cases hk : k = i
    · subst hk
      have hi : k < ρ.length := by
        by_cases q : k < ρ.length
        · exact q
        · rw [List.getElem?_eq_none (by simpa using q)] at hs; cases hs
      rw [List.getElem?_set_self hi] at hs
      cases hs
      rw [if_pos rfl]
      exact ok (by rw [← r.len]; exact hi)
    · rw [List.getElem?_set_ne (Ne.symm hk)] at hs
      rw [if_neg hk, hσ k hk]
      exact (r.ok k s hs).up hf fun b hb u hu => keep b u hu (old k b hk hb).1
  · by_cases hk : k = i
    · rw [if_pos hk]; exact nd
    · rw [if_neg hk]; exact r.nd k
  · by_cases h1 : k = i
    · rw [if_pos h1] at hk
      by_cases h2 : j = i
      · rw [h1, h2]
      · rw [if_neg h2] at hj
        obtain ⟨q1, q2⟩ := old j p h2 hj
        rcases (new p hk).1 with z | z
        · exact absurd z q1
        · exact absurd z q2
    · rw [if_neg h1] at hk
      by_cases h2 : j = i
      · rw [if_pos h2] at hj
        obtain ⟨q1, q2⟩ := old k p h1 hk
        rcases (new p hj).1 with z | z
        · exact absurd z q1
        · exact absurd z q2
      · rw [if_neg h2] at hj
        exact r.dj k j p hk hj
  · by_cases h1 : k = i
    · rw [if_pos h1] at hk
      exact (new p hk).2
    · rw [if_neg h1] at hk
      obtain ⟨q1, q2⟩ := old k p h1 hk
      obtain ⟨o1, o2, o3⟩ := r.out k p hk
      refine ⟨nw p o1 o3 q1, o2, ?_⟩
      cases q : H p with
      | none => exact absurd q q2
      | some u => exact some_ne (keep p u q q1)
theorem set_ne {x : Option V} : ∀ k, k ≠ i → (σ.set i x)[k]? = σ[k]? := fun _ hk => List.getElem?_set_ne (Ne.symm hk)
theorem set_self {x : Option V} (h : i < σ.length) : (σ.set i x)[i]? = some x := List.getElem?_set_self h
/-- a slot set to data -/
theorem Rs.setFz {d : D} {v : V} (R : Rs K N F H σ ρ) (q : Rv K F v d) : Rs K N F H (σ.set i (some v)) (ρ.set i (.fz d)) := by
  obtain ⟨fps, r⟩ := R
  exact ⟨_, r.put (fp' := []) (Same.refl _) r.fh r.nh (fun _ _ e _ => e) (fun _ e _ _ => e) (by simp) set_ne (fun hi => by rw [set_self hi]; exact ⟨rfl, v, rfl, q⟩) List.nodup_nil (fun _ hp => by cases hp)⟩
/-- a slot forgotten -/
theorem Rs.setUn (R : Rs K N F H σ ρ) : Rs K N F H σ (ρ.set i .un) := by
  obtain ⟨fps, r⟩ := R
  exact ⟨_, r.put (fp' := []) (Same.refl _) r.fh r.nh (fun _ _ e _ => e) (fun _ e _ _ => e) rfl (fun _ _ => rfl) (fun _ => rfl) List.nodup_nil (fun _ hp => by cases hp)⟩
theorem SlOk.nokeep {s : Sl} {o : Option (Option V)} {fp : List Addr} (h : SlOk K F H s o fp) : ∀ p ∈ fp, H p ≠ none := h.trk
end
end CL
/-! CL 2: judgements of expressions, operands, tests, arguments. -/
namespace CL
open PySem PySem.Spec PyProof.Rows L2
/-- an expression's clean reading -/
abbrev CE := Ev → (D → Ev → Prop) → Prop
abbrev CT := Ev → (Bool → Ev → Prop) → Prop
/-- an operand: data, or the contents of a slot -/
inductive Opd where
  | d (d : D) | s (i : Nat)
abbrev CO := Ev → (Opd → Ev → Prop) → Prop
def known : Option Sl → Bool
  | none => false
  | some .un => false
  | _ => true
def slD : Option Sl → Option D
  | some (.fz d) => some d
  | some (.ow ds) => some (.lst ds)
  | some (.op _ ds) => some (.lst ds)
  | some (.od t kvs) => some (.dic t kvs)
  | _ => none
def res (ρ : Ev) : Opd → Option D
  | .d d => some d
  | .s i => slD ρ[i]?
/-- v stands for d now -/
inductive RvW (K : PySem.W.Frag) (F H : Hp) : V → D → Prop
  | rv {v : V} {d : D} : Rv K F v d → RvW K F H v d
  | ow {p : Addr} {vs : List V} {ds : List D} : H p = some (.lst vs) → RvA K F vs ds → RvW K F H (.ref p) (.lst ds)
  | od {p : Addr} {o : HO} {t : Bool} {kvs : List (D × D)} : H p = some o → DicO K F o t kvs → RvW K F H (.ref p) (.dic t kvs)
def OpdOk (K : PySem.W.Frag) (F : Hp) (σ : L2.St) (v : V) : Opd → Prop
  | .d d => Rv K F v d
  | .s i => σ[i]? = some (some v)
section
variable {K : PySem.W.Frag} {N F H F' H' : Hp} {σ : L2.St} {ρ : Ev} {i : Nat} {v : V} {d : D}
theorem OpdOk.w {o : Opd} (R : Rs K N F H σ ρ) (h : OpdOk K F σ v o) (e : res ρ o = some d) : RvW K F H v d := by
  obtain ⟨fps, r⟩ := R
  cases o with
  | d d' => cases e; exact .rv h
  | s i =>
    have hv : σ[i]? = some (some v) := h
    have e : slD ρ[i]? = some d := e
    cases q : ρ[i]? with
    | none => rw [q] at e; cases e
    | some s =>
      rw [q] at e
      have ok := r.ok i s q
      cases s with
      | fz d' =>
        cases e
        obtain ⟨_, v', e1, rr⟩ := ok
        rw [hv] at e1; cases e1
        exact .rv rr
      | ow ds =>
        cases e
        obtain ⟨p, vs, e1, _, e3, rr⟩ := ok
        rw [hv] at e1; cases e1
        exact .ow e3 rr
      | op p ds =>
        cases e
        obtain ⟨vs, e1, _, e3, rr⟩ := ok
        rw [hv] at e1; cases e1
        exact .ow e3 rr
      | od t kvs =>
        cases e
        obtain ⟨p, ob, e1, _, e3, rr⟩ := ok
        rw [hv] at e1; cases e1
        exact .od e3 rr
      | _ => cases e
theorem OpdOk.up {o : Opd} (h : OpdOk K F σ v o) (s : Same F F') : OpdOk K F' σ v o := by
  cases o with
  | d d' => exact Rv.up h s
  | s i => exact h
theorem Rs.known (R : Rs K N F H σ ρ) (h : known ρ[i]? = true) : ∃ v, σ[i]? = some (some v) := by
  obtain ⟨fps, r⟩ := R
  cases q : ρ[i]? with
  | none => rw [q] at h; cases h
  | some s =>
    rw [q] at h
    have ok := r.ok i s q
    cases s with
    | un => cases h
    | fz d => obtain ⟨_, v, e, _⟩ := ok; exact ⟨v, e⟩
    | ow ds => obtain ⟨p, vs, e, _⟩ := ok; exact ⟨_, e⟩
    | oo ds => obtain ⟨p, vs, e, _⟩ := ok; exact ⟨_, e⟩
    | od t ds => obtain ⟨p, vs, e, _⟩ := ok; exact ⟨_, e⟩
    | ob ds => obtain ⟨p, e, _⟩ := ok; exact ⟨_, e⟩
    | op p ds => obtain ⟨_, e, _⟩ := ok; exact ⟨_, e⟩
    | oi x dx c ds => obtain ⟨_, e, _⟩ := ok; exact ⟨_, e⟩
/-- an object that stands for a list, a tuple -/
theorem RvW.lstE {ds : List D} (h : RvW K F H v (.lst ds)) (s : Same F H) : ∃ a vs, v = .ref a ∧ H a = some (.lst vs) ∧ RvA K F vs ds := by
  cases h with
  | rv h => cases h with | lst h1 h2 => exact ⟨_, _, rfl, s _ _ h1, h2⟩
  | ow h1 h2 => exact ⟨_, _, rfl, h1, h2⟩
theorem RvW.tupE {ds : List D} (h : RvW K F H v (.tup ds)) (s : Same F H) : ∃ a vs, v = .ref a ∧ F a = some (.tup vs) ∧ H a = some (.tup vs) ∧ RvA K F vs ds := by
  cases h with
  | rv h => cases h with | tup h1 h2 => exact ⟨_, _, rfl, h1, s _ _ h1, h2⟩
theorem RvW.dicE {t : Bool} {kvs : List (D × D)} (h : RvW K F H v (.dic t kvs)) (s : Same F H) : ∃ a o, v = .ref a ∧ H a = some o ∧ DicO K F o t kvs := by
  cases h with
  | rv h =>
    cases h with
    | dK h1 h2 => exact ⟨_, _, rfl, s _ _ h1, ⟨_, rfl, h2⟩⟩
    | dT h1 h2 => exact ⟨_, _, rfl, s _ _ h1, ⟨_, rfl, h2⟩⟩
  | od h1 h2 => exact ⟨_, _, rfl, h1, h2⟩
theorem RvW.intE {j : Int} (h : RvW K F H v (.int j)) : v = .int j := by
  cases h with | rv h => cases h; rfl
theorem RvW.blE {j : Bool} (h : RvW K F H v (.bl j)) : v = .bl j := by
  cases h with | rv h => cases h; rfl
theorem RvW.strE {j : Str} (h : RvW K F H v (.str j)) : v = .str j := by
  cases h with | rv h => cases h; rfl
theorem RvW.nonE (h : RvW K F H v .non) : v = .non := by
  cases h with | rv h => cases h; rfl
/-- as data of the model -/
theorem RvW.dp (h : RvW K F H v d) (s : Same F H) {n : Nat} (p : D.plain n d = true) : Dp K H v (D.py d) := by
  cases h with
  | rv h => exact Rv.dp n d v p (h.up s)
  | @ow q vs ds h1 h2 =>
    cases n with
    | zero => simp [D.plain] at p
    | succ n => simp only [D.py]; exact .lst (SqL.of h1) (RvA.dp n _ _ (by simpa [D.plain] using p) (h2.up s))
  | od h1 h2 => simp [D.plain] at p
end
/-! ### judgements -/
def lE (K : PySem.W.Frag) (t : CE) : TE := fun σ H QV => ∃ N F ρ Q, Rs K N F H σ ρ ∧ t ρ Q ∧ ∀ v F' H' d ρ', Rs K N F' H' σ ρ' → Mo N F F' → Rv K F' v d → Q d ρ' → QV v H'
def lO (K : PySem.W.Frag) (t : CO) : TE := fun σ H QV => ∃ N F ρ Q, Rs K N F H σ ρ ∧ t ρ Q ∧ ∀ v F' H' o ρ', Rs K N F' H' σ ρ' → Mo N F F' → OpdOk K F' σ v o → Q o ρ' → QV v H'
/-- a new object, not yet for good -/
def OnO (K : PySem.W.Frag) (F : Hp) (o : HO) : D → Prop
  | .lst ds => ∃ vs, o = .lst vs ∧ RvA K F vs ds
  | .dic t kvs => DicO K F o t kvs
  | _ => False
def lN (K : PySem.W.Frag) (t : CE) : TE := fun σ H QV => ∃ N F ρ Q, Rs K N F H σ ρ ∧ t ρ Q ∧ ∀ p o F' H' d ρ', Rs K N F' H' σ ρ' → Mo N F F' → H' p = none → OnO K F' o d → Q d ρ' → QV (.ref p) (upd H' p o)
def lT (K : PySem.W.Frag) (t : CT) : TT := fun σ H QV => ∃ N F ρ Q, Rs K N F H σ ρ ∧ t ρ Q ∧ ∀ b F' H' ρ', Rs K N F' H' σ ρ' → Mo N F F' → Q b ρ' → QV b H'
abbrev CA := Ev → (List Opd → Ev → Prop) → Prop
def OpdsOk (K : PySem.W.Frag) (F : Hp) (σ : L2.St) : List V → List Opd → Prop := All2 (OpdOk K F σ)
def lA (K : PySem.W.Frag) (t : CA) : TA := fun σ H QV => ∃ N F ρ Q, Rs K N F H σ ρ ∧ t ρ Q ∧ ∀ vs F' H' os ρ', Rs K N F' H' σ ρ' → Mo N F F' → OpdsOk K F' σ vs os → Q os ρ' → QV vs H'
def VE (X : Cx) (e : Expr) (t : CE) : Prop := PE X e (lE X.K t)
def VO (X : Cx) (e : Expr) (t : CO) : Prop := PE X e (lO X.K t)
def VN (X : Cx) (e : Expr) (t : CE) : Prop := PE X e (lN X.K t)
def VT (X : Cx) (e : Expr) (t : CT) : Prop := PT X e (lT X.K t)
def VW (X : Cx) (e : Expr) (t : CT) : Prop := PW X e (lT X.K t)
def VA (X : Cx) (es : List Expr) (t : CA) : Prop := PA X es (lA X.K t)
theorem PE.imp {X : Cx} {e : Expr} {t t' : TE} (h : PE X e t) (f : ∀ σ H Q, t' σ H Q → t σ H Q) : PE X e t' := ⟨fun pins s σ H Q I q => h.run pins s σ H Q I (f σ H Q q)⟩
theorem PT.imp {X : Cx} {e : Expr} {t t' : TT} (h : PT X e t) (f : ∀ σ H Q, t' σ H Q → t σ H Q) : PT X e t' := ⟨fun pins s σ H Q I q => h.run pins s σ H Q I (f σ H Q q)⟩
theorem PW.imp {X : Cx} {e : Expr} {t t' : TT} (h : PW X e t) (f : ∀ σ H Q, t' σ H Q → t σ H Q) : PW X e t' := ⟨fun wh pins s σ H Q I q => h.run wh pins s σ H Q I (f σ H Q q)⟩
theorem PA.imp {X : Cx} {e : List Expr} {t t' : TA} (h : PA X e t) (f : ∀ σ H Q, t' σ H Q → t σ H Q) : PA X e t' := ⟨fun pos pins s σ H Q I q => h.run pos pins s σ H Q I (f σ H Q q)⟩
theorem PS.imp {X : Cx} {e : Stmt} {t t' : TS} (h : PS X e t) (f : ∀ D σ H, t' D σ H → t D σ H) : PS X e t' := ⟨fun pins s σ H D I q => h.run pins s σ H D I (f D σ H q)⟩
theorem PSs.imp {X : Cx} {e : List Stmt} {t t' : TS} (h : PSs X e t) (f : ∀ D σ H, t' D σ H → t D σ H) : PSs X e t' := ⟨fun pins s σ H D I q => h.run pins s σ H D I (f D σ H q)⟩
theorem PG.imp {X : Cx} {e : Expr} {t t' : TG} (h : PG X e t) (f : ∀ v σ H Q, t' v σ H Q → t v σ H Q) : PG X e t' := ⟨fun pins s σ H v u Q I r q => h.run pins s σ H v u Q I r (f v σ H Q q)⟩
section
variable {X : Cx} {a b : Expr} {pos : Pos}
/-- a reading by values, of no effect on what is known but new things -/
theorem ve_pure {e : Expr} {te : TE} {t : CE} (h : PE X e te) (f : ∀ (N F H : Hp) (σ : L2.St) (ρ : Ev) (Q : D → Ev → Prop) (QV : VK), Rs X.K N F H σ ρ → t ρ Q → (∀ v F' H' d, Ex F H F' H' → Rv X.K F' v d → Q d ρ → QV v H') → te σ H QV) : VE X e t :=
  PE.imp h fun σ H QV ⟨N, F, ρ, Q, R, q, k⟩ => f N F H σ ρ Q QV R q fun v F' H' d E r q' => k v F' H' d ρ (R.exd E) (E.mo R.nh) r q'
def cC (d : D) : CE := fun ρ Q => Q d ρ
theorem ve_int {i j pos} : VE X (.Constant (.int i) j pos) (cC (.int i)) := ve_pure pe_int fun N F H σ ρ Q QV R q k => k _ F H _ (.refl R.fh) (.int i) q
theorem ve_bl {i j pos} : VE X (.Constant (.bool i) j pos) (cC (.bl i)) := ve_pure pe_bl fun N F H σ ρ Q QV R q k => k _ F H _ (.refl R.fh) (.bl i) q
theorem ve_str {i j pos} : VE X (.Constant (.str i) j pos) (cC (.str i)) := ve_pure pe_str fun N F H σ ρ Q QV R q k => k _ F H _ (.refl R.fh) (.str i) q
theorem ve_non {j pos} : VE X (.Constant .none j pos) (cC .non) := ve_pure pe_non fun N F H σ ρ Q QV R q k => k _ F H _ (.refl R.fh) .non q
/-- a module's constant number, text -/
theorem ve_gint {x : Str} {i : Int} {pos : Pos} (hg : Gl X x) (hm : ∃ t, X.mg x = some (.int i t)) (hd : (x == ("__debug__" : Str)) = false := by decide) : VE X (.Name x pos) (cC (.int i)) :=
  let ⟨_, hm⟩ := hm
  ve_pure (pe_glob hg hm (v := .int i) ⟨_, rfl⟩ hd) fun N F H σ ρ Q QV R q k => k _ F H _ (.refl R.fh) (.int i) q
theorem ve_gstr {x i : Str} {pos : Pos} (hg : Gl X x) (hm : ∃ t, X.mg x = some (.str i t)) (hd : (x == ("__debug__" : Str)) = false := by decide) : VE X (.Name x pos) (cC (.str i)) :=
  let ⟨_, hm⟩ := hm
  ve_pure (pe_glob hg hm (v := .str i) ⟨_, rfl⟩ hd) fun N F H σ ρ Q QV R q k => k _ F H _ (.refl R.fh) (.str i) q
/-- a name, its data -/
def cVar (i : Nat) : CE := fun ρ Q => match ρ[i]? with
  | some (.fz d) => Q d ρ
  | _ => False
theorem cVar_inv {i : Nat} {ρ : Ev} {Q : D → Ev → Prop} (h : cVar i ρ Q) : ∃ d, ρ[i]? = some (.fz d) ∧ Q d ρ := by
  unfold cVar at h
  split at h
  · rename_i d e; exact ⟨d, e, h⟩
  · exact h.elim
theorem ve_var (i : Nat) {x : Str} {pos : Pos} (hN : X.N[i]? = some x := by rfl) (hv : Vis X.env.scope x := by first | exact Or.inl rfl | exact Or.inr (Or.inl rfl) | exact Or.inr (Or.inr rfl)) (hd : (x == ("__debug__" : Str)) = false := by decide)
    (hcd : (x == ("__classdict__" : Str)) = false := by decide) : VE X (.Name x pos) (cVar i) :=
  ve_pure (pe_var hN hv hd hcd) fun N F H σ ρ Q QV R q k => by
    obtain ⟨d, e, q⟩ := cVar_inv q
    obtain ⟨v, e2, r⟩ := R.fzv e
    exact ⟨v, e2, k v F H d (.refl R.fh) r q⟩
/-- a name as an operand -/
def cSl (i : Nat) : CO := fun ρ Q => known ρ[i]? = true ∧ Q (.s i) ρ
theorem vo_var (i : Nat) {x : Str} {pos : Pos} (hN : X.N[i]? = some x := by rfl) (hv : Vis X.env.scope x := by first | exact Or.inl rfl | exact Or.inr (Or.inl rfl) | exact Or.inr (Or.inr rfl)) (hd : (x == ("__debug__" : Str)) = false := by decide)
    (hcd : (x == ("__classdict__" : Str)) = false := by decide) : VO X (.Name x pos) (cSl i) :=
  PE.imp (pe_var hN hv hd hcd) fun σ H QV ⟨N, F, ρ, Q, R, ⟨q1, q2⟩, k⟩ => by
    obtain ⟨v, e⟩ := R.known q1
    exact ⟨v, e, k v F H (.s i) ρ R (.refl _ _) e q2⟩
def cOf (t : CE) : CO := fun ρ Q => t ρ fun d ρ' => Q (.d d) ρ'
theorem vo_e {e : Expr} {t : CE} (h : VE X e t) : VO X e (cOf t) := PE.imp h fun σ H QV ⟨N, F, ρ, Q, R, q, k⟩ => ⟨N, F, ρ, _, R, q, fun v F' H' d ρ' R' M r q' => k v F' H' (.d d) ρ' R' M r q'⟩
/-- a new thing is for good at once -/
theorem ve_n {e : Expr} {t : CE} (h : VN X e t) : VE X e t := PE.imp h fun σ H QV ⟨N, F, ρ, Q, R, q, k⟩ => ⟨N, F, ρ, Q, R, q, fun p o F' H' d ρ' R' M n on q' => by
  have E : Ex F' H' (upd F' p o) (upd H' p o) := .new R'.fh n
  refine k _ (upd F' p o) _ d ρ' (R'.exd E) (M.trans (E.mo R'.nh)) ?_ q'
  cases d with
  | lst ds =>
    obtain ⟨vs, rfl, r⟩ := on
    exact .lst upd_same (r.up E.ff)
  | dic t kvs =>
    cases t with
    | false => obtain ⟨ks, rfl, r⟩ := on; exact .dK upd_same (r.up E.ff)
    | true => obtain ⟨ks, rfl, r⟩ := on; exact .dT upd_same (r.up E.ff)
  | _ => exact False.elim on⟩
/-! ### operators of two operands -/
abbrev C2 := D → D → (D → Prop) → Prop
/-- what an operator by values (r) makes of data (c) -/
def Op2 (K : PySem.W.Frag) (r : R2) (c : C2) : Prop := ∀ (F H : Hp) (v w : V) (d e : D) (Q : D → Prop) (QV : VK), Same F H → RvW K F H v d → RvW K F H w e → c d e Q → (∀ u F' H' d', Ex F H F' H' → Rv K F' u d' → Q d' → QV u H') → r v w H QV
def c2 (c : C2) (ta tb : CO) : CE := fun ρ Q => ta ρ fun x ρ1 => tb ρ1 fun y ρ2 => match res ρ2 x, res ρ2 y with
  | some d, some e => c d e fun z => Q z ρ2
  | _, _ => False
theorem match2 {ρ : Ev} {x y : Opd} {f : D → D → Prop} (h : match res ρ x, res ρ y with | some d, some e => f d e | _, _ => False) : ∃ d e, res ρ x = some d ∧ res ρ y = some e ∧ f d e := by
  split at h
  · rename_i d e h1 h2; exact ⟨d, e, h1, h2, h⟩
  · exact h.elim
theorem op2_lift {r : R2} {c : C2} {ta tb : CO} (o : Op2 X.K r c) : ∀ σ H QV, lE X.K (c2 c ta tb) σ H QV → tOp r (lO X.K ta) (lO X.K tb) σ H QV := fun σ H QV ⟨N, F, ρ, Q, R, q, k⟩ =>
  ⟨N, F, ρ, _, R, q, fun v F1 H1 x ρ1 R1 M1 ox q1 => ⟨N, F1, ρ1, _, R1, q1, fun w F2 H2 y ρ2 R2 M2 oy q2 => by
    obtain ⟨d, e, h1, h2, q2⟩ := match2 q2
    exact o F2 H2 v w d e _ QV R2.fh ((ox.up M2.ff).w R2 h1) (oy.w R2 h2) q2 fun u F3 H3 d' E r' q3 => k u F3 H3 d' ρ2 (R2.exd E) ((M1.trans M2).trans (E.mo R2.nh)) r' q3⟩⟩
theorem ve_op {op : Operator} {r : R2} {c : C2} {ta tb : CO} (ho : OpR X (binaryOp op) r) (o : Op2 X.K r c) (ha : VO X a ta) (hb : VO X b tb) : VE X (.BinOp a op b pos) (c2 c ta tb) :=
  PE.imp (pe_op ho ha hb) (op2_lift o)
theorem ve_cmp {op : CmpOp} {r : R2} {c : C2} {ta tb : CO} (ho : OpR X (compareOp op) r) (o : Op2 X.K r c) (ha : VO X a ta) (hb : VO X b tb) (hm : behindInMarks op b = false := by first | exact nomark _ | rfl) : VE X (.Compare a [op] [b] pos) (c2 c ta tb) :=
  PE.imp (pe_cmpR ho ha hb hm) (op2_lift o)
theorem ve_ix {r : R2} {c : C2} {ta tb : CO} (ho : IxR X r) (o : Op2 X.K r c) (ha : VO X a ta) (hb : VO X b tb) (hs : PlainIx b := by exact fun _ _ => rfl) : VE X (.Subscript a b pos) (c2 c ta tb) :=
  PE.imp (pe_ix ho ha hb hs) (op2_lift o)
theorem Op2.or {K : PySem.W.Frag} {r r' : R2} {c c' : C2} (h : Op2 K r c) (h' : Op2 K r' c') : Op2 K (fun x y H Q => r x y H Q ∨ r' x y H Q) (fun x y Q => c x y Q ∨ c' x y Q) := fun F H v w d e Q QV s rv rw' q k => by
  rcases q with q | q
  · exact .inl (h F H v w d e Q QV s rv rw' q k)
  · exact .inr (h' F H v w d e Q QV s rv rw' q k)
theorem Op2.imp {K : PySem.W.Frag} {r : R2} {c c' : C2} (h : Op2 K r c) (f : ∀ d e Q, c' d e Q → c d e Q) : Op2 K r c' := fun F H v w d e Q QV s rv rw' q k => h F H v w d e Q QV s rv rw' (f d e Q q) k
end
end CL
/-! CL 3: operators, comparisons, subscripts, slices. -/
namespace CL
open PySem PySem.Spec PyProof.Rows L2
/-! ### arithmetic -/
def cAdd : C2 := fun x y Q => match x, y with
  | .int i, .int j => Q (.int (i + j))
  | .tup a, .tup b => a.length + b.length ≤ sizeLine ∧ Q (.tup (a ++ b))
  | .lst a, .lst b => a.length + b.length ≤ sizeLine ∧ Q (.lst (a ++ b))
  | .str a, .str b => a.length + b.length ≤ sizeLine ∧ Q (.str (a ++ b))
  | _, _ => False
def cSub : C2 := fun x y Q => match x, y with
  | .int i, .int j => Q (.int (i - j))
  | _, _ => False
def cMul : C2 := fun x y Q => match x, y with
  | .int i, .int j => CMul i j ∧ Q (.int (i * j))
  | .lst a, .int j => -(2 ^ 63) ≤ j ∧ j < 2 ^ 63 ∧ a.length * j.toNat ≤ sizeLine ∧ Q (.lst (List.replicate j.toNat a).flatten)
  | _, _ => False
def cDivC : C2 := fun x y Q => match x, y with
  | .int i, .int j => CDiv i j ∧ Q (.int (i / j))
  | _, _ => False
def cModC : C2 := fun x y Q => match x, y with
  | .int i, .int j => 0 < j ∧ Q (.int (i % j))
  | _, _ => False
def cPow : C2 := fun x y Q => match x, y with
  | .int i, .int j => CPow i j ∧ Q (.int (i ^ j.toNat))
  | _, _ => False
def cShl : C2 := fun x y Q => match x, y with
  | .int i, .int j => CPow i j ∧ Q (.int (i * 2 ^ j.toNat))
  | _, _ => False
def cShr : C2 := fun x y Q => match x, y with
  | .int i, .int j => 0 ≤ j ∧ Q (.int (i / 2 ^ j.toNat))
  | _, _ => False
def cAnd : C2 := fun x y Q => match x, y with
  | .int i, .int j => Q (.int (Builtin.bitAnd i j))
  | _, _ => False
def cOr : C2 := fun x y Q => match x, y with
  | .int i, .int j => Q (.int (Builtin.bitOr i j))
  | _, _ => False
section
variable {K : PySem.W.Frag} {X : Cx}
theorem RvA.rep {F : Hp} {vs : List V} {ds : List D} (h : RvA K F vs ds) : ∀ k : Nat, RvA K F (List.replicate k vs).flatten (List.replicate k ds).flatten
  | 0 => .nil
  | k + 1 => by
    rw [List.replicate_succ, List.replicate_succ, List.flatten_cons, List.flatten_cons]
    exact h.append (RvA.rep h k)
theorem o_add : Op2 K (fun x y H Q => rI0 (fun i j => .int (i + j)) x y H Q ∨ rCatA K x y H Q ∨ rCat x y H Q ∨ (∃ i j, x = .str i ∧ y = .str j ∧ i.length + j.length ≤ sizeLine ∧ Q (.str (i ++ j)) H)) cAdd := by
  intro F H v w d e Q QV s rv rw' q k
  unfold cAdd at q
  split at q
  · exact .inl ⟨_, _, rv.intE, rw'.intE, k _ F H _ (.refl s) (.int _) q⟩
  · rename_i a b
    obtain ⟨p1, xs, rfl, g1, f1, r1⟩ := rv.tupE s
    obtain ⟨p2, ys, rfl, g2, f2, r2⟩ := rw'.tupE s
    refine .inr (.inl ⟨p1, p2, xs, ys, rfl, rfl, SqT.of f1, SqT.of f2, by rw [r1.length, r2.length]; exact q.1, fun e => ?_, fun _ e => ?_, fun _ _ p np => ?_⟩)
    · subst e
      cases r1
      exact k _ F H _ (.refl s) (.tup g2 r2) q.2
    · subst e
      cases r2
      have q2 := q.2
      rw [List.append_nil] at q2
      exact k _ F H _ (.refl s) (.tup g1 r1) q2
    · exact k _ _ _ _ (.new s np) (.tup upd_same ((r1.append r2).up (same_upd (none_of s np)))) q.2
  · obtain ⟨p1, xs, rfl, f1, r1⟩ := rv.lstE s
    obtain ⟨p2, ys, rfl, f2, r2⟩ := rw'.lstE s
    refine .inr (.inr (.inl ⟨p1, p2, xs, ys, rfl, rfl, f1, f2, by rw [r1.length, r2.length]; exact q.1, fun p np => ?_⟩))
    exact k _ _ _ _ (.new s np) (.lst upd_same ((r1.append r2).up (same_upd (none_of s np)))) q.2
  · exact .inr (.inr (.inr ⟨_, _, rv.strE, rw'.strE, q.1, k _ F H _ (.refl s) (.str _) q.2⟩))
  · exact q.elim
theorem r_add : OpR X (binaryOp .Add) (fun x y H Q => rI0 (fun i j => .int (i + j)) x y H Q ∨ rCatA X.K x y H Q ∨ rCat x y H Q ∨ (∃ i j, x = .str i ∧ y = .str j ∧ i.length + j.length ≤ sizeLine ∧ Q (.str (i ++ j)) H)) := op_add.or (op_catA.or (op_cat.or op_add_str))
/-- an operator of two ints -/
theorem o_ii {C : Int → Int → Prop} {g : Int → Int → D} {gv : Int → Int → V} {c : C2} (hg : ∀ F i j, Rv K F (gv i j) (g i j)) (hc : ∀ d e Q, c d e Q → ∃ i j, d = .int i ∧ e = .int j ∧ C i j ∧ Q (g i j)) : Op2 K (rI C gv) c := fun F H v w d e Q QV s rv rw' q k => by
  obtain ⟨i, j, rfl, rfl, h1, q⟩ := hc d e Q q
  exact ⟨i, j, rv.intE, rw'.intE, h1, k _ F H _ (.refl s) (hg F i j) q⟩
theorem o_ii0 {g : Int → Int → D} {gv : Int → Int → V} {c : C2} (hg : ∀ F i j, Rv K F (gv i j) (g i j)) (hc : ∀ d e Q, c d e Q → ∃ i j, d = .int i ∧ e = .int j ∧ Q (g i j)) : Op2 K (rI0 gv) c := fun F H v w d e Q QV s rv rw' q k => by
  obtain ⟨i, j, e1, e2, q2⟩ := hc d e Q q
  subst e1 e2
  exact ⟨i, j, rv.intE, rw'.intE, k _ F H _ (.refl s) (hg F i j) q2⟩
theorem o_sub : Op2 K (rI0 fun i j => .int (i - j)) cSub := o_ii0 (g := fun i j => .int (i - j)) (fun _ _ _ => .int _) fun d e Q q => by unfold cSub at q; split at q <;> first | exact ⟨_, _, rfl, rfl, q⟩ | exact q.elim
theorem o_div : Op2 K (rI CDiv fun i j => .int (i / j)) cDivC := o_ii (g := fun i j => .int (i / j)) (fun _ _ _ => .int _) fun d e Q q => by unfold cDivC at q; split at q <;> first | exact ⟨_, _, rfl, rfl, q⟩ | exact q.elim
theorem o_mod : Op2 K (rI (fun _ j => 0 < j) fun i j => .int (i % j)) cModC := o_ii (g := fun i j => .int (i % j)) (fun _ _ _ => .int _) fun d e Q q => by unfold cModC at q; split at q <;> first | exact ⟨_, _, rfl, rfl, q⟩ | exact q.elim
theorem o_pow : Op2 K (rI CPow fun i j => .int (i ^ j.toNat)) cPow := o_ii (g := fun i j => .int (i ^ j.toNat)) (fun _ _ _ => .int _) fun d e Q q => by unfold cPow at q; split at q <;> first | exact ⟨_, _, rfl, rfl, q⟩ | exact q.elim
theorem o_shl : Op2 K (rI CPow fun i j => .int (i * 2 ^ j.toNat)) cShl := o_ii (g := fun i j => .int (i * 2 ^ j.toNat)) (fun _ _ _ => .int _) fun d e Q q => by unfold cShl at q; split at q <;> first | exact ⟨_, _, rfl, rfl, q⟩ | exact q.elim
theorem o_shr : Op2 K (rI (fun _ j => 0 ≤ j) fun i j => .int (i / 2 ^ j.toNat)) cShr := o_ii (g := fun i j => .int (i / 2 ^ j.toNat)) (fun _ _ _ => .int _) fun d e Q q => by unfold cShr at q; split at q <;> first | exact ⟨_, _, rfl, rfl, q⟩ | exact q.elim
theorem o_and : Op2 K (rI0 fun i j => .int (Builtin.bitAnd i j)) cAnd := o_ii0 (g := fun i j => .int (Builtin.bitAnd i j)) (fun _ _ _ => .int _) fun d e Q q => by unfold cAnd at q; split at q <;> first | exact ⟨_, _, rfl, rfl, q⟩ | exact q.elim
theorem o_or : Op2 K (rI0 fun i j => .int (Builtin.bitOr i j)) cOr := o_ii0 (g := fun i j => .int (Builtin.bitOr i j)) (fun _ _ _ => .int _) fun d e Q q => by unfold cOr at q; split at q <;> first | exact ⟨_, _, rfl, rfl, q⟩ | exact q.elim
theorem o_mul : Op2 K (fun x y H Q => rI CMul (fun i j => .int (i * j)) x y H Q ∨ rRep x y H Q) cMul := by
  intro F H v w d e Q QV s rv rw' q k
  unfold cMul at q
  split at q
  · exact .inl ⟨_, _, rv.intE, rw'.intE, q.1, k _ F H _ (.refl s) (.int _) q.2⟩
  · obtain ⟨p1, xs, rfl, f1, r1⟩ := rv.lstE s
    refine .inr ⟨p1, _, xs, rfl, rw'.intE, f1, q.1, q.2.1, by rw [r1.length]; exact q.2.2.1, fun p np => ?_⟩
    exact k _ _ _ _ (.new s np) (.lst upd_same ((r1.rep _).up (same_upd (none_of s np)))) q.2.2.2
  · exact q.elim
theorem r_mul : OpR X (binaryOp .Mult) (fun x y H Q => rI CMul (fun i j => .int (i * j)) x y H Q ∨ rRep x y H Q) := op_mul.or op_rep
/-! ### comparisons -/
def cLt : C2 := fun x y Q => match x, y with
  | .int i, .int j => Q (.bl (decide (i < j)))
  | _, _ => False
def cLe : C2 := fun x y Q => match x, y with
  | .int i, .int j => Q (.bl (decide (i ≤ j)))
  | _, _ => False
def cGt : C2 := fun x y Q => match x, y with
  | .int i, .int j => Q (.bl (decide (j < i)))
  | _, _ => False
def cGe : C2 := fun x y Q => match x, y with
  | .int i, .int j => Q (.bl (decide (j ≤ i)))
  | _, _ => False
theorem o_lt : Op2 K (rI0 fun i j => .bl (decide (i < j))) cLt := o_ii0 (g := fun i j => .bl (decide (i < j))) (fun _ _ _ => .bl _) fun d e Q q => by unfold cLt at q; split at q <;> first | exact ⟨_, _, rfl, rfl, q⟩ | exact q.elim
theorem o_le : Op2 K (rI0 fun i j => .bl (decide (i ≤ j))) cLe := o_ii0 (g := fun i j => .bl (decide (i ≤ j))) (fun _ _ _ => .bl _) fun d e Q q => by unfold cLe at q; split at q <;> first | exact ⟨_, _, rfl, rfl, q⟩ | exact q.elim
theorem o_gt : Op2 K (rI0 fun i j => .bl (decide (j < i))) cGt := o_ii0 (g := fun i j => .bl (decide (j < i))) (fun _ _ _ => .bl _) fun d e Q q => by unfold cGt at q; split at q <;> first | exact ⟨_, _, rfl, rfl, q⟩ | exact q.elim
theorem o_ge : Op2 K (rI0 fun i j => .bl (decide (j ≤ i))) cGe := o_ii0 (g := fun i j => .bl (decide (j ≤ i))) (fun _ _ _ => .bl _) fun d e Q q => by unfold cGe at q; split at q <;> first | exact ⟨_, _, rfl, rfl, q⟩ | exact q.elim
/-- == of plain data -/
def eqD (x y : D) : Bool := PyData.eqv (D.py x) (D.py y)
def cEq : C2 := fun x y Q => D.plain 30 x = true ∧ D.plain 30 y = true ∧ Q (.bl (eqD x y))
def cNe : C2 := fun x y Q => D.plain 30 x = true ∧ D.plain 30 y = true ∧ Q (.bl (!eqD x y))
theorem o_eq : Op2 K (rEqD K) cEq := fun F H v w d e Q QV s rv rw' q k => ⟨_, _, rv.dp s q.1, rw'.dp s q.2.1, plain_shaped q.1, plain_shaped q.2.1, k _ F H _ (.refl s) (.bl _) q.2.2⟩
theorem o_ne : Op2 K (rNeD K) cNe := fun F H v w d e Q QV s rv rw' q k => ⟨_, _, rv.dp s q.1, rw'.dp s q.2.1, plain_shaped q.1, plain_shaped q.2.1, k _ F H _ (.refl s) (.bl _) q.2.2⟩
/-- is None -/
def isNonD : D → Bool
  | .non => true
  | _ => false
def cIsN : C2 := fun x y Q => match y with
  | .non => Q (.bl (isNonD x))
  | _ => False
def cNotN : C2 := fun x y Q => match y with
  | .non => Q (.bl (!isNonD x))
  | _ => False
theorem isNon_eq {F H : Hp} {v : V} {d : D} (r : RvW K F H v d) : decide (v = .non) = isNonD d := by
  cases r with
  | rv r => cases r <;> rfl
  | ow _ _ => rfl
  | od _ _ => rfl
theorem o_isN : Op2 K (fun x y H Q => y = .non ∧ Q (.bl (decide (x = .non))) H) cIsN := fun F H v w d e Q QV s rv rw' q k => by
  unfold cIsN at q
  split at q
  · exact ⟨rw'.nonE, by rw [isNon_eq rv]; exact k _ F H _ (.refl s) (.bl _) q⟩
  · exact q.elim
theorem o_notN : Op2 K (fun x y H Q => y = .non ∧ Q (.bl (!decide (x = .non))) H) cNotN := fun F H v w d e Q QV s rv rw' q k => by
  unfold cNotN at q
  split at q
  · exact ⟨rw'.nonE, by rw [isNon_eq rv]; exact k _ F H _ (.refl s) (.bl _) q⟩
  · exact q.elim
/-! in, not in: lists and tuples of plain data -/
def rInT (K : PySem.W.Frag) (neg : Bool) : R2 := fun x y H Q => ∃ d ds, Dp K H x d ∧ Dp K H y (.tuple ds) ∧ SeqAt.shaped d = true ∧ SeqAt.shaped (.tuple ds) = true ∧ Q (.bl (if neg then !(ds.any fun z => PyData.eqv z d) else ds.any fun z => PyData.eqv z d)) H
theorem op_inT (hu : X.A.units + 65 < cLine) : OpR X (compareOp .In) (rInT X.K false) := by
  intro pins s σ H x y v u Q I rx ry h
  obtain ⟨d, ds, hd, hds, sd, se, q⟩ := h
  obtain ⟨as, r1⟩ := Dp.reads I d x v hd rx
  obtain ⟨bs, r2⟩ := Dp.reads I (.tuple ds) y u hds ry
  exact SeqAt.in_tuple_reads r2 r1 (SeqAt.canLay_of_shaped se) (SeqAt.canLay_of_shaped sd) (room_in_shaped sd hu) ⟨.bl _, H, I, rfl, q⟩
theorem op_notInT (hu : X.A.units + 65 < cLine) : OpR X (compareOp .NotIn) (rInT X.K true) := by
  intro pins s σ H x y v u Q I rx ry h
  obtain ⟨d, ds, hd, hds, sd, se, q⟩ := h
  obtain ⟨as, r1⟩ := Dp.reads I d x v hd rx
  obtain ⟨bs, r2⟩ := Dp.reads I (.tuple ds) y u hds ry
  exact SeqAt.notIn_tuple_reads r2 r1 (SeqAt.canLay_of_shaped se) (SeqAt.canLay_of_shaped sd) (room_in_shaped sd hu) ⟨.bl _, H, I, rfl, q⟩
def inD (x : D) (ds : List D) : Bool := ds.any fun z => eqD z x
def cIn : C2 := fun x y Q => match y with
  | .lst ds => D.plain 30 x = true ∧ D.plainA 29 ds = true ∧ Q (.bl (inD x ds))
  | .tup ds => D.plain 30 x = true ∧ D.plainA 29 ds = true ∧ Q (.bl (inD x ds))
  | _ => False
def cNotIn : C2 := fun x y Q => match y with
  | .lst ds => D.plain 30 x = true ∧ D.plainA 29 ds = true ∧ Q (.bl (!inD x ds))
  | .tup ds => D.plain 30 x = true ∧ D.plainA 29 ds = true ∧ Q (.bl (!inD x ds))
  | _ => False
theorem any_pyA (x : PyData) : ∀ ds : List D, (D.pyA ds).any (fun z => PyData.eqv z x) = ds.any fun z => PyData.eqv (D.py z) x
  | [] => rfl
  | d :: ds => by simp only [D.pyA, List.any_cons, any_pyA x ds]
theorem pyA_map : ∀ ds : List D, D.pyA ds = ds.map D.py
  | [] => rfl
  | d :: ds => by simp only [D.pyA, List.map_cons, pyA_map ds]
theorem plain_l {n : Nat} {ds : List D} (h : D.plainA n ds = true) : D.plain (n + 1) (.lst ds) = true := by simpa [D.plain] using h
theorem plain_t {n : Nat} {ds : List D} (h : D.plainA n ds = true) : D.plain (n + 1) (.tup ds) = true := by simpa [D.plain] using h
theorem o_in : Op2 K (fun x y H Q => rInD K x y H Q ∨ rInT K false x y H Q) cIn := fun F H v w d e Q QV s rv rw' q k => by
  unfold cIn at q
  split at q
  · rename_i ds
    have h2 := rw'.dp s (plain_l q.2.1)
    have h3 := plain_shaped (plain_l q.2.1)
    simp only [D.py] at h2 h3
    refine .inl ⟨_, _, rv.dp s q.1, h2, plain_shaped q.1, h3, ?_⟩
    rw [any_pyA]
    exact k _ F H _ (.refl s) (.bl _) q.2.2
  · rename_i ds
    have h2 := rw'.dp s (plain_t q.2.1)
    have h3 := plain_shaped (plain_t q.2.1)
    simp only [D.py] at h2 h3
    refine .inr ⟨_, _, rv.dp s q.1, h2, plain_shaped q.1, h3, ?_⟩
    rw [if_neg (by decide), any_pyA]
    exact k _ F H _ (.refl s) (.bl _) q.2.2
  · exact q.elim
theorem o_notIn : Op2 K (fun x y H Q => rNotInD K x y H Q ∨ rInT K true x y H Q) cNotIn := fun F H v w d e Q QV s rv rw' q k => by
  unfold cNotIn at q
  split at q
  · rename_i ds
    have h2 := rw'.dp s (plain_l q.2.1)
    have h3 := plain_shaped (plain_l q.2.1)
    simp only [D.py] at h2 h3
    refine .inl ⟨_, _, rv.dp s q.1, h2, plain_shaped q.1, h3, ?_⟩
    rw [any_pyA]
    exact k _ F H _ (.refl s) (.bl _) q.2.2
  · rename_i ds
    have h2 := rw'.dp s (plain_t q.2.1)
    have h3 := plain_shaped (plain_t q.2.1)
    simp only [D.py] at h2 h3
    refine .inr ⟨_, _, rv.dp s q.1, h2, plain_shaped q.1, h3, ?_⟩
    rw [if_pos rfl, any_pyA]
    exact k _ F H _ (.refl s) (.bl _) q.2.2
  · exact q.elim
theorem r_in (hu : X.A.units + 65 < cLine) : OpR X (compareOp .In) (fun x y H Q => rInD X.K x y H Q ∨ rInT X.K false x y H Q) := (op_inD hu).or (op_inT hu)
theorem r_notIn (hu : X.A.units + 65 < cLine) : OpR X (compareOp .NotIn) (fun x y H Q => rNotInD X.K x y H Q ∨ rInT X.K true x y H Q) := (op_notInD hu).or (op_notInT hu)
/-! ### subscripts -/
def cIx : C2 := fun x y Q => match x, y with
  | .lst ds, .int i => (match atI ds i with | some d => Q d | none => False)
  | .tup ds, .int i => (match atI ds i with | some d => Q d | none => False)
  | _, _ => False
theorem RvA.at {F : Hp} {vs : List V} {ds : List D} {i : Int} {d : D} (r : RvA K F vs ds) (h : atI ds i = some d) : ∃ v, atI vs i = some v ∧ Rv K F v d := by
  unfold atI at h ⊢
  rw [r.length]
  cases e : ixN ds.length i with
  | none => rw [e] at h; cases h
  | some j =>
    rw [e] at h
    exact r.get h
theorem o_ix : Op2 K (rIx K) cIx := fun F H v w d e Q QV s rv rw' q k => by
  unfold cIx at q
  split at q
  · split at q
    · rename_i d' e'
      obtain ⟨p1, xs, rfl, f1, r1⟩ := rv.lstE s
      obtain ⟨v', h1, h2⟩ := r1.at e'
      exact .inl ⟨p1, xs, _, v', rfl, rw'.intE, SqL.of f1, h1, k _ F H _ (.refl s) h2 q⟩
    · exact q.elim
  · split at q
    · rename_i d' e'
      obtain ⟨p1, xs, rfl, g1, f1, r1⟩ := rv.tupE s
      obtain ⟨v', h1, h2⟩ := r1.at e'
      exact .inr (.inl ⟨p1, xs, _, v', rfl, rw'.intE, SqT.of f1, h1, k _ F H _ (.refl s) h2 q⟩)
    · exact q.elim
  · exact q.elim
/-! dicts -/
def fKey : D → Option Key
  | .int i => some (.inl i)
  | .str x => some (.inr x)
  | _ => none
def fKeys : List D → Option (List Key)
  | [] => some []
  | d :: ds => match fKey d, fKeys ds with
    | some k, some ks => some (k :: ks)
    | _, _ => none
def tKey : D → Option (List Key)
  | .tup ds => fKeys ds
  | _ => none
/-- a key of a dict of that kind -/
def okKey : Bool → D → Bool
  | false, d => (fKey d).isSome
  | true, d => (tKey d).isSome
def dGet (kvs : List (D × D)) (k : D) : Option D := (kvs.find? fun p => decide (p.1 = k)).map (·.2)
def dPut (kvs : List (D × D)) (k v : D) : List (D × D) := if (kvs.any fun p => decide (p.1 = k)) = true then kvs.map (fun p => if p.1 = k then (p.1, v) else p) else kvs ++ [(k, v)]
theorem fKey_of {d : D} {k : Key} (h : fKey d = some k) : d = kD k := by
  cases d <;> simp [fKey] at h <;> subst h <;> rfl
theorem fKeys_of : ∀ {ds : List D} {ks : List Key}, fKeys ds = some ks → ds = ks.map kD
  | [], ks, h => by cases h; rfl
  | d :: ds, ks, h => by
    unfold fKeys at h
    split at h
    · rename_i k ks' h1 h2
      cases h
      rw [List.map_cons, ← fKey_of h1, ← fKeys_of h2]
    · cases h
theorem tKey_of {d : D} {ks : List Key} (h : tKey d = some ks) : d = .tup (ks.map kD) := by
  cases d with
  | tup ds => rw [fKeys_of h]
  | _ => cases h
theorem kD_inj : ∀ {a b : Key}, kD a = kD b → a = b
  | .inl _, .inl _, h => by cases h; rfl
  | .inr _, .inr _, h => by cases h; rfl
  | .inl _, .inr _, h => by cases h
  | .inr _, .inl _, h => by cases h
theorem kDs_inj : ∀ {a b : List Key}, a.map kD = b.map kD → a = b
  | [], [], _ => rfl
  | [], _ :: _, h => by cases h
  | _ :: _, [], h => by cases h
  | a :: as, b :: bs, h => by
    rw [List.map_cons, List.map_cons] at h
    injection h with h1 h2
    rw [kD_inj h1, kDs_inj h2]
theorem rv_kD {F : Hp} {v : V} {k : Key} (h : Rv K F v (kD k)) : v = kV k := by
  cases k with
  | inl i => cases h; rfl
  | inr x => cases h; rfl
theorem rvw_kD {F H : Hp} {v : V} {k : Key} (h : RvW K F H v (kD k)) : v = kV k := by
  cases k with
  | inl i => exact h.intE
  | inr x => exact h.strE
theorem rva_kD {F : Hp} : ∀ {vs : List V} {ks : List Key}, RvA K F vs (ks.map kD) → vs = ks.map kV
  | _, [], h => by cases h; rfl
  | _, k :: ks, h => by
    rw [List.map_cons] at h
    cases h with
    | cons h1 h2 => rw [List.map_cons, ← rv_kD h1, ← rva_kD h2]
/-- what stands for the value at a key -/
inductive RvOp (K : PySem.W.Frag) (F : Hp) : Option V → Option D → Prop
  | none : RvOp K F none none
  | some {v : V} {d : D} : Rv K F v d → RvOp K F (some v) (some d)
theorem rvm_get {κ : Type} [DecidableEq κ] {F : Hp} (en : κ → D) (inj : ∀ a b, en a = en b → a = b) (k : κ) : ∀ {ks : List (κ × V)} {ds : List (D × D)}, RvM K F (ks.map fun p => (en p.1, p.2)) ds → RvOp K F (valV ks k) (dGet ds (en k))
  | [], _, h => by cases h; exact .none
  | (a, v) :: ks, _, h => by
    rw [List.map_cons] at h
    cases h with
    | cons h1 h2 =>
      have ih := rvm_get en inj k h2
      by_cases e : a = k
      · subst e
        rw [valV_pos rfl]
        unfold dGet
        rw [List.find?_cons_of_pos (by simp)]
        exact .some h1
      · rw [valV_neg e]
        unfold dGet at ih ⊢
        rw [List.find?_cons_of_neg (by simpa using fun z => e (inj _ _ z))]
        exact ih
theorem rvm_any {κ : Type} [DecidableEq κ] {F : Hp} (en : κ → D) (inj : ∀ a b, en a = en b → a = b) (k : κ) : ∀ {ks : List (κ × V)} {ds : List (D × D)}, RvM K F (ks.map fun p => (en p.1, p.2)) ds → (ks.any fun kv => decide (kv.1 = k)) = ds.any fun p => decide (p.1 = en k)
  | [], _, h => by cases h; rfl
  | (a, v) :: ks, _, h => by
    rw [List.map_cons] at h
    cases h with
    | cons h1 h2 =>
      rw [List.any_cons, List.any_cons, rvm_any en inj k h2]
      congr 1
      by_cases e : a = k
      · subst e; simp
      · rw [decide_eq_false e, decide_eq_false (fun z => e (inj _ _ z))]
theorem rvm_put {κ : Type} [DecidableEq κ] {F : Hp} (en : κ → D) (inj : ∀ a b, en a = en b → a = b) (k : κ) {v : V} {d : D} (r : Rv K F v d) {ks : List (κ × V)} {ds : List (D × D)} (h : RvM K F (ks.map fun p => (en p.1, p.2)) ds) :
    RvM K F ((putK ks k v).map fun p => (en p.1, p.2)) (dPut ds (en k) d) := by
  unfold putK dPut
  rw [rvm_any en inj k h]
  by_cases a : (ds.any fun p => decide (p.1 = en k)) = true
  · rw [if_pos a, if_pos a]
    clear a
    induction ks generalizing ds with
    | nil => cases h; exact .nil
    | cons p ks ih =>
      rw [List.map_cons] at h
      cases h with
      | cons h1 h2 =>
        rw [List.map_cons, List.map_cons, List.map_cons]
        by_cases e : p.1 = k
        · rw [if_pos e, if_pos (by rw [e])]
          exact .cons r (ih h2)
        · rw [if_neg e, if_neg (fun z => e (inj _ _ z))]
          exact .cons h1 (ih h2)
  · rw [if_neg a, if_neg a]
    clear a
    induction ks generalizing ds with
    | nil => cases h; exact .cons r .nil
    | cons p ks ih =>
      rw [List.map_cons] at h
      cases h with
      | cons h1 h2 => exact .cons h1 (ih h2)
/-- the object of a key -/
theorem okKey_get {F H : Hp} {t : Bool} {kvs : List (D × D)} {a : Addr} {o : HO} {y : V} {k : D} (s : Same F H) (ha : H a = some o) (r : DicO K F o t kvs) (ry : RvW K F H y k) (hk : okKey t k = true) : ∃ ov, DGet H a y ov ∧ RvOp K F ov (dGet kvs k) := by
  cases t with
  | false =>
    obtain ⟨ks, rfl, r⟩ := r
    obtain ⟨κ, e⟩ := Option.isSome_iff_exists.mp hk
    have ek := fKey_of e
    subst ek
    have ey : y = kV κ := rvw_kD ry
    subst ey
    exact ⟨_, .k ha, rvm_get kD (fun _ _ => kD_inj) κ r⟩
  | true =>
    obtain ⟨ks, rfl, r⟩ := r
    obtain ⟨κ, e⟩ := Option.isSome_iff_exists.mp hk
    have ek := tKey_of e
    subst ek
    obtain ⟨b, vs, rfl, _, hb, rb⟩ := ry.tupE s
    rw [rva_kD rb] at hb
    exact ⟨_, .t ha hb, rvm_get (fun l => D.tup (l.map kD)) (fun _ _ z => kDs_inj (by injection z)) κ r⟩
theorem okKey_put {F H : Hp} {t : Bool} {kvs : List (D × D)} {a : Addr} {o : HO} {y v : V} {k d : D} (s : Same F H) (ha : H a = some o) (r : DicO K F o t kvs) (ry : RvW K F H y k) (hk : okKey t k = true) (rd : Rv K F v d) (hl : kvs.length < sizeLine) :
    ∃ o', DPut H a y v (upd H a o') ∧ DicO K F o' t (dPut kvs k d) := by
  cases t with
  | false =>
    obtain ⟨ks, rfl, r⟩ := r
    obtain ⟨κ, e⟩ := Option.isSome_iff_exists.mp hk
    have ek := fKey_of e
    subst ek
    have ey : y = kV κ := rvw_kD ry
    subst ey
    have l := r.length
    rw [List.length_map] at l
    exact ⟨_, .k ha (by omega), ⟨_, rfl, rvm_put kD (fun _ _ => kD_inj) κ rd r⟩⟩
  | true =>
    obtain ⟨ks, rfl, r⟩ := r
    obtain ⟨κ, e⟩ := Option.isSome_iff_exists.mp hk
    have ek := tKey_of e
    subst ek
    obtain ⟨b, vs, rfl, _, hb, rb⟩ := ry.tupE s
    rw [rva_kD rb] at hb
    have l := r.length
    rw [List.length_map] at l
    exact ⟨_, .t ha hb (by omega), ⟨_, rfl, rvm_put (fun l => D.tup (l.map kD)) (fun _ _ z => kDs_inj (by injection z)) κ rd r⟩⟩
def cDGet : C2 := fun x y Q => match x with
  | .dic t kvs => okKey t y = true ∧ (match dGet kvs y with | some d => Q d | none => False)
  | _ => False
def cDIn : C2 := fun x y Q => match y with
  | .dic t kvs => okKey t x = true ∧ Q (.bl (dGet kvs x).isSome)
  | _ => False
def cDNotIn : C2 := fun x y Q => match y with
  | .dic t kvs => okKey t x = true ∧ Q (.bl (!(dGet kvs x).isSome))
  | _ => False
def rDGet : R2 := fun x y H Q => ∃ a v, x = .ref a ∧ DGet H a y (some v) ∧ Q v H
def rDIn : R2 := fun y x H Q => ∃ a o, x = .ref a ∧ DGet H a y o ∧ Q (.bl o.isSome) H
def rDNotIn : R2 := fun y x H Q => ∃ a o, x = .ref a ∧ DGet H a y o ∧ Q (.bl (!o.isSome)) H
theorem RvOp.isSome {F : Hp} {o : Option V} {e : Option D} (h : RvOp K F o e) : o.isSome = e.isSome := by cases h <;> rfl
theorem o_dget : Op2 K rDGet cDGet := fun F H v w d e Q QV s rv rw' q k => by
  unfold cDGet at q
  split at q
  · obtain ⟨hk, q⟩ := q
    obtain ⟨a, o, rfl, ha, r⟩ := rv.dicE s
    obtain ⟨ov, g, ro⟩ := okKey_get s ha r rw' hk
    split at q
    · rename_i d' e'
      rw [e'] at ro
      cases ro with
      | some ro => exact ⟨a, _, rfl, g, k _ F H _ (.refl s) ro q⟩
    · exact q.elim
  · exact q.elim
theorem o_din : Op2 K rDIn cDIn := fun F H v w d e Q QV s rv rw' q k => by
  unfold cDIn at q
  split at q
  · obtain ⟨hk, q⟩ := q
    obtain ⟨a, o, rfl, ha, r⟩ := rw'.dicE s
    obtain ⟨ov, g, ro⟩ := okKey_get s ha r rv hk
    exact ⟨a, ov, rfl, g, by rw [ro.isSome]; exact k _ F H _ (.refl s) (.bl _) q⟩
  · exact q.elim
theorem o_dnotin : Op2 K rDNotIn cDNotIn := fun F H v w d e Q QV s rv rw' q k => by
  unfold cDNotIn at q
  split at q
  · obtain ⟨hk, q⟩ := q
    obtain ⟨a, o, rfl, ha, r⟩ := rw'.dicE s
    obtain ⟨ov, g, ro⟩ := okKey_get s ha r rv hk
    exact ⟨a, ov, rfl, g, by rw [ro.isSome]; exact k _ F H _ (.refl s) (.bl _) q⟩
  · exact q.elim
theorem ve_dget {o i : Expr} {pos : Pos} {to ti : CO} (hu : X.A.units + 1 < cLine) (ho : VO X o to) (hi : VO X i ti) (hs : NoSl i := by exact fun _ _ => rfl) : VE X (.Subscript o i pos) (c2 cDGet to ti) := PE.imp (pe_dget hu ho hi hs) (op2_lift o_dget)
theorem ve_din {o i : Expr} {pos : Pos} {to ti : CO} (hu : X.A.units + 1 < cLine) (hi : VO X i ti) (ho : VO X o to) (hm : behindInMarks .In o = false := by rfl) : VE X (.Compare i [.In] [o] pos) (c2 cDIn ti to) := PE.imp (pe_cmp (pc_din hu hi ho) hm) (op2_lift o_din)
theorem ve_dnotin {o i : Expr} {pos : Pos} {to ti : CO} (hu : X.A.units + 1 < cLine) (hi : VO X i ti) (ho : VO X o to) (hm : behindInMarks .NotIn o = false := by rfl) : VE X (.Compare i [.NotIn] [o] pos) (c2 cDNotIn ti to) := PE.imp (pe_cmp (pc_dnotin hu hi ho) hm) (op2_lift o_dnotin)
end
end CL
/-! CL 4: slices, truth, displays, calls. -/
namespace CL
open PySem PySem.Spec PyProof.Rows L2
section
variable {X : Cx} {a b e : Expr} {es rest : List Expr} {pos : Pos}
/-! ### unary, slices -/
def c1 (c : D → (D → Prop) → Prop) (t : CO) : CE := fun ρ Q => t ρ fun x ρ1 => match res ρ1 x with
  | some d => c d fun z => Q z ρ1
  | none => False
theorem match1 {ρ : Ev} {x : Opd} {f : D → Prop} (h : match res ρ x with | some d => f d | none => False) : ∃ d, res ρ x = some d ∧ f d := by
  split at h
  · rename_i d h1; exact ⟨d, h1, h⟩
  · exact h.elim
def cNeg (d : D) (Q : D → Prop) : Prop := match d with
  | .int i => Q (.int (-i))
  | _ => False
theorem ve_neg {t : CO} (ha : VO X a t) : VE X (.UnaryOp .USub a pos) (c1 cNeg t) :=
  PE.imp (pe_un un_neg ha) fun σ H QV ⟨N, F, ρ, Q, R, q, k⟩ => ⟨N, F, ρ, _, R, q, fun v F1 H1 x ρ1 R1 M1 ox q1 => by
    obtain ⟨d, h1, q2⟩ := match1 q1
    have w := ox.w R1 h1
    unfold cNeg at q2
    split at q2
    · exact ⟨_, w.intE, k _ F1 H1 _ ρ1 R1 M1 (.int _) q2⟩
    · exact q2.elim⟩
abbrev CP := Ev → (Option Int → Ev → Prop) → Prop
def lP (K : PySem.W.Frag) (t : CP) : TO := fun σ H QV => ∃ N F ρ Q, Rs K N F H σ ρ ∧ t ρ Q ∧ ∀ o F' H' ρ', Rs K N F' H' σ ρ' → Mo N F F' → Q o ρ' → QV o H'
def VP (X : Cx) (e : Option Expr) (t : CP) : Prop := PO X e (lP X.K t)
def cNoP : CP := fun ρ Q => Q none ρ
def cSoP (t : CO) : CP := fun ρ Q => t ρ fun x ρ1 => match res ρ1 x with
  | some (.int i) => Q (some i) ρ1
  | _ => False
theorem vp_no : VP X none cNoP := ⟨fun pins s σ H Q I ⟨N, F, ρ, Q', R, q, k⟩ => po_none.run pins s σ H Q I (k none F H ρ R (.refl _ _) q)⟩
theorem vp_so {t : CO} (h : VO X e t) : VP X (some e) (cSoP t) := ⟨fun pins s σ H QV I ⟨N, F, ρ, Q, R, q, k⟩ => (po_some h).run pins s σ H QV I ⟨N, F, ρ, _, R, q, fun v F1 H1 x ρ1 R1 M1 ox q1 => by
    split at q1
    · rename_i i e1
      exact ⟨i, (ox.w R1 e1).intE, k _ F1 H1 ρ1 R1 M1 q1⟩
    · exact q1.elim⟩⟩
def cutD (ds : List D) (lo hi : Option Int) : List D := (ds.drop (HT.sIx ds.length 0 lo)).take (HT.sIx ds.length ds.length hi - HT.sIx ds.length 0 lo)
theorem RvA.cut {K : PySem.W.Frag} {F : Hp} {vs : List V} {ds : List D} (r : RvA K F vs ds) (lo hi : Option Int) : RvA K F (cutV vs lo hi) (cutD ds lo hi) := by
  unfold cutV cutD
  rw [r.length]
  exact (r.drop _).take _
def cSlice (te : CO) (tl th : CP) : CE := fun ρ Q => te ρ fun x ρ1 => tl ρ1 fun lo ρ2 => th ρ2 fun hi ρ3 => match res ρ3 x with
  | some (.tup ds) => Q (.tup (cutD ds lo hi)) ρ3
  | some (.lst ds) => Q (.lst (cutD ds lo hi)) ρ3
  | _ => False
theorem ve_slice {te : CO} {tl th : CP} {lo hi : Option Expr} {p2} (he : VO X e te) (hl : VP X lo tl) (hh : VP X hi th) : VE X (.Subscript e (.Slice lo hi none p2) pos) (cSlice te tl th) :=
  PE.imp (pe_slice (SlR.or sl_tupA sl_list) he hl hh) fun σ H QV ⟨N, F, ρ, Q, R, q, k⟩ => ⟨N, F, ρ, _, R, q, fun v F1 H1 x ρ1 R1 M1 ox q1 => ⟨N, F1, ρ1, _, R1, q1, fun lo F2 H2 ρ2 R2 M2 q2 => ⟨N, F2, ρ2, _, R2, q2, fun hi F3 H3 ρ3 R3 M3 q3 => by
    have ox3 := (ox.up M2.ff).up M3.ff
    have M := (M1.trans M2).trans M3
    split at q3
    · rename_i ds e1
      obtain ⟨p1, xs, rfl, g1, f1, r1⟩ := (ox3.w R3 e1).tupE R3.fh
      refine .inl ⟨p1, xs, rfl, SqT.of f1, fun hw => ?_, fun _ p np => ?_⟩
      · have e2 : cutD ds lo hi = ds := by
          unfold cutD
          rw [← r1.length, hw.1, hw.2]
          simp [r1.length]
        rw [e2] at q3
        exact k _ F3 H3 _ ρ3 R3 M (.tup g1 r1) q3
      · have E : Ex F3 H3 (upd F3 p (.tup (cutV xs lo hi))) (upd H3 p (.tup (cutV xs lo hi))) := .new R3.fh np
        exact k _ _ _ _ ρ3 (R3.exd E) (M.trans (E.mo R3.nh)) (.tup upd_same ((r1.cut lo hi).up E.ff)) q3
    · rename_i ds e1
      obtain ⟨p1, xs, rfl, f1, r1⟩ := (ox3.w R3 e1).lstE R3.fh
      refine .inr ⟨p1, xs, rfl, SqL.of f1, fun p np => ?_⟩
      have E : Ex F3 H3 (upd F3 p (.lst (cutV xs lo hi))) (upd H3 p (.lst (cutV xs lo hi))) := .new R3.fh np
      exact k _ _ _ _ ρ3 (R3.exd E) (M.trans (E.mo R3.nh)) (.lst upd_same ((r1.cut lo hi).up E.ff)) q3
    · exact q3.elim⟩⟩⟩
/-- xs[::-1] -/
def cRevL (d : D) (Q : D → Prop) : Prop := match d with
  | .lst ds => Q (.lst ds.reverse)
  | _ => False
theorem ve_revL {t : CO} {k : Nat} {p1 p2 p3 : Pos} (ha : VO X e t) : VE X (.Subscript e (.Slice none none (some (.UnaryOp .USub (.Constant (.int 1) k p1) p2)) p3) pos) (c1 cRevL t) :=
  PE.imp (pe_revL ha) fun σ H QV ⟨N, F, ρ, Q, R, q, k⟩ => ⟨N, F, ρ, _, R, q, fun v F1 H1 x ρ1 R1 M1 ox q1 => by
    obtain ⟨d, h1, q2⟩ := match1 q1
    have w := ox.w R1 h1
    unfold cRevL at q2
    split at q2
    · obtain ⟨p1, xs, rfl, f1, r1⟩ := w.lstE R1.fh
      refine ⟨p1, xs, rfl, SqL.of f1, fun p np => ?_⟩
      have E : Ex F1 H1 (upd F1 p (.lst xs.reverse)) (upd H1 p (.lst xs.reverse)) := .new R1.fh np
      exact k _ _ _ _ ρ1 (R1.exd E) (M1.trans (E.mo R1.nh)) (.lst upd_same (r1.reverse.up E.ff)) q2
    · exact q2.elim⟩
/-! ### truth -/
def cB (t : CE) : CT := fun ρ Q => t ρ fun d ρ1 => match d with
  | .bl b => Q b ρ1
  | _ => False
theorem lE_bl {t : CE} {K : PySem.W.Frag} {σ : L2.St} {H : Hp} {QV : Bool → Hp → Prop} (h : lT K (cB t) σ H QV) : lE K t σ H fun x H' => ∃ c, x = .bl c ∧ QV c H' := by
  obtain ⟨N, F, ρ, Q, R, q, k⟩ := h
  refine ⟨N, F, ρ, _, R, q, fun v F1 H1 d ρ1 R1 M1 r q1 => ?_⟩
  split at q1
  · cases r
    exact ⟨_, rfl, k _ F1 H1 ρ1 R1 M1 q1⟩
  · exact q1.elim
theorem vt_val {t : CE} (h : VE X e t) (he : ∀ whole, isTrue e X.env whole = (do let v ← whole; standAt e.pos; holding [v] (truthy v)) := by intro _; rfl) : VT X e (cB t) := PT.imp (pt_val h he) fun σ H QV h => lE_bl h
theorem vt_cmp {op : CmpOp} {r : R2} {c : C2} {ta tb : CO} (ho : OpR X (compareOp op) r) (o : Op2 X.K r c) (ha : VO X a ta) (hb : VO X b tb) (hm : behindInMarks op b = false := by first | exact nomark _ | rfl) : VT X (.Compare a [op] [b] pos) (cB (c2 c ta tb)) :=
  PT.imp (pt_cmpR ho ha hb hm) fun σ H QV h => op2_lift o σ H _ (lE_bl h)
theorem vt_din {o i : Expr} {to ti : CO} (hu : X.A.units + 1 < cLine) (hi : VO X i ti) (ho : VO X o to) (hm : behindInMarks .In o = false := by rfl) : VT X (.Compare i [.In] [o] pos) (cB (c2 cDIn ti to)) := PT.imp (pt_cmp (pc_din hu hi ho) hm) fun σ H QV h => op2_lift o_din σ H _ (lE_bl h)
theorem vt_dnotin {o i : Expr} {to ti : CO} (hu : X.A.units + 1 < cLine) (hi : VO X i ti) (ho : VO X o to) (hm : behindInMarks .NotIn o = false := by rfl) : VT X (.Compare i [.NotIn] [o] pos) (cB (c2 cDNotIn ti to)) := PT.imp (pt_cmp (pc_dnotin hu hi ho) hm) fun σ H QV h => op2_lift o_dnotin σ H _ (lE_bl h)
def cNot (t : CT) : CT := fun ρ Q => t ρ fun b ρ1 => Q (!b) ρ1
def cAndT (t u : CT) : CT := fun ρ Q => t ρ fun b ρ1 => if b = true then u ρ1 Q else Q false ρ1
def cOrT (t u : CT) : CT := fun ρ Q => t ρ fun b ρ1 => if b = true then Q true ρ1 else u ρ1 Q
theorem vt_not {t : CT} (h : VT X a t) : VT X (.UnaryOp .Not a pos) (cNot t) := PT.imp (pt_not h) fun σ H QV ⟨N, F, ρ, Q, R, q, k⟩ => ⟨N, F, ρ, _, R, q, fun b F1 H1 ρ1 R1 M1 q1 => k _ F1 H1 ρ1 R1 M1 q1⟩
theorem vw_and1 {t : CT} (h : VT X a t) : VW X (.BoolOp .And [a] pos) t := pw_and1 h
theorem vw_or1 {t : CT} (h : VT X a t) : VW X (.BoolOp .Or [a] pos) t := pw_or1 h
theorem vw_and {t u : CT} (h : VT X a t) (h2 : VW X (.BoolOp .And (b :: rest) pos) u) : VW X (.BoolOp .And (a :: b :: rest) pos) (cAndT t u) := PW.imp (pw_and h h2) fun σ H QV ⟨N, F, ρ, Q, R, q, k⟩ => ⟨N, F, ρ, _, R, q, fun b F1 H1 ρ1 R1 M1 q1 => by
    cases b with
    | true => exact ⟨N, F1, ρ1, Q, R1, q1, fun c F2 H2 ρ2 R2 M2 q2 => k c F2 H2 ρ2 R2 (M1.trans M2) q2⟩
    | false => exact k _ F1 H1 ρ1 R1 M1 q1⟩
theorem vw_or {t u : CT} (h : VT X a t) (h2 : VW X (.BoolOp .Or (b :: rest) pos) u) : VW X (.BoolOp .Or (a :: b :: rest) pos) (cOrT t u) := PW.imp (pw_or h h2) fun σ H QV ⟨N, F, ρ, Q, R, q, k⟩ => ⟨N, F, ρ, _, R, q, fun b F1 H1 ρ1 R1 M1 q1 => by
    cases b with
    | false => exact ⟨N, F1, ρ1, Q, R1, q1, fun c F2 H2 ρ2 R2 M2 q2 => k c F2 H2 ρ2 R2 (M1.trans M2) q2⟩
    | true => exact k _ F1 H1 ρ1 R1 M1 q1⟩
theorem vt_w {t : CT} (h : VW X e t) : VT X e t := h.pt
/-- and, or, not as values, all but the last one bools -/
def cAndV (t u : CE) : CE := fun ρ Q => t ρ fun d ρ1 => match d with
  | .bl true => u ρ1 Q
  | .bl false => Q (.bl false) ρ1
  | _ => False
def cOrV (t u : CE) : CE := fun ρ Q => t ρ fun d ρ1 => match d with
  | .bl true => Q (.bl true) ρ1
  | .bl false => u ρ1 Q
  | _ => False
def cNotV (t : CE) : CE := fun ρ Q => t ρ fun d ρ1 => match d with
  | .bl b => Q (.bl (!b)) ρ1
  | _ => False
theorem ve_one {op} {t : CE} (h : VE X a t) : VE X (.BoolOp op [a] pos) t := pe_one h
theorem ve_and {t u : CE} (h : VE X a t) (h2 : VE X (.BoolOp .And (b :: rest) pos) u) : VE X (.BoolOp .And (a :: b :: rest) pos) (cAndV t u) := PE.imp (pe_and h h2) fun σ H QV ⟨N, F, ρ, Q, R, q, k⟩ => ⟨N, F, ρ, _, R, q, fun v F1 H1 d ρ1 R1 M1 r q1 => by
    split at q1
    · cases r
      exact ⟨_, rfl, iteT ⟨N, F1, ρ1, Q, R1, q1, fun v F2 H2 d ρ2 R2 M2 r q2 => k v F2 H2 d ρ2 R2 (M1.trans M2) r q2⟩⟩
    · cases r
      exact ⟨_, rfl, iteF (k _ F1 H1 _ ρ1 R1 M1 (.bl _) q1)⟩
    · exact q1.elim⟩
theorem ve_or {t u : CE} (h : VE X a t) (h2 : VE X (.BoolOp .Or (b :: rest) pos) u) : VE X (.BoolOp .Or (a :: b :: rest) pos) (cOrV t u) := PE.imp (pe_or h h2) fun σ H QV ⟨N, F, ρ, Q, R, q, k⟩ => ⟨N, F, ρ, _, R, q, fun v F1 H1 d ρ1 R1 M1 r q1 => by
    split at q1
    · cases r
      exact ⟨_, rfl, iteT (k _ F1 H1 _ ρ1 R1 M1 (.bl _) q1)⟩
    · cases r
      exact ⟨_, rfl, iteF ⟨N, F1, ρ1, Q, R1, q1, fun v F2 H2 d ρ2 R2 M2 r q2 => k v F2 H2 d ρ2 R2 (M1.trans M2) r q2⟩⟩
    · exact q1.elim⟩
theorem ve_not {t : CE} (h : VE X a t) : VE X (.UnaryOp .Not a pos) (cNotV t) := PE.imp (pe_not h) fun σ H QV ⟨N, F, ρ, Q, R, q, k⟩ => ⟨N, F, ρ, _, R, q, fun v F1 H1 d ρ1 R1 M1 r q1 => by
    split at q1
    · cases r
      exact ⟨_, rfl, k _ F1 H1 _ ρ1 R1 M1 (.bl _) q1⟩
    · exact q1.elim⟩
def cIf (t : CT) (u w : CE) : CE := fun ρ Q => t ρ fun b ρ1 => if b = true then u ρ1 Q else w ρ1 Q
theorem ve_if {t : CT} {u w : CE} {c : Expr} (hc : VT X c t) (ha : VE X a u) (hb : VE X b w) : VE X (.IfExp c a b pos) (cIf t u w) := PE.imp (pe_ifExp hc ha hb) fun σ H QV ⟨N, F, ρ, Q, R, q, k⟩ => ⟨N, F, ρ, _, R, q, fun b F1 H1 ρ1 R1 M1 q1 => by
    cases b with
    | true => exact ⟨N, F1, ρ1, Q, R1, q1, fun v F2 H2 d ρ2 R2 M2 r q2 => k v F2 H2 d ρ2 R2 (M1.trans M2) r q2⟩
    | false => exact ⟨N, F1, ρ1, Q, R1, q1, fun v F2 H2 d ρ2 R2 M2 r q2 => k v F2 H2 d ρ2 R2 (M1.trans M2) r q2⟩⟩
/-- a < b < c of ints (a one comparison, b another) -/
def cChain (c c' : C2) (ta tb tc : CO) : CE := fun ρ Q => ta ρ fun x ρ1 => tb ρ1 fun y ρ2 => match res ρ2 x, res ρ2 y with
  | some d, some e => c d e fun z => match z with
    | .bl true => tc ρ2 fun w ρ3 => (match res ρ3 y, res ρ3 w with
      | some e', some f => c' e' f fun u => Q u ρ3
      | _, _ => False)
    | .bl false => Q (.bl false) ρ2
    | _ => False
  | _, _ => False
theorem ve_chain {op op' : CmpOp} {r r' : R2} {c c' : C2} {ta tb tc : CO} {d : Expr} (ho : OpR X (compareOp op) r) (o : Op2 X.K r c) (ho' : OpR X (compareOp op') r') (o' : Op2 X.K r' c') (ha : VO X a ta) (hb : VO X b tb) (hc : VO X d tc)
    (hm : lastMarks [op, op'] [b, d] = false := by rfl) : VE X (.Compare a [op, op'] [b, d] pos) (cChain c c' ta tb tc) :=
  PE.imp (pe_chain ho ho' ha hb hc hm) fun σ H QV ⟨N, F, ρ, Q, R, q, k⟩ => ⟨N, F, ρ, _, R, q, fun v F1 H1 x ρ1 R1 M1 ox q1 => ⟨N, F1, ρ1, _, R1, q1, fun w F2 H2 y ρ2 R2 M2 oy q2 => by
    obtain ⟨d, e, h1, h2, q2⟩ := match2 q2
    refine o F2 H2 v w d e _ _ R2.fh ((ox.up M2.ff).w R2 h1) (oy.w R2 h2) q2 fun u F3 H3 d' E r' q3 => ?_
    have R3 := R2.exd E
    have M3 := (M1.trans M2).trans (E.mo R2.nh)
    split at q3
    · cases r'
      refine ⟨true, rfl, iteT ⟨N, F3, ρ2, _, R3, q3, fun z F4 H4 u ρ4 R4 M4 oz q4 => ?_⟩⟩
      obtain ⟨e', f, g1, g2, q4⟩ := match2 q4
      exact o' F4 H4 w z e' f _ _ R4.fh (((oy.up E.ff).up M4.ff).w R4 g1) (oz.w R4 g2) q4 fun u F5 H5 d'' E' r'' q5 => k u F5 H5 d'' ρ4 (R4.exd E') ((M3.trans M4).trans (E'.mo R4.nh)) r'' q5
    · cases r'
      exact ⟨false, rfl, iteF (k _ F3 H3 _ ρ2 R3 M3 (.bl _) q3)⟩
    · exact q3.elim⟩⟩
/-! ### arguments -/
def cNil : CA := fun ρ Q => Q [] ρ
def cCons (t : CO) (u : CA) : CA := fun ρ Q => t ρ fun x ρ1 => u ρ1 fun xs ρ2 => Q (x :: xs) ρ2
theorem va_nil : VA X [] cNil := PA.imp pa_nil fun σ H QV ⟨N, F, ρ, Q, R, q, k⟩ => k [] F H [] ρ R (.refl _ _) .nil q
theorem va_cons {t : CO} {u : CA} (h : VO X e t) (h2 : VA X es u) (hs : starEach (e :: es) X.env = (false, eval e X.env) :: starEach es X.env := by rfl) : VA X (e :: es) (cCons t u) :=
  PA.imp (pa_cons h h2 hs) fun σ H QV ⟨N, F, ρ, Q, R, q, k⟩ => ⟨N, F, ρ, _, R, q, fun v F1 H1 x ρ1 R1 M1 ox q1 => ⟨N, F1, ρ1, _, R1, q1, fun vs F2 H2 xs ρ2 R2 M2 os q2 => k _ F2 H2 _ ρ2 R2 (M1.trans M2) (.cons (ox.up M2.ff) os) q2⟩⟩
def resA (ρ : Ev) : List Opd → Option (List D)
  | [] => some []
  | x :: xs => match res ρ x, resA ρ xs with
    | some d, some ds => some (d :: ds)
    | _, _ => none
theorem opds_w {K : PySem.W.Frag} {N F H : Hp} {σ : L2.St} {ρ : Ev} (R : Rs K N F H σ ρ) : ∀ {vs : List V} {os : List Opd} {ds : List D}, OpdsOk K F σ vs os → resA ρ os = some ds → All2 (RvW K F H) vs ds
  | _, _, _, .nil, e => by cases e; exact .nil
  | _, _, _, .cons r t, e => by
    unfold resA at e
    split at e
    · rename_i d ds e1 e2
      cases e
      exact .cons (r.w R e1) (opds_w R t e2)
    · cases e
/-! arguments that are data for good -/
abbrev CAE := Ev → (List D → Ev → Prop) → Prop
def lAE (K : PySem.W.Frag) (t : CAE) : TA := fun σ H QV => ∃ N F ρ Q, Rs K N F H σ ρ ∧ t ρ Q ∧ ∀ vs F' H' ds ρ', Rs K N F' H' σ ρ' → Mo N F F' → RvA K F' vs ds → Q ds ρ' → QV vs H'
def VAE (X : Cx) (es : List Expr) (t : CAE) : Prop := PA X es (lAE X.K t)
def cNilE : CAE := fun ρ Q => Q [] ρ
def cConsE (t : CE) (u : CAE) : CAE := fun ρ Q => t ρ fun x ρ1 => u ρ1 fun xs ρ2 => Q (x :: xs) ρ2
theorem vae_nil : VAE X [] cNilE := PA.imp pa_nil fun σ H QV ⟨N, F, ρ, Q, R, q, k⟩ => k [] F H [] ρ R (.refl _ _) .nil q
theorem vae_cons {t : CE} {u : CAE} (h : VE X e t) (h2 : VAE X es u) (hs : starEach (e :: es) X.env = (false, eval e X.env) :: starEach es X.env := by rfl) : VAE X (e :: es) (cConsE t u) :=
  PA.imp (pa_cons h h2 hs) fun σ H QV ⟨N, F, ρ, Q, R, q, k⟩ => ⟨N, F, ρ, _, R, q, fun v F1 H1 x ρ1 R1 M1 ox q1 => ⟨N, F1, ρ1, _, R1, q1, fun vs F2 H2 xs ρ2 R2 M2 os q2 => k _ F2 H2 _ ρ2 R2 (M1.trans M2) (.cons (ox.up M2.ff) os) q2⟩⟩
/-! displays -/
def cTup (t : CAE) : CE := fun ρ Q => t ρ fun ds ρ1 => ds.length ≤ sizeLine ∧ Q (.tup ds) ρ1
def cLst (t : CAE) : CE := fun ρ Q => t ρ fun ds ρ1 => ds.length ≤ sizeLine ∧ Q (.lst ds) ρ1
theorem ve_tup {t : CAE} {x1} (h : VAE X es t) : VE X (.Tuple es x1 pos) (cTup t) := PE.imp (pe_tup h) fun σ H QV ⟨N, F, ρ, Q, R, q, k⟩ => ⟨N, F, ρ, _, R, q, fun vs F1 H1 ds ρ1 R1 M1 r q1 => ⟨by rw [r.length]; exact q1.1, fun p np => by
    have E : Ex F1 H1 (upd F1 p (.tup vs)) (upd H1 p (.tup vs)) := .new R1.fh np
    exact k _ _ _ _ ρ1 (R1.exd E) (M1.trans (E.mo R1.nh)) (.tup upd_same (r.up E.ff)) q1.2⟩⟩
theorem vn_lst {t : CAE} (h : VAE X es t) : VN X (.List es pos) (cLst t) := PE.imp (pe_lst h) fun σ H QV ⟨N, F, ρ, Q, R, q, k⟩ => ⟨N, F, ρ, _, R, q, fun vs F1 H1 ds ρ1 R1 M1 r q1 => ⟨by rw [r.length]; exact q1.1, fun p np => k p _ F1 H1 (.lst ds) ρ1 R1 M1 np ⟨vs, rfl, r⟩ q1.2⟩⟩
def cDicN (t : Bool) : CE := fun ρ Q => Q (.dic t []) ρ
theorem vn_dicK : VN X (.Dict [] [] pos) (cDicN false) := PE.imp pe_dnewK fun σ H QV ⟨N, F, ρ, Q, R, q, k⟩ p np => k p _ F H (.dic false []) ρ R (.refl _ _) np ⟨[], rfl, .nil⟩ q
theorem vn_dicT : VN X (.Dict [] [] pos) (cDicN true) := PE.imp pe_dnewT fun σ H QV ⟨N, F, ρ, Q, R, q, k⟩ p np => k p _ F H (.dic true []) ρ R (.refl _ _) np ⟨[], rfl, .nil⟩ q
/-- [..] * n, a new list -/
def cRepN (ta : CE) (tb : CO) : CE := fun ρ Q => ta ρ fun x ρ1 => tb ρ1 fun y ρ2 => match x, res ρ2 y with
  | .lst a, some (.int j) => -(2 ^ 63) ≤ j ∧ j < 2 ^ 63 ∧ a.length * j.toNat ≤ sizeLine ∧ Q (.lst (List.replicate j.toNat a).flatten) ρ2
  | _, _ => False
theorem vn_rep {ta : CE} {tb : CO} (ha : VE X a ta) (hb : VO X b tb) : VN X (.BinOp a .Mult b pos) (cRepN ta tb) :=
  PE.imp (pe_op op_rep ha hb) fun σ H QV ⟨N, F, ρ, Q, R, q, k⟩ => ⟨N, F, ρ, _, R, q, fun v F1 H1 x ρ1 R1 M1 rx q1 => ⟨N, F1, ρ1, _, R1, q1, fun w F2 H2 y ρ2 R2 M2 oy q2 => by
    split at q2
    · rename_i a j e1
      obtain ⟨p1, xs, rfl, f1, r1⟩ := (RvW.rv (rx.up M2.ff) : RvW X.K F2 H2 v _).lstE R2.fh
      refine ⟨p1, _, xs, rfl, (oy.w R2 e1).intE, f1, q2.1, q2.2.1, by rw [r1.length]; exact q2.2.2.1, fun p np => ?_⟩
      exact k p _ F2 H2 (.lst _) ρ2 R2 (M1.trans M2) np ⟨_, rfl, r1.rep _⟩ q2.2.2.2
    · exact q2.elim⟩⟩
/-! ### calls of built-ins -/
abbrev CF := List D → (D → Prop) → Prop
def Fc (K : PySem.W.Frag) (r : List V → Hp → VK → Prop) (c : CF) : Prop := ∀ (F H : Hp) (vs : List V) (ds : List D) (Q : D → Prop) (QV : VK), Same F H → All2 (RvW K F H) vs ds → c ds Q → (∀ u F' H' d', Ex F H F' H' → Rv K F' u d' → Q d' → QV u H') → r vs H QV
/-- of a new thing -/
def Fn (K : PySem.W.Frag) (r : List V → Hp → VK → Prop) (c : CF) : Prop := ∀ (F H : Hp) (vs : List V) (ds : List D) (Q : D → Prop) (QV : VK), Same F H → All2 (RvW K F H) vs ds → c ds Q → (∀ p o F' H' d', Ex F H F' H' → H' p = none → OnO K F' o d' → Q d' → QV (.ref p) (upd H' p o)) → r vs H QV
def cF (c : CF) (t : CA) : CE := fun ρ Q => t ρ fun os ρ1 => match resA ρ1 os with
  | some ds => c ds fun z => Q z ρ1
  | none => False
theorem fc_lift {r : List V → Hp → VK → Prop} {c : CF} {t : CA} (o : Fc X.K r c) : ∀ σ H QV, lE X.K (cF c t) σ H QV → tCB r (lA X.K t) σ H QV := fun σ H QV ⟨N, F, ρ, Q, R, q, k⟩ => ⟨N, F, ρ, _, R, q, fun vs F1 H1 os ρ1 R1 M1 ok q1 => by
    split at q1
    · rename_i ds e1
      exact o F1 H1 vs ds _ QV R1.fh (opds_w R1 ok e1) q1 fun u F2 H2 d' E r' q2 => k u F2 H2 d' ρ1 (R1.exd E) (M1.trans (E.mo R1.nh)) r' q2
    · exact q1.elim⟩
theorem fn_lift {r : List V → Hp → VK → Prop} {c : CF} {t : CA} (o : Fn X.K r c) : ∀ σ H QV, lN X.K (cF c t) σ H QV → tCB r (lA X.K t) σ H QV := fun σ H QV ⟨N, F, ρ, Q, R, q, k⟩ => ⟨N, F, ρ, _, R, q, fun vs F1 H1 os ρ1 R1 M1 ok q1 => by
    split at q1
    · rename_i ds e1
      exact o F1 H1 vs ds _ QV R1.fh (opds_w R1 ok e1) q1 fun p u F2 H2 d' E np r' q2 => k p u F2 H2 d' ρ1 (R1.exd E) (M1.trans (E.mo R1.nh)) np r' q2
    · exact q1.elim⟩
variable {x : Str} {p : Pos} {id T : String} {r : List V → Hp → VK → Prop} {c : CF} {t : CA}
theorem ve_b (hc : CallR X (.builtin id) r) (o : Fc X.K r c) (hm : X.mg x = none) (hv : bootBuiltins x = some (.builtin id)) (ha : VA X (e :: es) t) (hg : Gl X x := by rfl) (hn : x ≠ "__name__" := by decide) (hdb : (x == ("__debug__" : Str)) = false := by decide)
    (he : starEach (e :: es) X.env = (false, eval e X.env) :: starEach es X.env := by rfl) (hpl : (backTo pos (starEach es X.env)).any (·.1) = false := by rfl) : VE X (.Call (.Name x p) (e :: es) [] pos) (cF c t) := PE.imp (pe_callB hc hg hm hv ha hn hdb he hpl) (fc_lift o)
theorem vn_b (hc : CallR X (.builtin id) r) (o : Fn X.K r c) (hm : X.mg x = none) (hv : bootBuiltins x = some (.builtin id)) (ha : VA X (e :: es) t) (hg : Gl X x := by rfl) (hn : x ≠ "__name__" := by decide) (hdb : (x == ("__debug__" : Str)) = false := by decide)
    (he : starEach (e :: es) X.env = (false, eval e X.env) :: starEach es X.env := by rfl) (hpl : (backTo pos (starEach es X.env)).any (·.1) = false := by rfl) : VN X (.Call (.Name x p) (e :: es) [] pos) (cF c t) := PE.imp (pe_callB hc hg hm hv ha hn hdb he hpl) (fn_lift o)
theorem ve_ty (hc : CallR X (.type T) r) (o : Fc X.K r c) (hm : X.mg x = none) (hv : bootBuiltins x = some (.type T)) (ha : VA X (e :: es) t) (hg : Gl X x := by rfl) (hn : x ≠ "__name__" := by decide) (hdb : (x == ("__debug__" : Str)) = false := by decide)
    (he : starEach (e :: es) X.env = (false, eval e X.env) :: starEach es X.env := by rfl) (hpl : (backTo pos (starEach es X.env)).any (·.1) = false := by rfl) : VE X (.Call (.Name x p) (e :: es) [] pos) (cF c t) := PE.imp (pe_callTy hc hg hm hv ha hn hdb he hpl) (fc_lift o)
theorem vn_ty (hc : CallR X (.type T) r) (o : Fn X.K r c) (hm : X.mg x = none) (hv : bootBuiltins x = some (.type T)) (ha : VA X (e :: es) t) (hg : Gl X x := by rfl) (hn : x ≠ "__name__" := by decide) (hdb : (x == ("__debug__" : Str)) = false := by decide)
    (he : starEach (e :: es) X.env = (false, eval e X.env) :: starEach es X.env := by rfl) (hpl : (backTo pos (starEach es X.env)).any (·.1) = false := by rfl) : VN X (.Call (.Name x p) (e :: es) [] pos) (cF c t) := PE.imp (pe_callTy hc hg hm hv ha hn hdb he hpl) (fn_lift o)
end
end CL
/-! CL 5: built-ins, own defs called, fields. -/
namespace CL
open PySem PySem.Spec PySem.Calls PyProof.Rows L2
theorem bt_len : bootBuiltins "len" = some (.builtin "len") := by decide +kernel
theorem bt_abs : bootBuiltins "abs" = some (.builtin "abs") := by decide +kernel
theorem bt_sum : bootBuiltins "sum" = some (.builtin "sum") := by decide +kernel
theorem bt_all : bootBuiltins "all" = some (.builtin "all") := by decide +kernel
theorem bt_any : bootBuiltins "any" = some (.builtin "any") := by decide +kernel
theorem bt_min : bootBuiltins "min" = some (.builtin "min") := by decide +kernel
theorem bt_max : bootBuiltins "max" = some (.builtin "max") := by decide +kernel
theorem bt_sorted : bootBuiltins "sorted" = some (.builtin "sorted") := by decide +kernel
theorem bt_isinstance : bootBuiltins "isinstance" = some (.builtin "isinstance") := by decide +kernel
theorem bt_int : bootBuiltins "int" = some (.type "int") := by decide +kernel
theorem bt_bool : bootBuiltins "bool" = some (.type "bool") := by decide +kernel
theorem bt_str : bootBuiltins "str" = some (.type "str") := by decide +kernel
theorem bt_list : bootBuiltins "list" = some (.type "list") := by decide +kernel
theorem bt_tuple : bootBuiltins "tuple" = some (.type "tuple") := by decide +kernel
section
variable {K : PySem.W.Frag} {X : Cx} {F H : Hp}
theorem all2_1 {α β : Type} {R : α → β → Prop} {vs : List α} {d : β} (h : All2 R vs [d]) : ∃ v, vs = [v] ∧ R v d := by
  cases h with
  | cons r t => cases t; exact ⟨_, rfl, r⟩
theorem all2_2 {α β : Type} {R : α → β → Prop} {vs : List α} {d e : β} (h : All2 R vs [d, e]) : ∃ v w, vs = [v, w] ∧ R v d ∧ R w e := by
  cases h with
  | cons r t =>
    obtain ⟨w, rfl, q⟩ := all2_1 t
    exact ⟨_, _, rfl, r, q⟩
theorem all2_0 {α β : Type} {R : α → β → Prop} {vs : List α} (h : All2 R vs ([] : List β)) : vs = [] := by cases h; rfl
/-! len -/
def cLen : CF := fun ds Q => match ds with
  | [.lst a] => Q (.int a.length)
  | [.tup a] => Q (.int a.length)
  | [.dic _ kvs] => Q (.int kvs.length)
  | [.str x] => x.length ≤ sizeLine ∧ Q (.int x.length)
  | _ => False
theorem r_len : CallR X (.builtin "len") (fun xs H Q => (∃ p ys, xs = [.ref p] ∧ (SqL X.K H p ys ∨ SqT X.K H p ys) ∧ Q (.int ys.length) H) ∨ (∃ a kvs, xs = [V.ref a] ∧ H a = some (.dK kvs) ∧ Q (.int kvs.length) H) ∨ rLenT xs H Q ∨ (∃ z, xs = [.str z] ∧ z.length ≤ sizeLine ∧ Q (.int z.length) H)) :=
  call_len_seq.or (call_lenD.or (call_len_dT.or call_len_str))
theorem f_len : Fc K (fun xs H Q => (∃ p ys, xs = [.ref p] ∧ (SqL K H p ys ∨ SqT K H p ys) ∧ Q (.int ys.length) H) ∨ (∃ a kvs, xs = [V.ref a] ∧ H a = some (.dK kvs) ∧ Q (.int kvs.length) H) ∨ rLenT xs H Q ∨ (∃ z, xs = [.str z] ∧ z.length ≤ sizeLine ∧ Q (.int z.length) H)) cLen := fun F H vs ds Q QV s r q k => by
  unfold cLen at q
  split at q
  · obtain ⟨v, rfl, rv⟩ := all2_1 r
    obtain ⟨p, xs, rfl, f1, r1⟩ := rv.lstE s
    exact .inl ⟨p, xs, rfl, .inl (SqL.of f1), by rw [r1.length]; exact k _ F H _ (.refl s) (.int _) q⟩
  · obtain ⟨v, rfl, rv⟩ := all2_1 r
    obtain ⟨p, xs, rfl, g1, f1, r1⟩ := rv.tupE s
    exact .inl ⟨p, xs, rfl, .inr (SqT.of f1), by rw [r1.length]; exact k _ F H _ (.refl s) (.int _) q⟩
  · rename_i t kvs
    obtain ⟨v, rfl, rv⟩ := all2_1 r
    obtain ⟨p, o, rfl, f1, r1⟩ := rv.dicE s
    cases t with
    | false =>
      obtain ⟨ks, rfl, r1⟩ := r1
      have l := r1.length
      rw [List.length_map] at l
      exact .inr (.inl ⟨p, ks, rfl, f1, by rw [l]; exact k _ F H _ (.refl s) (.int _) q⟩)
    | true =>
      obtain ⟨ks, rfl, r1⟩ := r1
      have l := r1.length
      rw [List.length_map] at l
      exact .inr (.inr (.inl ⟨p, ks, rfl, f1, by rw [l]; exact k _ F H _ (.refl s) (.int _) q⟩))
  · obtain ⟨v, rfl, rv⟩ := all2_1 r
    exact .inr (.inr (.inr ⟨_, by rw [rv.strE], q.1, k _ F H _ (.refl s) (.int _) q.2⟩))
  · exact q.elim
/-! abs, int, sum, all, any, two of max, min -/
def cAbs : CF := fun ds Q => match ds with
  | [.int i] => Q (.int (if i < 0 then -i else i))
  | _ => False
theorem f_abs : Fc K (fun xs H Q => ∃ i, xs = [.int i] ∧ Q (.int (if i < 0 then -i else i)) H) cAbs := fun F H vs ds Q QV s r q k => by
  unfold cAbs at q
  split at q
  · obtain ⟨v, rfl, rv⟩ := all2_1 r
    exact ⟨_, by rw [rv.intE], k _ F H _ (.refl s) (.int _) q⟩
  · exact q.elim
def cInt : CF := fun ds Q => match ds with
  | [.int i] => Q (.int i)
  | [.bl b] => Q (.int (if b then 1 else 0))
  | _ => False
theorem f_int : Fc K (fun xs H Q => (∃ i, xs = [.int i] ∧ Q (.int i) H) ∨ ∃ k, xs = [.bl k] ∧ Q (.int (if k then 1 else 0)) H) cInt := fun F H vs ds Q QV s r q k => by
  unfold cInt at q
  split at q
  · obtain ⟨v, rfl, rv⟩ := all2_1 r
    exact .inl ⟨_, by rw [rv.intE], k _ F H _ (.refl s) (.int _) q⟩
  · obtain ⟨v, rfl, rv⟩ := all2_1 r
    exact .inr ⟨_, by rw [rv.blE], k _ F H _ (.refl s) (.int _) q⟩
  · exact q.elim
def intsOf : List D → Option (List Int)
  | [] => some []
  | d :: ds => match d, intsOf ds with
    | .int i, some is => some (i :: is)
    | _, _ => none
def blsOf : List D → Option (List Bool)
  | [] => some []
  | d :: ds => match d, blsOf ds with
    | .bl i, some is => some (i :: is)
    | _, _ => none
theorem rva_ints : ∀ {vs : List V} {ds : List D} {is : List Int}, RvA K F vs ds → intsOf ds = some is → vs = is.map V.int
  | _, _, _, .nil, e => by cases e; rfl
  | _, _, _, .cons r t, e => by
    unfold intsOf at e
    split at e
    · rename_i i is e2
      cases e
      cases r
      rw [List.map_cons, rva_ints t e2]
    · cases e
theorem rva_bls : ∀ {vs : List V} {ds : List D} {is : List Bool}, RvA K F vs ds → blsOf ds = some is → vs = is.map V.bl
  | _, _, _, .nil, e => by cases e; rfl
  | _, _, _, .cons r t, e => by
    unfold blsOf at e
    split at e
    · rename_i i is e2
      cases e
      cases r
      rw [List.map_cons, rva_bls t e2]
    · cases e
theorem intsOf_map : ∀ is : List Int, intsOf (is.map D.int) = some is
  | [] => rfl
  | i :: is => by rw [List.map_cons]; unfold intsOf; rw [intsOf_map is]
theorem blsOf_map : ∀ is : List Bool, blsOf (is.map D.bl) = some is
  | [] => rfl
  | i :: is => by rw [List.map_cons]; unfold blsOf; rw [blsOf_map is]
def cSum : CF := fun ds Q => match ds with
  | [.lst a] => (match intsOf a with | some is => Q (.int is.sum) | none => False)
  | _ => False
theorem f_sum : Fc K (rSum K) cSum := fun F H vs ds Q QV s r q k => by
  unfold cSum at q
  split at q
  · split at q
    · rename_i is e
      obtain ⟨v, rfl, rv⟩ := all2_1 r
      obtain ⟨p, xs, rfl, f1, r1⟩ := rv.lstE s
      exact ⟨p, is, rfl, by rw [← rva_ints r1 e]; exact SqL.of f1, k _ F H _ (.refl s) (.int _) q⟩
    · exact q.elim
  · exact q.elim
def cAll : CF := fun ds Q => match ds with
  | [.lst a] => (match blsOf a with | some bs => Q (.bl (bs.all id)) | none => False)
  | _ => False
def cAny : CF := fun ds Q => match ds with
  | [.lst a] => (match blsOf a with | some bs => Q (.bl (bs.any id)) | none => False)
  | _ => False
theorem f_all : Fc K (rAll K) cAll := fun F H vs ds Q QV s r q k => by
  unfold cAll at q
  split at q
  · split at q
    · rename_i is e
      obtain ⟨v, rfl, rv⟩ := all2_1 r
      obtain ⟨p, xs, rfl, f1, r1⟩ := rv.lstE s
      exact ⟨p, is, rfl, by rw [← rva_bls r1 e]; exact SqL.of f1, k _ F H _ (.refl s) (.bl _) q⟩
    · exact q.elim
  · exact q.elim
theorem f_any : Fc K (rAny K) cAny := fun F H vs ds Q QV s r q k => by
  unfold cAny at q
  split at q
  · split at q
    · rename_i is e
      obtain ⟨v, rfl, rv⟩ := all2_1 r
      obtain ⟨p, xs, rfl, f1, r1⟩ := rv.lstE s
      exact ⟨p, is, rfl, by rw [← rva_bls r1 e]; exact SqL.of f1, k _ F H _ (.refl s) (.bl _) q⟩
    · exact q.elim
  · exact q.elim
/-! tuple, list -/
def cTuple : CF := fun ds Q => match ds with
  | [.lst a] => Q (.tup a)
  | [.tup a] => Q (.tup a)
  | _ => False
def rTupleOf (K : PySem.W.Frag) : List V → Hp → VK → Prop := fun xs H Q => ∃ p ys, xs = [.ref p] ∧ ((SqL K H p ys ∧ ∀ l, H l = none → Q (.ref l) (upd H l (.tup ys))) ∨ (SqT K H p ys ∧ Q (.ref p) H))
theorem r_tuple : CallR X (.type "tuple") (rTupleOf X.K) := call_tuple_of
theorem f_tuple : Fc K (rTupleOf K) cTuple := fun F H vs ds Q QV s r q k => by
  unfold cTuple at q
  split at q
  · obtain ⟨v, rfl, rv⟩ := all2_1 r
    obtain ⟨p, xs, rfl, f1, r1⟩ := rv.lstE s
    exact ⟨p, xs, rfl, .inl ⟨SqL.of f1, fun l nl => k _ _ _ _ (.new s nl) (.tup upd_same (r1.up (same_upd (none_of s nl)))) q⟩⟩
  · obtain ⟨v, rfl, rv⟩ := all2_1 r
    obtain ⟨p, xs, rfl, g1, f1, r1⟩ := rv.tupE s
    exact ⟨p, xs, rfl, .inr ⟨SqT.of f1, k _ F H _ (.refl s) (.tup g1 r1) q⟩⟩
  · exact q.elim
def cList : CF := fun ds Q => match ds with
  | [.lst a] => Q (.lst a)
  | [.tup a] => Q (.lst a)
  | _ => False
def rListOf (K : PySem.W.Frag) : List V → Hp → VK → Prop := fun xs H Q => ∃ p ys, xs = [.ref p] ∧ (SqL K H p ys ∨ SqT K H p ys) ∧ ∀ l, H l = none → Q (.ref l) (upd H l (.lst ys))
theorem r_list : CallR X (.type "list") (rListOf X.K) := call_list_of
theorem fn_list : Fn K (rListOf K) cList := fun F H vs ds Q QV s r q k => by
  unfold cList at q
  split at q
  · obtain ⟨v, rfl, rv⟩ := all2_1 r
    obtain ⟨p, xs, rfl, f1, r1⟩ := rv.lstE s
    exact ⟨p, xs, rfl, .inl (SqL.of f1), fun l nl => k l _ F H (.lst _) (.refl s) nl ⟨xs, rfl, r1⟩ q⟩
  · obtain ⟨v, rfl, rv⟩ := all2_1 r
    obtain ⟨p, xs, rfl, g1, f1, r1⟩ := rv.tupE s
    exact ⟨p, xs, rfl, .inr (SqT.of f1), fun l nl => k l _ F H (.lst _) (.refl s) nl ⟨xs, rfl, r1⟩ q⟩
  · exact q.elim
end
/-! ### sorted -/
section
variable {prog : Program} {w : World} {A : Around} {E : Value → Shared → Prop} {s : Shared}
theorem collect_tup {l : Addr} {vs : List Value} {Q : List Value → Shared → Prop} (hl : IsTup s.heap l vs.toArray)
    (h : Q vs { s with heap := (s.heap.push (seqObj "list" #[] 0)).update s.heap.objs.size (Obj.mapSeq (· ++ vs.toArray)) }) (hsz : vs.length ≤ sizeLine) :
    wpAny (model prog w) A (collect (.ref l)) Q E s := by
  obtain ⟨o, ho, hc, n, hd⟩ := id hl
  unfold collect
  refine wpAny_bind (wpAny_runValue (codeAny_builtin entry_proto_collect' ?_))
  show wpAny _ _ (do again (.builtin "list.__iadd__" ⟨[← newList [], .ref l], []⟩)) _ _ s
  refine wpAny_bind (wpAny_newList (wpAny_pure ⟨Code.quiet_builtin _ (by decide +kernel), codeAny_builtin entry_list_iadd' ?_⟩))
  show wpAny _ _ (Builtin.List.listExtendWith (.ref s.heap.objs.size) (.ref l) (.ref s.heap.objs.size)) _ _ { s with heap := s.heap.push (seqObj "list" #[] 0) }
  unfold Builtin.List.listExtendWith
  have ho' : (s.heap.push (seqObj "list" #[] 0)).get? l = some o := Heap.get?_push_of_some _ ho
  refine wpAny_bind (wpAny_typeOf (T := "tuple") ⟨o, ho', hc⟩ ?_)
  have ht : (Value.type "tuple" == Value.type "tuple") = true := by rfl
  rw [if_pos (by rw [ht]; simp)]
  refine wpAny_bind (listItems_at ho' hd ?_)
  refine wpAny_bind (listItems_at (xs := #[]) (n := 0) (Heap.get?_push_size _ rfl) rfl ?_)
  rw [if_neg (by simp)]
  refine wpAny_bind (listUpdate_at (xs := #[]) (n := 0) (Heap.get?_push_size _ rfl) rfl ?_ (Nat.zero_le _) (by show (#[] ++ vs.toArray).size ≤ sizeLine + 1; simp only [Array.size_append, List.size_toArray, List.length_nil]; omega))
  refine wpAny_pure ?_
  show wpAny (model prog w) A (do
      let o ← load s.heap.objs.size
      match o.data with
      | .seq xs _ => pure xs.toList
      | _ => unsupported "internal:collect") Q E { s with heap := (s.heap.push (seqObj "list" #[] 0)).update s.heap.objs.size (Obj.mapSeq (· ++ vs.toArray)) }
  refine wpAny_bind (wpAny_load (get?_update_seq (Heap.get?_push_size _ rfl) _) ?_)
  show wpAny _ _ (pure ((#[] : Array Value) ++ vs.toArray).toList) Q E _
  rw [show ((#[] : Array Value) ++ vs.toArray).toList = vs by simp]
  exact wpAny_pure h
/-- sorted(t, ..) of a tuple is list.sort(..) on a new list of its items -/
theorem sorted_of_sort_tup {l : Addr} {vs : List Value} {Q : Value → Shared → Prop} (hl : IsTup s.heap l vs.toArray) (hL : vs.length ≤ sizeLine)
    (body : ∀ E' : Value → Shared → Prop, wpAny (model prog w) A.in1.in1 (Builtin.«list.sort» ⟨[.ref (s.heap.objs.size + 1)], []⟩) (fun f s' => f = .done (.ret .none) ∧ Q (.ref (s.heap.objs.size + 1)) s') E' { s with heap := PySem.W.copyHeap s.heap vs }) :
    wpAny (model prog w) A (call (.builtin "sorted") [.ref l] []) Q E s := by
  refine call_function_entry_kw kind_sorted plain_sorted entry_sorted (args_sorted1 _) ?_
  unfold Builtin.«sorted»
  refine wpAny_bind (m := checkCount "sorted" 1 1 _) (wpAny_pure ?_)
  refine wpAny_bind (collect_tup hl ?_ hL)
  refine wpAny_bind (wpAny_newList ?_ hL)
  have hsz : ((s.heap.push (seqObj "list" #[] 0)).update s.heap.objs.size (Obj.mapSeq (· ++ vs.toArray))).objs.size = s.heap.objs.size + 1 := by
    rw [Heap.size_update, size_push']
  show wpAny _ _ _ _ _ { s with heap := PySem.W.copyHeap s.heap vs }
  rw [hsz]
  refine wpAny_bind (wpAny_holding (wpAny_call_entry_kw slot_list_sort ⟨_, PySem.W.copyHeap_at s.heap vs, rfl⟩ entry_list_sort ?body (args_list_sort _)))
  case body =>
    show wpAny (model prog w) A.in1.in1 (Builtin.«list.sort» ⟨[.ref (s.heap.objs.size + 1)], []⟩) _ _ _
    refine wpAny_mono (body _) (fun f s' hf => ?_) fun _ _ e => e
    obtain ⟨rfl, hq⟩ := hf
    exact ⟨_, rfl, wpAny_pure ⟨_, rfl, hq⟩⟩
variable {β : Type} {vs : List Value} {bs : List β} {enc : β → PyData} {R : Value → β → Prop}
open PySem.W in
theorem sorted_data_tup {l : Addr} {Q : Value → Shared → Prop} (hl : IsTup s.heap l vs.toArray) (e : EachIs R vs bs) (er : EachIs (fun v b => ∃ as, Reads s.heap v (enc b) as) vs bs) (hal : AllAlike (bs.map enc)) (hk : Sortable (bs.map enc)) (hL : bs.length ≤ sizeLine)
    (hu : ∀ b, b ∈ bs → A.units + 2 + (enc b).depth < cLine) (h : ∀ out, out.length = bs.length → EachIs R out (bs.mergeSort (dataLe false enc)) → Q (.ref (s.heap.objs.size + 1)) { s with heap := sortedAll s.heap vs (List.toArray out) }) :
    wpAny (model prog w) A (call (.builtin "sorted") [.ref l]) Q E s := by
  have er' : EachIs (fun v b => ∃ as, Reads (sortingHeap (copyHeap s.heap vs) (s.heap.objs.size + 1) vs) v (enc b) as) vs bs := er.mono fun _ _ ⟨as, r⟩ => ⟨as, PyProof.Rows.Reads.keeps (fun _ _ => sorting_copy_old) r⟩
  have S : SortsAt prog w A.in1.in1 { s with heap := sortingHeap (copyHeap s.heap vs) (s.heap.objs.size + 1) vs } (dataKind (sortingHeap (copyHeap s.heap vs) (s.heap.objs.size + 1) vs) (bs.map enc)) vs :=
    SortsAt.data (s := { s with heap := sortingHeap (copyHeap s.heap vs) (s.heap.objs.size + 1) vs }) (each_map (R := fun v d => ∃ as, Reads (sortingHeap (copyHeap s.heap vs) (s.heap.objs.size + 1) vs) v d as) enc er') hal hk (bound_map hu)
  have hL' : vs.length ≤ sizeLine := by rw [e.length]; exact hL
  exact sorted_of_sort_tup hl hL' fun _ => list_sort_vals (s := { s with heap := copyHeap s.heap vs }) (copyHeap_at s.heap vs) S hL' ⟨rfl, h _ (by rw [sortVals_length false rfl]; exact e.length) (sortVals_data false e er' hal)⟩
end
def dLe (a b : D) : Bool := !PySem.W.dataLt (D.py b) (D.py a)
/-- these can be sorted -/
def SortOk (ds : List D) : Prop := D.plainA 20 ds = true ∧ PySem.W.AllAlike (D.pyA ds) ∧ PySem.W.Sortable (D.pyA ds) ∧ ds.length ≤ sizeLine
def cSorted : CF := fun ds Q => match ds with
  | [.lst a] => SortOk a ∧ Q (.lst (a.mergeSort dLe))
  | [.tup a] => SortOk a ∧ Q (.lst (a.mergeSort dLe))
  | _ => False
def rSortD (K : PySem.W.Frag) : List V → Hp → VK → Prop := fun vs H Q => ∃ (a : Addr) (xs : List V) (ds : List PyData), vs = [.ref a] ∧ (H a = some (.lst xs) ∨ H a = some (.tup xs)) ∧ DpAll K H xs ds ∧ PySem.W.AllAlike ds ∧ PySem.W.Sortable ds ∧ (∀ d, d ∈ ds → d.depth ≤ 20) ∧
  ∀ p, H p = none → Q (.ref p) (upd H p (.lst (((xs.zip ds).mergeSort (PySem.W.dataLe false Prod.snd)).map Prod.fst)))
theorem dpall_len {K : PySem.W.Frag} {H : Hp} : ∀ {xs : List V} {ds : List PyData}, DpAll K H xs ds → xs.length = ds.length
  | _, _, .nil => rfl
  | _, _, .cons _ t => by rw [List.length_cons, List.length_cons, dpall_len t]
section
variable {X : Cx} {pins : List (Addr × Obj)} {σ : L2.St} {H : Hp} {s : Shared}
theorem each_vals : ∀ {xs : List V} {us : List Value} {ds : List PyData}, Vals xs us → xs.length = ds.length → PySem.W.EachIs (fun u (b : V × PyData) => RelV b.1 u) us (xs.zip ds)
  | _, _, [], .nil, _ => .nil
  | _, _, _ :: _, .nil, e => by simp at e
  | _, _, [], .cons _ _, e => by simp at e
  | _, _, d :: ds, .cons r t, e => .cons r (each_vals t (by simpa using e))
theorem each_reads (I : Inv X pins σ H s) : ∀ {xs : List V} {us : List Value} {ds : List PyData}, Vals xs us → DpAll X.K H xs ds → PySem.W.EachIs (fun u (b : V × PyData) => ∃ as, Reads s.heap u b.2 as) us (xs.zip ds)
  | _, _, _, .nil, .nil => .nil
  | _, _, _, .cons r t, .cons q u => .cons (Dp.reads I _ _ _ q r) (each_reads I t u)
theorem vals_each {us : List Value} : ∀ {bs : List (V × PyData)}, PySem.W.EachIs (fun u (b : V × PyData) => RelV b.1 u) us bs → Vals (bs.map Prod.fst) us := by
  intro bs h
  induction h with
  | nil => exact .nil
  | cons r _ ih => exact .cons r ih
theorem cr_sortD (hu : X.A.units + 64 < cLine) : CallR X (.builtin "sorted") (rSortD X.K) := by
  intro pins s σ H vs us Q I r h
  obtain ⟨a, xs, ds, rfl, ha, hd, hal, hk, hdep, q⟩ := h
  rw [Vals.ref1 r]
  have hzl : (xs.zip ds).length = xs.length := by rw [List.length_zip, (dpall_len hd), Nat.min_self]
  have hsnd : (xs.zip ds).map Prod.snd = ds := by rw [List.map_snd_zip]; exact Nat.le_of_eq (dpall_len hd).symm
  have hb : ∀ b, b ∈ xs.zip ds → X.A.units + 2 + (Prod.snd b).depth < cLine := fun b hb => by
    have h1 := hdep b.2 (by rw [← hsnd]; exact List.mem_map.mpr ⟨b, hb, rfl⟩)
    omega
  have fin : ∀ (its : List Value), xs.length ≤ sizeLine → Vals xs its → ∀ out : List Value, out.length = (xs.zip ds).length → PySem.W.EachIs (fun u (b : V × PyData) => RelV b.1 u) out ((xs.zip ds).mergeSort (PySem.W.dataLe false Prod.snd)) →
      EP X pins σ Q (.ref (s.heap.objs.size + 1)) { s with heap := PyProof.Rows.sortedAll s.heap its (List.toArray out) } := by
    intro its hz rv out ho he
    obtain ⟨ep, he'⟩ := PyProof.Rows.sortedAll_at s.heap its out.toArray
    have hlen : (((xs.zip ds).mergeSort (PySem.W.dataLe false Prod.snd)).map Prod.fst).length ≤ sizeLine := by
      rw [List.length_map, List.length_mergeSort, hzl]; exact hz
    exact ⟨.ref _, _, I.laid (a := s.heap.objs.size + 1) (o := .lst (((xs.zip ds).mergeSort (PySem.W.dataLe false Prod.snd)).map Prod.fst)) (t' := s.toks) (fun _ _ => PyProof.Rows.sortedAll_old) (Nat.le_succ _) ⟨hlen, out, ep, vals_each he, he'⟩, rfl, q _ (I.hok.fresh (Nat.le_succ _))⟩
  rcases ha with ha | ha
  · obtain ⟨its, rv, hl, hz⟩ := I.list (SqL.of (K := X.K) ha)
    exact PySem.W.sorted_data hl.isList (each_vals rv (dpall_len hd)) (each_reads I rv hd) (by rw [hsnd]; exact hal) (by rw [hsnd]; exact hk) (by rw [hzl]; exact hz) hb (fin its hz rv)
  · obtain ⟨its, rv, hl, hz⟩ := I.tuple (SqT.of (K := X.K) ha)
    exact sorted_data_tup hl (each_vals rv (dpall_len hd)) (each_reads I rv hd) (by rw [hsnd]; exact hal) (by rw [hsnd]; exact hk) (by rw [hzl]; exact hz) hb (fin its hz rv)
end
theorem rva_zip {K : PySem.W.Frag} {F : Hp} : ∀ {vs : List V} {ds : List D}, RvA K F vs ds → ∀ p ∈ vs.zip ds, Rv K F p.1 p.2
  | _, _, .nil, p, h => by cases h
  | _, _, .cons r t, p, h => by
    rcases List.mem_cons.mp h with rfl | h
    · exact r
    · exact rva_zip t p h
theorem rva_of_all {K : PySem.W.Frag} {F : Hp} : ∀ (l : List (V × D)), (∀ p ∈ l, Rv K F p.1 p.2) → RvA K F (l.map Prod.fst) (l.map Prod.snd)
  | [], _ => .nil
  | p :: l, h => .cons (h p List.mem_cons_self) (rva_of_all l fun q hq => h q (List.mem_cons_of_mem _ hq))
theorem dataLe_dLe (a b : D) : PySem.W.dataLe false D.py a b = dLe a b := by
  rw [PySem.W.dataLe_eq]; rfl
theorem depthA {n : Nat} : ∀ {ds : List D}, D.plainA n ds = true → ∀ d, d ∈ D.pyA ds → d.depth ≤ n
  | [], _, d, h => by simp [D.pyA] at h
  | x :: xs, p, d, h => by
    have p' : D.plain n x = true ∧ D.plainA n xs = true := by simpa [D.plainA] using p
    simp only [D.pyA, List.mem_cons] at h
    rcases h with rfl | h
    · exact (plain_lay n x p'.1).2
    · exact depthA p'.2 d h
theorem fn_sorted {K : PySem.W.Frag} : Fn K (rSortD K) cSorted := by
  have main : ∀ (F H : Hp) (a : Addr) (xs : List V) (ds : List D) (Q : D → Prop) (QV : VK), Same F H → (H a = some (.lst xs) ∨ H a = some (.tup xs)) → RvA K F xs ds → SortOk ds → Q (.lst (ds.mergeSort dLe)) →
      (∀ p o F' H' d', Ex F H F' H' → H' p = none → OnO K F' o d' → Q d' → QV (.ref p) (upd H' p o)) → rSortD K [.ref a] H QV := by
    intro F H a xs ds Q QV s ha r hk q k
    obtain ⟨h1, h2, h3, h4⟩ := hk
    refine ⟨a, xs, D.pyA ds, rfl, ha, RvA.dp 20 ds xs h1 (r.up s), h2, h3, depthA h1, fun p np => ?_⟩
    refine k p _ F H (.lst (ds.mergeSort dLe)) (.refl s) np ⟨_, rfl, ?_⟩ q
    have e1 : (xs.zip (D.pyA ds)).mergeSort (PySem.W.dataLe false Prod.snd) = ((xs.zip ds).mergeSort (fun p q => dLe p.2 q.2)).map (fun p => (p.1, D.py p.2)) := by
      rw [PySem.W.sort_maps (s := PySem.W.dataLe false Prod.snd) (fun p : V × D => (p.1, D.py p.2)) (fun p _ q _ => ?_)]
      · congr 1
        rw [pyA_map, List.zip_map_right]
        rfl
      · rw [PySem.W.dataLe_eq]; rfl
    have e2 : ds.mergeSort dLe = ((xs.zip ds).mergeSort (fun p q => dLe p.2 q.2)).map Prod.snd := by
      rw [PySem.W.sort_maps (s := dLe) Prod.snd (fun p _ q _ => rfl), List.map_snd_zip]
      exact Nat.le_of_eq r.length.symm
    rw [e1, e2, List.map_map]
    exact rva_of_all _ fun p hp => rva_zip r p ((List.mergeSort_perm _ _).mem_iff.mp hp)
  intro F H vs ds Q QV s r q k
  unfold cSorted at q
  split at q
  · obtain ⟨v, rfl, rv⟩ := all2_1 r
    obtain ⟨p, xs, rfl, f1, r1⟩ := rv.lstE s
    exact main F H p xs _ Q QV s (.inl f1) r1 q.1 q.2 k
  · obtain ⟨v, rfl, rv⟩ := all2_1 r
    obtain ⟨p, xs, rfl, g1, f1, r1⟩ := rv.tupE s
    exact main F H p xs _ Q QV s (.inr f1) r1 q.1 q.2 k
  · exact q.elim
end CL
/-! CL 6: isinstance, fields, own defs; statements; loops; comprehensions. -/
namespace CL
open PySem PySem.Spec PySem.Calls PyProof.Rows L2
/-! ### isinstance -/
inductive Ty where
  | int | bool | tuple | list | str | dict
def Ty.nm : Ty → String
  | .int => "int" | .bool => "bool" | .tuple => "tuple" | .list => "list" | .str => "str" | .dict => "dict"
def tyNm : D → Option String
  | .non => some "NoneType" | .bl _ => some "bool" | .int _ => some "int" | .str _ => some "str" | .tup _ => some "tuple" | .lst _ => some "list" | .dic _ _ => some "dict" | .ins _ _ => none
def isTy : D → Ty → Bool
  | .bl _, .int => true | .bl _, .bool => true | .int _, .int => true | .str _, .str => true | .tup _, .tuple => true | .lst _, .list => true | .dic _ _, .dict => true
  | _, _ => false
theorem kit_all : ∀ (d : D) (n : String) (t : Ty), tyNm d = some n → kitB n t.nm = some (isTy d t) := by
  have h : (["NoneType", "bool", "int", "str", "tuple", "list", "dict"].all fun n => [Ty.int, .bool, .tuple, .list, .str, .dict].all fun t => kitB n t.nm == some (match n, t with
      | "bool", .int => true | "bool", .bool => true | "int", .int => true | "str", .str => true | "tuple", .tuple => true | "list", .list => true | "dict", .dict => true | _, _ => false)) = true := by decide +kernel
  have ht : ∀ t : Ty, t ∈ [Ty.int, .bool, .tuple, .list, .str, .dict] := by intro t; cases t <;> simp
  intro d n t e
  have g : ∀ n', n' ∈ ["NoneType", "bool", "int", "str", "tuple", "list", "dict"] → kitB n' t.nm = some (match n', t with
      | "bool", .int => true | "bool", .bool => true | "int", .int => true | "str", .str => true | "tuple", .tuple => true | "list", .list => true | "dict", .dict => true | _, _ => false) := fun n' hn =>
    eq_of_beq (List.all_eq_true.mp (List.all_eq_true.mp h n' hn) t (ht t))
  cases d <;> cases e <;> (rw [g _ (by simp)]; cases t <;> rfl)
section
variable {K : PySem.W.Frag} {X : Cx} {F H : Hp}
theorem tyx {v : V} {d : D} {n : String} (s : Same F H) (r : RvW K F H v d) (e : tyNm d = some n) : TyX K H v (.type n) := by
  cases d with
  | non => cases e; rw [r.nonE]; exact .base .non
  | bl b => cases e; rw [r.blE]; exact .base (.bl b)
  | int i => cases e; rw [r.intE]; exact .base (.int i)
  | str x => cases e; rw [r.strE]; exact .base (.str x)
  | tup ds => cases e; obtain ⟨p, xs, rfl, _, f1, _⟩ := r.tupE s; exact .base (.tup f1)
  | lst ds => cases e; obtain ⟨p, xs, rfl, f1, _⟩ := r.lstE s; exact .base (.lst f1)
  | dic t kvs =>
    cases e
    obtain ⟨p, o, rfl, f1, r1⟩ := r.dicE s
    cases t with
    | false => obtain ⟨ks, rfl, _⟩ := r1; exact .base (.dK f1)
    | true => obtain ⟨ks, rfl, _⟩ := r1; exact .base (.dT f1)
  | ins _ _ => cases e
def cIsi (t : Ty) (d : D) (Q : D → Prop) : Prop := match tyNm d with
  | some _ => Q (.bl (isTy d t))
  | none => False
def cIsi2 (t u : Ty) (d : D) (Q : D → Prop) : Prop := match tyNm d with
  | some _ => Q (.bl (isTy d t || isTy d u))
  | none => False
/-- isinstance(e, T) -/
theorem ve_isi (T : Ty) {e : Expr} {t : CO} {x : Str} {p p2 pos : Pos} (he : VO X e t) (hm : X.mg "isinstance" = none) (hm2 : X.mg x = none) (hv : bootBuiltins x = some (.type T.nm)) (hg : Gl X "isinstance" := by rfl) (hg2 : Gl X x := by rfl)
    (hn : x ≠ "__name__" := by decide) (hd : (x == ("__debug__" : Str)) = false := by decide) (hs : starEach [e, .Name x p2] X.env = (false, eval e X.env) :: starEach [.Name x p2] X.env := by rfl) (hs2 : starEach [.Name x p2] X.env = (false, eval (.Name x p2) X.env) :: starEach [] X.env := by rfl)
    (hpl : (backTo pos (starEach [.Name x p2] X.env)).any (·.1) = false := by rfl) : VE X (.Call (.Name "isinstance" p) [e, .Name x p2] [] pos) (c1 (cIsi T) t) :=
  PE.imp (pe_callB call_isi hg hm bt_isinstance (pa_cons he (pa_cons (pe_bltn hg2 hm2 hv (v := .ty T.nm) rfl hn hd) pa_nil hs2) hs) (by decide) (by decide) hs hpl) fun σ H QV ⟨N, F, ρ, Q, R, q, k⟩ => ⟨N, F, ρ, _, R, q, fun v F1 H1 z ρ1 R1 M1 oz q1 => by
    obtain ⟨d, h1, q2⟩ := match1 q1
    have w := oz.w R1 h1
    unfold cIsi at q2
    split at q2
    · rename_i n e1
      exact ⟨v, _, _, _, _, rfl, .ty _, tyx R1.fh w e1, kit_ty (kit_all d n T e1), k _ F1 H1 _ ρ1 R1 M1 (.bl _) q2⟩
    · exact q2.elim⟩
/-- isinstance(e, (T, U)) -/
theorem ve_isi2 (T U : Ty) {e : Expr} {t : CO} {x y : Str} {p p2 p3 p4 pos : Pos} {kk : Nat} (he : VO X e t) (hm : X.mg "isinstance" = none) (hm2 : X.mg x = none) (hv : bootBuiltins x = some (.type T.nm)) (hm3 : X.mg y = none) (hv2 : bootBuiltins y = some (.type U.nm)) (hg : Gl X "isinstance" := by rfl) (hg2 : Gl X x := by rfl) (hg3 : Gl X y := by rfl)
    (hn : x ≠ "__name__" := by decide) (hd : (x == ("__debug__" : Str)) = false := by decide) (hn2 : y ≠ "__name__" := by decide) (hd2 : (y == ("__debug__" : Str)) = false := by decide)
    (hs : starEach [e, .Tuple [.Name x p2, .Name y p3] kk p4] X.env = (false, eval e X.env) :: starEach [.Tuple [.Name x p2, .Name y p3] kk p4] X.env := by rfl) (hs2 : starEach [.Tuple [.Name x p2, .Name y p3] kk p4] X.env = (false, eval (.Tuple [.Name x p2, .Name y p3] kk p4) X.env) :: starEach [] X.env := by rfl)
    (hs3 : starEach [.Name x p2, .Name y p3] X.env = (false, eval (.Name x p2) X.env) :: starEach [.Name y p3] X.env := by rfl) (hs4 : starEach [.Name y p3] X.env = (false, eval (.Name y p3) X.env) :: starEach [] X.env := by rfl)
    (hpl : (backTo pos (starEach [.Tuple [.Name x p2, .Name y p3] kk p4] X.env)).any (·.1) = false := by rfl) : VE X (.Call (.Name "isinstance" p) [e, .Tuple [.Name x p2, .Name y p3] kk p4] [] pos) (c1 (cIsi2 T U) t) :=
  PE.imp (pe_callB call_isiT hg hm bt_isinstance (pa_cons he (pa_cons (pe_tup (pa_cons (pe_bltn hg2 hm2 hv (v := .ty T.nm) rfl hn hd) (pa_cons (pe_bltn hg3 hm3 hv2 (v := .ty U.nm) rfl hn2 hd2) pa_nil hs4) hs3)) pa_nil hs2) hs) (by decide) (by decide) hs hpl) fun σ H QV ⟨N, F, ρ, Q, R, q, k⟩ => ⟨N, F, ρ, _, R, q, fun v F1 H1 z ρ1 R1 M1 oz q1 => by
    obtain ⟨d, h1, q2⟩ := match1 q1
    refine ⟨by show 2 ≤ sizeLine; decide, fun tp np => ?_⟩
    have E : Ex F1 H1 F1 (upd H1 tp (.tup [V.ty T.nm, V.ty U.nm])) := .newH R1.fh np
    have w := oz.w (R1.exd E) h1
    unfold cIsi2 at q2
    split at q2
    · rename_i n e1
      refine ⟨v, tp, _, _, [.type T.nm, .type U.nm], _, rfl, upd_same, .cons (.ty _) (.cons (.ty _) .nil), tyx (R1.exd E).fh w e1, ?_, k _ F1 _ _ ρ1 (R1.exd E) (M1.trans (E.mo R1.nh)) (.bl _) q2⟩
      refine kitAny_cons (kit_ty (kit_all d n T e1)) (fun hb => ?_) (fun hb => by rw [hb]; rfl)
      refine kitAny_cons (kit_ty (kit_all d n U e1)) (fun hb2 => ?_) (fun hb2 => by rw [hb2]; simp)
      rw [hb, hb2]
      exact kitAny_nil
    · exact q2.elim⟩
/-! ### fields -/
def cFld (c f : Str) (d : D) (Q : D → Prop) : Prop := match d with
  | .ins c' fs => c' = c ∧ (match fs.lookup f with | some d => Q d | none => False)
  | _ => False
theorem RvF.look {vs : List (Str × V)} {fs : List (Str × D)} {f : Str} {d : D} (r : RvF K F vs fs) (h : fs.lookup f = some d) : ∃ v, vs.lookup f = some v ∧ Rv K F v d := by
  induction fs generalizing vs with
  | nil => cases h
  | cons p fs ih =>
    cases r with
    | cons r t =>
      rw [List.lookup_cons] at h ⊢
      split at h
      · cases h; exact ⟨_, rfl, r⟩
      · exact ih t h
theorem ve_fld {e : Expr} {t : CO} {c f : Str} {pos : Pos} (hc : Cls X.K (He.ga X.K c)) (hn : NoAttr X.K (He.ga X.K c) f) (he : VO X e t) (hb : attributeBase e f X.env (eval e X.env) = eval e X.env := by rfl) : VE X (.Attribute e f pos) (c1 (cFld c f) t) :=
  PE.imp (pe_fld he hb) fun σ H QV ⟨N, F, ρ, Q, R, q, k⟩ => ⟨N, F, ρ, _, R, q, fun v F1 H1 x ρ1 R1 M1 ox q1 => by
    obtain ⟨d, h1, q2⟩ := match1 q1
    have w := ox.w R1 h1
    unfold cFld at q2
    split at q2
    · obtain ⟨rfl, q2⟩ := q2
      split at q2
      · rename_i d' e'
        cases w with
        | rv w =>
          cases w with
          | ins w1 w2 =>
            obtain ⟨v', l1, l2⟩ := w2.look e'
            exact ⟨_, _, _, _, v', rfl, R1.fh _ _ w1, hc, hn, l1, k _ F1 H1 _ ρ1 R1 M1 l2 q2⟩
      · exact q2.elim
    · exact q2.elim⟩
/-! ### own defs -/
/-- a def's clean promise -/
def spC (K : PySem.W.Frag) (R : CF) : Sp := fun vs H Q E => ∃ F ds QD, Same F H ∧ RvA K F vs ds ∧ R ds QD ∧ ∀ v F' H' d, Ex F H F' H' → Rv K F' v d → QD d → Q v H'
/-- the def x of the module keeps a promise -/
structure Fd (P : Program) (w : World) (K : PySem.W.Frag) (mg : Str → Option Value) (base : Heap) (k : Nat) (x : Str) (ps : List Str) (sp : Sp) : Prop where
  ex : ∃ f fd, FnOk P w K mg base CX0 k f fd ps sp ∧ mg x = some (.ref f) ∧ PySem.W.keepIn K (.ref f) = true ∧ Binds K fd ps []
def cCall (R : CF) (t : CAE) : CE := fun ρ Q => t ρ fun ds ρ1 => R ds fun d => Q d ρ1
theorem ve_call {k : Nat} {x : Str} {ps : List Str} {R : CF} {e : Expr} {es : List Expr} {t : CAE} {p pos : Pos} (G : Fd X.prog X.w X.K X.mg X.base k x ps (spC X.K R)) (hr : Room k X.A) (ha : VAE X (e :: es) t) (hg : Gl X x := by rfl) (hdb : (x == ("__debug__" : Str)) = false := by decide)
    (he : starEach (e :: es) X.env = (false, eval e X.env) :: starEach es X.env := by rfl) (hpl : (backTo pos (starEach es X.env)).any (·.1) = false := by rfl) : VE X (.Call (.Name x p) (e :: es) [] pos) (cCall R t) := by
  obtain ⟨f, fd, G1, G2, G3, G4⟩ := G.ex
  refine PE.imp (pe_call G1 hr hg G2 G3 G4 .nil pass0 ha hdb he hpl) fun σ H QV ⟨N, F, ρ, Q, R', q, k⟩ => ⟨N, F, ρ, _, R', q, fun vs F1 H1 ds ρ1 R1 M1 r q1 => ?_⟩
  refine ⟨F1, ds, _, R1.fh, by rw [List.append_nil]; exact r, q1, fun v F2 H2 d E r2 q2 => k v F2 H2 d ρ1 (R1.exd E) (M1.trans (E.mo R1.nh)) r2 q2⟩
end
/-! ### statements -/
structure CEnds where
  nx : Ev → Prop
  rt : D → Ev → Prop
  bk : Ev → Prop := fun _ => False
  ct : Ev → Prop := fun _ => False
abbrev CS := CEnds → Ev → Prop
structure LK (K : PySem.W.Frag) (N F : Hp) (C : CEnds) (D' : Ends) : Prop where
  nx : ∀ σ' F' H' ρ', Rs K N F' H' σ' ρ' → Mo N F F' → C.nx ρ' → D'.nx σ' H'
  rt : ∀ v σ' F' H' d ρ', Rs K N F' H' σ' ρ' → Mo N F F' → Rv K F' v d → C.rt d ρ' → D'.rt v H'
  bk : ∀ σ' F' H' ρ', Rs K N F' H' σ' ρ' → Mo N F F' → C.bk ρ' → D'.bk σ' H'
  ct : ∀ σ' F' H' ρ', Rs K N F' H' σ' ρ' → Mo N F F' → C.ct ρ' → D'.ct σ' H'
def lS (K : PySem.W.Frag) (t : CS) : TS := fun D' σ H => ∃ N F ρ C, Rs K N F H σ ρ ∧ t C ρ ∧ LK K N F C D'
def VS (X : Cx) (st : Stmt) (t : CS) : Prop := PS X st (lS X.K t)
def VSs (X : Cx) (st : List Stmt) (t : CS) : Prop := PSs X st (lS X.K t)
theorem LK.later {K : PySem.W.Frag} {N F F' : Hp} {C : CEnds} {D' : Ends} (l : LK K N F C D') (m : Mo N F F') : LK K N F' C D' :=
  ⟨fun σ' F2 H' ρ' R M q => l.nx σ' F2 H' ρ' R (m.trans M) q, fun v σ' F2 H' d ρ' R M r q => l.rt v σ' F2 H' d ρ' R (m.trans M) r q, fun σ' F2 H' ρ' R M q => l.bk σ' F2 H' ρ' R (m.trans M) q, fun σ' F2 H' ρ' R M q => l.ct σ' F2 H' ρ' R (m.trans M) q⟩
section
variable {X : Cx} {st : Stmt} {rest : List Stmt} {t u : CS} {e : Expr} {pos : Pos}
def cNext : CS := fun C ρ => C.nx ρ
def cSeq (t u : CS) : CS := fun C ρ => t { C with nx := u C } ρ
theorem vss_nil : VSs X [] cNext := PSs.imp pss_nil fun D' σ H ⟨N, F, ρ, C, R, q, l⟩ => l.nx σ F H ρ R (.refl _ _) q
theorem vss_cons (h : VS X st t) (h2 : VSs X rest u) : VSs X (st :: rest) (cSeq t u) := PSs.imp (pss_cons h h2) fun D' σ H ⟨N, F, ρ, C, R, q, l⟩ =>
  ⟨N, F, ρ, _, R, q, fun σ' F' H' ρ' R' M q' => ⟨N, F', ρ', C, R', q', l.later M⟩, l.rt, l.bk, l.ct⟩
theorem vss_one (h : VS X st t) : VSs X [st] t := pss_one h
theorem vs_pass : VS X (.Pass pos) cNext := PS.imp ps_pass fun D' σ H ⟨N, F, ρ, C, R, q, l⟩ => l.nx σ F H ρ R (.refl _ _) q
def cBreak : CS := fun C ρ => C.bk ρ
def cCont : CS := fun C ρ => C.ct ρ
theorem vs_break : VS X (.Break pos) cBreak := PS.imp ps_break fun D' σ H ⟨N, F, ρ, C, R, q, l⟩ => l.bk σ F H ρ R (.refl _ _) q
theorem vs_continue : VS X (.Continue pos) cCont := PS.imp ps_continue fun D' σ H ⟨N, F, ρ, C, R, q, l⟩ => l.ct σ F H ρ R (.refl _ _) q
def cNever : CS := fun _ _ => False
theorem vs_never : VS X st cNever := PS.imp ps_never fun D' σ H ⟨N, F, ρ, C, R, q, l⟩ => q
theorem vss_never {sts : List Stmt} : VSs X sts cNever := PSs.imp pss_never fun D' σ H ⟨N, F, ρ, C, R, q, l⟩ => q
def cRet (te : CE) : CS := fun C ρ => te ρ C.rt
theorem vs_ret {te : CE} (h : VE X e te) : VS X (.Return (some e) pos) (cRet te) := PS.imp (ps_ret h) fun D' σ H ⟨N, F, ρ, C, R, q, l⟩ => ⟨N, F, ρ, _, R, q, fun v F' H' d ρ' R' M r q' => l.rt v σ F' H' d ρ' R' M r q'⟩
def cRetN : CS := fun C ρ => C.rt .non ρ
theorem vs_retN : VS X (.Return none pos) cRetN := PS.imp ps_retN fun D' σ H ⟨N, F, ρ, C, R, q, l⟩ => l.rt .non σ F H .non ρ R (.refl _ _) .non q
def cExpr (te : CE) : CS := fun C ρ => te ρ fun _ ρ' => C.nx ρ'
theorem vs_expr {te : CE} (h : VE X e te) (hs : swapsWith e none pos.line X.env = pure false := by rfl) : VS X (.Expr e pos) (cExpr te) := PS.imp (ps_expr h hs) fun D' σ H ⟨N, F, ρ, C, R, q, l⟩ => ⟨N, F, ρ, _, R, q, fun v F' H' d ρ' R' M r q' => l.nx σ F' H' ρ' R' M q'⟩
def cIfS (c : CT) (t u : CS) : CS := fun C ρ => c ρ fun b ρ' => if b = true then t C ρ' else u C ρ'
theorem vs_if {c : Expr} {a b : List Stmt} {tc : CT} (hc : VT X c tc) (ha : VSs X a t) (hb : VSs X b u) : VS X (.If c a b pos) (cIfS tc t u) := PS.imp (ps_if hc ha hb) fun D' σ H ⟨N, F, ρ, C, R, q, l⟩ => ⟨N, F, ρ, _, R, q, fun b F' H' ρ' R' M q' => by
  cases b with
  | true => exact ⟨N, F', ρ', C, R', q', l.later M⟩
  | false => exact ⟨N, F', ρ', C, R', q', l.later M⟩⟩
/-- x = e, data for good -/
def cSet (i : Nat) (te : CE) : CS := fun C ρ => te ρ fun d ρ' => C.nx (ρ'.set i (.fz d))
theorem vs_set {i : Nat} {x : Str} {te : CE} {pos' : Pos} (hN : X.N.Nodup) (he : VE X e te) (hi : X.N[i]? = some x := by rfl) (hx : Loc X.env.scope x := by first | exact Or.inl rfl | exact Or.inr rfl) (hs : swapsWith e (some (.Name x pos')) pos.line X.env = pure false := by rfl) (hf : X.fn x = true ∨ X.env.scope.names.lookup x = some .local := by first | exact .inl rfl | exact .inr rfl | assumption) :
    VS X (.Assign [.Name x pos'] e pos) (cSet i te) := PS.imp (ps_set hN hi hx he hs hf) fun D' σ H ⟨N, F, ρ, C, R, q, l⟩ => ⟨N, F, ρ, _, R, q, fun v F' H' d ρ' R' M r q' => l.nx _ F' H' _ (R'.setFz r) M q'⟩
/-- what a slot owns of new -/
def ownSl : D → Sl
  | .lst ds => .ow ds
  | .dic t kvs => .od t kvs
  | _ => .un
theorem Rs.setNew {K : PySem.W.Frag} {N F H : Hp} {σ : L2.St} {ρ : Ev} {i : Nat} {p : Addr} {o : HO} {d : D} (R : Rs K N F H σ ρ) (np : H p = none) (on : OnO K F o d) : Rs K N F (upd H p o) (σ.set i (some (.ref p))) (ρ.set i (ownSl d)) := by
  obtain ⟨fps, r⟩ := R
  have new : ∀ q ∈ [p], (q ∈ fps i ∨ H q = none) ∧ F q = none ∧ N q = none ∧ upd H p o q ≠ none := fun q hq => by
    have e : q = p := by simpa using hq
    subst e
    exact ⟨.inr np, none_of r.fh np, none_of r.nh np, by rw [upd_same]; intro z; cases z⟩
  refine ⟨_, r.put (fp' := [p]) (Same.refl _) (r.fh.trans (same_upd np)) (r.nh.trans (same_upd np)) (fun b u e _ => same_upd np b u e) (fun _ e _ _ => e) (by simp) set_ne (fun hi => ?_) (by simp) new⟩
  rw [set_self hi]
  cases d with
  | lst ds => obtain ⟨vs, rfl, q⟩ := on; exact ⟨p, vs, rfl, rfl, upd_same, q⟩
  | dic t kvs => exact ⟨p, o, rfl, rfl, upd_same, on⟩
  | _ => exact on.elim
def cOwn (i : Nat) (te : CE) : CS := fun C ρ => te ρ fun d ρ' => C.nx (ρ'.set i (ownSl d))
theorem vs_own {i : Nat} {x : Str} {te : CE} {pos' : Pos} (hN : X.N.Nodup) (he : VN X e te) (hi : X.N[i]? = some x := by rfl) (hx : Loc X.env.scope x := by first | exact Or.inl rfl | exact Or.inr rfl) (hs : swapsWith e (some (.Name x pos')) pos.line X.env = pure false := by rfl) (hf : X.fn x = true ∨ X.env.scope.names.lookup x = some .local := by first | exact .inl rfl | exact .inr rfl | assumption) :
    VS X (.Assign [.Name x pos'] e pos) (cOwn i te) := PS.imp (ps_set hN hi hx he hs hf) fun D' σ H ⟨N, F, ρ, C, R, q, l⟩ => ⟨N, F, ρ, _, R, q, fun p o F' H' d ρ' R' M np on q' => l.nx _ F' _ _ (R'.setNew np on) M q'⟩
/-- what a slot owns is for good from here on -/
def frzSl : Sl → Sl
  | .ow ds => .fz (.lst ds)
  | .od t kvs => .fz (.dic t kvs)
  | s => s
def frz (i : Nat) (ρ : Ev) : Ev := match ρ[i]? with
  | some s => ρ.set i (frzSl s)
  | none => ρ
theorem Rs.frz {K : PySem.W.Frag} {N F H : Hp} {σ : L2.St} {ρ : Ev} (i : Nat) (R : Rs K N F H σ ρ) : ∃ F', Rs K N F' H σ (CL.frz i ρ) ∧ Mo N F F' := by
  obtain ⟨fps, r⟩ := R
  unfold CL.frz
  cases q : ρ[i]? with
  | none => exact ⟨F, ⟨fps, r⟩, .refl _ _⟩
  | some s =>
    have same : Rs K N F H σ (ρ.set i s) := by
      refine ⟨fps, r.fh, r.nh, by rw [List.length_set]; exact r.len, fun k s' hs => ?_, r.nd, r.dj, r.out⟩
      by_cases hk : k = i
      · subst hk
        have hi : k < ρ.length := by
          by_cases z : k < ρ.length
          · exact z
          · rw [List.getElem?_eq_none (by simpa using z)] at q; cases q
        rw [List.getElem?_set_self hi] at hs
        cases hs
        exact r.ok k _ q
      · rw [List.getElem?_set_ne (Ne.symm hk)] at hs
        exact r.ok k s' hs
    have main : ∀ (p : Addr) (ob : HO) (d : D), s ≠ .un → fps i = [p] → H p = some ob → σ[i]? = some (some (.ref p)) → (∀ F', Same F F' → F' p = some ob → Rv K F' (.ref p) d) → ∃ F', Rs K N F' H σ (ρ.set i (.fz d)) ∧ Mo N F F' := by
      intro p ob d _ hf hp hv hr
      have hpo := r.out i p (by rw [hf]; simp)
      have sf : Same F (upd F p ob) := same_upd hpo.1
      refine ⟨upd F p ob, ⟨_, r.put (fp' := []) sf (fun b u e => ?_) r.nh (fun _ _ e _ => e) (fun b e _ hb => ?_) rfl (fun _ _ => rfl) (fun _ => ⟨rfl, _, hv, hr _ sf upd_same⟩) List.nodup_nil (fun _ z => by cases z)⟩, sf, fun b hb e => ?_⟩
      · by_cases hbp : b = p
        · subst hbp; rw [upd_same] at e; cases e; exact hp
        · rw [upd_ne hbp] at e; exact r.fh b u e
      · rw [upd_ne (by rintro rfl; exact hb (by rw [hf]; simp))]; exact e
      · rw [upd_ne (by rintro rfl; exact hb hpo.2.1)]; exact e
    have ok := r.ok i s q
    cases s with
    | ow ds =>
      obtain ⟨p, vs, e1, e2, e3, rr⟩ := ok
      exact main p _ (.lst ds) (fun z => by cases z) e2 e3 e1 fun F' sf hp => .lst hp (rr.up sf)
    | od t kvs =>
      obtain ⟨p, ob, e1, e2, e3, rr⟩ := ok
      refine main p _ (.dic t kvs) (fun z => by cases z) e2 e3 e1 fun F' sf hp => ?_
      have rr' := rr.up sf
      cases t with
      | false => obtain ⟨ks, rfl, q⟩ := rr'; exact .dK hp q
      | true => obtain ⟨ks, rfl, q⟩ := rr'; exact .dT hp q
    | un => exact ⟨F, same, .refl _ _⟩
    | fz d => exact ⟨F, same, .refl _ _⟩
    | oo d => exact ⟨F, same, .refl _ _⟩
    | ob d => exact ⟨F, same, .refl _ _⟩
    | op p d => exact ⟨F, same, .refl _ _⟩
    | oi x dx c d => exact ⟨F, same, .refl _ _⟩
def cFrz (is : List Nat) (t : CS) : CS := fun C ρ => t C (is.foldr frz ρ)
/-- ahead of a statement, slots made good -/
theorem vs_frz (is : List Nat) (h : VS X st t) : VS X st (cFrz is t) := PS.imp h fun D' σ H ⟨N, F, ρ, C, R, q, l⟩ => by
  have go : ∀ is : List Nat, ∃ F', Rs X.K N F' H σ (is.foldr frz ρ) ∧ Mo N F F' := by
    intro is
    induction is with
    | nil => exact ⟨F, R, .refl _ _⟩
    | cons i is ih =>
      obtain ⟨F1, R1, M1⟩ := ih
      obtain ⟨F2, R2, M2⟩ := R1.frz i
      exact ⟨F2, R2, M1.trans M2⟩
  obtain ⟨F', R', M⟩ := go is
  exact ⟨N, F', _, C, R', q, l.later M⟩
/-- slots forgotten -/
def forget (is : List Nat) (ρ : Ev) : Ev := is.foldr (fun i r => r.set i .un) ρ
theorem Rs.forget {K : PySem.W.Frag} {N F H : Hp} {σ : L2.St} {ρ : Ev} (R : Rs K N F H σ ρ) : ∀ is : List Nat, Rs K N F H σ (CL.forget is ρ)
  | [] => R
  | i :: is => (Rs.forget R is).setUn
end
end CL
/-! CL 7: targets, what is walked, for, while, comprehensions. -/
namespace CL
open PySem PySem.Spec PySem.Calls PyProof.Rows L2
section
variable {X : Cx} {e : Expr} {pos : Pos}
/-! ### targets: ws the slots that may change -/
abbrev CG := D → Ev → (Ev → Prop) → Prop
abbrev CGs := List D → Ev → (Ev → Prop) → Prop
def Out (ws : List Nat) (σ σ' : L2.St) : Prop := σ'.length = σ.length ∧ ∀ k, k ∉ ws → σ'[k]? = σ[k]?
theorem Out.refl (ws : List Nat) (σ : L2.St) : Out ws σ σ := ⟨rfl, fun _ _ => rfl⟩
theorem Out.trans {ws ws' : List Nat} {σ σ' σ2 : L2.St} (a : Out ws σ σ') (b : Out ws' σ' σ2) : Out (ws ++ ws') σ σ2 := ⟨b.1.trans a.1, fun k hk => by
  simp only [List.mem_append, not_or] at hk
  exact (b.2 k hk.2).trans (a.2 k hk.1)⟩
def lG (K : PySem.W.Frag) (ws : List Nat) (t : CG) : TG := fun v σ H QV => ∃ N F ρ Q d, Rs K N F H σ ρ ∧ Rv K F v d ∧ t d ρ Q ∧ ∀ σ' F' H' ρ', Rs K N F' H' σ' ρ' → Mo N F F' → Out ws σ σ' → Q ρ' → QV σ' H'
def lGs (K : PySem.W.Frag) (ws : List Nat) (t : CGs) : TGs := fun vs σ H QV => ∃ N F ρ Q ds, Rs K N F H σ ρ ∧ RvA K F vs ds ∧ t ds ρ Q ∧ ∀ σ' F' H' ρ', Rs K N F' H' σ' ρ' → Mo N F F' → Out ws σ σ' → Q ρ' → QV σ' H'
def VG (X : Cx) (e : Expr) (ws : List Nat) (t : CG) : Prop := PG X e (lG X.K ws t)
def VGs (X : Cx) (es : List Expr) (ws : List Nat) (t : CGs) : Prop := PGs X es (lGs X.K ws t)
def gN (i : Nat) : CG := fun d ρ Q => Q (ρ.set i (.fz d))
theorem vg_name (i : Nat) {x : Str} (hN : X.N.Nodup) (hi : X.N[i]? = some x := by rfl) (hx : Loc X.env.scope x := by first | exact Or.inl rfl | exact Or.inr rfl) (hf : X.fn x = true ∨ X.env.scope.names.lookup x = some .local := by first | exact .inl rfl | exact .inr rfl | assumption) : VG X (.Name x pos) [i] (gN i) :=
  PG.imp (pg_name hN hi hx hf) fun v σ H QV ⟨N, F, ρ, Q, d, R, r, q, k⟩ => k _ F H _ (R.setFz r) (.refl _ _) ⟨by simp, fun k hk => set_ne k (by simpa using hk)⟩ q
def gNil0 : CGs := fun ds ρ Q => match ds with
  | [] => Q ρ
  | _ => False
def gCons0 (t : CG) (u : CGs) : CGs := fun ds ρ Q => match ds with
  | d :: r => t d ρ fun ρ' => u r ρ' Q
  | _ => False
theorem vgs_nil : VGs X [] [] gNil0 := ⟨fun pins s σ H vs us QV I rv ⟨N, F, ρ, Q, ds, R, r, q, k⟩ => by
  cases ds with
  | nil => cases r; exact pgs_nil.run pins s σ H [] us QV I rv ⟨rfl, k σ F H ρ R (.refl _ _) (.refl _ _) q⟩
  | cons _ _ => exact q.elim⟩
theorem PGs.imp {X : Cx} {e : List Expr} {t t' : TGs} (h : PGs X e t) (f : ∀ v σ H Q, t' v σ H Q → t v σ H Q) : PGs X e t' := ⟨fun pins s σ H v u Q I r q => h.run pins s σ H v u Q I r (f v σ H Q q)⟩
theorem vgs_cons {es : List Expr} {ws ws' : List Nat} {t : CG} {u : CGs} (h : VG X e ws t) (h2 : VGs X es ws' u) (hs : (assignEach (e :: es) X.env).map (·.2) = assign e X.env :: (assignEach es X.env).map (·.2) := by rfl) : VGs X (e :: es) (ws ++ ws') (gCons0 t u) :=
  PGs.imp (pgs_cons h h2 hs) fun vs σ H QV ⟨N, F, ρ, Q, ds, R, r, q, k⟩ => by
    cases ds with
    | nil => exact q.elim
    | cons d ds =>
      cases r with
      | cons r1 r2 => exact ⟨_, _, rfl, N, F, ρ, _, d, R, r1, q, fun σ' F' H' ρ' R' M o q' => ⟨N, F', ρ', Q, ds, R', r2.up M.ff, q', fun σ2 F2 H2 ρ2 R2 M2 o2 q2 => k σ2 F2 H2 ρ2 R2 (M.trans M2) (o.trans o2) q2⟩⟩
def gTup0 (n : Nat) (t : CGs) : CG := fun d ρ Q => match d with
  | .tup ds => ds.length = n ∧ t ds ρ Q
  | _ => False
theorem vg_tup {es : List Expr} {k : Nat} {ws : List Nat} {t : CGs} {n : Nat} (hc : X.calm = true) (h : VGs X es ws t) (hn : (assignEach es X.env).length = n := by rfl) (hst : (assignEach es X.env).findIdx? (·.1) = none := by rfl) : VG X (.Tuple es k pos) ws (gTup0 n t) :=
  PG.imp (pg_tup hc h hn hst) fun v σ H QV ⟨N, F, ρ, Q, d, R, r, q, k⟩ => by
    unfold gTup0 at q
    split at q
    · cases r with
      | tup r1 r2 => exact ⟨_, _, rfl, SqT.of (R.fh _ _ r1), by rw [r2.length]; exact q.1, N, F, ρ, Q, _, R, r2, q.2, k⟩
    · exact q.elim
/-- target = e -/
def cAsg (te : CE) (g : CG) : CS := fun C ρ => te ρ fun d ρ' => g d ρ' C.nx
theorem vs_asg {tg : Expr} {te : CE} {ws : List Nat} {g : CG} (he : VE X e te) (hg : VG X tg ws g) (hs : swapsWithSole [tg] e pos.line X.env = pure false := by rfl) (hw : swappedStores [tg] e X.env = pure none := by rfl) (h1 : (assignEach [tg] X.env).map (·.2) = [assign tg X.env] := by rfl) : VS X (.Assign [tg] e pos) (cAsg te g) :=
  PS.imp (ps_asg he hg hs hw h1) fun D' σ H ⟨N, F, ρ, C, R, q, l⟩ => ⟨N, F, ρ, _, R, q, fun v F' H' d ρ' R' M r q' => ⟨N, F', ρ', _, d, R', r, q', fun σ2 F2 H2 ρ2 R2 M2 _ q2 => l.nx σ2 F2 H2 ρ2 R2 (M.trans M2) q2⟩⟩
/-- a, b = e1, e2 -/
def cPar (i j : Nat) (t : CAE) : CS := fun C ρ => t ρ fun ds ρ' => match ds with
  | [d, e] => C.nx ((ρ'.set i (.fz d)).set j (.fz e))
  | _ => False
theorem vs_par {i j : Nat} {x y : Str} {a b : Expr} {t : CAE} {px py pt : Pos} {kt k2 pt2} (hc : X.calm = true) (hN : X.N.Nodup) (ha : VAE X [a, b] t) (hij : i ≠ j := by decide) (hi : X.N[i]? = some x := by rfl) (hj : X.N[j]? = some y := by rfl)
    (hx : X.env.scope.names.lookup x = some .local := by rfl) (hy : X.env.scope.names.lookup y = some .local := by rfl)
    (hw : swappedStores [.Tuple [.Name x px, .Name y py] kt pt] (.Tuple [a, b] k2 pt2) X.env = pure (some [x, y]) := by rfl)
    (hs : swapsWithSole [.Tuple [.Name x px, .Name y py] kt pt] (.Tuple [a, b] k2 pt2) pos.line X.env = pure false := by rfl) :
    VS X (.Assign [.Tuple [.Name x px, .Name y py] kt pt] (.Tuple [a, b] k2 pt2) pos) (cPar i j t) :=
  PS.imp (ps_par hc hN hi hj hij hx hy ha hw hs) fun D' σ H ⟨N, F, ρ, C, R, q, l⟩ => ⟨N, F, ρ, _, R, q, fun vs F' H' ds ρ' R' M r q' => by
    split at q'
    · cases r with
      | cons r1 r2 =>
        cases r2 with
        | cons r2 r3 =>
          cases r3
          exact ⟨_, _, rfl, l.nx _ F' H' _ ((R'.setFz r1).setFz r2) M q'⟩
    · exact q'.elim⟩
/-! ### name op= e -/
def cAug (i : Nat) (c : C2) (t : CO) : CS := fun C ρ => known ρ[i]? = true ∧ t ρ fun y ρ1 => match slD ρ1[i]?, res ρ1 y with
  | some d, some e => c d e fun z => C.nx (ρ1.set i (.fz z))
  | _, _ => False
theorem vs_aug {i : Nat} {x : Str} {t : CO} {op : Operator} {r : R2} {c : C2} {pos' : Pos} (hN : X.N.Nodup) (ho : OpR X (inplaceOp op) r) (o : Op2 X.K r c) (he : VO X e t) (hi : X.N[i]? = some x := by rfl) (hx : Loc X.env.scope x := by first | exact Or.inl rfl | exact Or.inr rfl) (hf : X.fn x = true ∨ X.env.scope.names.lookup x = some .local := by first | exact .inl rfl | exact .inr rfl | assumption) :
    VS X (.AugAssign (.Name x pos') op e pos) (cAug i c t) := PS.imp (ps_aug (ti := r) hN hi hx he ho hf) fun D' σ H ⟨N, F, ρ, C, R, ⟨q1, q2⟩, l⟩ => by
    obtain ⟨v, hv⟩ := R.known q1
    refine ⟨v, hv, N, F, ρ, _, R, q2, fun w F1 H1 y ρ1 R1 M1 oy q3 => ?_⟩
    split at q3
    · rename_i d e h1 h2
      have ow : OpdOk X.K F1 σ v (.s i) := hv
      exact o F1 H1 v w d e _ _ R1.fh (ow.w R1 h1) (oy.w R1 h2) q3 fun u F2 H2 d' E r' q4 => l.nx _ F2 H2 _ ((R1.exd E).setFz r') (M1.trans (E.mo R1.nh)) q4
    · exact q3.elim
/-! ### while -/
def cWhile (c : CT) (tb : CS) : CS := fun C ρ => ∃ W : Nat → Ev → Prop, (∃ m, W m ρ) ∧ ∀ m ρ, W m ρ → c ρ fun b ρ1 => if b = true then tb { C with nx := fun ρ' => ∃ m', m' < m ∧ W m' ρ', ct := fun ρ' => ∃ m', m' < m ∧ W m' ρ', bk := C.nx } ρ1 else C.nx ρ1
theorem vs_while {c : Expr} {body : List Stmt} {tc : CT} {tb : CS} (hp : PassesOwn (model X.prog X.w) X.A X.env X.xe) (hc : VT X c tc) (hb : VSs X body tb) : VS X (.While c body [] pos) (cWhile tc tb) :=
  PS.imp (ps_while hp hc hb) fun D' σ H ⟨N, F, ρ, C, R, ⟨W, ⟨m, h0⟩, turn⟩, l⟩ =>
    ⟨fun m σ H => ∃ F' ρ', Rs X.K N F' H σ ρ' ∧ Mo N F F' ∧ W m ρ', ⟨m, F, ρ, R, .refl _ _, h0⟩, fun m σ1 H1 ⟨F1, ρ1, R1, M1, w1⟩ => ⟨N, F1, ρ1, _, R1, turn m ρ1 w1, fun b F2 H2 ρ2 R2 M2 q2 => by
      have M := M1.trans M2
      cases b with
      | true =>
        rw [if_pos rfl] at q2
        refine iteT ⟨fun σ3 H3 => ∃ m', m' < m ∧ ∃ F3 ρ3, Rs X.K N F3 H3 σ3 ρ3 ∧ Mo N F F3 ∧ W m' ρ3, fun σ3 H3 h => h, N, F2, ρ2, _, R2, q2, ⟨fun σ3 F3 H3 ρ3 R3 M3 ⟨m', hm, w3⟩ => ⟨m', hm, F3, ρ3, R3, M.trans M3, w3⟩, (l.later M).rt, fun σ3 F3 H3 ρ3 R3 M3 q3 => l.nx σ3 F3 H3 ρ3 R3 (M.trans M3) q3, fun σ3 F3 H3 ρ3 R3 M3 ⟨m', hm, w3⟩ => ⟨m', hm, F3, ρ3, R3, M.trans M3, w3⟩⟩⟩
      | false =>
        rw [if_neg Bool.false_ne_true] at q2
        exact iteF (l.nx σ1 F2 H2 ρ2 R2 M q2)⟩⟩
/-! ### what is walked -/
abbrev CI := Ev → (List D → Ev → Prop) → Prop
/-- J gives the items ds, one by one -/
def CWalk (K : PySem.W.Frag) (F : Hp) (J : It) (ds : List D) : Prop :=
  L2.Walk J ds.length (fun H => Same F H) fun i H x H' => ∀ F1, Same F F1 → Same F1 H → ∃ d F2, ds[i]? = some d ∧ Ex F1 H F2 H' ∧ Rv K F2 x d
def lI (K : PySem.W.Frag) (t : CI) : TI := fun σ H R' => ∃ N F ρ Q, Rs K N F H σ ρ ∧ t ρ Q ∧ ∀ J F' H' ds ρ', Rs K N F' H' σ ρ' → Mo N F F' → CWalk K F' J ds → Q ds ρ' → R' J H'
def VI (X : Cx) (tg iter : Expr) (t : CI) : Prop := PI X tg iter (lI X.K t)
theorem PI.imp {X : Cx} {tg e : Expr} {t t' : TI} (h : PI X tg e t) (f : ∀ σ H Q, t' σ H Q → t σ H Q) : PI X tg e t' := ⟨fun pins s σ H Q I q => h.run pins s σ H Q I (f σ H Q q)⟩
variable {tg : Expr}
theorem cw_list {K : PySem.W.Frag} {F : Hp} {a : Addr} {vs : List V} {ds : List D} (h : F a = some (.lst vs)) (r : RvA K F vs ds) : CWalk K F (Itl K a) ds := by
  unfold CWalk
  rw [← r.length]
  refine L2.Walk.mono walk_list (fun H s => SqL.of (s _ _ h)) fun i H x H' hi s y F1 s1 s2 => ?_
  obtain ⟨rfl, hx⟩ := y
  obtain ⟨d, hd, rd⟩ := r.get' hx
  exact ⟨d, F1, hd, .refl s2, rd.up s1⟩
theorem cw_tup {K : PySem.W.Frag} {F : Hp} {a : Addr} {vs : List V} {ds : List D} (h : F a = some (.tup vs)) (r : RvA K F vs ds) : CWalk K F (Itt K a) ds := by
  unfold CWalk
  rw [← r.length]
  refine L2.Walk.mono walk_tup (fun H s => SqT.of (s _ _ h)) fun i H x H' hi s y F1 s1 s2 => ?_
  obtain ⟨rfl, hx⟩ := y
  obtain ⟨d, hd, rd⟩ := r.get' hx
  exact ⟨d, F1, hd, .refl s2, rd.up s1⟩
def cIL (t : CE) : CI := fun ρ Q => t ρ fun d ρ' => match d with
  | .lst ds => Q ds ρ'
  | _ => False
def cIT (t : CE) : CI := fun ρ Q => t ρ fun d ρ' => match d with
  | .tup ds => Q ds ρ'
  | _ => False
theorem vi_list {t : CE} (h : VE X e t) : VI X tg e (cIL t) := PI.imp (pi_list h) fun σ H R' ⟨N, F, ρ, Q, R, q, k⟩ => ⟨N, F, ρ, _, R, q, fun v F1 H1 d ρ1 R1 M1 r q1 => by
  split at q1
  · cases r with
    | lst r1 r2 => exact ⟨_, rfl, ⟨_, SqL.of (R1.fh _ _ r1)⟩, k _ F1 H1 _ ρ1 R1 M1 (cw_list r1 r2) q1⟩
  · exact q1.elim⟩
theorem vi_tup {t : CE} (h : VE X e t) : VI X tg e (cIT t) := PI.imp (pi_tup h) fun σ H R' ⟨N, F, ρ, Q, R, q, k⟩ => ⟨N, F, ρ, _, R, q, fun v F1 H1 d ρ1 R1 M1 r q1 => by
  split at q1
  · cases r with
    | tup r1 r2 => exact ⟨_, rfl, ⟨_, SqT.of (R1.fh _ _ r1)⟩, k _ F1 H1 _ ρ1 R1 M1 (cw_tup r1 r2) q1⟩
  · exact q1.elim⟩
/-- lo, lo + 1, .. -/
def rngD (lo : Int) (n : Nat) : List D := (List.range n).map fun (i : Nat) => D.int (lo + (i : Nat))
theorem cw_range {K : PySem.W.Frag} {F : Hp} {lo : Int} {n : Nat} : CWalk K F (Itr lo n) (rngD lo n) := by
  unfold CWalk
  have hl : (rngD lo n).length = n := by unfold rngD; simp
  rw [hl]
  refine L2.Walk.mono walk_range (fun H s => trivial) fun i H x H' hi s y F1 s1 s2 => ?_
  obtain ⟨rfl, rfl⟩ := y
  exact ⟨.int (lo + i), F1, by unfold rngD; simp [hi], .refl s2, .int _⟩
def cR1 (t : CO) : CI := fun ρ Q => t ρ fun x ρ1 => match res ρ1 x with
  | some (.int j) => -(2 ^ 62) ≤ j ∧ j < 2 ^ 62 ∧ Q (rngD 0 j.toNat) ρ1
  | _ => False
def cR2 (t u : CO) : CI := fun ρ Q => t ρ fun x ρ1 => u ρ1 fun y ρ2 => match res ρ2 x, res ρ2 y with
  | some (.int i), some (.int j) => (-(2 ^ 62) ≤ i ∧ i < 2 ^ 62 ∧ -(2 ^ 62) ≤ j ∧ j < 2 ^ 62) ∧ Q (rngD i (j - i).toNat) ρ2
  | _, _ => False
theorem vi_r1 {t : CO} {p : Pos} (hm : X.mg "range" = none) (h : VO X e t) (hg : Gl X "range" := by rfl) (hs : starEach [e] X.env = (false, eval e X.env) :: starEach [] X.env := by rfl) : VI X tg (.Call (.Name "range" p) [e] [] pos) (cR1 t) :=
  PI.imp (pi_range1 hg hm (pa_cons h pa_nil hs) hs) fun σ H R' ⟨N, F, ρ, Q, R, q, k⟩ => ⟨N, F, ρ, _, R, q, fun v F1 H1 x ρ1 R1 M1 ox q1 => by
    split at q1
    · rename_i j e1
      exact ⟨j, by rw [(ox.w R1 e1).intE], q1.1, q1.2.1, k _ F1 H1 _ ρ1 R1 M1 cw_range q1.2.2⟩
    · exact q1.elim⟩
theorem vi_r2 {t u : CO} {e2 : Expr} {p : Pos} (hm : X.mg "range" = none) (h : VO X e t) (h2 : VO X e2 u) (hg : Gl X "range" := by rfl) (hs : starEach [e, e2] X.env = (false, eval e X.env) :: starEach [e2] X.env := by rfl) (hs2 : starEach [e2] X.env = (false, eval e2 X.env) :: starEach [] X.env := by rfl) : VI X tg (.Call (.Name "range" p) [e, e2] [] pos) (cR2 t u) :=
  PI.imp (pi_range2 hg hm (pa_cons h (pa_cons h2 pa_nil hs2) hs) (by rw [hs, hs2]; rfl) (by rw [hs2]; rfl)) fun σ H R' ⟨N, F, ρ, Q, R, q, k⟩ => ⟨N, F, ρ, _, R, q, fun v F1 H1 x ρ1 R1 M1 ox q1 => ⟨N, F1, ρ1, _, R1, q1, fun w F2 H2 y ρ2 R2 M2 oy q2 => by
    split at q2
    · rename_i i j e1 e2
      exact ⟨i, j, by rw [((ox.up M2.ff).w R2 e1).intE, (oy.w R2 e2).intE], q2.1, k _ F2 H2 _ ρ2 R2 (M1.trans M2) cw_range q2.2⟩
    · exact q2.elim⟩⟩
/-- the items with their numbers -/
def enumD : Nat → List D → List D
  | _, [] => []
  | n, d :: ds => .tup [.int (n : Nat), d] :: enumD (n + 1) ds
theorem enumD_get : ∀ (n : Nat) (ds : List D) (i : Nat), (enumD n ds)[i]? = ds[i]?.map fun d => D.tup [.int ((n + i : Nat) : Int), d]
  | _, [], i => by simp [enumD]
  | n, d :: ds, 0 => by simp [enumD]
  | n, d :: ds, i + 1 => by
    simp only [enumD, List.getElem?_cons_succ]
    rw [enumD_get (n + 1) ds i]
    have : n + 1 + i = n + (i + 1) := by omega
    rw [this]
theorem enumD_len : ∀ (n : Nat) (ds : List D), (enumD n ds).length = ds.length
  | _, [] => rfl
  | n, d :: ds => by simp [enumD, enumD_len (n + 1) ds]
def zipD : List D → List D → List D
  | d :: ds, e :: es => .tup [d, e] :: zipD ds es
  | _, _ => []
theorem zipD_get : ∀ (ds es : List D) (i : Nat) (d e : D), ds[i]? = some d → es[i]? = some e → (zipD ds es)[i]? = some (.tup [d, e])
  | [], _, i, _, _, h, _ => by simp at h
  | _ :: _, [], i, _, _, _, h => by simp at h
  | d :: ds, e :: es, 0, _, _, h1, h2 => by simp at h1 h2; subst h1 h2; rfl
  | d :: ds, e :: es, i + 1, _, _, h1, h2 => by simp only [zipD, List.getElem?_cons_succ]; exact zipD_get ds es i _ _ (by simpa using h1) (by simpa using h2)
theorem zipD_len : ∀ (ds es : List D), (zipD ds es).length = min ds.length es.length
  | [], _ => by simp [zipD]
  | _ :: _, [] => by simp [zipD]
  | d :: ds, e :: es => by simp only [zipD, List.length_cons, zipD_len ds es]; omega
theorem cw_pair {K : PySem.W.Frag} {F : Hp} {J : It} {G : Hp → Prop} {f g : Nat → Option V} {ds : List D} (w : L2.Walk J ds.length G (YPair f g)) (hG : ∀ H, Same F H → G H) (hy : ∀ i x y, f i = some x → g i = some y → ∃ d e, ds[i]? = some (.tup [d, e]) ∧ Rv K F x d ∧ Rv K F y e) : CWalk K F J ds :=
  L2.Walk.mono w hG fun i H v H' hi s ⟨T, x, y, e1, nT, e2, h1, h2⟩ F1 s1 s2 => by
    obtain ⟨d, e, h3, r1, r2⟩ := hy i x y h1 h2
    subst e1 e2
    have E : Ex F1 H (upd F1 T (.tup [x, y])) (upd H T (.tup [x, y])) := .new s2 nT
    exact ⟨_, _, h3, E, .tup upd_same (.cons (r1.up (s1.trans E.ff)) (.cons (r2.up (s1.trans E.ff)) .nil))⟩
def cEn (t : CE) : CI := fun ρ Q => t ρ fun d ρ' => match d with
  | .lst ds => Q (enumD 0 ds) ρ'
  | _ => False
theorem vi_enum {t : CE} {p tpos : Pos} {elts : List Expr} {kk : Nat} (hm : X.mg "enumerate" = none) (h : VE X e t) (hg : Gl X "enumerate" := by rfl) (hs : starEach [e] X.env = (false, eval e X.env) :: starEach [] X.env := by rfl) : VI X (.Tuple elts kk tpos) (.Call (.Name "enumerate" p) [e] [] pos) (cEn t) :=
  PI.imp (pi_enum hg hm (pa_cons h pa_nil hs) hs) fun σ H R' ⟨N, F, ρ, Q, R, q, k⟩ => ⟨N, F, ρ, _, R, q, fun v F1 H1 d ρ1 R1 M1 r q1 => by
    split at q1
    · rename_i ds
      cases r with
      | @lst a vs _ r1 r2 =>
        refine ⟨a, vs, rfl, SqL.of (R1.fh _ _ r1), k _ F1 H1 _ ρ1 R1 M1 ?_ q1⟩
        have hw := walk_enum (K := X.K) (a := a) (xs := vs)
        have hl : (enumD 0 ds).length = vs.length := by rw [enumD_len, r2.length]
        rw [← hl] at hw
        refine cw_pair hw (fun H s => SqL.of (s _ _ r1)) fun i x y h1 h2 => ?_
        cases h1
        obtain ⟨d, hd, rd⟩ := r2.get' h2
        refine ⟨.int (i : Nat), d, ?_, .int _, rd⟩
        rw [enumD_get, hd, Nat.zero_add]
        rfl
    · exact q1.elim⟩
def cZp (t u : CE) : CI := fun ρ Q => t ρ fun d ρ1 => u ρ1 fun e ρ2 => match d, e with
  | .lst ds, .lst es => Q (zipD ds es) ρ2
  | _, _ => False
theorem vi_zip {t u : CE} {e2 : Expr} {p tpos : Pos} {elts : List Expr} {kk : Nat} (hm : X.mg "zip" = none) (h : VE X e t) (h2 : VE X e2 u) (hg : Gl X "zip" := by rfl) (hs : starEach [e, e2] X.env = (false, eval e X.env) :: starEach [e2] X.env := by rfl) (hs2 : starEach [e2] X.env = (false, eval e2 X.env) :: starEach [] X.env := by rfl)
    (hpl : (backTo pos (starEach [e2] X.env)).any (·.1) = false := by rfl) : VI X (.Tuple elts kk tpos) (.Call (.Name "zip" p) [e, e2] [] pos) (cZp t u) :=
  PI.imp (pi_zip hg hm (pa_cons h (pa_cons h2 pa_nil hs2) hs) hs hpl) fun σ H R' ⟨N, F, ρ, Q, R, q, k⟩ => ⟨N, F, ρ, _, R, q, fun v F1 H1 d ρ1 R1 M1 r q1 => ⟨N, F1, ρ1, _, R1, q1, fun w F2 H2 d' ρ2 R2 M2 r' q2 => by
    split at q2
    · rename_i ds es
      cases r.up M2.ff with
      | @lst a vs _ r1 r2 =>
        cases r' with
        | @lst b ws _ r3 r4 =>
          refine ⟨a, b, vs, ws, rfl, SqL.of (R2.fh _ _ r1), SqL.of (R2.fh _ _ r3), k _ F2 H2 _ ρ2 R2 (M1.trans M2) ?_ q2⟩
          have hw := walk_zip (K := X.K) (a := a) (b := b) (xs := vs) (ys := ws) (n := (zipD ds es).length) (by rw [zipD_len, r2.length, r4.length])
          refine cw_pair hw (fun H s => ⟨SqL.of (s _ _ r1), SqL.of (s _ _ r3)⟩) fun i x y h1 h2 => ?_
          obtain ⟨d, hd, rd⟩ := r2.get' h1
          obtain ⟨e, he, re⟩ := r4.get' h2
          exact ⟨d, e, zipD_get ds es i d e hd he, rd, re⟩
    · exact q2.elim⟩⟩
/-! ### for -/
def forL (g : CG) (fg : List Nat) (body : CS) (C : CEnds) : List D → Ev → Prop
  | [], ρ => C.nx ρ
  | d :: ds, ρ => g d ρ fun ρ' => body { C with nx := fun ρ2 => forL g fg body C ds (forget fg ρ2), ct := fun ρ2 => forL g fg body C ds (forget fg ρ2), bk := C.nx } ρ'
/-- fg: the slots forgotten behind each turn -/
def cFor (ti : CI) (g : CG) (fg : List Nat) (body : CS) : CS := fun C ρ => ti ρ fun ds ρ' => forL g fg body C ds ρ'
theorem drop_get {α : Type} : ∀ {l : List α} {i : Nat} {x : α}, l[i]? = some x → l.drop i = x :: l.drop (i + 1)
  | [], i, x, h => by simp at h
  | a :: l, 0, x, h => by simp at h; subst h; rfl
  | a :: l, i + 1, x, h => by simpa using drop_get (l := l) (by simpa using h)
theorem vs_for {iter : Expr} {body : List Stmt} {ti : CI} {ws : List Nat} {g : CG} {tb : CS} (fg : List Nat) (hp : PassesOwn (model X.prog X.w) X.A X.env X.xe) (hc : X.calm = true) (hi : VI X tg iter ti) (hg : VG X tg ws g) (hb : VSs X body tb) (hs : ∀ x, foldedSetIterable iter X.env x = pure x := by intro _; rfl) : VS X (.For tg iter body [] pos) (cFor ti g fg tb) :=
  PS.imp (ps_for hp hc hi hg hb hs) fun D' σ H ⟨N, F, ρ, C, R, q, l⟩ => ⟨N, F, ρ, _, R, q, fun J F1 H1 ds ρ1 R1 M1 w q1 =>
    for_it w (fun i σ2 H2 => ∃ F2 ρ2, Rs X.K N F2 H2 σ2 ρ2 ∧ Mo N F1 F2 ∧ forL g fg tb C (ds.drop i) ρ2) ⟨F1, ρ1, R1, .refl _ _, q1⟩ (fun i σ2 H2 _ ⟨F2, ρ2, R2, M2, _⟩ => M2.ff.trans R2.fh)
      (fun i x σ2 H2 H3 hi ⟨F2, ρ2, R2, M2, q2⟩ y => by
        obtain ⟨d, F3, hd, E, r⟩ := y F2 M2.ff R2.fh
        rw [drop_get hd] at q2
        have M3 : Mo N F1 F3 := M2.trans (E.mo R2.nh)
        refine ⟨N, F3, ρ2, _, d, R2.exd E, r, q2, fun σ4 F4 H4 ρ4 R4 M4 _ q4 => ?_⟩
        have again : ∀ σ5 F5 H5 ρ5, Rs X.K N F5 H5 σ5 ρ5 → Mo N F4 F5 → forL g fg tb C (ds.drop (i + 1)) (forget fg ρ5) → ∃ F2 ρ2, Rs X.K N F2 H5 σ5 ρ2 ∧ Mo N F1 F2 ∧ forL g fg tb C (ds.drop (i + 1)) ρ2 :=
          fun σ5 F5 H5 ρ5 R5 M5 q5 => ⟨F5, _, R5.forget fg, (M3.trans M4).trans M5, q5⟩
        have L := l.later (M1.trans (M3.trans M4))
        exact ⟨N, F4, ρ4, _, R4, q4, ⟨again, L.rt, L.nx, again⟩⟩)
      (fun σ2 H2 ⟨F2, ρ2, R2, M2, q2⟩ => by
        rw [List.drop_length] at q2
        exact l.nx σ2 F2 H2 ρ2 R2 (M1.trans M2) q2)⟩
end
end CL
/-! CL 8: list comprehensions. -/
namespace CL
open PySem PySem.Spec PySem.Calls PyProof.Rows L2
def lTs (K : PySem.W.Frag) (t : CT) : TT := lT K t
def VTs (X : Cx) (es : List Expr) (t : CT) : Prop := PTs X es (lT X.K t)
section
variable {X : Cx} {e : Expr} {pos : Pos}
theorem PTs.imp {es : List Expr} {t t' : TT} (h : PTs X es t) (f : ∀ σ H Q, t' σ H Q → t σ H Q) : PTs X es t' := ⟨fun pins s σ H Q I q => h.run pins s σ H Q I (f σ H Q q)⟩
def cYes : CT := fun ρ Q => Q true ρ
theorem vts_nil : VTs X [] cYes := PTs.imp pts_nil fun σ H QV ⟨N, F, ρ, Q, R, q, k⟩ => k true F H ρ R (.refl _ _) q
theorem vts_one {t : CT} (h : VT X e t) : VTs X [e] t := pts_one h
/-- the turns of a list comprehension: acc made so far -/
def lcL (g : CG) (tt : CT) (te : CE) (vs : List Nat) (Z : List D → Ev → Prop) : List D → List D → Ev → Prop
  | [], acc, ρ => Z acc ρ
  | d :: ds, acc, ρ => g d ρ fun ρ1 => tt ρ1 fun b ρ2 => if b = true then te ρ2 fun z ρ3 => acc.length < sizeLine ∧ lcL g tt te vs Z ds (acc ++ [z]) (forget vs ρ3) else lcL g tt te vs Z ds acc (forget vs ρ2)
def cLc (ti : CI) (g : CG) (tt : CT) (te : CE) (vs : List Nat) : CE := fun ρ Q => ti ρ fun ds ρ1 => lcL g tt te vs (fun acc ρ2 => Q (.lst acc) ρ2) ds [] (forget vs ρ1)
theorem forget_len (ρ : Ev) : ∀ vs : List Nat, (forget vs ρ).length = ρ.length
  | [] => rfl
  | v :: vs => by show ((forget vs ρ).set v .un).length = _; rw [List.length_set, forget_len ρ vs]
theorem wipe_get {σ : L2.St} {i : Nat} : ∀ {vs : List Nat}, i ∉ vs → (wipe σ vs)[i]? = σ[i]?
  | [], _ => rfl
  | v :: vs, h => by
    simp only [List.mem_cons, not_or] at h
    unfold wipe
    rw [List.getElem?_set_ne (Ne.symm h.1), wipe_get h.2]
theorem forget_un {ρ : Ev} {i : Nat} : ∀ {vs : List Nat}, i ∈ vs → i < ρ.length → (forget vs ρ)[i]? = some Sl.un
  | v :: vs, h, hi => by
    show ((forget vs ρ).set v .un)[i]? = _
    by_cases e : v = i
    · subst e; rw [List.getElem?_set_self (by rw [forget_len]; exact hi)]
    · rw [List.getElem?_set_ne e]
      rcases List.mem_cons.mp h with h | h
      · exact absurd h.symm e
      · exact forget_un h hi
/-- unknown slots may hold anything -/
theorem Rs.swap {K : PySem.W.Frag} {N F H : Hp} {σ σ' : L2.St} {ρ : Ev} (R : Rs K N F H σ ρ) (hl : σ'.length = σ.length) (h : ∀ i : Nat, ρ[i]? = some Sl.un ∨ σ'[i]? = σ[i]?) : Rs K N F H σ' ρ := by
  obtain ⟨fps, r⟩ := R
  refine ⟨fps, r.fh, r.nh, by rw [hl]; exact r.len, fun i s hs => ?_, r.nd, r.dj, r.out⟩
  have q := r.ok i s hs
  rcases h i with z | z
  · rw [hs] at z; cases z; exact q
  · rw [z]; exact q
/-- N is one thing more, or one less -/
theorem Rs.guard {K : PySem.W.Frag} {N F H : Hp} {σ : L2.St} {ρ : Ev} {p : Addr} {o : HO} (R : Rs K N F H σ ρ) (hp : H p = none) : Rs K (upd N p o) F (upd H p o) σ ρ := by
  obtain ⟨fps, r⟩ := R
  refine ⟨fps, r.fh.trans (same_upd hp), same_upd2 r.nh, r.len, fun i s hs => (r.ok i s hs).up (Same.refl _) fun b _ u hu => same_upd hp b u hu, r.nd, r.dj, fun i q hq => ?_⟩
  obtain ⟨h1, h2, h3⟩ := r.out i q hq
  have ne : q ≠ p := by rintro rfl; exact h3 hp
  exact ⟨h1, by rw [upd_ne ne]; exact h2, by rw [upd_ne ne]; exact h3⟩
def del (H : Hp) (p : Addr) : Hp := fun b => if b = p then none else H b
theorem del_same {H : Hp} {p : Addr} : del H p p = none := by unfold del; rw [if_pos rfl]
theorem del_ne {H : Hp} {p b : Addr} (h : b ≠ p) : del H p b = H b := by unfold del; rw [if_neg h]
theorem upd_del {H : Hp} {p : Addr} {o : HO} (h : H p = some o) : upd (del H p) p o = H := by
  funext b
  by_cases e : b = p
  · subst e; rw [upd_same, h]
  · rw [upd_ne e, del_ne e]
theorem Rs.unguard {K : PySem.W.Frag} {N F H : Hp} {σ : L2.St} {ρ : Ev} {p : Addr} {o : HO} (R : Rs K (upd N p o) F H σ ρ) (hn : N p = none) (hf : F p = none) : Rs K N F (del H p) σ ρ := by
  obtain ⟨fps, r⟩ := R
  have old : ∀ i q, q ∈ fps i → q ≠ p := fun i q hq => by rintro rfl; have z := (r.out i _ hq).2.1; rw [upd_same] at z; cases z
  refine ⟨fps, fun b u e => ?_, fun b u e => ?_, r.len, fun i s hs => (r.ok i s hs).up (Same.refl _) fun b hb u hu => by rw [del_ne (old i b hb)]; exact hu, r.nd, r.dj, fun i q hq => ?_⟩
  · rw [del_ne (by rintro rfl; rw [hf] at e; cases e)]; exact r.fh b u e
  · have ne : b ≠ p := by rintro rfl; rw [hn] at e; cases e
    rw [del_ne ne]; exact r.nh b u (by rw [upd_ne ne]; exact e)
  · obtain ⟨h1, h2, h3⟩ := r.out i q hq
    rw [upd_ne (old i q hq)] at h2
    exact ⟨h1, h2, by rw [del_ne (old i q hq)]; exact h3⟩
/-- the guarded thing has changed -/
theorem Rs.reguard {K : PySem.W.Frag} {N F H : Hp} {σ : L2.St} {ρ : Ev} {p : Addr} {o o' : HO} (R : Rs K (upd N p o) F H σ ρ) (hn : N p = none) (hf : F p = none) : Rs K (upd N p o') F (upd H p o') σ ρ := by
  have R1 := (R.unguard hn hf).guard (o := o') del_same
  have e : upd (del H p) p o' = upd H p o' := by
    funext b
    by_cases e : b = p
    · subst e; rw [upd_same, upd_same]
    · rw [upd_ne e, upd_ne e, del_ne e]
  rw [e] at R1
  exact R1
theorem wipe_len (σ : L2.St) (vs : List Nat) : (wipe σ vs).length = σ.length := wipe_length σ vs
theorem wipe_out_eq {σ σ' : L2.St} {ws vs : List Nat} (o : Out ws σ σ') (h : ∀ i ∈ ws, i ∈ vs) : wipe σ' vs = wipe σ vs := by
  apply List.ext_getElem?
  intro i
  by_cases hi : i ∈ vs
  · have both : ∀ τ : L2.St, (wipe τ vs)[i]? = if i < τ.length then some none else none := by
      intro τ
      clear o h
      induction vs with
      | nil => cases hi
      | cons v vs ih =>
        unfold wipe
        by_cases e : v = i
        · subst e
          by_cases hl : v < τ.length
          · rw [if_pos hl, List.getElem?_set_self (by rw [wipe_length]; exact hl)]
          · rw [if_neg hl, List.getElem?_eq_none (by rw [List.length_set, wipe_length]; omega)]
        · rw [List.getElem?_set_ne e]
          exact ih (by rcases List.mem_cons.mp hi with z | z; exact absurd z.symm e; exact z)
    rw [both, both, o.1]
  · rw [wipe_get hi, wipe_get hi]
    exact o.2 i fun z => hi (h i z)
theorem Mo.un {N F F' : Hp} {p : Addr} {o : HO} (m : Mo (upd N p o) F F') (hn : N p = none) : Mo N F F' := ⟨m.ff, fun b hb e => m.nw b (by
  have ne : b ≠ p := by rintro rfl; exact hb hn
  rw [upd_ne ne]; exact hb) e⟩
/-- the reading of a list comprehension -/
theorem lc_lift {own : List (Str × Nat)} {ti : CI} {ws : List Nat} {g : CG} {tt : CT} {te : CE} (hw : ∀ i ∈ ws, i ∈ own.map (·.2)) : ∀ σ H QV, lN X.K (cLc ti g tt te (own.map (·.2))) σ H QV → tLc (lI X.K ti) (lG X.K ws g) (lT X.K tt) (lE X.K te) (own.map (·.2)) σ H QV :=
  fun σ H QV ⟨N, F, ρ, Q, R, q, k⟩ => ⟨N, F, ρ, _, R, q, fun J F1 H1 ds ρ1 R1 M1 w q1 Dd nD => by
    have hfD : F1 Dd = none := none_of R1.fh nD
    have hnD : N Dd = none := none_of R1.nh nD
    have tow : ∀ {F2 H2 : Hp} {ρ2 : Ev} {N' : Hp} {σ2 : L2.St}, wipe σ2 (own.map (·.2)) = wipe σ (own.map (·.2)) → σ2.length = σ.length → Rs X.K N' F2 H2 σ2 (forget (own.map (·.2)) ρ2) → Rs X.K N' F2 H2 (wipe σ (own.map (·.2))) (forget (own.map (·.2)) ρ2) := fun {F2 H2 ρ2 N' σ2} hw2 hl R2 => by
      refine R2.swap (by rw [wipe_length, hl]) fun i => ?_
      by_cases hi : i ∈ own.map (·.2)
      · by_cases hlt : i < ρ2.length
        · exact .inl (forget_un hi hlt)
        · have l1 : (forget (own.map (·.2)) ρ2).length = σ2.length := R2.len
          rw [forget_len] at l1
          exact .inr (by rw [List.getElem?_eq_none (by rw [wipe_length]; omega), List.getElem?_eq_none (by omega)])
      · exact .inr (by rw [← hw2, wipe_get hi])
    refine lc_it w (fun i H2 => ∃ F2 ρ2 acc accV, Rs X.K (upd N Dd (.lst accV)) F2 H2 (wipe σ (own.map (·.2))) ρ2 ∧ Mo N F1 F2 ∧ F2 Dd = none ∧ H2 Dd = some (.lst accV) ∧ RvA X.K F2 accV acc ∧ (∃ ρ3, ρ2 = forget (own.map (·.2)) ρ3) ∧ lcL g tt te (own.map (·.2)) (fun acc ρ2 => Q (.lst acc) ρ2) (ds.drop i) acc ρ2)
      ⟨F1, _, [], [], (tow rfl rfl (R1.forget (own.map (·.2)))).guard nD, .refl _ _, hfD, upd_same, .nil, ⟨ρ1, rfl⟩, q1⟩ (fun i H2 _ ⟨F2, ρ2, acc, accV, R2, M2, _⟩ => M2.ff.trans R2.fh) (fun i x H2 H3 hi ⟨F2, ρ2, acc, accV, R2, M2, f2, h2, ra, _, q2⟩ y => ?_) (fun H2 ⟨F2, ρ2, acc, accV, R2, M2, f2, h2, ra, ⟨ρ3, e3⟩, q2⟩ => ?_)
    · obtain ⟨d, F3, hd, E, r⟩ := y F2 M2.ff R2.fh
      rw [drop_get hd] at q2
      have M3 : Mo (upd N Dd (.lst accV)) F2 F3 := E.mo R2.nh
      refine ⟨_, F3, ρ2, _, d, R2.exd E, r, q2, fun σ4 F4 H4 ρ4 R4 M4 o4 q4 => ?_⟩
      have hw4 : wipe σ4 (own.map (·.2)) = wipe σ (own.map (·.2)) := by
        rw [wipe_out_eq o4 hw, wipe_out_eq (σ := σ) (σ' := wipe σ (own.map (·.2))) (ws := own.map (·.2)) ⟨wipe_length _ _, fun k hk => wipe_get hk⟩ (fun _ h => h)]
      have hl4 : σ4.length = σ.length := by rw [o4.1, wipe_length]
      refine ⟨hw4, _, F4, ρ4, _, R4, q4, fun b F5 H5 ρ5 R5 M5 q5 => ?_⟩
      cases b with
      | true =>
        rw [if_pos rfl] at q5
        refine iteT ⟨_, F5, ρ5, _, R5, q5, fun v F6 H6 z ρ6 R6 M6 rz q6 => ?_⟩
        have Mg := ((M3.trans M4).trans M5).trans M6
        have h6 : H6 Dd = some (.lst accV) := R6.nh Dd _ upd_same
        have f6 : F6 Dd = none := Mg.nw Dd (by rw [upd_same]; intro z; cases z) f2
        refine ⟨accV, h6, by rw [ra.length]; exact q6.1, F6, _, acc ++ [z], accV ++ [v], tow hw4 hl4 ((R6.reguard hnD f6).forget _), M2.trans (Mg.un hnD), f6, upd_same, (ra.up Mg.ff).append (.cons rz .nil), ⟨ρ6, rfl⟩, q6.2⟩
      | false =>
        rw [if_neg Bool.false_ne_true] at q5
        have Mg := (M3.trans M4).trans M5
        have f6 : F5 Dd = none := Mg.nw Dd (by rw [upd_same]; intro z; cases z) f2
        exact iteF ⟨F5, _, acc, accV, tow hw4 hl4 (R5.forget _), M2.trans (Mg.un hnD), f6, R5.nh Dd _ upd_same, ra.up Mg.ff, ⟨ρ5, rfl⟩, q5⟩
    · rw [List.drop_length] at q2
      have R3 := R2.unguard hnD f2
      have R4 : Rs X.K N F2 (del H2 Dd) σ ρ2 := by
        refine R3.swap (by rw [wipe_length]) fun i => ?_
        by_cases hi : i ∈ own.map (·.2)
        · by_cases hlt : i < ρ3.length
          · exact .inl (by rw [e3]; exact forget_un hi hlt)
          · have l1 := R3.len
            rw [e3, forget_len, wipe_length] at l1
            exact .inr (by rw [List.getElem?_eq_none (by omega), List.getElem?_eq_none (by rw [wipe_length]; omega)])
        · exact .inr (wipe_get hi).symm
      have z := k Dd (.lst accV) F2 (del H2 Dd) (.lst acc) ρ2 R4 (M1.trans M2) del_same ⟨accV, rfl, ra⟩ q2
      rw [upd_del h2] at z
      exact z⟩
/-- [elt for tg in iter if ..] -/
theorem vn_lc {elt tg iter : Expr} {ifs : List Expr} {scope : Scope} {own : List (Str × Nat)} {ti : CI} {ws : List Nat} {g : CG} {tt : CT} {te : CE} (hc : X.calm = true) (hN : X.N.Nodup) (hi : VI X tg iter ti) (ok : BlkOk X.N X.env.scope scope own)
    (hg : ∀ (s : Shared) (H : Hp) (C : Addr) (cl : List (Str × Addr)) (fp : List Addr), VG (X.blk s H scope (compEnvC scope cl C X.env) fp) tg ws g) (ht : ∀ (s : Shared) (H : Hp) (C : Addr) (cl : List (Str × Addr)) (fp : List Addr), VTs (X.blk s H scope (compEnvC scope cl C X.env) fp) ifs tt)
    (he : ∀ (s : Shared) (H : Hp) (C : Addr) (cl : List (Str × Addr)) (fp : List Addr), VE (X.blk s H scope (compEnvC scope cl C X.env) fp) elt te) (hw : ∀ i ∈ ws, i ∈ own.map (·.2) := by decide) (hs : ∀ x, foldedSetIterable iter X.env x = pure x := by intro _; rfl) :
    VN X (.ListComp elt [⟨tg, iter, ifs, 0⟩] scope pos) (cLc ti g tt te (own.map (·.2))) :=
  PE.imp (pe_lc hc hN hi ok (g := lG X.K ws g) (tt := lT X.K tt) (te := lE X.K te) hg ht he hs) (lc_lift hw)
/-- x = [elt for ..], x a local, on one line -/
theorem vs_setLc {i : Nat} {y : Str} {py : Pos} {elt tg iter : Expr} {ifs : List Expr} {scope : Scope} {own : List (Str × Nat)} {spos : Pos} {ti : CI} {ws : List Nat} {g : CG} {tt : CT} {te : CE} (hc : X.calm = true) (hN : X.N.Nodup) (hsw : swapsWith (.ListComp elt [⟨tg, iter, ifs, 0⟩] scope pos) (some (.Name y py)) spos.line X.env = pure true) (hi : VI X tg iter ti) (ok : BlkOk X.N X.env.scope scope own)
    (hg : ∀ (s : Shared) (H : Hp) (C : Addr) (cl : List (Str × Addr)) (fp : List Addr), VG (X.blk s H scope (compEnvC scope cl C X.env) fp) tg ws g) (ht : ∀ (s : Shared) (H : Hp) (C : Addr) (cl : List (Str × Addr)) (fp : List Addr), VTs (X.blk s H scope (compEnvC scope cl C X.env) fp) ifs tt)
    (he : ∀ (s : Shared) (H : Hp) (C : Addr) (cl : List (Str × Addr)) (fp : List Addr), VE (X.blk s H scope (compEnvC scope cl C X.env) fp) elt te) (hy : X.N[i]? = some y := by rfl) (hyl : X.env.scope.names.lookup y = some .local := by rfl) (hw : ∀ i ∈ ws, i ∈ own.map (·.2) := by decide) (hs : ∀ x, foldedSetIterable iter X.env x = pure x := by intro _; rfl) :
    VS X (.Assign [.Name y py] (.ListComp elt [⟨tg, iter, ifs, 0⟩] scope pos) spos) (cOwn i (cLc ti g tt te (own.map (·.2)))) :=
  PS.imp (ps_setLc hc hN hy hyl hsw hi ok (g := lG X.K ws g) (tt := lT X.K tt) (te := lE X.K te) hg ht he hs) fun D' σ H ⟨N, F, ρ, C, R, q, l⟩ => lc_lift hw σ H _ ⟨N, F, ρ, _, R, q, fun p o F' H' d ρ' R' M np on q' => l.nx _ F' _ _ (R'.setNew np on) M q'⟩
end
end CL
/-! CL 9: dict comprehensions with keys of either kind (the library's dc_core turned to DPut). -/
namespace L2
open PySem PySem.Spec PyProof.Rows
theorem d_dictSetX {X : Cx} {pins : List (Addr × Obj)} {σ : St} {H H' : Hp} {s : Shared} {E : Value → Shared → Prop} {D : Addr} {y v : V} {u r : Value} {Q : Unit → Shared → Prop} (hu : X.A.units + 1 < cLine) (I : Inv X pins σ H s) (g : DPut H D y v H')
    (ry : RelV y u) (rv : RelV v r) (h : ∀ s', Inv X pins σ H' s' → Q () s') : wpAny (model X.prog X.w) X.A (dictSet D u r) Q E s := by
  rcases g with ⟨kvs, k, e, ey, l, eH⟩ | ⟨kvs, k, b, e, ey, eb, l, eH⟩
  · subst ey eH
    exact d_dictSet I e l ry rv h
  · subst ey eH
    cases (show u = Value.ref b from ry)
    obtain ⟨z, hd, xs, rel, dd⟩ := dt_of I.hok e
    have hz : xs.length ≤ sizeLine := by rw [← Paired.length rel]; exact z
    have hl : (putK kvs k v).length ≤ sizeLine := by have := length_putK kvs k v; omega
    refine wpAny_dictSet_heap (hsz := hz) (show (tupleKind (mixKind X.prog X.w)).room X.A from Nat.lt_of_succ_lt hu) (key_of I.hok eb) dd fun h' dd' hs => h _ ?_
    obtain ⟨q, es, ep, hq, h2, h3, h4, _, h5⟩ := dd'
    refine d_write I (by rw [e]; exact True.intro) hs ⟨q, hq⟩ ⟨hl, hd, _, (rel.put k eb rv).keeps fun c ys ec => ?_, q, es, ep, hq, h2, h3, h4, h5⟩
    rw [upd_ne (ne_of ec e (fun z => nomatch z))]
    exact ec
section
variable {X : Cx}
/-- {k: v for target in iter if ..}, keys ints or texts: D the new dict -/
def tDcX (o0 : HO) (wi : TI) (g : TG) (tt : TT) (tk tv : TE) (vs : List Nat) : TE := fun σ H Q => wi σ H fun J H1 => ∀ D, H1 D = none → ∃ W : Nat → Nat → Hp → Prop, (∃ m, W 0 m (upd H1 D o0)) ∧ ∀ i m H, W i m H →
  (J.stop i H ∧ Q (.ref D) H) ∨ (J.go i H ∧ ∃ Nx : Hp → Prop, (∀ H', Nx H' → ∃ m', m' < m ∧ W (i + 1) m' H') ∧ ∀ x H', J.yld i H x H' → g x (wipe σ vs) H' fun σ2 H2 => wipe σ2 vs = wipe σ vs ∧ tt σ2 H2 fun b H3 =>
    if b = true then tk σ2 H3 fun y H4 => tv σ2 H4 fun z H5 => ∃ H6, DPut H5 D y z H6 ∧ Nx H6 else Nx H3)
theorem dcx_core {pins : List (Addr × Obj)} {s : Shared} {σ : St} {H : Hp} {Q : VK} {kx vx tg iter : Expr} {ifs : List Expr} {scope : Scope} {own : List (Str × Nat)} {pos pos' : Pos} {wi : TI} {g : TG} {tt : TT} {tk tv : TE} {o0 : HO} {use : Option (Value → Sem Unit)} {Qf : Value → Shared → Prop}
    (hE : ∀ (P : Program) (w : World) (H : Hp) (h : Heap), sysModules < h.objs.size → ObjOk P w H (h.push { cls := .type "dict", data := .dict #[] }) h.objs.size o0) (hu : X.A.units + 1 < cLine) (hc : X.calm = true) (hN : X.N.Nodup) (I : Inv X pins σ H s) (hi : PI X tg iter wi) (ok : BlkOk X.N X.env.scope scope own)
    (hg : ∀ (s : Shared) (H : Hp) (C : Addr) (cl : List (Str × Addr)) (fp : List Addr), PG (X.blk s H scope (compEnvC scope cl C X.env) fp) tg g) (ht : ∀ (s : Shared) (H : Hp) (C : Addr) (cl : List (Str × Addr)) (fp : List Addr), PTs (X.blk s H scope (compEnvC scope cl C X.env) fp) ifs tt)
    (hk : ∀ (s : Shared) (H : Hp) (C : Addr) (cl : List (Str × Addr)) (fp : List Addr), PE (X.blk s H scope (compEnvC scope cl C X.env) fp) kx tk)
    (he : ∀ (s : Shared) (H : Hp) (C : Addr) (cl : List (Str × Addr)) (fp : List Addr), PE (X.blk s H scope (compEnvC scope cl C X.env) fp) vx tv) (hs : ∀ x, foldedSetIterable iter X.env x = pure x)
    (h : tDcX o0 wi g tt tk tv (own.map (·.2)) σ H Q)
    (hRR : ∀ D C s' m H', Inv X pins σ H' s' → Q (.ref D) H' → s'.heap.Ns C m → FpOk X pins H' C → compPost (model X.prog X.w) X.A X.xe use Qf (.ref D) C (.ok .next) s') :
    wpAny (model X.prog X.w) X.A (comprehension (.DictComp kx vx [⟨tg, iter, ifs, 0⟩] scope pos) scope X.env pos' newDict false (eval iter X.env) use) Qf X.xe s := by
  have hfree : ∀ y ∈ scope.names, y.2 = .free → ∃ c, X.env.cells.lookup y.1 = some c := fun y hy e => by
    rcases ok.free y hy e with k | k
    · exact I.ok.has _ (.inl k)
    · exact I.ok.has _ (.inr k)
  refine wpAny_comprehension_free (use := use) rfl hs (closure_ok hfree) ok.kind (fun y hy e => by rw [ok.uniq y hy, e])
    (thn (hi.run pins s σ H _ I h) fun xv s1 hx => thn hx fun itv s2 h2 => ?_)
  obtain ⟨it, fp, tn, J, H2, e, I2, T, st2, f2, q⟩ := h2
  subst e
  refine wpAny_newObj_type (newEnv_comp ?_)
  generalize hD : s2.heap.objs.size = D
  have hDn : H2 D = none := I2.hok.fresh (Nat.le_of_eq hD)
  obtain ⟨W, ⟨m0, w0⟩, turn⟩ := q D hDn
  -- the new list
  generalize hs3 : ({ s2 with heap := s2.heap.push { cls := .type "dict", data := .dict #[] } } : Shared) = s3
  have I3 : Inv X pins σ (upd H2 D o0) s3 := by
    rw [← hs3]
    refine I2.laid (t' := s2.toks) (fun b o e => Heap.get?_push_of_some _ e) (Nat.le_of_eq hD) ?_
    rw [← hD]
    exact hE _ _ _ _ I2.big
  have h3 : s3.heap = s2.heap.push { cls := .type "dict", data := .dict #[] } := by rw [← hs3]
  have sz : ∀ b ∈ fp, b < s2.heap.objs.size := fun b hb => by
    obtain ⟨o, e, _⟩ := T.obj _ _ st2 b hb
    exact Heap.lt_size e
  have f3 : ∀ b ∈ fp, FpOk X pins (upd H2 D o0) b ∧ b < s3.heap.objs.size := fun b hb => by
    have hlt := sz b hb
    refine ⟨⟨?_, (f2 b hb).2⟩, by rw [h3, Heap.size_push]; exact Nat.lt_succ_of_lt hlt⟩
    rw [upd_ne (by rw [← hD]; exact Nat.ne_of_lt hlt)]
    exact (f2 b hb).1
  have st3 : tn 0 s3.heap := T.keep _ _ _ st2 fun b _ o e => by rw [h3]; exact Heap.get?_push_of_some _ e
  have I4 := block_start I3 ok hN f3
  have pg := hg s3 (upd H2 D o0) s3.heap.objs.size (cellsFrom (s3.heap.objs.size + 1) scope.names (cloFrom X.env.cells scope.names [])) fp
  have pt := ht s3 (upd H2 D o0) s3.heap.objs.size (cellsFrom (s3.heap.objs.size + 1) scope.names (cloFrom X.env.cells scope.names [])) fp
  have pk := hk s3 (upd H2 D o0) s3.heap.objs.size (cellsFrom (s3.heap.objs.size + 1) scope.names (cloFrom X.env.cells scope.names [])) fp
  have pe := he s3 (upd H2 D o0) s3.heap.objs.size (cellsFrom (s3.heap.objs.size + 1) scope.names (cloFrom X.env.cells scope.names [])) fp
  show codeAny _ _ (.compStart (.DictComp kx vx [⟨tg, iter, ifs, 0⟩] scope pos) 0 (.ref it) (.ref D) (compEnvC scope (cellsFrom (s3.heap.objs.size + 1) scope.names (cloFrom X.env.cells scope.names [])) s3.heap.objs.size X.env)) (compPost (model X.prog X.w) X.A X.xe use Qf (.ref D) s3.heap.objs.size) { s3 with heap := pushCells (s3.heap.push { cls := .type "dict", data := .dict #[] }) scope.names }
  have nfp : ∀ b ∈ fp, (upd H2 D o0) b = none := fun b hb => (f3 b hb).1.1
  generalize hce : compEnvC scope (cellsFrom (s3.heap.objs.size + 1) scope.names (cloFrom X.env.cells scope.names [])) s3.heap.objs.size X.env = ce at I4 pg pt pk pe ⊢
  have cL : ce.locals = s3.heap.objs.size := by subst hce; rfl
  generalize hH3 : upd H2 D o0 = H3 at I3 I4 pg pt pk pe w0 nfp f3
  generalize hs4 : ({ s3 with heap := pushCells (s3.heap.push { cls := .type "dict", data := .dict #[] }) scope.names } : Shared) = s4 at I4 ⊢
  have st4 : tn 0 s4.heap := T.keep _ _ _ st3 fun b _ o e => by rw [← hs4]; exact pushCells_keeps _ _ _ _ (Heap.get?_push_of_some _ e)
  have stat : ∀ {σ' : St} {H' : Hp} {s' : Shared}, Inv (X.blk s3 H3 scope ce fp) [] σ' H' s' → (∀ b ∈ fp, H' b = none) → ∀ b ∈ fp, FpOk (X.blk s3 H3 scope ce fp) [] H' b := fun {σ' H' s'} I' hn b hb =>
    ⟨hn b hb, (I'.ok.exf b hb).1, I'.ok.exfs b hb, .inl hb, fun x c e => (I'.ok.exf b hb).2 x c e, fun p hp => absurd (show p ∈ ([] : List (Addr × Obj)) ++ [] from hp) (by simp)⟩
  have loop : codeAny (model X.prog X.w) X.A (.compLoop (.DictComp kx vx [⟨tg, iter, ifs, 0⟩] scope pos) 0 (.ref it) (.ref D) ce) (compPost (model X.prog X.w) X.A X.xe use Qf (.ref D) s3.heap.objs.size) s4 := by
    refine compLoop_anyD (fun n s' => ∃ i H', Inv (X.blk s3 H3 scope ce fp) [] (wipe σ (own.map (·.2))) H' s' ∧ tn i s'.heap ∧ (∀ b ∈ fp, H' b = none) ∧ W i n H') ?_ m0 ⟨0, H3, I4, st4, nfp, w0⟩
    rintro n s5 ⟨i, H5, I5, st5, n5, w5⟩
    rcases turn i n H5 w5 with ⟨stop, qq⟩ | ⟨go, Nx, hNx, step⟩
    · have td := T.done (X.blk s3 H3 scope ce fp) rfl rfl rfl hc i [] s5 _ H5 (fun _ _ => False) I5 (stat I5 n5) st5 stop
      refine thnF td fun r s6 ⟨hr, I6⟩ => ?_
      subst hr
      -- back in the def's context
      have I7 : Inv X pins σ H5 s6 := I3.call' (ch := fp) I6.os I6.base I6.hok I6.bare fun b hb => ⟨(f3 b hb).1.2.2.2.1, (f3 b hb).1.2.1, (f3 b hb).1.2.2.2.2.1, (f3 b hb).1.2.2.2.2.2⟩
      have nC : H5 s3.heap.objs.size = none := by
        have z : H5 ce.locals = none := I6.free
        rw [cL] at z
        exact z
      obtain ⟨m, hn, _⟩ := I6.loc
      have hn : s6.heap.Ns ce.locals m := hn
      rw [cL] at hn
      exact hRR D s3.heap.objs.size s6 m H5 I7 qq hn (I3.fpOk (Nat.le_refl _) nC)
    · have ti := T.item (X.blk s3 H3 scope ce fp) rfl rfl rfl hc i [] s5 _ H5 (fun _ _ => False) I5 (stat I5 n5) st5 go
      refine thnF ti fun r s6 ⟨u, hr, h6⟩ => ?_
      subst hr
      refine thnF h6 fun _ s7 ⟨x, H7, I7, r7, y7, st7, n7⟩ => ?_
      have I7' := I7.pinned (stat I7 n7) (T.obj _ _ st7)
      refine thnF (pg.run _ s7 _ H7 x u _ I7' r7 (step x H7 y7)) fun _ s8 ⟨σ8, H8, I8, hw8, q8⟩ => ?_
      refine thnF (pt.run _ s8 σ8 H8 _ I8 q8) fun b s9 ⟨H9, I9, q9⟩ => ?_
      -- the turn's end
      have fin : ∀ {s' : Shared} {H' : Hp}, Inv (X.blk s3 H3 scope ce fp) ([] ++ pinsAt fp s7.heap) σ8 H' s' → Nx H' → ∃ m, m < n ∧ ∃ i H', Inv (X.blk s3 H3 scope ce fp) [] (wipe σ (own.map (·.2))) H' s' ∧ tn i s'.heap ∧ (∀ b ∈ fp, H' b = none) ∧ W i m H' := fun {s' H'} I' nx => by
        obtain ⟨m', hm, w'⟩ := hNx H' nx
        have pin' : ∀ b ∈ fp, ∀ o, s7.heap.get? b = some o → s'.heap.get? b = some o ∧ H' b = none := fun b hb o e =>
          let z := I'.pin (b, o) (List.mem_append_right _ (List.mem_append_right _ (mem_pinsAt hb e)))
          ⟨z.1, z.2.1⟩
        have hl : (wipe σ (own.map (·.2))).length = σ8.length := by rw [← hw8, wipe_length]
        refine ⟨m', hm, i + 1, H', (I'.unpinned (pins := [])).weak hl (fun j v e => ?_), T.keep _ _ _ st7 fun b hb o e => (pin' b hb o e).1, fun b hb => ?_, w'⟩
        · rw [← hw8] at e
          exact (wipe_some e).1
        · obtain ⟨o, e, _⟩ := T.obj _ _ st7 b hb
          exact (pin' b hb o e).2
      cases b with
      | false =>
        simp only [Bool.false_eq_true, if_false] at q9 ⊢
        exact fin I9 q9
      | true =>
        simp only [if_true] at q9 ⊢
        refine thnF (pk.run _ s9 σ8 H9 _ I9 q9) fun z s10 ⟨yk, H10, I10, r10, q10⟩ => ?_
        refine thnF (pe.run _ s10 σ8 H10 _ I10 q10) fun z2 s11 ⟨yv, H11, I11, r11, H12, g12, nx⟩ => ?_
        exact d_dictSetX (X := X.blk s3 H3 scope ce fp) hu I11 g12 r10 r11 fun s12 I12 => fin I12 nx
  exact codeAny_compStart_dict loop (T.self X.A 0 _ _ _ st4 loop)
/-- as a value -/
theorem pe_dcx {kx vx tg iter : Expr} {ifs : List Expr} {scope : Scope} {own : List (Str × Nat)} {pos : Pos} {wi : TI} {g : TG} {tt : TT} {tk tv : TE} {o0 : HO} (hE : ∀ (P : Program) (w : World) (H : Hp) (h : Heap), sysModules < h.objs.size → ObjOk P w H (h.push { cls := .type "dict", data := .dict #[] }) h.objs.size o0) (hu : X.A.units + 1 < cLine) (hc : X.calm = true) (hN : X.N.Nodup) (hi : PI X tg iter wi) (ok : BlkOk X.N X.env.scope scope own)
    (hg : ∀ (s : Shared) (H : Hp) (C : Addr) (cl : List (Str × Addr)) (fp : List Addr), PG (X.blk s H scope (compEnvC scope cl C X.env) fp) tg g) (ht : ∀ (s : Shared) (H : Hp) (C : Addr) (cl : List (Str × Addr)) (fp : List Addr), PTs (X.blk s H scope (compEnvC scope cl C X.env) fp) ifs tt)
    (hk : ∀ (s : Shared) (H : Hp) (C : Addr) (cl : List (Str × Addr)) (fp : List Addr), PE (X.blk s H scope (compEnvC scope cl C X.env) fp) kx tk)
    (he : ∀ (s : Shared) (H : Hp) (C : Addr) (cl : List (Str × Addr)) (fp : List Addr), PE (X.blk s H scope (compEnvC scope cl C X.env) fp) vx tv) (hs : ∀ x, foldedSetIterable iter X.env x = pure x := by intro _; rfl) :
    PE X (.DictComp kx vx [⟨tg, iter, ifs, 0⟩] scope pos) (tDcX o0 wi g tt tk tv (own.map (·.2))) := by
  refine ⟨fun pins s σ H Q I h => ?_⟩
  rw [arm_eval_DictComp]
  refine dcx_core hE hu hc hN I hi ok hg ht hk he hs h fun D C s' m H' I' q hn f => ⟨m, hn, fun h'' sb => ?_⟩
  obtain ⟨f0, f1, f2, f3, f4, f5⟩ := f
  exact ⟨.ref D, H', I'.turned (t' := s'.toks) (fun b o hb e => (sb.2 b hb).trans e) f0 f1 f3 f4 f5, rfl, q⟩
/-- name = [..] on one line, the name a local -/
theorem ps_setDcx {i : Nat} {y : Str} {py : Pos} {kx vx tg iter : Expr} {ifs : List Expr} {scope : Scope} {own : List (Str × Nat)} {pos spos : Pos} {wi : TI} {g : TG} {tt : TT} {tk tv : TE} {o0 : HO} (hE : ∀ (P : Program) (w : World) (H : Hp) (h : Heap), sysModules < h.objs.size → ObjOk P w H (h.push { cls := .type "dict", data := .dict #[] }) h.objs.size o0) (hu : X.A.units + 1 < cLine) (hc : X.calm = true) (hN : X.N.Nodup) (hy : X.N[i]? = some y) (hyl : X.env.scope.names.lookup y = some .local)
    (hsw : swapsWith (.DictComp kx vx [⟨tg, iter, ifs, 0⟩] scope pos) (some (.Name y py)) spos.line X.env = pure true) (hi : PI X tg iter wi) (ok : BlkOk X.N X.env.scope scope own)
    (hg : ∀ (s : Shared) (H : Hp) (C : Addr) (cl : List (Str × Addr)) (fp : List Addr), PG (X.blk s H scope (compEnvC scope cl C X.env) fp) tg g) (ht : ∀ (s : Shared) (H : Hp) (C : Addr) (cl : List (Str × Addr)) (fp : List Addr), PTs (X.blk s H scope (compEnvC scope cl C X.env) fp) ifs tt)
    (hk : ∀ (s : Shared) (H : Hp) (C : Addr) (cl : List (Str × Addr)) (fp : List Addr), PE (X.blk s H scope (compEnvC scope cl C X.env) fp) kx tk) (he : ∀ (s : Shared) (H : Hp) (C : Addr) (cl : List (Str × Addr)) (fp : List Addr), PE (X.blk s H scope (compEnvC scope cl C X.env) fp) vx tv) (hs : ∀ x, foldedSetIterable iter X.env x = pure x := by intro _; rfl) :
    PS X (.Assign [.Name y py] (.DictComp kx vx [⟨tg, iter, ifs, 0⟩] scope pos) spos) (tAsg (tDcX o0 wi g tt tk tv (own.map (·.2))) (gName i)) := by
  refine ⟨fun pins s σ H D I h => ?_⟩
  rw [exec_Assign_Name_used _ _ _ _ hsw]
  refine wpAny_bind (wpAny_standAt (wpAny_bind ?_))
  show wpAny _ X.A (do let _ ← comprehension (.DictComp kx vx [⟨tg, iter, ifs, 0⟩] scope pos) scope X.env (firstIterPos [⟨tg, iter, ifs, 0⟩] pos) newDict false (eval iter X.env) (some (assign (.Name y py) X.env))) _ _ s
  have h : tDcX o0 wi g tt tk tv (own.map (·.2)) σ H (fun x H1 => gName i x σ H1 D.nx) := h
  refine wpAny_bind (thn (dcx_core (Qf := fun _ s' => SP X pins D .next s') hE hu hc hN I hi ok hg ht hk he hs h fun L C s' m H' I' q hn f => ?_) fun _ s' hq => wpAny_pure (wpAny_pure hq))
  show wpAny _ _ (assign (.Name y py) X.env (.ref L)) _ _ _
  refine wpAny_assign_Name (store_ok2 (v := V.ref L) I' hN hy (.inl hyl) rfl (fun s2 I2 ⟨a, sb, ha⟩ => ?_) (.inr hyl))
  obtain ⟨f0, f1, f2, f3, f4, f5⟩ := f
  have haC : C ≠ a := by
    rcases ha with z | z
    · rw [z]; exact f1
    · exact fun e => f4 y a z e.symm
  refine ⟨m, hn.sameBut sb haC, fun h3 sb3 => ?_⟩
  exact ⟨_, H', I2.turned (t' := s2.toks) (fun b o hb e => (sb3.2 b hb).trans e) f0 f1 f3 f4 f5, q⟩
end
end L2
/-! CL 10: dict comprehensions, what changes in place, defs. -/
namespace CL
open PySem PySem.Spec PySem.Calls PyProof.Rows L2
section
variable {X : Cx} {e : Expr} {pos : Pos}
/-! ### dict comprehensions -/
def dcL (t : Bool) (g : CG) (tt : CT) (tk tv : CE) (vs : List Nat) (Z : List (D × D) → Ev → Prop) : List D → List (D × D) → Ev → Prop
  | [], acc, ρ => Z acc ρ
  | d :: ds, acc, ρ => g d ρ fun ρ1 => tt ρ1 fun b ρ2 => if b = true then tk ρ2 fun k ρ3 => tv ρ3 fun z ρ4 => okKey t k = true ∧ acc.length < sizeLine ∧ dcL t g tt tk tv vs Z ds (dPut acc k z) (forget vs ρ4) else dcL t g tt tk tv vs Z ds acc (forget vs ρ2)
def cDc (t : Bool) (ti : CI) (g : CG) (tt : CT) (tk tv : CE) (vs : List Nat) : CE := fun ρ Q => ti ρ fun ds ρ1 => dcL t g tt tk tv vs (fun acc ρ2 => Q (.dic t acc) ρ2) ds [] (forget vs ρ1)
def dE : Bool → HO
  | false => .dK []
  | true => .dT []
theorem dE_ok : ∀ (t : Bool) (P : Program) (w : World) (H : Hp) (h : Heap), sysModules < h.objs.size → ObjOk P w H (h.push { cls := .type "dict", data := .dict #[] }) h.objs.size (dE t)
  | false, _, _, _, _, hb => dk_empty _ hb
  | true, _, _, _, _, hb => dt_empty _ hb
theorem dE_dic {K : PySem.W.Frag} {F : Hp} : ∀ t : Bool, DicO K F (dE t) t []
  | false => ⟨[], rfl, .nil⟩
  | true => ⟨[], rfl, .nil⟩
/-- a comprehension over it, from any first object -/
theorem dc_it {J : It} {n : Nat} {G : Hp → Prop} {Y : Nat → Hp → V → Hp → Prop} (w : L2.Walk J n G Y) {o0 : HO} {g : TG} {tt : TT} {tk tv : TE} {vs : List Nat} {σ : L2.St} {H1 : Hp} {Dd : Addr} {Qd : Hp → Prop} (Pv : Nat → Hp → Prop) (h0 : Pv 0 (upd H1 Dd o0)) (hG : ∀ i H, i ≤ n → Pv i H → G H)
    (hs : ∀ i x H H', i < n → Pv i H → Y i H x H' → g x (wipe σ vs) H' fun σ2 H2 => wipe σ2 vs = wipe σ vs ∧ tt σ2 H2 fun b H3 =>
      if b = true then tk σ2 H3 fun y H4 => tv σ2 H4 fun z H5 => ∃ H6, DPut H5 Dd y z H6 ∧ Pv (i + 1) H6 else Pv (i + 1) H3) (hd : ∀ H, Pv n H → Qd H) :
    ∃ W : Nat → Nat → Hp → Prop, (∃ m, W 0 m (upd H1 Dd o0)) ∧ ∀ i m H, W i m H →
      (J.stop i H ∧ Qd H) ∨ (J.go i H ∧ ∃ Nx : Hp → Prop, (∀ H', Nx H' → ∃ m', m' < m ∧ W (i + 1) m' H') ∧ ∀ x H', J.yld i H x H' → g x (wipe σ vs) H' fun σ2 H2 => wipe σ2 vs = wipe σ vs ∧ tt σ2 H2 fun b H3 =>
        if b = true then tk σ2 H3 fun y H4 => tv σ2 H4 fun z H5 => ∃ H6, DPut H5 Dd y z H6 ∧ Nx H6 else Nx H3) := by
  refine ⟨fun i m H => m = n - i ∧ i ≤ n ∧ Pv i H, ⟨n, by simp, Nat.zero_le _, h0⟩, fun i m H ⟨hm, hi, p⟩ => ?_⟩
  subst hm
  have q := hG i H hi p
  rcases Nat.lt_or_ge i n with hlt | hge
  · exact .inr ⟨w.goes i H hlt q, Pv (i + 1), fun H' p' => ⟨n - (i + 1), by omega, rfl, hlt, p'⟩, fun x H' y => hs i x H H' hlt p (w.yields i H x H' hlt q y)⟩
  · have e : i = n := by omega
    subst e
    exact .inl ⟨w.stops H q, hd H p⟩
/-- the reading of a dict comprehension -/
theorem dc_lift (t : Bool) {own : List (Str × Nat)} {ti : CI} {ws : List Nat} {g : CG} {tt : CT} {tk tv : CE} (hw : ∀ i ∈ ws, i ∈ own.map (·.2)) : ∀ σ H QV, lN X.K (cDc t ti g tt tk tv (own.map (·.2))) σ H QV → tDcX (dE t) (lI X.K ti) (lG X.K ws g) (lT X.K tt) (lE X.K tk) (lE X.K tv) (own.map (·.2)) σ H QV :=
  fun σ H QV ⟨N, F, ρ, Q, R, q, k⟩ => ⟨N, F, ρ, _, R, q, fun J F1 H1 ds ρ1 R1 M1 w q1 Dd nD => by
    have hfD : F1 Dd = none := none_of R1.fh nD
    have hnD : N Dd = none := none_of R1.nh nD
    have tow : ∀ {F2 H2 : Hp} {ρ2 : Ev} {N' : Hp} {σ2 : L2.St}, wipe σ2 (own.map (·.2)) = wipe σ (own.map (·.2)) → σ2.length = σ.length → Rs X.K N' F2 H2 σ2 (forget (own.map (·.2)) ρ2) → Rs X.K N' F2 H2 (wipe σ (own.map (·.2))) (forget (own.map (·.2)) ρ2) := fun {F2 H2 ρ2 N' σ2} hw2 hl R2 => by
      refine R2.swap (by rw [wipe_length, hl]) fun i => ?_
      by_cases hi : i ∈ own.map (·.2)
      · by_cases hlt : i < ρ2.length
        · exact .inl (forget_un hi hlt)
        · have l1 : (forget (own.map (·.2)) ρ2).length = σ2.length := R2.len
          rw [forget_len] at l1
          exact .inr (by rw [List.getElem?_eq_none (by rw [wipe_length]; omega), List.getElem?_eq_none (by omega)])
      · exact .inr (by rw [← hw2, wipe_get hi])
    refine dc_it w (fun i H2 => ∃ F2 ρ2 acc oV, Rs X.K (upd N Dd oV) F2 H2 (wipe σ (own.map (·.2))) ρ2 ∧ Mo N F1 F2 ∧ F2 Dd = none ∧ H2 Dd = some oV ∧ DicO X.K F2 oV t acc ∧ (∃ ρ3, ρ2 = forget (own.map (·.2)) ρ3) ∧ dcL t g tt tk tv (own.map (·.2)) (fun acc ρ2 => Q (.dic t acc) ρ2) (ds.drop i) acc ρ2)
      ⟨F1, _, [], dE t, (tow rfl rfl (R1.forget (own.map (·.2)))).guard nD, .refl _ _, hfD, upd_same, dE_dic t, ⟨ρ1, rfl⟩, q1⟩ (fun i H2 _ ⟨F2, ρ2, acc, accV, R2, M2, _⟩ => M2.ff.trans R2.fh) (fun i x H2 H3 hi ⟨F2, ρ2, acc, oV, R2, M2, f2, h2, ra, _, q2⟩ y => ?_) (fun H2 ⟨F2, ρ2, acc, oV, R2, M2, f2, h2, ra, ⟨ρ3, e3⟩, q2⟩ => ?_)
    · obtain ⟨d, F3, hd, E, r⟩ := y F2 M2.ff R2.fh
      rw [drop_get hd] at q2
      have M3 : Mo (upd N Dd oV) F2 F3 := E.mo R2.nh
      refine ⟨_, F3, ρ2, _, d, R2.exd E, r, q2, fun σ4 F4 H4 ρ4 R4 M4 o4 q4 => ?_⟩
      have hw4 : wipe σ4 (own.map (·.2)) = wipe σ (own.map (·.2)) := by
        rw [wipe_out_eq o4 hw, wipe_out_eq (σ := σ) (σ' := wipe σ (own.map (·.2))) (ws := own.map (·.2)) ⟨wipe_length _ _, fun k hk => wipe_get hk⟩ (fun _ h => h)]
      have hl4 : σ4.length = σ.length := by rw [o4.1, wipe_length]
      refine ⟨hw4, _, F4, ρ4, _, R4, q4, fun b F5 H5 ρ5 R5 M5 q5 => ?_⟩
      cases b with
      | true =>
        rw [if_pos rfl] at q5
        refine iteT ⟨_, F5, ρ5, _, R5, q5, fun kv F6 H6 kd ρ6 R6 M6 rk q6 => ⟨_, F6, ρ6, _, R6, q6, fun v F7 H7 z ρ7 R7 M7 rz q7 => ?_⟩⟩
        have Mg := (((M3.trans M4).trans M5).trans M6).trans M7
        have h7 : H7 Dd = some oV := R7.nh Dd _ upd_same
        have f7 : F7 Dd = none := Mg.nw Dd (by rw [upd_same]; intro z; cases z) f2
        obtain ⟨o', g1, g2⟩ := okKey_put (y := kv) R7.fh h7 (ra.up Mg.ff) (.rv (rk.up M7.ff)) q7.1 rz q7.2.1
        exact ⟨_, g1, F7, _, _, o', tow hw4 hl4 ((R7.reguard hnD f7).forget _), M2.trans (Mg.un hnD), f7, upd_same, g2, ⟨ρ7, rfl⟩, q7.2.2⟩
      | false =>
        rw [if_neg Bool.false_ne_true] at q5
        have Mg := (M3.trans M4).trans M5
        have f6 : F5 Dd = none := Mg.nw Dd (by rw [upd_same]; intro z; cases z) f2
        exact iteF ⟨F5, _, acc, oV, tow hw4 hl4 (R5.forget _), M2.trans (Mg.un hnD), f6, R5.nh Dd _ upd_same, ra.up Mg.ff, ⟨ρ5, rfl⟩, q5⟩
    · rw [List.drop_length] at q2
      have R3 := R2.unguard hnD f2
      have R4 : Rs X.K N F2 (del H2 Dd) σ ρ2 := by
        refine R3.swap (by rw [wipe_length]) fun i => ?_
        by_cases hi : i ∈ own.map (·.2)
        · by_cases hlt : i < ρ3.length
          · exact .inl (by rw [e3]; exact forget_un hi hlt)
          · have l1 := R3.len
            rw [e3, forget_len, wipe_length] at l1
            exact .inr (by rw [List.getElem?_eq_none (by omega), List.getElem?_eq_none (by rw [wipe_length]; omega)])
        · exact .inr (wipe_get hi).symm
      have z := k Dd oV F2 (del H2 Dd) (.dic t acc) ρ2 R4 (M1.trans M2) del_same ra q2
      rw [upd_del h2] at z
      exact z⟩
/-- {k: v for tg in iter if ..} -/
theorem vn_dc (t : Bool) {kx vx tg iter : Expr} {ifs : List Expr} {scope : Scope} {own : List (Str × Nat)} {ti : CI} {ws : List Nat} {g : CG} {tt : CT} {tk tv : CE} (hu : X.A.units + 1 < cLine) (hc : X.calm = true) (hN : X.N.Nodup) (hi : VI X tg iter ti) (ok : BlkOk X.N X.env.scope scope own)
    (hg : ∀ (s : Shared) (H : Hp) (C : Addr) (cl : List (Str × Addr)) (fp : List Addr), VG (X.blk s H scope (compEnvC scope cl C X.env) fp) tg ws g) (ht : ∀ (s : Shared) (H : Hp) (C : Addr) (cl : List (Str × Addr)) (fp : List Addr), VTs (X.blk s H scope (compEnvC scope cl C X.env) fp) ifs tt)
    (hk : ∀ (s : Shared) (H : Hp) (C : Addr) (cl : List (Str × Addr)) (fp : List Addr), VE (X.blk s H scope (compEnvC scope cl C X.env) fp) kx tk)
    (he : ∀ (s : Shared) (H : Hp) (C : Addr) (cl : List (Str × Addr)) (fp : List Addr), VE (X.blk s H scope (compEnvC scope cl C X.env) fp) vx tv) (hw : ∀ i ∈ ws, i ∈ own.map (·.2) := by decide) (hs : ∀ x, foldedSetIterable iter X.env x = pure x := by intro _; rfl) :
    VN X (.DictComp kx vx [⟨tg, iter, ifs, 0⟩] scope pos) (cDc t ti g tt tk tv (own.map (·.2))) :=
  PE.imp (pe_dcx (o0 := dE t) (dE_ok t) hu hc hN hi ok (g := lG X.K ws g) (tt := lT X.K tt) (tk := lE X.K tk) (tv := lE X.K tv) hg ht hk he hs) (dc_lift t hw)
/-- x = {k: v for ..}, x a local, on one line -/
theorem vs_setDc (t : Bool) {i : Nat} {y : Str} {py : Pos} {kx vx tg iter : Expr} {ifs : List Expr} {scope : Scope} {own : List (Str × Nat)} {spos : Pos} {ti : CI} {ws : List Nat} {g : CG} {tt : CT} {tk tv : CE} (hu : X.A.units + 1 < cLine) (hc : X.calm = true) (hN : X.N.Nodup) (hsw : swapsWith (.DictComp kx vx [⟨tg, iter, ifs, 0⟩] scope pos) (some (.Name y py)) spos.line X.env = pure true) (hi : VI X tg iter ti) (ok : BlkOk X.N X.env.scope scope own)
    (hg : ∀ (s : Shared) (H : Hp) (C : Addr) (cl : List (Str × Addr)) (fp : List Addr), VG (X.blk s H scope (compEnvC scope cl C X.env) fp) tg ws g) (ht : ∀ (s : Shared) (H : Hp) (C : Addr) (cl : List (Str × Addr)) (fp : List Addr), VTs (X.blk s H scope (compEnvC scope cl C X.env) fp) ifs tt)
    (hk : ∀ (s : Shared) (H : Hp) (C : Addr) (cl : List (Str × Addr)) (fp : List Addr), VE (X.blk s H scope (compEnvC scope cl C X.env) fp) kx tk)
    (he : ∀ (s : Shared) (H : Hp) (C : Addr) (cl : List (Str × Addr)) (fp : List Addr), VE (X.blk s H scope (compEnvC scope cl C X.env) fp) vx tv) (hy : X.N[i]? = some y := by rfl) (hyl : X.env.scope.names.lookup y = some .local := by rfl) (hw : ∀ i ∈ ws, i ∈ own.map (·.2) := by decide) (hs : ∀ x, foldedSetIterable iter X.env x = pure x := by intro _; rfl) :
    VS X (.Assign [.Name y py] (.DictComp kx vx [⟨tg, iter, ifs, 0⟩] scope pos) spos) (cOwn i (cDc t ti g tt tk tv (own.map (·.2)))) :=
  PS.imp (ps_setDcx (dE_ok t) hu hc hN hy hyl hsw hi ok (g := lG X.K ws g) (tt := lT X.K tt) (tk := lE X.K tk) (tv := lE X.K tv) hg ht hk he hs) fun D' σ H ⟨N, F, ρ, C, R, q, l⟩ => dc_lift t hw σ H _ ⟨N, F, ρ, _, R, q, fun p o F' H' d ρ' R' M np on q' => l.nx _ F' _ _ (R'.setNew np on) M q'⟩
/-! ### lists changed in place -/
theorem Rs.ow {K : PySem.W.Frag} {N F H : Hp} {σ : L2.St} {ρ : Ev} {i : Nat} {ds : List D} (R : Rs K N F H σ ρ) (h : ρ[i]? = some (.ow ds)) :
    ∃ p vs, σ[i]? = some (some (.ref p)) ∧ H p = some (.lst vs) ∧ RvA K F vs ds ∧ ∀ vs' ds', RvA K F vs' ds' → Rs K N F (upd H p (.lst vs')) σ (ρ.set i (.ow ds')) := by
  obtain ⟨fps, r⟩ := R
  obtain ⟨p, vs, e1, e2, e3, q⟩ := r.ok i _ h
  have hp : p ∈ fps i := by rw [e2]; simp
  obtain ⟨o1, o2, o3⟩ := r.out i p hp
  refine ⟨p, vs, e1, e3, q, fun vs' ds' q' => ⟨_, r.put (fp' := [p]) (Same.refl _) (fun b u e => ?_) (fun b u e => ?_) (fun b u e hb => ?_) (fun _ e _ _ => e) rfl (fun _ _ => rfl) (fun _ => ⟨p, vs', e1, rfl, upd_same, q'⟩) (by simp) (fun b hb => ?_)⟩⟩
  · rw [upd_ne (by rintro rfl; rw [o1] at e; cases e)]; exact r.fh b u e
  · rw [upd_ne (by rintro rfl; rw [o2] at e; cases e)]; exact r.nh b u e
  · rw [upd_ne (by rintro rfl; exact hb hp)]; exact e
  · have e : b = p := by simpa using hb
    subst e
    exact ⟨.inl hp, o1, o2, by rw [upd_same]; intro z; cases z⟩
theorem Rs.od {K : PySem.W.Frag} {N F H : Hp} {σ : L2.St} {ρ : Ev} {i : Nat} {t : Bool} {kvs : List (D × D)} (R : Rs K N F H σ ρ) (h : ρ[i]? = some (.od t kvs)) :
    ∃ p o, σ[i]? = some (some (.ref p)) ∧ H p = some o ∧ DicO K F o t kvs ∧ ∀ o' t' kvs', DicO K F o' t' kvs' → Rs K N F (upd H p o') σ (ρ.set i (.od t' kvs')) := by
  obtain ⟨fps, r⟩ := R
  obtain ⟨p, o, e1, e2, e3, q⟩ := r.ok i _ h
  have hp : p ∈ fps i := by rw [e2]; simp
  obtain ⟨o1, o2, o3⟩ := r.out i p hp
  refine ⟨p, o, e1, e3, q, fun o' t' kvs' q' => ⟨_, r.put (fp' := [p]) (Same.refl _) (fun b u e => ?_) (fun b u e => ?_) (fun b u e hb => ?_) (fun _ e _ _ => e) rfl (fun _ _ => rfl) (fun _ => ⟨p, o', e1, rfl, upd_same, q'⟩) (by simp) (fun b hb => ?_)⟩⟩
  · rw [upd_ne (by rintro rfl; rw [o1] at e; cases e)]; exact r.fh b u e
  · rw [upd_ne (by rintro rfl; rw [o2] at e; cases e)]; exact r.nh b u e
  · rw [upd_ne (by rintro rfl; exact hb hp)]; exact e
  · have e : b = p := by simpa using hb
    subst e
    exact ⟨.inl hp, o1, o2, by rw [upd_same]; intro z; cases z⟩
def isOw : Option Sl → Bool
  | some (.ow _) => true
  | _ => false
theorem isOw_of {s : Option Sl} (h : isOw s = true) : ∃ ds, s = some (.ow ds) := by
  cases s with
  | none => cases h
  | some s => cases s <;> first | exact ⟨_, rfl⟩ | cases h
/-- x.append(e) -/
def cApp (i : Nat) (te : CE) : CS := fun C ρ => isOw ρ[i]? = true ∧ te ρ fun d ρ1 => match ρ1[i]? with
  | some (.ow ds) => ds.length < sizeLine ∧ C.nx (ρ1.set i (.ow (ds ++ [d])))
  | _ => False
theorem vs_app (i : Nat) {x : Str} {te : CE} {p1 apos cpos : Pos} (he : VE X e te) (hN : X.N[i]? = some x := by rfl) (hv : Vis X.env.scope x := by first | exact Or.inl rfl | exact Or.inr (Or.inl rfl) | exact Or.inr (Or.inr rfl)) (hd : (x == ("__debug__" : Str)) = false := by decide) (hcd : (x == ("__classdict__" : Str)) = false := by decide)
    (hsw : swapsWith (.Call (.Attribute (.Name x p1) "append" apos) [e] [] cpos) none pos.line X.env = pure false := by rfl)
    (hbase : attributeBase (.Name x p1) "append" X.env (eval (.Name x p1) X.env) = eval (.Name x p1) X.env := by rfl)
    (hfew : ((backTo cpos (starEach [e] X.env)).all (fun x => !x.1) && (backToKw cpos (keywordEach [] X.env)).all (fun x => x.1.isSome) && decide (([e] : List Expr).length + ([] : List Keyword).length + (if ([] : List Keyword).isEmpty then 0 else 1) < 30)) = true := by rfl)
    (hline : (apos.endLine == cpos.line) = true := by rfl) (hs : starEach [e] X.env = (false, eval e X.env) :: starEach [] X.env := by rfl) : VS X (.Expr (.Call (.Attribute (.Name x p1) "append" apos) [e] [] cpos) pos) (cApp i te) :=
  PS.imp (ps_expr (pe_bm PySem.F.plainAttrs_list PySem.F.slot_list_append PySem.F.type_list_append mt_append (pe_var hN hv hd hcd) (pa_cons he pa_nil hs) hbase hfew hline hs rfl) hsw) fun D' σ H ⟨N, F, ρ, C, R, ⟨q1, q2⟩, l⟩ => by
    obtain ⟨ds0, h0⟩ := isOw_of q1
    obtain ⟨p, vs, e1, e2, _, _⟩ := R.ow h0
    refine ⟨_, e1, .inl ⟨rfl, _, SqL.of e2⟩, N, F, ρ, _, R, q2, fun v F1 H1 d ρ1 R1 M1 r q3 => ?_⟩
    split at q3
    · rename_i ds h1
      obtain ⟨p', vs', e3, e4, r4, up⟩ := R1.ow h1
      rw [e1] at e3; cases e3
      exact ⟨p, vs', v, rfl, rfl, e4, by rw [r4.length]; exact q3.1, l.nx σ F1 _ _ (up _ _ (r4.append (.cons r .nil))) M1 q3.2⟩
    · exact q3.elim
/-- x.pop() as a value -/
def cPop (i : Nat) : CE := fun ρ Q => match ρ[i]? with
  | some (.ow ds) => (match ds[ds.length - 1]? with | some d => Q d (ρ.set i (.ow ds.dropLast)) | none => False)
  | _ => False
theorem ve_pop (i : Nat) {x : Str} {p1 apos cpos : Pos} (hN : X.N[i]? = some x := by rfl) (hv : Vis X.env.scope x := by first | exact Or.inl rfl | exact Or.inr (Or.inl rfl) | exact Or.inr (Or.inr rfl)) (hd : (x == ("__debug__" : Str)) = false := by decide) (hcd : (x == ("__classdict__" : Str)) = false := by decide)
    (hbase : attributeBase (.Name x p1) "pop" X.env (eval (.Name x p1) X.env) = eval (.Name x p1) X.env := by rfl) (hline : (apos.endLine == cpos.line) = true := by rfl) : VE X (.Call (.Attribute (.Name x p1) "pop" apos) [] [] cpos) (cPop i) :=
  PE.imp (pe_bm0 PySem.F.plainAttrs_list PySem.F.slot_list_pop PySem.F.type_list_pop mt_pop (pe_var hN hv hd hcd) hbase hline) fun σ H QV ⟨N, F, ρ, Q, R, q, k⟩ => by
    unfold cPop at q
    split at q
    · rename_i ds h1
      split at q
      · rename_i d hd
        obtain ⟨p, vs, e1, e2, r, up⟩ := R.ow h1
        obtain ⟨v, hv, rv⟩ := r.get hd
        rw [← r.length] at hv
        exact ⟨_, e1, .inl ⟨rfl, _, SqL.of e2⟩, p, vs, v, rfl, rfl, e2, hv, k v F _ d _ (up _ _ r.dropLast) (.refl _ _) rv q⟩
      · exact q.elim
    · exact q.elim
/-- x[i] = e, a list -/
def cSetIx (i : Nat) (ti : CO) (te : CE) : CS := fun C ρ => te ρ fun d ρ1 => known ρ1[i]? = true ∧ ti ρ1 fun y ρ2 => match ρ2[i]?, res ρ2 y with
  | some (.ow ds), some (.int k) => (match ixN ds.length k with | some j => C.nx (ρ2.set i (.ow (ds.set j d))) | none => False)
  | _, _ => False
theorem vs_setIx (i : Nat) {x : Str} {ix : Expr} {ti : CO} {te : CE} {p1 spos : Pos} (hi : VO X ix ti) (he : VE X e te) (hN : X.N[i]? = some x := by rfl) (hv : Vis X.env.scope x := by first | exact Or.inl rfl | exact Or.inr (Or.inl rfl) | exact Or.inr (Or.inr rfl)) (hd : (x == ("__debug__" : Str)) = false := by decide) (hcd : (x == ("__classdict__" : Str)) = false := by decide)
    (ha : ∀ v, assign (.Subscript (.Name x p1) ix spos) X.env v = (do
      let ov ← holding [v] (eval (.Name x p1) X.env)
      let iv ← holding [v, ov] (eval ix X.env)
      standAt spos
      holding [v, ov, iv] (setItem ov iv v)
      release [v, ov, iv] []) := by intro _; rfl)
    (hs : swapsWithSole [.Subscript (.Name x p1) ix spos] e pos.line X.env = pure false := by rfl) (hw : swappedStores [.Subscript (.Name x p1) ix spos] e X.env = pure none := by rfl) (h1 : (assignEach [.Subscript (.Name x p1) ix spos] X.env).map (·.2) = [assign (.Subscript (.Name x p1) ix spos) X.env] := by rfl) : VS X (.Assign [.Subscript (.Name x p1) ix spos] e pos) (cSetIx i ti te) :=
  PS.imp (ps_asg he (pg_sub (pe_var hN hv hd hcd) hi set_list ha) hs hw h1) fun D' σ H ⟨N, F, ρ, C, R, q, l⟩ => ⟨N, F, ρ, _, R, q, fun v F1 H1 d ρ1 R1 M1 r ⟨q1, q2⟩ => by
    obtain ⟨w, hw⟩ := R1.known q1
    refine ⟨w, hw, N, F1, ρ1, _, R1, q2, fun u F2 H2 y ρ2 R2 M2 oy q3 => ?_⟩
    split at q3
    · rename_i ds k h1 h2
      split at q3
      · rename_i j hj
        obtain ⟨p, vs, e1, e2, r4, up⟩ := R2.ow h1
        rw [hw] at e1; cases e1
        exact ⟨p, vs, k, j, rfl, (oy.w R2 h2).intE, e2, by rw [r4.length]; exact hj, l.nx σ F2 _ _ (up _ _ (r4.set j (r.up M2.ff))) (M1.trans M2) q3⟩
      · exact q3.elim
    · exact q3.elim⟩
def rGetL (K : PySem.W.Frag) : V → V → Hp → VK → Prop := fun x y H Q => ∃ (p : Addr) (xs : List V) (i : Int) (v : V), x = .ref p ∧ y = .int i ∧ SqL K H p xs ∧ 0 ≤ i ∧ xs[i.toNat]? = some v ∧ Q v H
theorem get_list : PGet X (rGetL X.K) := by
  intro pins s σ H o i ov iv Q I ro ri h
  obtain ⟨p, xs, j, v, rfl, rfl, hq, h0, hx, q⟩ := h
  cases ro
  obtain ⟨t, rfl⟩ := ri
  obtain ⟨its, r, pl, hz⟩ := I.list hq
  obtain ⟨w, ew, rw'⟩ := r.get hx
  have hlt : j.toNat < xs.length := by
    by_cases z : j.toNat < xs.length
    · exact z
    · rw [List.getElem?_eq_none (by omega)] at hx; cases hx
  have hn := line63
  exact wpAny_getItem_list pl.isList h0 (by omega) (by simpa using ew) ⟨v, H, I, rw', q⟩
/-- x[i] op= e, a list -/
def cAugIx (i : Nat) (c : C2) (ti : CO) (te : CO) : CS := fun C ρ => known ρ[i]? = true ∧ ti ρ fun y ρ1 => match ρ1[i]?, res ρ1 y with
  | some (.ow ds), some (.int k) => 0 ≤ k ∧ (match ds[k.toNat]? with
    | some old => te ρ1 fun z ρ2 => (match ρ2[i]?, res ρ2 z with
      | some (.ow ds2), some d => c old d fun new => (match ixN ds2.length k with | some j => C.nx (ρ2.set i (.ow (ds2.set j new))) | none => False)
      | _, _ => False)
    | none => False)
  | _, _ => False
theorem vs_augIx (i : Nat) {x : Str} {ix : Expr} {ti te : CO} {op : Operator} {r : R2} {c : C2} {p1 tpos : Pos} (ho : OpR X (inplaceOp op) r) (o : Op2 X.K r c) (hi : VO X ix ti) (he : VO X e te) (hN : X.N[i]? = some x := by rfl) (hv : Vis X.env.scope x := by first | exact Or.inl rfl | exact Or.inr (Or.inl rfl) | exact Or.inr (Or.inr rfl)) (hd : (x == ("__debug__" : Str)) = false := by decide) (hcd : (x == ("__classdict__" : Str)) = false := by decide)
    (ha : ∀ ov iv new, augStore ix ov iv new = (do holding [new, ov, iv] (setItem ov iv new); release [new, ov, iv] []; pure .next) := by intros; rfl) : VS X (.AugAssign (.Subscript (.Name x p1) ix tpos) op e pos) (cAugIx i c ti te) :=
  PS.imp (ps_augS (pe_var hN hv hd hcd) hi (get_list) he (tip := r) ho set_list ha) fun D' σ H ⟨N, F, ρ, C, R, ⟨q1, q2⟩, l⟩ => by
    obtain ⟨w, hw⟩ := R.known q1
    refine ⟨w, hw, N, F, ρ, _, R, q2, fun u F1 H1 y ρ1 R1 M1 oy q3 => ?_⟩
    split at q3
    · rename_i ds k h1 h2
      obtain ⟨h0, q3⟩ := q3
      split at q3
      · rename_i old hold
        obtain ⟨p, vs, e1, e2, r4, up⟩ := R1.ow h1
        rw [hw] at e1; cases e1
        have ey := (oy.w R1 h2).intE
        subst ey
        obtain ⟨ov, hov, rov⟩ := r4.get hold
        refine ⟨p, vs, k, ov, rfl, rfl, SqL.of e2, h0, hov, N, F1, ρ1, _, R1, q3, fun z F2 H2 zz ρ2 R2 M2 oz q4 => ?_⟩
        split at q4
        · rename_i ds2 d h3 h4
          refine o F2 H2 ov z old d _ _ R2.fh (.rv (rov.up M2.ff)) (oz.w R2 h4) q4 fun u2 F3 H3 d' E r' q5 => ?_
          split at q5
          · rename_i j hj
            have R3 := R2.exd E
            obtain ⟨p', vs', e5, e6, r6, up'⟩ := R3.ow h3
            rw [hw] at e5; cases e5
            exact ⟨p, vs', k, j, rfl, rfl, e6, by rw [r6.length]; exact hj, l.nx σ F3 _ _ (up' _ _ (r6.set j r')) ((M1.trans M2).trans (E.mo R2.nh)) q5⟩
          · exact q5.elim
        · exact q4.elim
      · exact q3.elim
    · exact q3.elim
/-- d[k] = e, a dict -/
def cDPut (i : Nat) (tk te : CE) : CS := fun C ρ => te ρ fun d ρ1 => known ρ1[i]? = true ∧ tk ρ1 fun k ρ2 => match ρ2[i]? with
  | some (.od t kvs) => okKey t k = true ∧ kvs.length < sizeLine ∧ C.nx (ρ2.set i (.od t (dPut kvs k d)))
  | _ => False
theorem vs_dput (i : Nat) {x : Str} {ix : Expr} {tk te : CE} {p1 spos : Pos} (hu : X.A.units + 1 < cLine) (hi : VE X ix tk) (he : VE X e te) (hN : X.N[i]? = some x := by rfl) (hv : Vis X.env.scope x := by first | exact Or.inl rfl | exact Or.inr (Or.inl rfl) | exact Or.inr (Or.inr rfl)) (hd : (x == ("__debug__" : Str)) = false := by decide) (hcd : (x == ("__classdict__" : Str)) = false := by decide)
    (hs : swapsWith e (some (.Subscript (.Name x p1) ix spos)) pos.line X.env = pure false := by rfl) : VS X (.Assign [.Subscript (.Name x p1) ix spos] e pos) (cDPut i tk te) :=
  PS.imp (ps_dput hu (pe_var hN hv hd hcd) hi he hs) fun D' σ H ⟨N, F, ρ, C, R, q, l⟩ => ⟨N, F, ρ, _, R, q, fun v F1 H1 d ρ1 R1 M1 r ⟨q1, q2⟩ => by
    obtain ⟨w, hw⟩ := R1.known q1
    refine ⟨w, hw, N, F1, ρ1, _, R1, q2, fun y F2 H2 k ρ2 R2 M2 ry q3 => ?_⟩
    split at q3
    · rename_i t kvs h1
      obtain ⟨p, ob, e1, e2, r4, up⟩ := R2.od h1
      rw [hw] at e1; cases e1
      obtain ⟨o', g1, g2⟩ := okKey_put R2.fh e2 r4 (.rv ry) q3.1 (r.up M2.ff) q3.2.1
      exact ⟨p, _, rfl, g1, l.nx σ F2 _ _ (up _ _ _ g2) (M1.trans M2) q3.2.2⟩
    · exact q3.elim⟩
end
/-! ### a def of the text keeps its clean promise -/
def envOf (N : List Str) (ds : List D) : Ev := ds.map Sl.fz ++ List.replicate (N.length - ds.length) .un
theorem getMapSome : ∀ (vs : List V) (i : Nat), (vs.map some)[i]? = vs[i]?.map some := fun vs i => by rw [List.getElem?_map]
theorem rs_start {K : PySem.W.Frag} {F H : Hp} {N : List Str} {vs : List V} {ds : List D} (s : Same F H) (r : RvA K F vs ds) : Rs K H F H (L2.start N vs) (envOf N ds) := by
  refine ⟨fun _ => [], s, Same.refl _, ?_, fun i sl hs => ?_, fun _ => List.nodup_nil, fun _ _ _ h => by (cases h), fun _ _ h => by (cases h)⟩
  · unfold envOf L2.start
    simp only [List.length_append, List.length_map, List.length_replicate, r.length]
  · unfold envOf at hs
    by_cases hi : i < ds.length
    · rw [List.getElem?_append_left (by simpa using hi), List.getElem?_map] at hs
      cases e : ds[i]? with
      | none => rw [e] at hs; cases hs
      | some d =>
        rw [e] at hs
        cases hs
        obtain ⟨v, hv, rv⟩ := r.get e
        refine ⟨rfl, v, ?_, rv⟩
        unfold L2.start
        have : i < vs.length := by rw [r.length]; exact hi
        rw [List.getElem?_append_left (by simpa using this), List.getElem?_map, hv]
        rfl
    · rw [List.getElem?_append_right (by simpa using hi), List.getElem?_replicate] at hs
      split at hs
      · cases hs; rfl
      · cases hs
abbrev cxN (P : Program) (w : World) (K : PySem.W.Frag) (mg : Str → Option Value) (base : Heap) (N : List Str) (qual : Str) (scope : Scope) (f : Addr) (cdv : Value) (A : Around) (outer : List Env) (s : Shared) (H : Hp) (E : XK) : Cx := (cxOf CX0 P w K mg base N qual scope f cdv A outer s H E).nox
theorem fd_mk {P : Program} {w : World} {K : PySem.W.Frag} {mg : Str → Option Value} {base : Heap} {k : Nat} {x : Str} {params : Arguments} {body : List Stmt} {scope : Scope} {f : Addr} {fd : FuncData} {N ps : List Str} {R : CF} (F : FunD K x x params body scope [] [] f fd) (gl : mg x = some (.ref f))
    (S : FnScope N ps scope) (hb : ∀ (kV doc pm : Value) (an : Option Addr) (cdv ct : Value) (us : List Value), us.length = ps.length → bindArgs (PySem.W.fnOf x x params body scope .none kV doc pm an cdv ct) ⟨us, []⟩ = pure (ps.zip us)) (len : ∀ ds Q, R ds Q → ds.length = ps.length)
    (go : ∀ (cdv : Value) (A : Around) (outer : List Env) (s : Shared) (H : Hp) (E : XK), Room k (A.deeper (envOfC x scope s.heap.objs.size f cdv)) → ∃ t, VSs (cxN P w K mg base N x scope f cdv A outer s H E) body t ∧ ∀ ds Q, R ds Q → t { nx := fun _ => Q .non, rt := fun d _ => Q d } (envOf N ds)) :
    Fd P w K mg base (k + 1) x ps (spC K R) := by
  refine ⟨f, fd, F.ok S (fun vs H Q E h => ?_) (fun cdv A outer s H vs Q E hr h => ?_), gl, F.kp, F.bindsN hb⟩
  · obtain ⟨F', ds, QD, _, r, q, _⟩ := h
    rw [r.length]
    exact len ds QD q
  · obtain ⟨F', ds, QD, sf, r, q, kk⟩ := h
    obtain ⟨t, ht, hq⟩ := go cdv A outer s H E hr
    refine ⟨_, PSs.nox ht, H, F', _, _, rs_start sf r, hq ds QD q, ?_⟩
    have fin : ∀ {v : V} {d : D} {σ' : L2.St} {F2 H2 : Hp} {ρ' : Ev}, Rs K H F2 H2 σ' ρ' → Mo H F' F2 → Rv K F2 v d → QD d → Q v H2 := fun {v d σ' F2 H2 ρ'} R2 M2 rv qd => kk v F2 H2 d ⟨M2.ff, R2.nh, R2.fh, fun b e n => M2.nw b n e⟩ rv qd
    exact ⟨fun σ' F2 H2 ρ' R2 M2 q2 => fin R2 M2 .non q2, fun v σ' F2 H2 d ρ' R2 M2 rv q2 => fin R2 M2 rv q2, fun _ _ _ _ _ _ z => z.elim, fun _ _ _ _ _ _ z => z.elim⟩
end CL
/-! CL 11: sequences walked, more statements, instances, things that a def changes for its caller. -/
namespace CL
open PySem PySem.Spec PySem.Calls PyProof.Rows L2
theorem hu1 {A : Around} {k : Nat} (hr : Room k A) : A.units + 1 < cLine := hu_of hr
theorem hu64 {A : Around} {k : Nat} (hr : Room k A) : A.units + 64 < cLine := hr.units
theorem hu65 {A : Around} {k : Nat} (hr : Room k A) : A.units + 65 < cLine := by have := hr.un; omega
section
variable {X : Cx} {e : Expr} {pos : Pos} {tg : Expr}
/-! ### a list or a tuple walked -/
def iSeq (K : PySem.W.Frag) (tl : TE) : TI := fun σ H R => tl σ H fun x H1 => ∃ a, x = .ref a ∧ (((∃ xs, SqL K H1 a xs) ∧ R (Itl K a) H1) ∨ ((∃ xs, SqT K H1 a xs) ∧ R (Itt K a) H1))
theorem pi_seq {tl : TE} (hl : PE X e tl) : PI X tg e (iSeq X.K tl) := by
  refine ⟨fun pins s σ H R I h => ?_⟩
  refine thn (hl.run pins s σ H _ I h) fun v s1 ⟨x, H1, I1, r1, a, ex, q⟩ => ?_
  subst ex
  have back : PE X e fun _ H' Q => True → False := ⟨fun pins s σ H Q I h => (h trivial).elim⟩
  have one : ∀ {t : TE}, t σ H1 (fun x H2 => x = .ref a ∧ H2 = H1) → True := fun _ => trivial
  cases r1
  rcases q with ⟨⟨xs, hq⟩, q⟩ | ⟨⟨xs, hq⟩, q⟩
  · obtain ⟨its, rv, p, hz⟩ := I1.list hq
    refine wpAny_pyIter_list p.isList ⟨s1.heap.objs.size, [s1.heap.objs.size], _, _, H1, rfl, I1.kept (t' := s1.toks) fun b o e => Heap.get?_push_of_some _ e, turn_list a _, ⟨_, Heap.get?_push_size _ rfl, rfl, rfl⟩, fun b hb => ?_, q⟩
    obtain rfl : b = s1.heap.objs.size := by simpa using hb
    exact I1.fpOk (Nat.le_refl _) (I1.hok.fresh (Nat.le_refl _))
  · obtain ⟨its, rv, p, hz⟩ := I1.tuple hq
    refine wpAny_pyIter_tuple (show s1.heap.IsTuple a its.toArray from p) ⟨s1.heap.objs.size, [s1.heap.objs.size], _, _, H1, rfl, I1.kept (t' := s1.toks) fun b o e => Heap.get?_push_of_some _ e, turn_tuple a _, ⟨_, Heap.get?_push_size _ rfl, rfl, rfl⟩, fun b hb => ?_, q⟩
    obtain rfl : b = s1.heap.objs.size := by simpa using hb
    exact I1.fpOk (Nat.le_refl _) (I1.hok.fresh (Nat.le_refl _))
def cIS (t : CE) : CI := fun ρ Q => t ρ fun d ρ' => match d with
  | .lst ds => Q ds ρ'
  | .tup ds => Q ds ρ'
  | _ => False
theorem vi_seq {t : CE} (h : VE X e t) : VI X tg e (cIS t) := PI.imp (pi_seq h) fun σ H R' ⟨N, F, ρ, Q, R, q, k⟩ => ⟨N, F, ρ, _, R, q, fun v F1 H1 d ρ1 R1 M1 r q1 => by
  split at q1
  · cases r with
    | lst r1 r2 => exact ⟨_, rfl, .inl ⟨⟨_, SqL.of (R1.fh _ _ r1)⟩, k _ F1 H1 _ ρ1 R1 M1 (cw_list r1 r2) q1⟩⟩
  · cases r with
    | tup r1 r2 => exact ⟨_, rfl, .inr ⟨⟨_, SqT.of (R1.fh _ _ r1)⟩, k _ F1 H1 _ ρ1 R1 M1 (cw_tup r1 r2) q1⟩⟩
  · exact q1.elim⟩
/-! ### slots forgotten behind a statement -/
def cFgt (is : List Nat) (t : CS) : CS := fun C ρ => t { C with nx := fun ρ' => C.nx (forget is ρ') } ρ
theorem vs_fgt {st : Stmt} {t : CS} (is : List Nat) (h : VS X st t) : VS X st (cFgt is t) := PS.imp h fun D' σ H ⟨N, F, ρ, C, R, q, l⟩ =>
  ⟨N, F, ρ, _, R, q, fun σ' F' H' ρ' R' M q' => l.nx σ' F' H' _ (R'.forget is) M q', l.rt, l.bk, l.ct⟩
/-! ### op= of ints -/
def cAddI : C2 := fun x y Q => match x, y with
  | .int i, .int j => Q (.int (i + j))
  | _, _ => False
def cMulI : C2 := fun x y Q => match x, y with
  | .int i, .int j => CMul i j ∧ Q (.int (i * j))
  | _, _ => False
theorem o_addI {K : PySem.W.Frag} : Op2 K (rI0 fun i j => .int (i + j)) cAddI := o_ii0 (g := fun i j => .int (i + j)) (fun _ _ _ => .int _) fun d e Q q => by unfold cAddI at q; split at q <;> first | exact ⟨_, _, rfl, rfl, q⟩ | exact q.elim
theorem o_mulI {K : PySem.W.Frag} : Op2 K (rI CMul fun i j => .int (i * j)) cMulI := o_ii (g := fun i j => .int (i * j)) (fun _ _ _ => .int _) fun d e Q q => by unfold cMulI at q; split at q <;> first | exact ⟨_, _, rfl, rfl, q⟩ | exact q.elim
/-! ### x.extend(e) -/
def cExt (i : Nat) (te : CE) : CS := fun C ρ => isOw ρ[i]? = true ∧ te ρ fun d ρ1 => match ρ1[i]?, d with
  | some (.ow ds), .lst es => ds.length + es.length ≤ sizeLine ∧ C.nx (ρ1.set i (.ow (ds ++ es)))
  | _, _ => False
theorem vs_ext (i : Nat) {x : Str} {te : CE} {p1 apos cpos : Pos} (he : VE X e te) (hN : X.N[i]? = some x := by rfl) (hv : Vis X.env.scope x := by first | exact Or.inl rfl | exact Or.inr (Or.inl rfl) | exact Or.inr (Or.inr rfl)) (hd : (x == ("__debug__" : Str)) = false := by decide) (hcd : (x == ("__classdict__" : Str)) = false := by decide)
    (hsw : swapsWith (.Call (.Attribute (.Name x p1) "extend" apos) [e] [] cpos) none pos.line X.env = pure false := by rfl)
    (hbase : attributeBase (.Name x p1) "extend" X.env (eval (.Name x p1) X.env) = eval (.Name x p1) X.env := by rfl)
    (hfew : ((backTo cpos (starEach [e] X.env)).all (fun x => !x.1) && (backToKw cpos (keywordEach [] X.env)).all (fun x => x.1.isSome) && decide (([e] : List Expr).length + ([] : List Keyword).length + (if ([] : List Keyword).isEmpty then 0 else 1) < 30)) = true := by rfl)
    (hline : (apos.endLine == cpos.line) = true := by rfl) (hs : starEach [e] X.env = (false, eval e X.env) :: starEach [] X.env := by rfl) : VS X (.Expr (.Call (.Attribute (.Name x p1) "extend" apos) [e] [] cpos) pos) (cExt i te) :=
  PS.imp (ps_expr (pe_bm PySem.F.plainAttrs_list PySem.F.slot_list_extend PySem.F.type_list_extend mt_extend (pe_var hN hv hd hcd) (pa_cons he pa_nil hs) hbase hfew hline hs rfl) hsw) fun D' σ H ⟨N, F, ρ, C, R, ⟨q1, q2⟩, l⟩ => by
    obtain ⟨ds0, h0⟩ := isOw_of q1
    obtain ⟨p, vs, e1, e2, _, _⟩ := R.ow h0
    refine ⟨_, e1, .inl ⟨rfl, _, SqL.of e2⟩, N, F, ρ, _, R, q2, fun v F1 H1 d ρ1 R1 M1 r q3 => ?_⟩
    split at q3
    · rename_i ds es h1
      obtain ⟨p', vs', e3, e4, r4, up⟩ := R1.ow h1
      rw [e1] at e3; cases e3
      cases r with
      | lst r1 r2 => exact ⟨p, _, vs', _, rfl, rfl, e4, R1.fh _ _ r1, by rw [r4.length, r2.length]; exact q3.1, l.nx σ F1 _ _ (up _ _ (r4.append r2)) M1 q3.2⟩
    · exact q3.elim
/-! ### x.pop(e) as a value, x owned -/
def cPopAt (i : Nat) (te : CO) : CE := fun ρ Q => isOw ρ[i]? = true ∧ te ρ fun y ρ1 => match ρ1[i]?, res ρ1 y with
  | some (.ow ds), some (.int k) => 0 ≤ k ∧ k < 2 ^ 62 ∧ (match ds[k.toNat]? with | some d => Q d (ρ1.set i (.ow (ds.eraseIdx k.toNat))) | none => False)
  | _, _ => False
theorem ve_popAt (i : Nat) {x : Str} {te : CO} {p1 apos cpos : Pos} (he : VO X e te) (hN : X.N[i]? = some x := by rfl) (hv : Vis X.env.scope x := by first | exact Or.inl rfl | exact Or.inr (Or.inl rfl) | exact Or.inr (Or.inr rfl)) (hd : (x == ("__debug__" : Str)) = false := by decide) (hcd : (x == ("__classdict__" : Str)) = false := by decide)
    (hbase : attributeBase (.Name x p1) "pop" X.env (eval (.Name x p1) X.env) = eval (.Name x p1) X.env := by rfl)
    (hfew : ((backTo cpos (starEach [e] X.env)).all (fun x => !x.1) && (backToKw cpos (keywordEach [] X.env)).all (fun x => x.1.isSome) && decide (([e] : List Expr).length + ([] : List Keyword).length + (if ([] : List Keyword).isEmpty then 0 else 1) < 30)) = true := by rfl)
    (hline : (apos.endLine == cpos.line) = true := by rfl) (hs : starEach [e] X.env = (false, eval e X.env) :: starEach [] X.env := by rfl) : VE X (.Call (.Attribute (.Name x p1) "pop" apos) [e] [] cpos) (cPopAt i te) :=
  PE.imp (pe_bm PySem.F.plainAttrs_list PySem.F.slot_list_pop PySem.F.type_list_pop mt_popAt (pe_var hN hv hd hcd) (pa_cons he pa_nil hs) hbase hfew hline hs rfl) fun σ H QV ⟨N, F, ρ, Q, R, ⟨q1, q2⟩, k⟩ => by
    obtain ⟨ds0, h0⟩ := isOw_of q1
    obtain ⟨p, vs, e1, e2, _, _⟩ := R.ow h0
    refine ⟨_, e1, .inl ⟨rfl, _, SqL.of e2⟩, N, F, ρ, _, R, q2, fun v F1 H1 y ρ1 R1 M1 oy q3 => ?_⟩
    split at q3
    · rename_i ds j h1 h2
      obtain ⟨b1, b2, q3⟩ := q3
      split at q3
      · rename_i d hd
        obtain ⟨p', vs', e3, e4, r4, up⟩ := R1.ow h1
        rw [e1] at e3; cases e3
        obtain ⟨w, hw, rw'⟩ := r4.get hd
        have hlt : j.toNat < vs'.length := by
          by_cases z : j.toNat < vs'.length
          · exact z
          · rw [List.getElem?_eq_none (by omega)] at hw; cases hw
        exact ⟨p, vs', j, j.toNat, w, rfl, by rw [(oy.w R1 h2).intE], e4, by omega, by omega, seqIndex_of b1 (by omega), hw, k w F1 _ d _ (up _ _ (r4.erase _)) M1 rw' q3⟩
      · exact q3.elim
    · exact q3.elim
/-! ### list(range(..)) -/
def cLR1 (t : CO) : CE := fun ρ Q => t ρ fun x ρ1 => match res ρ1 x with
  | some (.int j) => 0 ≤ j ∧ j ≤ 16777216 ∧ Q (.lst (rngD 0 j.toNat)) ρ1
  | _ => False
theorem rg_rng {K : PySem.W.Frag} {F : Hp} (j : Int) : RvA K F (rgV 0 j) (rngD 0 j.toNat) := by
  unfold rgV rngD
  rw [Int.sub_zero]
  generalize j.toNat = n
  have : ∀ l : List Nat, RvA K F (l.map fun (i : Nat) => V.int (0 + (i : Int))) (l.map fun (i : Nat) => D.int (0 + (i : Int))) := by
    intro l
    induction l with
    | nil => exact .nil
    | cons a l ih => exact .cons (.int _) ih
  exact this _
theorem vn_lr1 {t : CO} {p p2 pos2 : Pos} (hc : X.calm = true) (hm : X.mg "list" = none) (hm2 : X.mg "range" = none) (h : VO X e t) (hg : Gl X "list" := by rfl) (hg2 : Gl X "range" := by rfl) (na : starEach [.Call (.Name "range" p2) [e] [] pos2] X.env = (false, eval (.Call (.Name "range" p2) [e] [] pos2) X.env) :: starEach [] X.env := by rfl) (nb : starEach [e] X.env = (false, eval e X.env) :: starEach [] X.env := by rfl) : VN X (.Call (.Name "list" p) [.Call (.Name "range" p2) [e] [] pos2] [] pos) (cLR1 t) :=
  PE.imp (pe_listRg hc hg hm (prg_1 hg2 hm2 h nb) na) fun σ H QV ⟨N, F, ρ, Q, R, q, k⟩ => ⟨N, F, ρ, _, R, q, fun v F1 H1 x ρ1 R1 M1 ox q1 => by
    split at q1
    · rename_i j e1
      refine ⟨j, (ox.w R1 e1).intE, .of_le (by omega) q1.2.1 (by omega) q1.1, fun p np => k p _ F1 H1 (.lst _) ρ1 R1 M1 np ⟨_, rfl, rg_rng j⟩ q1.2.2⟩
    · exact q1.elim⟩
/-! ### [[] for _ in range(e)]: a list of lists, all owned -/
end
end CL
/-! CL 12: a list of lists, all owned by one slot. -/
namespace CL
open PySem PySem.Spec PySem.Calls PyProof.Rows L2
theorem all2_len {α β : Type} {R : α → β → Prop} : ∀ {as : List α} {bs : List β}, All2 R as bs → as.length = bs.length
  | _, _, .nil => rfl
  | _, _, .cons _ t => by rw [List.length_cons, List.length_cons, all2_len t]
theorem all2_get {α β : Type} {R : α → β → Prop} : ∀ {as : List α} {bs : List β} {i : Nat} {b : β}, All2 R as bs → bs[i]? = some b → ∃ a, as[i]? = some a ∧ R a b
  | _, _, _, _, .nil, e => by simp at e
  | _, _, 0, _, .cons r _, e => by simp at e; subst e; exact ⟨_, rfl, r⟩
  | _, _, i + 1, b, .cons _ t, e => by
    obtain ⟨u, h1, h2⟩ := all2_get (i := i) (b := b) t (by simpa using e)
    exact ⟨u, by simpa using h1, h2⟩
theorem all2_set {α β : Type} {R R' : α → β → Prop} : ∀ {as : List α} {bs : List β} {i : Nat} {a : α} {b' : β}, All2 R as bs → as[i]? = some a → as.Nodup → R' a b' → (∀ x b, x ∈ as → x ≠ a → R x b → R' x b) → All2 R' as (bs.set i b')
  | _, _, _, _, _, .nil, e, _, _, _ => by simp at e
  | _, _, 0, _, _, .cons (as := as) r t, e, nd, r', f => by
    simp at e; subst e
    exact .cons r' (t.mono fun x b hx q => f x b (List.mem_cons_of_mem _ hx) (fun z => by subst z; exact (List.nodup_cons.mp nd).1 hx) q)
  | _, _, i + 1, a, _, .cons (a := x) r t, e, nd, r', f => by
    have e' := by simpa using e
    have hm := List.mem_of_getElem? e'
    exact .cons (f x _ List.mem_cons_self (fun z => by subst z; exact (List.nodup_cons.mp nd).1 hm) r) (all2_set t e' (List.nodup_cons.mp nd).2 r' fun y b hy => f y b (List.mem_cons_of_mem _ hy))
theorem Rs.oo {K : PySem.W.Frag} {N F H : Hp} {σ : L2.St} {ρ : Ev} {i : Nat} {dss : List (List D)} (R : Rs K N F H σ ρ) (h : ρ[i]? = some (.oo dss)) :
    ∃ (p : Addr) (qs : List Addr), σ[i]? = some (some (.ref p)) ∧ H p = some (.lst (qs.map .ref)) ∧ (p :: qs).Nodup ∧ All2 (fun q ds => ∃ vs, H q = some (.lst vs) ∧ RvA K F vs ds) qs dss ∧
      (∀ q ∈ p :: qs, F q = none ∧ N q = none) ∧ (∀ (j : Nat) (q : Addr) vs' ds', qs[j]? = some q → RvA K F vs' ds' → Rs K N F (upd H q (.lst vs')) σ (ρ.set i (.oo (dss.set j ds')))) ∧
      ∀ F' s', Same F F' → Same F' H → (∀ b, F b = none → b ∉ p :: qs → F' b = none) → SlOk K F' H s' σ[i]? [] → Rs K N F' H σ (ρ.set i s') := by
  obtain ⟨fps, r⟩ := R
  obtain ⟨p, qs, e1, e2, e3, a⟩ := r.ok i _ h
  have nd := r.nd i
  rw [e2] at nd
  have out := r.out i
  rw [e2] at out
  refine ⟨p, qs, e1, e3, nd, a, fun q hq => ⟨(out q hq).1, (out q hq).2.1⟩, fun j q vs' ds' hj rr => ?_, fun F' s' sf sh nw ok => ?_⟩
  · have hq : q ∈ qs := List.mem_of_getElem? hj
    have hq' : q ∈ fps i := by rw [e2]; exact List.mem_cons_of_mem _ hq
    have qp : p ≠ q := by rintro rfl; exact (List.nodup_cons.mp nd).1 hq
    obtain ⟨o1, o2, o3⟩ := r.out i q hq'
    refine ⟨_, r.put (fp' := p :: qs) (Same.refl _) (fun b u e => ?_) (fun b u e => ?_) (fun b u e hb => ?_) (fun _ e _ _ => e) rfl (fun _ _ => rfl) (fun _ => ⟨p, qs, e1, rfl, by rw [upd_ne qp]; exact e3, ?_⟩) nd (fun b hb => ?_)⟩
    · rw [upd_ne (by rintro rfl; rw [o1] at e; cases e)]; exact r.fh b u e
    · rw [upd_ne (by rintro rfl; rw [o2] at e; cases e)]; exact r.nh b u e
    · rw [upd_ne (by rintro rfl; exact hb hq')]; exact e
    · refine all2_set a hj (List.nodup_cons.mp nd).2 ⟨vs', upd_same, rr⟩ fun x b _ ne ⟨vs, h1, h2⟩ => ⟨vs, by rw [upd_ne ne]; exact h1, h2⟩
    · obtain ⟨z1, z2, z3⟩ := out b hb
      refine ⟨.inl (by rw [e2]; exact hb), z1, z2, ?_⟩
      by_cases e : b = q
      · subst e; rw [upd_same]; intro z; cases z
      · rw [upd_ne e]; exact z3
  · exact ⟨_, r.put (fp' := []) sf sh r.nh (fun _ _ e _ => e) (fun b e _ hb => nw b e (by rw [← e2]; exact hb)) rfl (fun _ _ => rfl) (fun _ => ok) List.nodup_nil (fun _ z => by cases z)⟩
/-- all made good -/
def frzO (i : Nat) (ρ : Ev) : Ev := match ρ[i]? with
  | some (.oo dss) => ρ.set i (.fz (.lst (dss.map .lst)))
  | _ => ρ
def updL (F : Hp) (H : Hp) (qs : List Addr) : Hp := fun b => if b ∈ qs then H b else F b
theorem Rs.frzO {K : PySem.W.Frag} {N F H : Hp} {σ : L2.St} {ρ : Ev} (i : Nat) (R : Rs K N F H σ ρ) : ∃ F', Rs K N F' H σ (CL.frzO i ρ) ∧ Mo N F F' := by
  unfold CL.frzO
  split
  · rename_i dss h
    obtain ⟨p, qs, e1, e3, nd, a, out, _, up⟩ := R.oo h
    have sf : Same F (updL F H (p :: qs)) := fun b u e => by
      unfold updL
      rw [if_neg (fun z => by have q := (out b z).1; rw [q] at e; cases e)]
      exact e
    have at_ : ∀ b ∈ p :: qs, updL F H (p :: qs) b = H b := fun b hb => by unfold updL; rw [if_pos hb]
    refine ⟨updL F H (p :: qs), up _ (.fz (.lst (dss.map .lst))) sf (fun b u e => ?_) (fun b e hb => ?_) ⟨rfl, _, e1, .lst (by rw [at_ p List.mem_cons_self]; exact e3) ?_⟩, sf, fun b hb e => ?_⟩
    · unfold updL at e
      split at e
      · exact e
      · exact R.fh b u e
    · unfold updL; rw [if_neg hb]; exact e
    · have : ∀ {qs' : List Addr} {dss : List (List D)}, (∀ q ∈ qs', q ∈ p :: qs) → All2 (fun q ds => ∃ vs, H q = some (.lst vs) ∧ RvA K F vs ds) qs' dss → RvA K (updL F H (p :: qs)) (qs'.map V.ref) (dss.map D.lst) := by
        intro qs' dss hs a
        induction a with
        | nil => exact .nil
        | cons r _ ih =>
          obtain ⟨vs, h1, h2⟩ := r
          refine .cons (.lst (by rw [at_ _ (hs _ List.mem_cons_self)]; exact h1) (h2.up sf)) (ih fun q hq => hs q (List.mem_cons_of_mem _ hq))
      exact this (fun q hq => List.mem_cons_of_mem _ hq) a
    · unfold updL
      rw [if_neg (fun z => hb (out b z).2)]
      exact e
  · exact ⟨F, R, .refl _ _⟩
section
variable {X : Cx} {e : Expr} {pos : Pos}
def cFrzO (i : Nat) (t : CS) : CS := fun C ρ => t C (frzO i ρ)
theorem vs_frzO {st : Stmt} {t : CS} (i : Nat) (h : VS X st t) : VS X st (cFrzO i t) := PS.imp h fun D' σ H ⟨N, F, ρ, C, R, q, l⟩ => by
  obtain ⟨F', R', M⟩ := R.frzO i
  exact ⟨N, F', _, C, R', q, l.later M⟩
/-- x = [[] for y in range(e)] -/
def cOoNew (i : Nat) (vs : List Nat) (t : CO) : CS := fun C ρ => t ρ fun x ρ1 => match res ρ1 x with
  | some (.int j) => 0 ≤ j ∧ j ≤ 16777216 ∧ C.nx ((forget vs ρ1).set i (.oo (List.replicate j.toNat [])))
  | _ => False
theorem vs_ooNew {i : Nat} {y : Str} {py : Pos} {tg : Expr} {scope : Scope} {own : List (Str × Nat)} {spos p p2 lp : Pos} {ws : Nat} {t : CO} (hc : X.calm = true) (hN : X.N.Nodup) (hm : X.mg "range" = none) (hsw : swapsWith (.ListComp (.List [] lp) [⟨tg, .Call (.Name "range" p) [e] [] p2, [], 0⟩] scope pos) (some (.Name y py)) spos.line X.env = pure true) (h : VO X e t) (ok : BlkOk X.N X.env.scope scope own)
    (hg : ∀ (s : Shared) (H : Hp) (C : Addr) (cl : List (Str × Addr)) (fp : List Addr), PG (X.blk s H scope (compEnvC scope cl C X.env) fp) tg (gName ws)) (hw : ws ∈ own.map (·.2) := by decide) (hy : X.N[i]? = some y := by rfl) (hyl : X.env.scope.names.lookup y = some .local := by rfl)
    (hgr : Gl X "range" := by rfl) (hs : starEach [e] X.env = (false, eval e X.env) :: starEach [] X.env := by rfl) (hfs : ∀ x, foldedSetIterable (.Call (.Name "range" p) [e] [] p2) X.env x = pure x := by intro _; rfl) :
    VS X (.Assign [.Name y py] (.ListComp (.List [] lp) [⟨tg, .Call (.Name "range" p) [e] [] p2, [], 0⟩] scope pos) spos) (cOoNew i (own.map (·.2)) t) :=
  PS.imp (ps_setLc hc hN hy hyl hsw (pi_range1 hgr hm (pa_cons h pa_nil hs) hs) ok hg (fun _ _ _ _ _ => pts_nil) (fun _ _ _ _ _ => pe_lst pa_nil) hfs) fun D' σ H ⟨N, F, ρ, C, R, q, l⟩ => ⟨N, F, ρ, _, R, q, fun v F1 H1 x ρ1 R1 M1 ox q1 => by
    split at q1
    · rename_i j e1
      obtain ⟨j0, j1, q1⟩ := q1
      refine ⟨j, by rw [(ox.w R1 e1).intE], by omega, by omega, fun Dd nD => ?_⟩
      refine lc_range (fun k H2 => ∃ qs : List Addr, qs.length = k ∧ (Dd :: qs).Nodup ∧ H2 Dd = some (.lst (qs.map V.ref)) ∧ (∀ q ∈ qs, H1 q = none ∧ H2 q = some (.lst [])) ∧ Same H1 H2) ⟨[], rfl, by simp, upd_same, fun _ z => by (cases z), same_upd nD⟩ (fun k H2 hk ⟨qs, hl, nd, hd, hq, sm⟩ => ?_) (fun H2 ⟨qs, hl, nd, hd, hq, sm⟩ => ?_)
      · have hw2 : wipe ((wipe σ (own.map (·.2))).set ws (some (V.int (0 + (k : Int))))) (own.map (·.2)) = wipe σ (own.map (·.2)) := by
          rw [wipe_out_eq (σ := wipe σ (own.map (·.2))) (ws := [ws]) ⟨by simp, fun k hk => set_ne k (by simpa using hk)⟩ (fun i hi => by rw [show i = ws by simpa using hi]; exact hw),
            wipe_out_eq (σ := σ) (σ' := wipe σ (own.map (·.2))) (ws := own.map (·.2)) ⟨wipe_length _ _, fun k hk => wipe_get hk⟩ (fun _ h => h)]
        refine ⟨hw2, ?_⟩
        dsimp only [tYes]
        rw [if_pos rfl]
        refine ⟨Nat.zero_le _, fun q nq => ?_⟩
        have qD : q ≠ Dd := by rintro rfl; rw [hd] at nq; cases nq
        have qq : q ∉ qs := fun z => by rw [(hq q z).2] at nq; cases nq
        refine ⟨qs.map V.ref, by rw [upd_ne qD.symm]; exact hd, by rw [List.length_map, hl, sizeLine_eq]; omega, qs ++ [q], by simp [hl], ?_, by rw [upd_same, List.map_append]; rfl, fun z hz => ?_, ?_⟩
        · have nd' := List.nodup_cons.mp nd
          refine List.nodup_cons.mpr ⟨by simp only [List.mem_append, List.mem_singleton, not_or]; exact ⟨nd'.1, qD.symm⟩, List.nodup_append.mpr ⟨nd'.2, by simp, fun a ha b hb e => qq (by rw [← (show b = q by simpa using hb), ← e]; exact ha)⟩⟩
        · rcases List.mem_append.mp hz with hz1 | hz1
          · have zD : z ≠ Dd := by rintro rfl; exact (List.nodup_cons.mp nd).1 hz1
            refine ⟨(hq z hz1).1, ?_⟩
            rw [upd_ne zD, upd_ne (by rintro rfl; exact qq hz1)]
            exact (hq z hz1).2
          · have ez : z = q := by simpa using hz1
            subst ez
            refine ⟨none_of sm nq, ?_⟩
            rw [upd_ne qD, upd_same]
        · intro b u hb
          have bD : b ≠ Dd := by rintro rfl; rw [nD] at hb; cases hb
          rw [upd_ne bD, upd_ne (by rintro rfl; have z := sm _ _ hb; rw [nq] at z; cases z)]
          exact sm b u hb
      · obtain ⟨fps, r⟩ := R1.forget (own.map (·.2))
        have new : ∀ z ∈ Dd :: qs, H1 z = none ∧ H2 z ≠ none := fun z hz => by
          rcases List.mem_cons.mp hz with rfl | hz
          · exact ⟨nD, by rw [hd]; intro w; cases w⟩
          · exact ⟨(hq z hz).1, by rw [(hq z hz).2]; intro w; cases w⟩
        refine l.nx _ F1 H2 _ ⟨_, r.put (i := i) (s' := .oo (List.replicate j.toNat [])) (fp' := Dd :: qs) (σ' := σ.set i (some (.ref Dd))) (Same.refl _) (r.fh.trans sm) (r.nh.trans sm) (fun b u e _ => sm b u e) (fun _ e _ _ => e) (by simp) set_ne (fun hi => ?_) nd (fun z hz => ?_)⟩ M1 q1
        · rw [set_self hi]
          refine ⟨Dd, qs, rfl, rfl, hd, ?_⟩
          have : ∀ (qs : List Addr) (n : Nat), qs.length = n → (∀ q ∈ qs, H2 q = some (.lst [])) → All2 (fun q ds => ∃ vs, H2 q = some (.lst vs) ∧ RvA X.K F1 vs ds) qs (List.replicate n []) := by
            intro qs
            induction qs with
            | nil => intro n hn _; simp at hn; subst hn; exact .nil
            | cons a as ih => intro n hn h; simp at hn; subst hn; exact .cons ⟨[], h a List.mem_cons_self, .nil⟩ (ih _ rfl fun q hq => h q (List.mem_cons_of_mem _ hq))
          exact this qs _ hl fun q hh => (hq q hh).2
        · obtain ⟨z1, z2⟩ := new z hz
          exact ⟨.inr z1, none_of r.fh z1, none_of r.nh z1, z2⟩
    · exact q1.elim⟩
def isOo : Option Sl → Bool
  | some (.oo _) => true
  | _ => false
/-- x[k].append(y), k and y names -/
def cOoApp (i : Nat) (a b : Nat) : CS := fun C ρ => match ρ[i]?, ρ[a]?, ρ[b]? with
  | some (.oo dss), some (.fz (.int k)), some (.fz d) => 0 ≤ k ∧ (match dss[k.toNat]? with
    | some ds => ds.length < sizeLine ∧ C.nx (ρ.set i (.oo (dss.set k.toNat (ds ++ [d]))))
    | none => False)
  | _, _, _ => False
theorem vs_ooApp (i a b : Nat) {x y z : Str} {p1 p2 p3 p4 apos cpos : Pos} (hN : X.N[i]? = some x := by rfl) (hv : Vis X.env.scope x := by first | exact Or.inl rfl | exact Or.inr (Or.inl rfl) | exact Or.inr (Or.inr rfl)) (hd : (x == ("__debug__" : Str)) = false := by decide) (hcd : (x == ("__classdict__" : Str)) = false := by decide)
    (hN2 : X.N[a]? = some y := by rfl) (hv2 : Vis X.env.scope y := by first | exact Or.inl rfl | exact Or.inr (Or.inl rfl) | exact Or.inr (Or.inr rfl)) (hd2 : (y == ("__debug__" : Str)) = false := by decide) (hcd2 : (y == ("__classdict__" : Str)) = false := by decide)
    (hN3 : X.N[b]? = some z := by rfl) (hv3 : Vis X.env.scope z := by first | exact Or.inl rfl | exact Or.inr (Or.inl rfl) | exact Or.inr (Or.inr rfl)) (hd3 : (z == ("__debug__" : Str)) = false := by decide) (hcd3 : (z == ("__classdict__" : Str)) = false := by decide)
    (hsw : swapsWith (.Call (.Attribute (.Subscript (.Name x p1) (.Name y p2) p3) "append" apos) [.Name z p4] [] cpos) none pos.line X.env = pure false := by rfl)
    (hbase : attributeBase (.Subscript (.Name x p1) (.Name y p2) p3) "append" X.env (eval (.Subscript (.Name x p1) (.Name y p2) p3) X.env) = eval (.Subscript (.Name x p1) (.Name y p2) p3) X.env := by rfl)
    (hfew : ((backTo cpos (starEach [Expr.Name z p4] X.env)).all (fun x => !x.1) && (backToKw cpos (keywordEach [] X.env)).all (fun x => x.1.isSome) && decide (([Expr.Name z p4] : List Expr).length + ([] : List Keyword).length + (if ([] : List Keyword).isEmpty then 0 else 1) < 30)) = true := by rfl)
    (hline : (apos.endLine == cpos.line) = true := by rfl) (hs : starEach [Expr.Name z p4] X.env = (false, eval (.Name z p4) X.env) :: starEach [] X.env := by rfl) :
    VS X (.Expr (.Call (.Attribute (.Subscript (.Name x p1) (.Name y p2) p3) "append" apos) [.Name z p4] [] cpos) pos) (cOoApp i a b) :=
  PS.imp (ps_expr (pe_bm PySem.F.plainAttrs_list PySem.F.slot_list_append PySem.F.type_list_append mt_append (pe_ix ix_list (pe_var hN hv hd hcd) (pe_var hN2 hv2 hd2 hcd2) (fun _ _ => rfl)) (pa_cons (pe_var hN3 hv3 hd3 hcd3) pa_nil hs) hbase hfew hline hs rfl) hsw) fun D' σ H ⟨N, F, ρ, C, R, q, l⟩ => by
    unfold cOoApp at q
    split at q
    · rename_i dss k d h1 h2 h3
      obtain ⟨h0, q⟩ := q
      split at q
      · rename_i ds hds
        obtain ⟨p, qs, e1, e3, nd, al, out, upq, _⟩ := R.oo h1
        obtain ⟨vk, ek, rk⟩ := R.fzv h2
        obtain ⟨vd, ed, rd⟩ := R.fzv h3
        cases rk
        obtain ⟨qa, hqa, vs, hvs, rvs⟩ := all2_get al hds
        have hat : atI (qs.map V.ref) k = some (.ref qa) := by
          have e : k = ((k.toNat : Nat) : Int) := by omega
          rw [e]
          exact atI_nat (by rw [List.getElem?_map, hqa]; rfl)
        refine ⟨_, e1, _, ek, p, qs.map V.ref, k, .ref qa, rfl, rfl, SqL.of e3, hat, .inl ⟨rfl, _, SqL.of hvs⟩, vd, ed, qa, vs, vd, rfl, rfl, hvs, by rw [rvs.length]; exact q.1, ?_⟩
        exact l.nx σ F _ _ (upq k.toNat qa _ _ hqa (rvs.append (.cons rd .nil))) (.refl _ _) q.2
      · exact q.elim
    · exact q.elim
end
end CL
/-! CL 13: instances made; things that a def changes for its caller. -/
namespace CL
open PySem PySem.Spec PySem.Calls PyProof.Rows L2
def putFD (f : Str) (v : D) : List (Str × D) → List (Str × D)
  | [] => [(f, v)]
  | (g, w) :: r => if g = f then (f, v) :: r else (g, w) :: putFD f v r
theorem RvF.put {K : PySem.W.Frag} {F : Hp} {f : Str} {v : V} {d : D} (r : Rv K F v d) : ∀ {vs : List (Str × V)} {fs : List (Str × D)}, RvF K F vs fs → RvF K F (putF f v vs) (putFD f d fs)
  | _, _, .nil => .cons r .nil
  | _, _, .cons (k := k) q t => by
    by_cases e : k = f
    · subst e
      simp only [putF, putFD, if_pos]
      exact .cons r t
    · simp only [putF, putFD, if_neg e]
      exact .cons q (RvF.put r t)
theorem RvF.length {K : PySem.W.Frag} {F : Hp} : ∀ {vs : List (Str × V)} {fs : List (Str × D)}, RvF K F vs fs → vs.length = fs.length
  | _, _, .nil => rfl
  | _, _, .cons _ t => by rw [List.length_cons, List.length_cons, RvF.length t]
section
variable {X : Cx} {e : Expr} {pos : Pos}
/-- self.f = e -/
def cFldSet (i : Nat) (c f : Str) (te : CE) : CS := fun C ρ => te ρ fun d ρ1 => match ρ1[i]? with
  | some (.oi x dx c' fs) => c' = c ∧ fs.length < 1000 ∧ C.nx (ρ1.set i (.oi x dx c (putFD f d fs)))
  | _ => False
theorem Rs.oi {K : PySem.W.Frag} {N F H : Hp} {σ : L2.St} {ρ : Ev} {i : Nat} {x dx : Addr} {c : Str} {fs : List (Str × D)} (R : Rs K N F H σ ρ) (h : ρ[i]? = some (.oi x dx c fs)) :
    (F x = none ∧ N x = none) ∧ ∃ vs, σ[i]? = some (some (.ref x)) ∧ H x = some (.ins (He.ga K c) dx vs) ∧ RvF K F vs fs ∧ ∀ vs' fs', RvF K F vs' fs' → Rs K N F (upd H x (.ins (He.ga K c) dx vs')) σ (ρ.set i (.oi x dx c fs')) := by
  obtain ⟨fps, r⟩ := R
  obtain ⟨vs, e1, e2, e3, q⟩ := r.ok i _ h
  have hp : x ∈ fps i := by rw [e2]; simp
  obtain ⟨o1, o2, o3⟩ := r.out i x hp
  refine ⟨⟨o1, o2⟩, vs, e1, e3, q, fun vs' fs' q' => ⟨_, r.put (fp' := [x]) (Same.refl _) (fun b u e => ?_) (fun b u e => ?_) (fun b u e hb => ?_) (fun _ e _ _ => e) rfl (fun _ _ => rfl) (fun _ => ⟨vs', e1, rfl, upd_same, q'⟩) (by simp) (fun b hb => ?_)⟩⟩
  · rw [upd_ne (by rintro rfl; rw [o1] at e; cases e)]; exact r.fh b u e
  · rw [upd_ne (by rintro rfl; rw [o2] at e; cases e)]; exact r.nh b u e
  · rw [upd_ne (by rintro rfl; exact hb hp)]; exact e
  · have e : b = x := by simpa using hb
    subst e
    exact ⟨.inl hp, o1, o2, by rw [upd_same]; intro z; cases z⟩
theorem vs_fldSet (i : Nat) {x c f : Str} {te : CE} {p1 apos : Pos} (hc : Cls X.K (He.ga X.K c)) (hn : NoAttr X.K (He.ga X.K c) f) (he : VE X e te) (hN : X.N[i]? = some x := by rfl) (hv : Vis X.env.scope x := by first | exact Or.inl rfl | exact Or.inr (Or.inl rfl) | exact Or.inr (Or.inr rfl)) (hd : (x == ("__debug__" : Str)) = false := by decide) (hcd : (x == ("__classdict__" : Str)) = false := by decide)
    (hs : swapsWith e (some (.Attribute (.Name x p1) f apos)) pos.line X.env = pure false := by rfl) : VS X (.Assign [.Attribute (.Name x p1) f apos] e pos) (cFldSet i c f te) :=
  PS.imp (ps_fld (pe_var hN hv hd hcd) he hs) fun D' σ H ⟨N, F, ρ, C, R, q, l⟩ => ⟨N, F, ρ, _, R, q, fun v F1 H1 d ρ1 R1 M1 r q1 => by
    split at q1
    · rename_i x dx c' fs h1
      obtain ⟨rfl, q2, q3⟩ := q1
      obtain ⟨_, vs, e1, e3, rf, up⟩ := R1.oi h1
      exact ⟨_, e1, x, _, dx, vs, rfl, e3, hc, hn, by rw [rf.length]; exact q2, l.nx σ F1 _ _ (up _ _ (rf.put r)) M1 q3⟩
    · exact q1.elim⟩
end
/-- __init__'s clean promise: R tells the fields -/
abbrev CI0 := List D → (List (Str × D) → Prop) → Prop
def spI (K : PySem.W.Frag) (c : Str) (R : CI0) : Sp := fun vs H Q E => ∃ x dx vs' F ds QF, vs = .ref x :: vs' ∧ H x = some (.ins (He.ga K c) dx []) ∧ Same F H ∧ F x = none ∧ RvA K F vs' ds ∧ R ds QF ∧
  ∀ F' H' fs vs2, (∀ b o, b ≠ x → H b = some o → H' b = some o) → Same F F' → Same F' H' → (∀ b, F b = none → H b ≠ none → F' b = none) → H' x = some (.ins (He.ga K c) dx vs2) → RvF K F' vs2 fs → QF fs → Q .non H'
/-- the class c of the module is made so -/
structure Id (P : Program) (w : World) (K : PySem.W.Frag) (mg : Str → Option Value) (base : Heap) (k : Nat) (c : Str) (ps : List Str) (R : CI0) : Prop where
  ex : ∃ f fd, FnOk P w K mg base CX0 k f fd ps (spI K c R) ∧ mg c = some (.ref (He.ga K c)) ∧ Mk K (He.ga K c) f ∧ Binds K fd ps []
section
variable {X : Cx} {e : Expr} {es : List Expr} {pos : Pos}
def cMake (c : Str) (R : CI0) (t : CAE) : CE := fun ρ Q => t ρ fun ds ρ1 => R ds fun fs => Q (.ins c fs) ρ1
theorem ve_make {k : Nat} {c : Str} {ps : List Str} {R : CI0} {t : CAE} {p : Pos} (G : Id X.prog X.w X.K X.mg X.base k c ps R) (hr : Room (k + 1) X.A) (ha : VAE X (e :: es) t) (hg : Gl X c := by rfl) (hdb : (c == ("__debug__" : Str)) = false := by decide)
    (he : starEach (e :: es) X.env = (false, eval e X.env) :: starEach es X.env := by rfl) (hpl : (backTo pos (starEach es X.env)).any (·.1) = false := by rfl) : VE X (.Call (.Name c p) (e :: es) [] pos) (cMake c R t) := by
  obtain ⟨f, fd, G1, G2, G3, G4⟩ := G.ex
  refine PE.imp (pe_make G3 G1 hr hg G2 G4 .nil pass0 ha hdb he hpl) fun σ H QV ⟨N, F, ρ, Q, R', q, k⟩ => ⟨N, F, ρ, _, R', q, fun vs F1 H1 ds ρ1 R1 M1 r q1 => fun x dx nx nd ne => ?_⟩
  have hx : upd (upd H1 dx (.own x)) x (.ins (He.ga X.K c) dx []) x = some (.ins (He.ga X.K c) dx []) := upd_same
  have s1 : Same H1 (upd (upd H1 dx (.own x)) x (.ins (He.ga X.K c) dx [])) := (same_upd nd).trans (same_upd (by rw [upd_ne ne.symm]; exact nx))
  have fx : F1 x = none := none_of R1.fh nx
  refine ⟨x, dx, vs ++ [], F1, ds, _, rfl, hx, R1.fh.trans s1, fx, by rw [List.append_nil]; exact r, q1, fun F2 H2 fs vs2 keep ff fh nw hx2 rf qf => ⟨rfl, ?_⟩⟩
  have keep1 : Same H1 H2 := fun b o e => keep b o (by rintro rfl; rw [nx] at e; cases e) (s1 b o e)
  have f2x : F2 x = none := nw x fx (by rw [hx]; intro z; cases z)
  have E : Ex F1 H1 (upd F2 x (.ins (He.ga X.K c) dx vs2)) H2 := by
    refine ⟨ff.trans (same_upd f2x), keep1, fun b o e => ?_, fun b e n => ?_⟩
    · by_cases hb : b = x
      · subst hb; rw [upd_same] at e; cases e; exact hx2
      · rw [upd_ne hb] at e; exact fh b o e
    · rw [upd_ne (by rintro rfl; exact n nx)]
      refine nw b e ?_
      cases z : H1 b with
      | none => exact absurd z n
      | some u => exact some_ne (s1 b u z)
  exact k _ _ _ _ ρ1 (R1.exd E) (M1.trans (E.mo R1.nh)) (.ins upd_same (rf.up (same_upd f2x))) qf
end
theorem rs_startI {K : PySem.W.Frag} {F H : Hp} {N : List Str} {vs : List V} {ds : List D} {x dx : Addr} {c : Str} (s : Same F H) (hx : H x = some (.ins (He.ga K c) dx [])) (fx : F x = none) (r : RvA K F vs ds) :
    Rs K (del H x) F H (L2.start N (.ref x :: vs)) (Sl.oi x dx c [] :: (ds.map Sl.fz ++ List.replicate (N.length - (ds.length + 1)) .un)) := by
  refine ⟨fun i => if i = 0 then [x] else [], s, fun b o e => ?_, ?_, fun i sl hs => ?_, fun i => ?_, fun i j p hi hj => ?_, fun i p hp => ?_⟩
  · by_cases hb : b = x
    · subst hb; rw [del_same] at e; cases e
    · rw [del_ne hb] at e; exact e
  · unfold L2.start
    simp only [List.length_append, List.length_map, List.length_replicate, r.length, List.length_cons]
    omega
  · cases i with
    | zero =>
      simp at hs
      subst hs
      rw [if_pos rfl]
      exact ⟨[], by unfold L2.start; simp, rfl, hx, .nil⟩
    | succ i =>
      rw [if_neg (by omega)]
      rw [List.getElem?_cons_succ] at hs
      by_cases hi : i < ds.length
      · rw [List.getElem?_append_left (by simpa using hi), List.getElem?_map] at hs
        cases e : ds[i]? with
        | none => rw [e] at hs; cases hs
        | some d =>
          rw [e] at hs
          cases hs
          obtain ⟨v, hv, rv⟩ := r.get e
          refine ⟨rfl, v, ?_, rv⟩
          unfold L2.start
          have : i < vs.length := by rw [r.length]; exact hi
          rw [List.getElem?_append_left (by simp; omega), List.getElem?_map, List.getElem?_cons_succ, hv]
          rfl
      · rw [List.getElem?_append_right (by simpa using hi), List.getElem?_replicate] at hs
        split at hs
        · cases hs; rfl
        · cases hs
  · show (if i = 0 then [x] else []).Nodup
    split <;> simp
  · by_cases h1 : i = 0
    · by_cases h2 : j = 0
      · omega
      · rw [if_neg h2] at hj; cases hj
    · rw [if_neg h1] at hi; cases hi
  · by_cases h1 : i = 0
    · rw [if_pos h1] at hp
      have e : p = x := by simpa using hp
      subst e
      exact ⟨fx, del_same, some_ne hx⟩
    · rw [if_neg h1] at hp; cases hp
theorem id_mk {P : Program} {w : World} {K : PySem.W.Frag} {mg : Str → Option Value} {base : Heap} {k : Nat} {c qual : Str} {params : Arguments} {body : List Stmt} {scope : Scope} {f : Addr} {fd : FuncData} {N ps : List Str} {R : CI0} (F : FunD K "__init__" qual params body scope [] [] f fd) (gl : mg c = some (.ref (He.ga K c))) (M : Mk K (He.ga K c) f)
    (S : FnScope N ps scope) (hb : ∀ (kV doc pm : Value) (an : Option Addr) (cdv ct : Value) (us : List Value), us.length = ps.length → bindArgs (PySem.W.fnOf "__init__" qual params body scope .none kV doc pm an cdv ct) ⟨us, []⟩ = pure (ps.zip us)) (len : ∀ ds Q, R ds Q → ds.length + 1 = ps.length)
    (go : ∀ (cdv : Value) (A : Around) (outer : List Env) (s : Shared) (H : Hp) (E : XK), Room k (A.deeper (envOfC qual scope s.heap.objs.size f cdv)) → ∃ t, VSs (cxN P w K mg base N qual scope f cdv A outer s H E) body t ∧ ∀ x dx ds Q, R ds Q → t { nx := fun ρ => ∃ fs, ρ[0]? = some (.oi x dx c fs) ∧ Q fs, rt := fun d ρ => d = .non ∧ ∃ fs, ρ[0]? = some (.oi x dx c fs) ∧ Q fs } (Sl.oi x dx c [] :: (ds.map Sl.fz ++ List.replicate (N.length - (ds.length + 1)) .un))) :
    Id P w K mg base (k + 1) c ps R := by
  refine ⟨f, fd, F.ok S (fun vs H Q E h => ?_) (fun cdv A outer s H vs Q E hr h => ?_), gl, M, F.bindsN hb⟩
  · obtain ⟨x, dx, vs', F', ds, QF, rfl, _, _, _, r, q, _⟩ := h
    rw [List.length_cons, r.length]
    exact len ds QF q
  · obtain ⟨x, dx, vs', F', ds, QF, rfl, hx, sf, fx, r, q, kk⟩ := h
    obtain ⟨t, ht, hq⟩ := go cdv A outer s H E hr
    refine ⟨_, PSs.nox ht, del H x, F', _, _, rs_startI sf hx fx r, hq x dx ds QF q, ?_⟩
    have fin : ∀ {σ' : L2.St} {F2 H2 : Hp} {ρ' : Ev} {fs : List (Str × D)}, Rs K (del H x) F2 H2 σ' ρ' → Mo (del H x) F' F2 → ρ'[0]? = some (.oi x dx c fs) → QF fs → Q .non H2 := fun {σ' F2 H2 ρ' fs} R2 M2 h0 qf => by
      obtain ⟨⟨f2, _⟩, vs2, e1, e3, rf, _⟩ := R2.oi h0
      refine kk F2 H2 fs vs2 (fun b o hb e => R2.nh b o (by rw [del_ne hb]; exact e)) M2.ff R2.fh (fun b e n => ?_) e3 rf qf
      by_cases hb : b = x
      · subst hb; exact f2
      · exact M2.nw b (by rw [del_ne hb]; exact n) e
    refine ⟨fun σ' F2 H2 ρ' R2 M2 ⟨fs, h0, qf⟩ => fin R2 M2 h0 qf, fun v σ' F2 H2 d ρ' R2 M2 rv ⟨ed, fs, h0, qf⟩ => ?_, fun _ _ _ _ _ _ z => z.elim, fun _ _ _ _ _ _ z => z.elim⟩
    subst ed
    cases rv
    exact fin R2 M2 h0 qf
/-! ### a def that changes its first argument -/
/-- P of just this value -/
def pin (P : OwnP) (v : V) : OwnP where
  p := fun K F H u fp => u = v ∧ P.p K F H u fp
  loc := fun K F F' H H' u fp h s k => ⟨h.1, P.loc K F F' H H' u fp h.2 s k⟩
  trk := fun K F H u fp h => P.trk K F H u fp h.2
def spB (K : PySem.W.Frag) (P : OwnP) (R : CF) : Sp := fun vs H Q E => ∃ v0 vs' F fp ds QD, vs = v0 :: vs' ∧ P.p K F H v0 fp ∧ fp.Nodup ∧ Same F H ∧ (∀ b ∈ fp, F b = none) ∧ RvA K F vs' ds ∧ R ds QD ∧
  ∀ v F' H' fp' d, (∀ b o, b ∉ fp → H b = some o → H' b = some o) → Same F F' → Same F' H' → (∀ b, b ∉ fp → F b = none → H b ≠ none → F' b = none) → P.p K F' H' v0 fp' → fp'.Nodup → (∀ b ∈ fp', (b ∈ fp ∨ H b = none) ∧ F' b = none) → Rv K F' v d → QD d → Q v H'
def hide (H : Hp) (fp : List Addr) : Hp := fun b => if b ∈ fp then none else H b
theorem hide_in {H : Hp} {fp : List Addr} {b : Addr} (h : b ∈ fp) : hide H fp b = none := by unfold hide; rw [if_pos h]
theorem hide_out {H : Hp} {fp : List Addr} {b : Addr} (h : b ∉ fp) : hide H fp b = H b := by unfold hide; rw [if_neg h]
def envB (P : OwnP) (N : List Str) (ds : List D) : Ev := Sl.ob P :: (ds.map Sl.fz ++ List.replicate (N.length - (ds.length + 1)) .un)
theorem rs_startB {K : PySem.W.Frag} {F H : Hp} {N : List Str} {vs : List V} {ds : List D} {v0 : V} {P : OwnP} {fp : List Addr} (s : Same F H) (hp : P.p K F H v0 fp) (nd : fp.Nodup) (ff : ∀ b ∈ fp, F b = none) (r : RvA K F vs ds) :
    Rs K (hide H fp) F H (L2.start N (v0 :: vs)) (envB (pin P v0) N ds) := by
  refine ⟨fun i => if i = 0 then fp else [], s, fun b o e => ?_, ?_, fun i sl hs => ?_, fun i => ?_, fun i j p hi hj => ?_, fun i p hp' => ?_⟩
  · by_cases hb : b ∈ fp
    · rw [hide_in hb] at e; cases e
    · rw [hide_out hb] at e; exact e
  · unfold L2.start envB
    simp only [List.length_append, List.length_map, List.length_replicate, r.length, List.length_cons]
    omega
  · cases i with
    | zero =>
      simp [envB] at hs
      subst hs
      rw [if_pos rfl]
      exact ⟨v0, by unfold L2.start; simp, rfl, hp⟩
    | succ i =>
      rw [if_neg (by omega)]
      unfold envB at hs
      rw [List.getElem?_cons_succ] at hs
      by_cases hi : i < ds.length
      · rw [List.getElem?_append_left (by simpa using hi), List.getElem?_map] at hs
        cases e : ds[i]? with
        | none => rw [e] at hs; cases hs
        | some d =>
          rw [e] at hs
          cases hs
          obtain ⟨v, hv, rv⟩ := r.get e
          refine ⟨rfl, v, ?_, rv⟩
          unfold L2.start
          have : i < vs.length := by rw [r.length]; exact hi
          rw [List.getElem?_append_left (by simp; omega), List.getElem?_map, List.getElem?_cons_succ, hv]
          rfl
      · rw [List.getElem?_append_right (by simpa using hi), List.getElem?_replicate] at hs
        split at hs
        · cases hs; rfl
        · cases hs
  · show (if i = 0 then fp else []).Nodup
    split
    · exact nd
    · exact List.nodup_nil
  · by_cases h1 : i = 0
    · by_cases h2 : j = 0
      · omega
      · rw [if_neg h2] at hj; cases hj
    · rw [if_neg h1] at hi; cases hi
  · by_cases h1 : i = 0
    · rw [if_pos h1] at hp'
      exact ⟨ff p hp', hide_in hp', P.trk K F H v0 fp hp p hp'⟩
    · rw [if_neg h1] at hp'; cases hp'
theorem fdB_mk {P : Program} {w : World} {K : PySem.W.Frag} {mg : Str → Option Value} {base : Heap} {k : Nat} {x : Str} {params : Arguments} {body : List Stmt} {scope : Scope} {f : Addr} {fd : FuncData} {N ps : List Str} {O : OwnP} {R : CF} (F : FunD K x x params body scope [] [] f fd) (gl : mg x = some (.ref f))
    (S : FnScope N ps scope) (hb : ∀ (kV doc pm : Value) (an : Option Addr) (cdv ct : Value) (us : List Value), us.length = ps.length → bindArgs (PySem.W.fnOf x x params body scope .none kV doc pm an cdv ct) ⟨us, []⟩ = pure (ps.zip us)) (len : ∀ ds Q, R ds Q → ds.length + 1 = ps.length)
    (go : ∀ (cdv : Value) (A : Around) (outer : List Env) (s : Shared) (H : Hp) (E : XK), Room k (A.deeper (envOfC x scope s.heap.objs.size f cdv)) → ∃ t, VSs (cxN P w K mg base N x scope f cdv A outer s H E) body t ∧ ∀ v0 ds Q, R ds Q → t { nx := fun ρ => ρ[0]? = some (.ob (pin O v0)) ∧ Q .non, rt := fun d ρ => ρ[0]? = some (.ob (pin O v0)) ∧ Q d } (envB (pin O v0) N ds)) :
    Fd P w K mg base (k + 1) x ps (spB K O R) := by
  refine ⟨f, fd, F.ok S (fun vs H Q E h => ?_) (fun cdv A outer s H vs Q E hr h => ?_), gl, F.kp, F.bindsN hb⟩
  · obtain ⟨v0, vs', F', fp, ds, QD, rfl, _, _, _, _, r, q, _⟩ := h
    rw [List.length_cons, r.length]
    exact len ds QD q
  · obtain ⟨v0, vs', F', fp, ds, QD, rfl, hp, nd, sf, ff, r, q, kk⟩ := h
    obtain ⟨t, ht, hq⟩ := go cdv A outer s H E hr
    refine ⟨_, PSs.nox ht, hide H fp, F', _, _, rs_startB sf hp nd ff r, hq v0 ds QD q, ?_⟩
    have fin : ∀ {v : V} {d : D} {σ' : L2.St} {F2 H2 : Hp} {ρ' : Ev}, Rs K (hide H fp) F2 H2 σ' ρ' → Mo (hide H fp) F' F2 → Rv K F2 v d → ρ'[0]? = some (.ob (pin O v0)) → QD d → Q v H2 := fun {v d σ' F2 H2 ρ'} R2 M2 rv h0 qd => by
      obtain ⟨fps, r2⟩ := R2
      obtain ⟨u, _, rfl, hu⟩ := r2.ok 0 _ h0
      refine kk v F2 H2 (fps 0) d (fun b o hb e => r2.nh b o (by rw [hide_out hb]; exact e)) M2.ff r2.fh (fun b hb e n => M2.nw b (by rw [hide_out hb]; exact n) e) hu (r2.nd 0) (fun b hb => ?_) rv qd
      · obtain ⟨z1, z2, z3⟩ := r2.out 0 b hb
        refine ⟨?_, z1⟩
        by_cases hb2 : b ∈ fp
        · exact .inl hb2
        · rw [hide_out hb2] at z2; exact .inr z2
    exact ⟨fun σ' F2 H2 ρ' R2 M2 q2 => fin R2 M2 .non q2.1 q2.2, fun v σ' F2 H2 d ρ' R2 M2 rv q2 => fin R2 M2 rv q2.1 q2.2, fun _ _ _ _ _ _ z => z.elim, fun _ _ _ _ _ _ z => z.elim⟩
/-- f(x, ..), x a slot that owns such a thing -/
def cCallB (i : Nat) (P : OwnP) (R : CF) (t : CAE) : CE := fun ρ Q => (∃ v0, ρ[i]? = some (.ob (pin P v0))) ∧ t ρ fun ds ρ1 => (∃ v0, ρ1[i]? = some (.ob (pin P v0))) ∧ R ds fun d => Q d ρ1
section
variable {X : Cx} {es : List Expr} {pos : Pos}
theorem ve_callB (i : Nat) {k : Nat} {x y : Str} {ps : List Str} {P : OwnP} {R : CF} {t : CAE} {p p1 : Pos} (G : Fd X.prog X.w X.K X.mg X.base k x ps (spB X.K P R)) (hr : Room k X.A) (ha : VAE X es t) (hg : Gl X x := by rfl) (hdb : (x == ("__debug__" : Str)) = false := by decide)
    (hN : X.N[i]? = some y := by rfl) (hv : Vis X.env.scope y := by first | exact Or.inl rfl | exact Or.inr (Or.inl rfl) | exact Or.inr (Or.inr rfl)) (hd : (y == ("__debug__" : Str)) = false := by decide) (hcd : (y == ("__classdict__" : Str)) = false := by decide)
    (he : starEach (.Name y p1 :: es) X.env = (false, eval (.Name y p1) X.env) :: starEach es X.env := by rfl) (hpl : (backTo pos (starEach es X.env)).any (·.1) = false := by rfl) : VE X (.Call (.Name x p) (.Name y p1 :: es) [] pos) (cCallB i P R t) := by
  obtain ⟨f, fd, G1, G2, G3, G4⟩ := G.ex
  refine PE.imp (pe_call G1 hr hg G2 G3 G4 .nil pass0 (pa_cons (pe_var hN hv hd hcd) ha he) hdb he hpl) fun σ H QV ⟨N, F, ρ, Q, R', ⟨⟨v0, h0⟩, q⟩, k⟩ => ?_
  obtain ⟨w0, hw0⟩ := R'.known (i := i) (by rw [h0]; rfl)
  refine ⟨w0, hw0, N, F, ρ, _, R', q, fun vs F1 H1 ds ρ1 R1 M1 r ⟨⟨v1, h1⟩, q1⟩ => ?_⟩
  obtain ⟨fps, r1⟩ := R1
  obtain ⟨u, hu, eu, hp⟩ := r1.ok i _ h1
  have e0 : u = w0 := by rw [hw0] at hu; cases hu; rfl
  subst e0 eu
  refine ⟨u, vs ++ [], F1, fps i, ds, _, rfl, hp, r1.nd i, r1.fh, fun b hb => (r1.out i b hb).1, by rw [List.append_nil]; exact r, q1, fun v F2 H2 fp' d keep ff fh nw hp' nd' new rv qd => ?_⟩
  have R2 : Rs X.K N F2 H2 σ (ρ1.set i (.ob (pin P u))) := by
    refine ⟨_, r1.put (fp' := fp') ff fh (fun b o e => ?_) (fun b o e hb => keep b o hb e) (fun b e n hb => nw b hb e n) rfl (fun _ _ => rfl) (fun _ => ⟨u, hw0, rfl, hp'⟩) nd' (fun b hb => ?_)⟩
    · refine keep b o (fun z => ?_) (r1.nh b o e)
      have q := (r1.out i b z).2.1
      rw [q] at e; cases e
    · refine ⟨(new b hb).1, (new b hb).2, ?_, P.trk _ _ _ _ _ hp' b hb⟩
      rcases (new b hb).1 with z | z
      · exact (r1.out i b z).2.1
      · exact none_of r1.nh z
  have es : ρ1.set i (.ob (pin P u)) = ρ1 := by
    apply List.ext_getElem?
    intro j
    by_cases hj : i = j
    · subst hj
      have hlt : i < ρ1.length := by
        by_cases z : i < ρ1.length
        · exact z
        · rw [List.getElem?_eq_none (by omega)] at h1; cases h1
      rw [List.getElem?_set_self hlt, h1]
    · rw [List.getElem?_set_ne hj]
  rw [es] at R2
  refine k v F2 H2 d ρ1 R2 (M1.trans ⟨ff, fun b hb e => nw b (fun z => hb (r1.out i b z).2.1) e ?_⟩) rv qd
  cases z : N b with
  | none => exact absurd z hb
  | some o => exact some_ne (r1.nh b o z)
end
end CL
/-! CL 14: more rules; the thing that a law draws from. -/
namespace CL
open PySem PySem.Spec PySem.Calls PyProof.Rows L2
section
variable {X : Cx} {e : Expr} {pos : Pos}
/-- never reached -/
def cNevE : CE := fun _ _ => False
theorem ve_never : VE X e cNevE := ⟨fun _ _ _ _ _ _ ⟨_, _, _, _, _, q, _⟩ => q.elim⟩
theorem vn_never : VN X e cNevE := ⟨fun _ _ _ _ _ _ ⟨_, _, _, _, _, q, _⟩ => q.elim⟩
/-! ### d.get(k) -/
def cDGet1 : C2 := fun x y Q => match x with
  | .dic t kvs => okKey t y = true ∧ Q ((dGet kvs y).getD .non)
  | _ => False
theorem isD_of {K : PySem.W.Frag} {F H : Hp} {a : Addr} {o : HO} {t : Bool} {kvs : List (D × D)} (h : H a = some o) (r : DicO K F o t kvs) : IsD H a := by
  cases t with
  | false => obtain ⟨ks, rfl, _⟩ := r; exact .inl ⟨_, .inl h⟩
  | true => obtain ⟨ks, rfl, _⟩ := r; exact .inr ⟨_, .inl h⟩
/-- x.get(e), x a slot that holds a dict -/
def cGet1 (i : Nat) (te : CO) : CE := fun ρ Q => (∃ t kvs, slD ρ[i]? = some (.dic t kvs)) ∧ te ρ fun y ρ1 => match slD ρ1[i]?, res ρ1 y with
  | some (.dic t kvs), some k => okKey t k = true ∧ Q ((dGet kvs k).getD .non) ρ1
  | _, _ => False
theorem sl_w {K : PySem.W.Frag} {N F H : Hp} {σ : L2.St} {ρ : Ev} {i : Nat} {v : V} {d : D} (R : Rs K N F H σ ρ) (hv : σ[i]? = some (some v)) (e : slD ρ[i]? = some d) : RvW K F H v d := OpdOk.w (o := .s i) R hv e
theorem known_of {s : Option Sl} {d : D} (h : slD s = some d) : known s = true := by
  cases s with
  | none => cases h
  | some s => cases s <;> first | rfl | cases h
theorem ve_get1 (i : Nat) {x : Str} {te : CO} {p1 apos cpos : Pos} (hu : X.A.units + 1 < cLine) (he : VO X e te) (m : M1 X (.Name x p1) "get" apos e cpos := by exact ⟨rfl, rfl, rfl, rfl⟩) (hN : X.N[i]? = some x := by rfl) (hv : Vis X.env.scope x := by first | exact Or.inl rfl | exact Or.inr (Or.inl rfl) | exact Or.inr (Or.inr rfl)) (hd : (x == ("__debug__" : Str)) = false := by decide) (hcd : (x == ("__classdict__" : Str)) = false := by decide) :
    VE X (.Call (.Attribute (.Name x p1) "get" apos) [e] [] cpos) (cGet1 i te) :=
  PE.imp (pe_dget1 hu (pe_var hN hv hd hcd) he m) fun σ H QV ⟨N, F, ρ, Q, R, ⟨⟨t0, kvs0, h0⟩, q⟩, k⟩ => by
    obtain ⟨w, hw⟩ := R.known (known_of h0)
    obtain ⟨a, o, rfl, ha, r⟩ := (sl_w R hw h0).dicE R.fh
    refine ⟨_, hw, a, rfl, isD_of ha r, N, F, ρ, _, R, q, fun v F1 H1 y ρ1 R1 M1 oy q1 => ?_⟩
    split at q1
    · rename_i t kvs κ h1 h2
      obtain ⟨a1, o1, e1, ha1, r1⟩ := (sl_w R1 hw h1).dicE R1.fh
      cases e1
      obtain ⟨ov, g, ro⟩ := okKey_get R1.fh ha1 r1 (oy.w R1 h2) q1.1
      refine ⟨ov, g, k _ F1 H1 _ ρ1 R1 M1 ?_ q1.2⟩
      generalize dGet kvs κ = z at ro
      cases ro with
      | none => exact .non
      | some ro => exact ro
    · exact q1.elim
/-! ### {k: v} -/
theorem upd_del2 {H : Hp} {p : Addr} {o : HO} : upd (del H p) p o = upd H p o := by
  funext b
  by_cases hb : b = p
  · subst hb; rw [upd_same, upd_same]
  · rw [upd_ne hb, upd_ne hb, del_ne hb]
theorem Mo.unguard {N F F' : Hp} {p : Addr} {o : HO} (M : Mo (upd N p o) F F') : Mo N F F' := ⟨M.ff, fun b hb e => M.nw b (by
  by_cases h : b = p
  · subst h; rw [upd_same]; intro z; cases z
  · rw [upd_ne h]; exact hb) e⟩
def cDic1K (tk tv : CE) : CE := fun ρ Q => tk ρ fun k ρ1 => tv ρ1 fun d ρ2 => okKey false k = true ∧ Q (.dic false [(k, d)]) ρ2
theorem vn_dic1K {ek ev : Expr} {tk tv : CE} (hk : VE X ek tk) (hv : VE X ev tv) : VN X (.Dict [some ek] [ev] pos) (cDic1K tk tv) :=
  PE.imp (pe_disp (pps_cons hk hv pps_nil) rfl rfl (by intro z; cases z) (Nat.le_of_ble_eq_true rfl)) fun σ H QV ⟨N, F, ρ, Q, R, q, k⟩ p np => by
    have nN := none_of R.nh np
    refine ⟨_, F, ρ, _, R.guard np, q, fun y F1 H1 kd ρ1 R1 M1 ry q1 => ⟨_, F1, ρ1, _, R1, q1, fun v F2 H2 d ρ2 R2 M2 rv ⟨ok, q2⟩ => ?_⟩⟩
    have M := M1.trans M2
    have fp : F2 p = none := M.nw p (by rw [upd_same]; intro z; cases z) (none_of R.fh np)
    obtain ⟨κ, e⟩ := Option.isSome_iff_exists.mp ok
    have ek := fKey_of e
    subst ek
    have ey : y = kV κ := rv_kD ry
    subst ey
    refine ⟨R2.nh p _ upd_same, [(κ, v)], rfl, Nat.le_of_ble_eq_true rfl, ?_⟩
    rw [← upd_del2]
    exact k p _ F2 (del H2 p) (.dic false [(kD κ, d)]) ρ2 (R2.unguard nN fp) M.unguard del_same ⟨[(κ, v)], rfl, .cons rv .nil⟩ q2
/-! ### x[i] = e, x a pinned list -/
theorem Rs.op {K : PySem.W.Frag} {N F H : Hp} {σ : L2.St} {ρ : Ev} {i : Nat} {p : Addr} {ds : List D} (R : Rs K N F H σ ρ) (h : ρ[i]? = some (.op p ds)) :
    ∃ vs, σ[i]? = some (some (.ref p)) ∧ H p = some (.lst vs) ∧ RvA K F vs ds ∧ ∀ vs' ds', RvA K F vs' ds' → Rs K N F (upd H p (.lst vs')) σ (ρ.set i (.op p ds')) := by
  obtain ⟨fps, r⟩ := R
  obtain ⟨vs, e1, e2, e3, q⟩ := r.ok i _ h
  have hp : p ∈ fps i := by rw [e2]; simp
  obtain ⟨o1, o2, o3⟩ := r.out i p hp
  refine ⟨vs, e1, e3, q, fun vs' ds' q' => ⟨_, r.put (fp' := [p]) (Same.refl _) (fun b u e => ?_) (fun b u e => ?_) (fun b u e hb => ?_) (fun _ e _ _ => e) rfl (fun _ _ => rfl) (fun _ => ⟨vs', e1, rfl, upd_same, q'⟩) (by simp) (fun b hb => ?_)⟩⟩
  · rw [upd_ne (by rintro rfl; rw [o1] at e; cases e)]; exact r.fh b u e
  · rw [upd_ne (by rintro rfl; rw [o2] at e; cases e)]; exact r.nh b u e
  · rw [upd_ne (by rintro rfl; exact hb hp)]; exact e
  · have e : b = p := by simpa using hb
    subst e
    exact ⟨.inl hp, o1, o2, by rw [upd_same]; intro z; cases z⟩
def cSetIxP (i : Nat) (ti : CO) (te : CE) : CS := fun C ρ => te ρ fun d ρ1 => known ρ1[i]? = true ∧ ti ρ1 fun y ρ2 => match ρ2[i]?, res ρ2 y with
  | some (.op p ds), some (.int k) => (match ixN ds.length k with | some j => C.nx (ρ2.set i (.op p (ds.set j d))) | none => False)
  | _, _ => False
theorem vs_setIxP (i : Nat) {x : Str} {ix : Expr} {ti : CO} {te : CE} {p1 spos : Pos} (hi : VO X ix ti) (he : VE X e te) (hN : X.N[i]? = some x := by rfl) (hv : Vis X.env.scope x := by first | exact Or.inl rfl | exact Or.inr (Or.inl rfl) | exact Or.inr (Or.inr rfl)) (hd : (x == ("__debug__" : Str)) = false := by decide) (hcd : (x == ("__classdict__" : Str)) = false := by decide)
    (ha : ∀ v, assign (.Subscript (.Name x p1) ix spos) X.env v = (do
      let ov ← holding [v] (eval (.Name x p1) X.env)
      let iv ← holding [v, ov] (eval ix X.env)
      standAt spos
      holding [v, ov, iv] (setItem ov iv v)
      release [v, ov, iv] []) := by intro _; rfl)
    (hs : swapsWithSole [.Subscript (.Name x p1) ix spos] e pos.line X.env = pure false := by rfl) (hw : swappedStores [.Subscript (.Name x p1) ix spos] e X.env = pure none := by rfl) (h1 : (assignEach [.Subscript (.Name x p1) ix spos] X.env).map (·.2) = [assign (.Subscript (.Name x p1) ix spos) X.env] := by rfl) : VS X (.Assign [.Subscript (.Name x p1) ix spos] e pos) (cSetIxP i ti te) :=
  PS.imp (ps_asg he (pg_sub (pe_var hN hv hd hcd) hi set_list ha) hs hw h1) fun D' σ H ⟨N, F, ρ, C, R, q, l⟩ => ⟨N, F, ρ, _, R, q, fun v F1 H1 d ρ1 R1 M1 r ⟨q1, q2⟩ => by
    obtain ⟨w, hw⟩ := R1.known q1
    refine ⟨w, hw, N, F1, ρ1, _, R1, q2, fun u F2 H2 y ρ2 R2 M2 oy q3 => ?_⟩
    split at q3
    · rename_i p ds k h1 h2
      split at q3
      · rename_i j hj
        obtain ⟨vs, e1, e2, r4, up⟩ := R2.op h1
        rw [hw] at e1; cases e1
        exact ⟨p, vs, k, j, rfl, (oy.w R2 h2).intE, e2, by rw [r4.length]; exact hj, l.nx σ F2 _ _ (up _ _ (r4.set j (r.up M2.ff))) (M1.trans M2) q3⟩
      · exact q3.elim
    · exact q3.elim⟩
/-! ### the bag: a list of its own, what stands in it is for good and keeps V -/
def LstP (V : List D → Prop) : OwnP where
  p := fun K F H v fp => ∃ a vs ds, v = .ref a ∧ fp = [a] ∧ H a = some (.lst vs) ∧ RvA K F vs ds ∧ V ds
  loc := fun K F F' H H' v fp ⟨a, vs, ds, e1, e2, e3, r, q⟩ s k => ⟨a, vs, ds, e1, e2, k a (by rw [e2]; simp) _ e3, r.up s, q⟩
  trk := fun K F H v fp ⟨a, vs, ds, e1, e2, e3, r, q⟩ b hb => by subst e2; simp at hb; subst hb; exact some_ne e3
def envP (p : Addr) (bs : List D) (N : List Str) (ds : List D) : Ev := Sl.op p bs :: (ds.map Sl.fz ++ List.replicate (N.length - (ds.length + 1)) .un)
theorem Rs.toOp {K : PySem.W.Frag} {N F H : Hp} {σ : L2.St} {ρ : Ev} {V : List D → Prop} {v0 : L2.V} {i : Nat} (R : Rs K N F H σ ρ) (h : ρ[i]? = some (.ob (pin (LstP V) v0))) : ∃ a bs, v0 = .ref a ∧ V bs ∧ Rs K N F H σ (ρ.set i (.op a bs)) := by
  obtain ⟨fps, r⟩ := R
  obtain ⟨v, e1, e0, a, vs, ds, e2, e3, e4, q, hV⟩ := r.ok i _ h
  subst e0
  refine ⟨a, ds, e2, hV, _, r.put (fp' := fps i) (Same.refl _) r.fh r.nh (fun _ _ e _ => e) (fun _ e _ _ => e) rfl (fun _ _ => rfl) (fun _ => ⟨vs, by rw [e1, e2], e3, e4, q⟩) (r.nd i) (fun b hb => ⟨.inl hb, r.out i b hb⟩)⟩
theorem Rs.ofOp {K : PySem.W.Frag} {N F H : Hp} {σ : L2.St} {ρ : Ev} {V : List D → Prop} {a : Addr} {bs : List D} {i : Nat} (R : Rs K N F H σ ρ) (h : ρ[i]? = some (.op a bs)) (hV : V bs) : Rs K N F H σ (ρ.set i (.ob (pin (LstP V) (.ref a)))) := by
  obtain ⟨fps, r⟩ := R
  obtain ⟨vs, e1, e2, e3, q⟩ := r.ok i _ h
  exact ⟨_, r.put (fp' := fps i) (Same.refl _) r.fh r.nh (fun _ _ e _ => e) (fun _ e _ _ => e) rfl (fun _ _ => rfl) (fun _ => ⟨_, e1, rfl, a, vs, bs, rfl, e2, e3, q, hV⟩) (r.nd i) (fun b hb => ⟨.inl hb, r.out i b hb⟩)⟩
/-- ahead of a body, the bag opened; behind it closed -/
def cOpen (i : Nat) (V : List D → Prop) (t : CS) : CS := fun C ρ => (∃ v0, ρ[i]? = some (.ob (pin (LstP V) v0))) ∧ ∀ a bs, ρ[i]? = some (.ob (pin (LstP V) (.ref a))) → V bs →
  t { nx := fun ρ' => ∃ bs', ρ'[i]? = some (.op a bs') ∧ V bs' ∧ C.nx (ρ'.set i (.ob (pin (LstP V) (.ref a)))), rt := fun d ρ' => ∃ bs', ρ'[i]? = some (.op a bs') ∧ V bs' ∧ C.rt d (ρ'.set i (.ob (pin (LstP V) (.ref a)))) } (ρ.set i (.op a bs))
theorem vss_open {sts : List Stmt} {t : CS} (i : Nat) (V : List D → Prop) (h : VSs X sts t) : VSs X sts (cOpen i V t) := PSs.imp h fun D' σ H ⟨N, F, ρ, C, R, ⟨⟨v0, h0⟩, q⟩, l⟩ => by
  obtain ⟨a, bs, e, hV, R1⟩ := R.toOp h0
  subst e
  exact ⟨N, F, _, _, R1, q a bs h0 hV, fun σ' F' H' ρ' R' M ⟨bs', h1, hV', q'⟩ => l.nx σ' F' H' _ (R'.ofOp h1 hV') M q', fun v σ' F' H' d ρ' R' M r ⟨bs', h1, hV', q'⟩ => l.rt v σ' F' H' d _ (R'.ofOp h1 hV') M r q', fun _ _ _ _ _ _ z => z.elim, fun _ _ _ _ _ _ z => z.elim⟩
/-! ### the script -/
/-- a list of ints that nobody changes, of the frozen part or tracked -/
def Scr (ns : List Int) : OwnP where
  p := fun K F H v fp => ∃ a, v = .ref a ∧ ((fp = [a] ∧ Rd H a (.lst (ns.map V.int))) ∨ (fp = [] ∧ ∀ H' : Hp, SqL K H' a (ns.map V.int)))
  loc := fun K F F' H H' v fp ⟨a, e1, e2⟩ s k => by
    refine ⟨a, e1, ?_⟩
    rcases e2 with ⟨e3, e2 | ⟨o, e2⟩⟩ | e2
    · exact .inl ⟨e3, .inl (k a (by rw [e3]; simp) _ e2)⟩
    · exact .inl ⟨e3, .inr ⟨o, k a (by rw [e3]; simp) _ e2⟩⟩
    · exact .inr e2
  trk := fun K F H v fp ⟨a, e1, e2⟩ b hb => by
    rcases e2 with ⟨e3, e2⟩ | ⟨e3, e2⟩
    · subst e3; simp at hb; subst hb
      rcases e2 with e2 | ⟨o, e2⟩ <;> exact some_ne e2
    · subst e3; cases hb
theorem scr_sq {K : PySem.W.Frag} {N F H : Hp} {σ : L2.St} {ρ : Ev} {i : Nat} {ns : List Int} (R : Rs K N F H σ ρ) (h : ρ[i]? = some (.ob (Scr ns))) : ∃ a, σ[i]? = some (some (.ref a)) ∧ SqL K H a (ns.map V.int) := by
  obtain ⟨fps, r⟩ := R
  obtain ⟨v, e1, a, e2, e3⟩ := r.ok i _ h
  subst e2
  rcases e3 with ⟨_, e3⟩ | ⟨_, e3⟩
  · exact ⟨a, e1, .inl e3⟩
  · exact ⟨a, e1, e3 H⟩
def isScr (ns : List Int) (s : Option Sl) : Prop := s = some (.ob (Scr ns))
theorem cutV_map {ns : List Int} {hi : Option Int} : cutV (ns.map V.int) none hi = ((ns.take (HT.sIx ns.length ns.length hi)).map V.int) := by
  unfold cutV
  simp [HT.sIx, List.map_take]
theorem rva_int : ∀ {K : PySem.W.Frag} {F : Hp} (ns : List Int), RvA K F (ns.map V.int) (ns.map D.int)
  | _, _, [] => .nil
  | _, _, n :: ns => .cons (.int n) (rva_int ns)
/-- script[:n] -/
def cScSlice (i : Nat) (n : Nat) : CE := fun ρ Q => ∃ ns, isScr ns ρ[i]? ∧ Q (.lst ((ns.take n).map D.int)) ρ
theorem ve_scSlice (i : Nat) {x : Str} {n : Nat} {kd : Nat} {p1 p2 p3 : Pos} (hN : X.N[i]? = some x := by rfl) (hv : Vis X.env.scope x := by first | exact Or.inl rfl | exact Or.inr (Or.inl rfl) | exact Or.inr (Or.inr rfl)) (hd : (x == ("__debug__" : Str)) = false := by decide) (hcd : (x == ("__classdict__" : Str)) = false := by decide) :
    VE X (.Subscript (.Name x p1) (.Slice none (some (.Constant (.int (n : Int)) kd p2)) none p3) pos) (cScSlice i n) :=
  PE.imp (pe_slice sl_list (pe_var hN hv hd hcd) po_none (po_some (pe_int))) fun σ H QV ⟨N, F, ρ, Q, R, ⟨ns, h0, q⟩, k⟩ => by
    obtain ⟨a, hw, hs⟩ := scr_sq R h0
    refine ⟨_, hw, _, rfl, a, _, rfl, hs, fun p np => ?_⟩
    have e : cutV (ns.map V.int) none (some (n : Int)) = (ns.take n).map V.int := by
      rw [cutV_map, HT.sIx_nat]
      congr 1
      rw [← List.take_take, List.take_length]
    rw [e]
    have E : Ex F H (upd F p (.lst ((ns.take n).map V.int))) (upd H p (.lst ((ns.take n).map V.int))) := .new R.fh np
    exact k _ _ _ _ ρ (R.exd E) (E.mo R.nh) (.lst upd_same (rva_int _)) q
/-! ### a def that makes the bag of the script -/
def lR (K : PySem.W.Frag) (t : (D → Ev → Prop) → Ev → Prop) : TS := fun D' σ H => ∃ N F ρ Q, Rs K N F H σ ρ ∧ t Q ρ ∧ ∀ p o F' H' σ' d ρ', Rs K N F' H' σ' ρ' → Mo N F F' → H' p = none → OnO K F' o d → Q d ρ' → D'.rt (.ref p) (upd H' p o)
theorem pr_one {te : CE} (h : VN X e te) : PSs X [.Return (some e) pos] (lR X.K fun Q ρ => te ρ Q) := pss_one (PS.imp (ps_ret h) fun D' σ H ⟨N, F, ρ, Q, R, q, k⟩ => ⟨N, F, ρ, Q, R, q, fun p o F' H' d ρ' R' M np on q' => k p o F' H' σ d ρ' R' M np on q'⟩)
theorem pr_cons {st : Stmt} {rest : List Stmt} {t : CS} {u : (D → Ev → Prop) → Ev → Prop} (h : VS X st t) (h2 : PSs X rest (lR X.K u)) : PSs X (st :: rest) (lR X.K fun Q ρ => t { nx := u Q, rt := fun _ _ => False } ρ) :=
  PSs.imp (pss_cons h h2) fun D' σ H ⟨N, F, ρ, Q, R, q, k⟩ => ⟨N, F, ρ, _, R, q, ⟨fun σ' F' H' ρ' R' M q' => ⟨N, F', ρ', Q, R', q', fun p o F2 H2 σ2 d ρ2 R2 M2 np on q2 => k p o F2 H2 σ2 d ρ2 R2 (M.trans M2) np on q2⟩, fun _ _ _ _ _ _ _ _ _ z => z.elim, fun _ _ _ _ _ _ z => z.elim, fun _ _ _ _ _ _ z => z.elim⟩⟩
end
def spN (K : PySem.W.Frag) (B : List D → Prop) : Sp := fun vs H Q E => ∃ v0 fp ns F, vs = [v0] ∧ (Scr ns).p K F H v0 fp ∧ fp.Nodup ∧ Same F H ∧ (∀ b ∈ fp, F b = none) ∧ ns.length ≤ 63 ∧
  ∀ p F' H' us ds, (∀ b o, b ∉ fp → H b = some o → H' b = some o) → Same F F' → Same F' H' → (∀ b, b ∉ fp → F b = none → H b ≠ none → F' b = none) → H' p = none → RvA K F' us ds → B ds → Q (.ref p) (upd H' p (.lst us))
def envS (ns : List Int) (N : List Str) : Ev := Sl.ob (Scr ns) :: List.replicate (N.length - 1) .un
theorem fdN_mk {P : Program} {w : World} {K : PySem.W.Frag} {mg : Str → Option Value} {base : Heap} {k : Nat} {x y : Str} {params : Arguments} {body : List Stmt} {scope : Scope} {f : Addr} {fd : FuncData} {N : List Str} {B : List D → Prop} (F : FunD K x x params body scope [] [] f fd) (gl : mg x = some (.ref f))
    (S : FnScope N [y] scope) (hb : ∀ (kV doc pm : Value) (an : Option Addr) (cdv ct : Value) (us : List Value), us.length = [y].length → bindArgs (PySem.W.fnOf x x params body scope .none kV doc pm an cdv ct) ⟨us, []⟩ = pure ([y].zip us))
    (go : ∀ (cdv : Value) (A : Around) (outer : List Env) (s : Shared) (H : Hp) (E : XK), Room k (A.deeper (envOfC x scope s.heap.objs.size f cdv)) → ∃ t, PSs (cxN P w K mg base N x scope f cdv A outer s H E) body (lR K t) ∧ ∀ ns, ns.length ≤ 63 → t (fun d _ => ∃ ds, d = .lst ds ∧ B ds) (envS ns N)) :
    Fd P w K mg base (k + 1) x [y] (spN K B) := by
  refine ⟨f, fd, F.ok S (fun vs H Q E h => ?_) (fun cdv A outer s H vs Q E hr h => ?_), gl, F.kp, F.bindsN hb⟩
  · obtain ⟨v0, fp, ns, F', rfl, _⟩ := h
    rfl
  · obtain ⟨v0, fp, ns, F', rfl, hp, nd, sf, ff, hn, kk⟩ := h
    obtain ⟨t, ht, hq⟩ := go cdv A outer s H E hr
    have R0 := rs_startB (N := N) (P := Scr ns) sf hp nd ff (ds := []) (vs := []) .nil
    have R1 : Rs K (hide H fp) F' H (L2.start N [v0]) (envS ns N) := by
      obtain ⟨fps, r⟩ := R0
      refine ⟨fps, r.fh, r.nh, by simpa [envS, envB] using r.len, fun i s hs => ?_, r.nd, r.dj, r.out⟩
      cases i with
      | zero =>
        simp [envS] at hs
        subst hs
        obtain ⟨v, e1, e2, q⟩ := r.ok 0 _ (by rfl)
        exact ⟨v, e1, q⟩
      | succ i => exact r.ok (i + 1) s (by simpa [envS, envB] using hs)
    refine ⟨_, PSs.nox ht, hide H fp, F', _, _, R1, hq ns hn, fun p o F2 H2 σ' d ρ' R2 M2 np on ⟨ds, ed, hB⟩ => ?_⟩
    subst ed
    obtain ⟨us, rfl, ru⟩ := on
    exact kk p F2 H2 us ds (fun b o hb e => R2.nh b o (by rw [hide_out hb]; exact e)) M2.ff R2.fh (fun b hb e n => M2.nw b (by rw [hide_out hb]; exact n) e) np ru hB
section
variable {X : Cx}
/-- behind a statement, slot i made good -/
def cFzN (i : Nat) (t : CS) : CS := fun C ρ => t { C with nx := fun ρ' => C.nx (frz i ρ') } ρ
theorem vs_fzN {st : Stmt} {t : CS} (i : Nat) (h : VS X st t) : VS X st (cFzN i t) := PS.imp h fun D' σ H ⟨N, F, ρ, C, R, q, l⟩ =>
  ⟨N, F, ρ, _, R, q, fun σ' F' H' ρ' R' M q' => by
    obtain ⟨F2, R2, M2⟩ := R'.frz i
    exact l.nx σ' F2 H' _ R2 (M.trans M2) q', l.rt, l.bk, l.ct⟩
end
section
variable {X : Cx} {pos : Pos}
/-- y = hand(script) -/
def cHand (i j : Nat) (B : List D → Prop) : CS := fun C ρ => i ≠ j ∧ (∃ ns, ρ[i]? = some (.ob (Scr ns)) ∧ ns.length ≤ 63) ∧ ∀ p, C.nx ((ρ.set i .un).set j (.ob (pin (LstP B) (.ref p))))
theorem vs_hand (i j : Nat) {k : Nat} {x y z : Str} {ps : List Str} {B : List D → Prop} {p p1 cpos py : Pos} (G : Fd X.prog X.w X.K X.mg X.base k x ps (spN X.K B)) (hr : Room k X.A) (hN : X.N.Nodup) (hg : Gl X x := by rfl) (hdb : (x == ("__debug__" : Str)) = false := by decide)
    (hNi : X.N[i]? = some y := by rfl) (hv : Vis X.env.scope y := by first | exact Or.inl rfl | exact Or.inr (Or.inl rfl) | exact Or.inr (Or.inr rfl)) (hd : (y == ("__debug__" : Str)) = false := by decide) (hcd : (y == ("__classdict__" : Str)) = false := by decide)
    (he : starEach [.Name y p1] X.env = (false, eval (.Name y p1) X.env) :: starEach [] X.env := by rfl) (hpl : (backTo cpos (starEach [] X.env)).any (·.1) = false := by rfl)
    (hNj : X.N[j]? = some z := by rfl) (hx : Loc X.env.scope z := by first | exact Or.inl rfl | exact Or.inr rfl) (hs : swapsWith (.Call (.Name x p) [.Name y p1] [] cpos) (some (.Name z py)) pos.line X.env = pure false := by rfl) (hf : X.fn z = true ∨ X.env.scope.names.lookup z = some .local := by first | exact .inl rfl | exact .inr rfl | assumption) :
    VS X (.Assign [.Name z py] (.Call (.Name x p) [.Name y p1] [] cpos) pos) (cHand i j B) := by
  obtain ⟨f, fd, G1, G2, G3, G4⟩ := G.ex
  refine PS.imp (ps_set hN hNj hx (pe_call G1 hr hg G2 G3 G4 .nil pass0 (pa_cons (pe_var hNi hv hd hcd) pa_nil he) hdb he hpl) hs hf) fun D' σ H ⟨N, F, ρ, C, R, ⟨hij, ⟨ns, h0, hn⟩, q⟩, l⟩ => ?_
  obtain ⟨fps, r⟩ := R
  obtain ⟨v, hv, hp⟩ := r.ok i _ h0
  refine ⟨v, hv, v, fps i, ns, F, rfl, hp, r.nd i, r.fh, fun b hb => (r.out i b hb).1, hn, fun p F' H' us ds keep ff fh nw np ru hB => ?_⟩
  have R1 : RsF X.K N F' H' σ (ρ.set i .un) fun k => if k = i then [] else fps k := r.put (fp' := []) ff fh (fun b o e => keep b o (fun z => by rw [(r.out i b z).2.1] at e; cases e) (r.nh b o e)) (fun b o e hb => keep b o hb e) (fun b e n hb => nw b hb e n) rfl (fun _ _ => rfl) (fun _ => rfl) List.nodup_nil (fun _ z => by cases z)
  have nF := none_of fh np
  have nN := none_of R1.nh np
  have R2 : Rs X.K N F' (upd H' p (.lst us)) (σ.set j (some (.ref p))) ((ρ.set i .un).set j (.ob (pin (LstP B) (.ref p)))) := by
    refine ⟨_, R1.put (fp' := [p]) (Same.refl _) (fh.trans (same_upd np)) (R1.nh.trans (same_upd np)) (fun b u e _ => same_upd np b u e) (fun _ e _ _ => e) (by simp) set_ne (fun hi => ?_) (by simp) (fun b hb => ?_)⟩
    · rw [set_self hi]
      exact ⟨_, rfl, rfl, p, us, ds, rfl, rfl, upd_same, ru, hB⟩
    · have e : b = p := by simpa using hb
      subst e
      exact ⟨.inr np, nF, nN, by rw [upd_same]; intro z; cases z⟩
  refine l.nx _ F' _ _ R2 ⟨ff, fun b hb e => nw b (fun z => hb (r.out i b z).2.1) e ?_⟩ (q p)
  cases z : N b with
  | none => exact absurd z hb
  | some o => exact some_ne (r.nh b o z)
end
/-! ### the law -/
def spL (K : PySem.W.Frag) : Sp := fun vs H Q E => ∃ v0 fp ns F, vs = [v0] ∧ (Scr ns).p K F H v0 fp ∧ fp.Nodup ∧ Same F H ∧ (∀ b ∈ fp, F b = none) ∧ ns.length ≤ 63 ∧ ∀ H', Q (.bl true) H'
theorem fdL_mk {P : Program} {w : World} {K : PySem.W.Frag} {mg : Str → Option Value} {base : Heap} {k : Nat} {x y : Str} {params : Arguments} {body : List Stmt} {scope : Scope} {f : Addr} {fd : FuncData} {N : List Str} (F : FunD K x x params body scope [] [] f fd)
    (S : FnScope N [y] scope)
    (go : ∀ (cdv : Value) (A : Around) (outer : List Env) (s : Shared) (H : Hp) (E : XK), Room k (A.deeper (envOfC x scope s.heap.objs.size f cdv)) → ∃ t, VSs (cxN P w K mg base N x scope f cdv A outer s H E) body t ∧ ∀ ns, ns.length ≤ 63 → t { nx := fun _ => False, rt := fun d _ => d = .bl true } (envS ns N)) :
    FnOk P w K mg base CX0 (k + 1) f fd [y] (spL K) := by
  refine F.ok S (fun vs H Q E h => ?_) (fun cdv A outer s H vs Q E hr h => ?_)
  · obtain ⟨v0, fp, ns, F', rfl, _⟩ := h
    rfl
  · obtain ⟨v0, fp, ns, F', rfl, hp, nd, sf, ff, hn, kk⟩ := h
    obtain ⟨t, ht, hq⟩ := go cdv A outer s H E hr
    have R0 := rs_startB (N := N) (P := Scr ns) sf hp nd ff (ds := []) (vs := []) .nil
    have R1 : Rs K (hide H fp) F' H (L2.start N [v0]) (envS ns N) := by
      obtain ⟨fps, r⟩ := R0
      refine ⟨fps, r.fh, r.nh, by simpa [envS, envB] using r.len, fun i s hs => ?_, r.nd, r.dj, r.out⟩
      cases i with
      | zero =>
        simp [envS] at hs
        subst hs
        obtain ⟨v, e1, e2, q⟩ := r.ok 0 _ (by rfl)
        exact ⟨v, e1, q⟩
      | succ i => exact r.ok (i + 1) s (by simpa [envS, envB] using hs)
    refine ⟨_, PSs.nox ht, hide H fp, F', _, _, R1, hq ns hn, fun _ _ _ _ _ _ z => z.elim, fun v σ' F2 H2 d ρ' R2 M2 rv e => ?_, fun _ _ _ _ _ _ z => z.elim, fun _ _ _ _ _ _ z => z.elim⟩
    subst e
    cases rv
    exact kk H2
/-- the law's start -/
theorem spL_start {K : PySem.W.Frag} {H : Hp} {a : Addr} {ns : List Int} {Q : VK} {E : XK} (hn : ns.length ≤ 63) (hS : SqL K H a (ns.map V.int)) (h : ∀ H', Q (.bl true) H') : spL K [.ref a] H Q E := by
  rcases hS with hS | hS
  · exact ⟨_, [a], ns, fun _ => none, rfl, ⟨a, rfl, .inl ⟨rfl, hS⟩⟩, by simp, (fun _ _ e => by cases e), (fun _ _ => rfl), hn, h⟩
  · exact ⟨_, [], ns, fun _ => none, rfl, ⟨a, rfl, .inr ⟨rfl, fun _ => .inr hS⟩⟩, by simp, (fun _ _ e => by cases e), (fun _ _ => rfl), hn, h⟩
end CL
/-! CL 15: tools for clean readings: loops by invariants, numbers, pairs, sorting. -/
namespace CL
open PySem PySem.Spec PySem.Calls PyProof.Rows L2
section
variable {α σ : Type} {g : CG} {fg vs : List Nat} {body : CS} {C : CEnds} {tt : CT} {te : CE}
theorem for_any (enc : α → D) (env : σ → Ev) (I : List α → σ → Prop)
    (step : ∀ a rest s, I (a :: rest) s → ∀ X : Ev → Prop, (∀ s', I rest s' → X (env s')) → g (enc a) (env s) fun ρ' => body { C with nx := fun ρ2 => X (forget fg ρ2), ct := fun ρ2 => X (forget fg ρ2), bk := C.nx } ρ')
    (fin : ∀ s, I [] s → C.nx (env s)) : ∀ (l : List α) (s : σ), I l s → forL g fg body C (l.map enc) (env s)
  | [], s, h => fin s h
  | a :: l, s, h => step a l s h (fun ρ => forL g fg body C (l.map enc) ρ) fun s' h' => for_any enc env I step fin l s' h'
theorem lc_any {Z : List D → Ev → Prop} (enc : α → D) (env : σ → Ev) (I : List α → List D → σ → Prop) (sz : ∀ a rest acc s, I (a :: rest) acc s → acc.length < sizeLine)
    (step : ∀ a rest acc s, I (a :: rest) acc s → ∀ (X : D → Ev → Prop) (Y : Ev → Prop), (∀ z s', I rest (acc ++ [z]) s' → X z (env s')) → (∀ s', I rest acc s' → Y (env s')) → g (enc a) (env s) fun ρ1 => tt ρ1 fun b ρ2 => if b = true then te ρ2 fun z ρ3 => X z (forget vs ρ3) else Y (forget vs ρ2))
    (fin : ∀ acc s, I [] acc s → Z acc (env s)) : ∀ (l : List α) (acc : List D) (s : σ), I l acc s → lcL g tt te vs Z (l.map enc) acc (env s)
  | [], acc, s, h => fin acc s h
  | a :: l, acc, s, h => step a l acc s h (fun z ρ => acc.length < sizeLine ∧ lcL g tt te vs Z (l.map enc) (acc ++ [z]) ρ) (fun ρ => lcL g tt te vs Z (l.map enc) acc ρ)
      (fun z s' h' => ⟨sz a l acc s h, lc_any enc env I sz step fin l _ s' h'⟩) fun s' h' => lc_any enc env I sz step fin l acc s' h'
/-- a comprehension that changes nothing -/
theorem lc_pure {Z : List D → Ev → Prop} (enc : α → D) (p : α → Bool) (out : α → D) (ρ : Ev) (l : List α)
    (step : ∀ a, a ∈ l → ∀ (X : D → Ev → Prop) (Y : Ev → Prop), (p a = true → X (out a) ρ) → (p a = false → Y ρ) → g (enc a) ρ fun ρ1 => tt ρ1 fun b ρ2 => if b = true then te ρ2 fun z ρ3 => X z (forget vs ρ3) else Y (forget vs ρ2))
    (hl : l.length ≤ sizeLine) (fin : Z ((l.filter p).map out) ρ) : lcL g tt te vs Z (l.map enc) [] ρ := by
  have := lc_any (σ := Unit) (Z := Z) (g := g) (tt := tt) (te := te) (vs := vs) (fun a : { a // a ∈ l } => enc a.1) (fun _ => ρ)
    (fun rest acc _ => acc.length + rest.length ≤ l.length ∧ acc ++ ((rest.map (·.1)).filter p).map out = (l.filter p).map out) (fun a rest acc s ⟨h1, h2⟩ => by rw [List.length_cons] at h1; omega)
    (fun a rest acc s ⟨h1, h2⟩ X Y hX hY => step a.1 a.2 X Y (fun e => hX _ () ⟨by rw [List.length_cons] at h1; rw [List.length_append, List.length_singleton]; omega, by rw [List.map_cons, List.filter_cons_of_pos e, List.map_cons] at h2; rw [List.append_assoc]; exact h2⟩)
      (fun e => hY () ⟨by rw [List.length_cons] at h1; omega, by rw [List.map_cons, List.filter_cons_of_neg (by rw [e]; intro z; cases z)] at h2; exact h2⟩))
    (fun acc s ⟨h1, h2⟩ => by
      have e : acc = (l.filter p).map out := by simpa using h2
      rw [e]; exact fin) l.attach [] () ⟨by simp, by simp [List.attach_map_subtype_val]⟩
  have e : (l.attach.map fun a : { a // a ∈ l } => enc a.1) = l.map enc := by
    conv => rhs; rw [← List.attach_map_subtype_val l, List.map_map]
    rfl
  rw [e] at this
  exact this
end
/-! ### numbers, pairs -/
def nI (n : Nat) : D := .int n
def pI (p : Nat × Nat) : D := .tup [nI p.1, nI p.2]
def iI (i : Int) : D := .int i
theorem plainA_map {α : Type} {n : Nat} {enc : α → D} (h : ∀ a, D.plain n (enc a) = true) : ∀ l : List α, D.plainA n (l.map enc) = true
  | [] => by unfold D.plainA; rfl
  | a :: l => by rw [List.map_cons]; unfold D.plainA; rw [h a, plainA_map h l]; rfl
theorem plain_int (n : Nat) (i : Int) : D.plain n (.int i) = true := by cases n <;> rfl
theorem plain_bl (n : Nat) (i : Bool) : D.plain n (.bl i) = true := by cases n <;> rfl
theorem plain_pI (n : Nat) (p : Nat × Nat) : D.plain (n + 1) (pI p) = true := by
  unfold pI nI D.plain
  unfold D.plainA; rw [plain_int]; unfold D.plainA; rw [plain_int]; unfold D.plainA; rfl
theorem eqD_int (i j : Int) : eqD (.int i) (.int j) = decide (i = j) := by
  unfold eqD; simp only [D.py, PyData.eqv]; by_cases h : i = j
  · subst h; simp
  · simp [h]
theorem sort_ints (l : List Int) (h : l.length ≤ sizeLine) : SortOk (l.map D.int) ∧ (l.map D.int).mergeSort dLe = (l.mergeSort fun a b => decide (a ≤ b)).map D.int := by
  refine ⟨⟨plainA_map (plain_int _) l, ?_, ?_, by simpa using h⟩, ?_⟩
  · rw [pyA_map, List.map_map]; exact PySem.W.AllAlike.of fun _ _ => rfl
  · rw [pyA_map, List.map_map]; exact PySem.W.Sortable.others fun b => And.intro (fun z => nomatch (show PyData.int b = PyData.none from z)) (fun _ z => nomatch (show PyData.int b = PyData.tuple _ from z))
  · rw [List.map_mergeSort (s := dLe)]
    intro a _ b _
    show _ = !PySem.W.dataLt (.int b) (.int a)
    rw [PySem.W.dataLt_int]
    by_cases e : a ≤ b
    · rw [decide_eq_true e, decide_eq_false (by omega)]; rfl
    · rw [decide_eq_false e, decide_eq_true (by omega)]; rfl
def nLe (a b : Nat) : Bool := decide (a ≤ b)
theorem sort_nats (l : List Nat) (h : l.length ≤ sizeLine) : SortOk (l.map nI) ∧ (l.map nI).mergeSort dLe = (l.mergeSort nLe).map nI := by
  have e := sort_ints (l.map fun n : Nat => (n : Int)) (by simpa using h)
  rw [List.map_map] at e
  refine ⟨e.1, e.2.trans ?_⟩
  rw [List.map_mergeSort (s := dLe), List.map_map]
  · rw [List.map_mergeSort (s := dLe)]
    · rfl
    · intro a _ b _
      show _ = !PySem.W.dataLt (.int b) (.int a)
      rw [PySem.W.dataLt_int]; unfold nLe
      by_cases e : a ≤ b
      · rw [decide_eq_true e, decide_eq_false (by omega)]; rfl
      · rw [decide_eq_false e, decide_eq_true (by omega)]; rfl
  · intro a _ b _
    show _ = !PySem.W.dataLt (.int b) (.int a)
    rw [PySem.W.dataLt_int]
    by_cases e : a ≤ b
    · rw [decide_eq_true e, decide_eq_false (by omega)]; rfl
    · rw [decide_eq_false e, decide_eq_true (by omega)]; rfl
def pLe (a b : Nat × Nat) : Bool := decide (a.1 < b.1 ∨ (a.1 = b.1 ∧ a.2 ≤ b.2))
theorem sort_pairs (l : List (Nat × Nat)) (h : l.length ≤ sizeLine) : SortOk (l.map pI) ∧ (l.map pI).mergeSort dLe = (l.mergeSort pLe).map pI := by
  refine ⟨⟨plainA_map (plain_pI _) l, ?_, ?_, by simpa using h⟩, ?_⟩
  · rw [pyA_map, List.map_map]; exact PySem.W.AllAlike.of fun _ _ => rfl
  · rw [pyA_map, List.map_map]; exact PySem.W.Sortable.tuples fun b => ⟨_, _, by show D.py (pI b) = _; unfold pI; simp only [D.py, D.pyA]; rfl⟩
  · rw [List.map_mergeSort (s := dLe)]
    intro a _ b _
    have e : ∀ p : Nat × Nat, D.py (pI p) = .tuple [.int p.1, .int p.2] := fun p => by unfold pI nI; simp only [D.py, D.pyA]
    unfold dLe pLe
    rw [e, e, PySem.W.dataLt_ii]
    by_cases h : a.1 < b.1 ∨ (a.1 = b.1 ∧ a.2 ≤ b.2)
    · rw [decide_eq_true h, decide_eq_false (by omega)]; rfl
    · rw [decide_eq_false h, decide_eq_true (by omega)]; rfl
theorem atI_nat {α : Type} (l : List α) (n : Nat) (i : Int) (e : i = n) : atI l i = l[n]? := by
  subst e
  unfold atI ixN
  rw [if_pos (by omega)]
  by_cases h : n < l.length
  · rw [if_pos (by omega)]; simp
  · rw [if_neg (by omega), List.getElem?_eq_none (by omega)]; rfl
theorem rngD_map (lo : Nat) (n : Nat) : rngD (lo : Int) n = (List.range' lo n).map nI := by
  unfold rngD
  rw [List.range'_eq_map_range, List.map_map]
  apply List.map_congr_left
  intro a _
  show D.int _ = D.int _
  simp
theorem rngD_0 (n : Nat) : rngD 0 n = (List.range n).map nI := by
  have := rngD_map 0 n
  rw [← List.range_eq_range'] at this
  exact this
end CL
namespace TA
open PySem PySem.Spec PySem.Calls PyProof.Rows L2 CL
theorem szlt {n : Nat} (h : n < 16777216) : n < sizeLine := by rw [sizeLine_eq]; exact h
theorem szle {n : Nat} (h : n ≤ 16777216) : n ≤ sizeLine := by rw [sizeLine_eq]; exact h
/-! ### checks -/
def isIntD : D → Bool
  | .int _ => true
  | _ => false
inductive R_is_integer : List D → (D → Prop) → Prop
  | mk {Q : D → Prop} (d : D) (h : (tyNm d).isSome = true) (hq : Q (.bl (isIntD d))) : R_is_integer [d] Q
abbrev N_is_integer : List Str := ["thing"]
def t_is_integer : CS := (cRet (cAndV (c1 (cIsi .int) (cSl 0)) (cNotV (c1 (cIsi .bool) (cSl 0)))))
theorem len_is_integer : ∀ ds Q, R_is_integer ds Q → ds.length = 1 := fun _ _ ⟨_, _, _⟩ => rfl
theorem pure_is_integer : ∀ ds Q, R_is_integer ds Q → t_is_integer { nx := fun _ => Q .non, rt := fun d _ => Q d } (envOf N_is_integer ds) := fun _ Q ⟨d, h, hq⟩ => by
  cases d with
  | ins _ _ => cases h
  | int _ => exact And.intro rfl (And.intro rfl hq)
  | bl _ => exact And.intro rfl (And.intro rfl hq)
  | _ => exact And.intro rfl hq
def betD (lo hi : Int) : D → Bool
  | .int i => decide (lo ≤ i) && decide (i ≤ hi)
  | _ => false
inductive R_is_between : List D → (D → Prop) → Prop
  | mk {Q : D → Prop} (d : D) (lo hi : Int) (h : (tyNm d).isSome = true) (hq : Q (.bl (betD lo hi d))) : R_is_between [d, .int lo, .int hi] Q
abbrev N_is_between : List Str := ["thing", "least", "most"]
def t_is_between : CS := (cRet (cAndV (cCall R_is_integer (cConsE (cVar 0) cNilE)) (cChain cLe cLe (cSl 1) (cSl 0) (cSl 2))))
theorem len_is_between : ∀ ds Q, R_is_between ds Q → ds.length = 3 := fun _ _ ⟨_, _, _, _, _⟩ => rfl
theorem pure_is_between : ∀ ds Q, R_is_between ds Q → t_is_between { nx := fun _ => Q .non, rt := fun d _ => Q d } (envOf N_is_between ds) := fun _ Q ⟨d, lo, hi, h, hq⟩ => by
  refine R_is_integer.mk d h ?_
  cases d with
  | int i =>
    refine And.intro rfl (And.intro rfl ?_)
    have hq : Q (.bl (decide (lo ≤ i) && decide (i ≤ hi))) := hq
    show (match (D.bl (decide (lo ≤ i))) with | .bl true => _ | .bl false => Q (.bl false) | _ => False)
    cases e : decide (lo ≤ i) with
    | true => rw [e] at hq; exact And.intro rfl hq
    | false => rw [e] at hq; exact hq
  | _ => exact hq
inductive R_is_index : List D → (D → Prop) → Prop
  | mk {Q : D → Prop} (d : D) (n : Int) (h : (tyNm d).isSome = true) (hq : Q (.bl (betD 0 (n - 1) d))) : R_is_index [d, .int n] Q
abbrev N_is_index : List Str := ["thing", "many"]
def t_is_index : CS := (cRet (cCall R_is_between (cConsE (cVar 0) (cConsE (cC (.int 0)) (cConsE (c2 cSub (cSl 1) (cOf (cC (.int 1)))) cNilE)))))
theorem len_is_index : ∀ ds Q, R_is_index ds Q → ds.length = 2 := fun _ _ ⟨_, _, _, _⟩ => rfl
theorem pure_is_index : ∀ ds Q, R_is_index ds Q → t_is_index { nx := fun _ => Q .non, rt := fun d _ => Q d } (envOf N_is_index ds) := fun _ Q ⟨d, n, h, hq⟩ =>
  And.intro rfl (.mk d 0 (n - 1) h hq)
theorem ix_in {Q : D → Prop} {k n : Nat} (hk : k < n) (h : Q (.bl true)) : R_is_index [nI k, .int n] Q := .mk _ _ rfl (by
  have : betD 0 ((n : Int) - 1) (nI k) = true := by simp [betD, nI]; omega
  rw [this]; exact h)
inductive R_check_number : List D → (D → Prop) → Prop
  | mk {Q : D → Prop} (i lo hi : Int) (h1 : lo ≤ i) (h2 : i ≤ hi) (hq : Q .non) : R_check_number [.int i, .int lo, .int hi] Q
abbrev N_check_number : List Str := ["thing", "least", "most"]
def t_check_number : CS := (cIfS (cNot (cB (cCall R_is_between (cConsE (cVar 0) (cConsE (cVar 1) (cConsE (cVar 2) cNilE))))))
  cNever
  cNext)
theorem len_check_number : ∀ ds Q, R_check_number ds Q → ds.length = 3 := fun _ _ ⟨_, _, _, _, _, _⟩ => rfl
theorem pure_check_number : ∀ ds Q, R_check_number ds Q → t_check_number { nx := fun _ => Q .non, rt := fun d _ => Q d } (envOf N_check_number ds) := fun _ Q ⟨i, lo, hi, h1, h2, hq⟩ => by
  refine R_is_between.mk _ _ _ rfl ?_
  have e : betD lo hi (.int i) = true := by simp [betD, h1, h2]
  rw [e]
  exact hq
def tupN (n : Int) : D → Bool
  | .tup ds => decide ((ds.length : Int) = n)
  | _ => false
inductive R_is_tuple_of : List D → (D → Prop) → Prop
  | mk {Q : D → Prop} (d : D) (n : Int) (h : (tyNm d).isSome = true) (hq : Q (.bl (tupN n d))) : R_is_tuple_of [d, .int n] Q
abbrev N_is_tuple_of : List Str := ["thing", "many"]
def t_is_tuple_of : CS := (cRet (cAndV (c1 (cIsi .tuple) (cSl 0)) (c2 cEq (cOf (cF cLen (cCons (cSl 0) cNil))) (cSl 1))))
theorem len_is_tuple_of : ∀ ds Q, R_is_tuple_of ds Q → ds.length = 2 := fun _ _ ⟨_, _, _, _⟩ => rfl
theorem pure_is_tuple_of : ∀ ds Q, R_is_tuple_of ds Q → t_is_tuple_of { nx := fun _ => Q .non, rt := fun d _ => Q d } (envOf N_is_tuple_of ds) := fun _ Q ⟨d, n, h, hq⟩ => by
  cases d with
  | ins _ _ => cases h
  | tup ds =>
    refine And.intro rfl (And.intro rfl (And.intro rfl (And.intro (plain_int _ _) (And.intro (plain_int _ _) ?_))))
    show Q (.bl (eqD (.int ds.length) (.int n)))
    rw [eqD_int]
    exact hq
  | _ => exact And.intro rfl hq
/-- a pair of two things of many -/
inductive R_is_pair : List D → (D → Prop) → Prop
  | mk {Q : D → Prop} (p : Nat × Nat) (n : Nat) (h1 : p.1 < n) (h2 : p.2 < n) (h3 : p.1 ≠ p.2) (hq : Q (.bl true)) : R_is_pair [pI p, .int n] Q
abbrev lc_is_pair_1 (Z : List D → Ev → Prop) : List D → List D → Ev → Prop := lcL (gN 2) cYes (cCall R_is_index (cConsE (cVar 2) (cConsE (cVar 1) cNilE))) [2] Z
abbrev N_is_pair : List Str := ["thing", "many", "item"]
def t_is_pair : CS := (cRet (cAndV (cCall R_is_tuple_of (cConsE (cVar 0) (cConsE (cC (.int 2)) cNilE))) (cAndV (cF cAll (cCons (cOf (cLc (cIS (cVar 0)) (gN 2) cYes (cCall R_is_index (cConsE (cVar 2) (cConsE (cVar 1) cNilE))) [2])) cNil)) (c2 cNe (cOf (c2 cIx (cSl 0) (cOf (cC (.int 0))))) (cOf (c2 cIx (cSl 0) (cOf (cC (.int 1)))))))))
theorem len_is_pair : ∀ ds Q, R_is_pair ds Q → ds.length = 2 := fun _ _ ⟨_, _, _, _, _, _⟩ => rfl
theorem pure_is_pair : ∀ ds Q, R_is_pair ds Q → t_is_pair { nx := fun _ => Q .non, rt := fun d _ => Q d } (envOf N_is_pair ds) := fun _ Q ⟨p, n, h1, h2, h3, hq⟩ => by
  refine R_is_tuple_of.mk _ _ rfl ?_
  have e2 : tupN 2 (pI p) = true := rfl
  rw [e2]
  refine ix_in (k := p.1) h1 ?_
  refine And.intro (szlt (n := 0) (by decide)) ?_
  refine ix_in (k := p.2) h2 ?_
  refine And.intro (szlt (n := 1) (by decide)) ?_
  refine And.intro rfl (And.intro rfl (And.intro (plain_int 30 p.1) (And.intro (plain_int 30 p.2) ?_)))
  show Q (.bl (!eqD (.int p.1) (.int p.2)))
  rw [eqD_int, decide_eq_false (by omega)]
  exact hq
end TA
namespace TA
open PySem PySem.Spec PySem.Calls PyProof.Rows L2 CL
/-! ### homes -/
def srt (p : Nat × Nat) : Nat × Nat := if p.1 ≤ p.2 then p else (p.2, p.1)
def arD (As : List (Nat × Nat)) : D := .tup (As.map pI)
/-- arrows of many things, no two things tied twice, each later by a rank -/
structure VAr (n : Nat) (As : List (Nat × Nat)) : Prop where
  lo : 1 ≤ n
  hi : n ≤ 10
  inn : ∀ p ∈ As, p.1 < n ∧ p.2 < n ∧ p.1 ≠ p.2
  nd : (As.map srt).Nodup
  len : As.length ≤ 100
  rk : ∃ r : Nat → Nat, ∀ p ∈ As, r p.1 < r p.2
theorem sort2 (a b : Nat) : [a, b].mergeSort nLe = [(srt (a, b)).1, (srt (a, b)).2] := by
  unfold srt
  by_cases h : a ≤ b
  · rw [if_pos h, List.mergeSort_of_pairwise]
    simp [nLe, h]
  · rw [if_neg h]
    have := List.mergeSort_perm [a, b] nLe
    have s := List.pairwise_mergeSort (le := nLe) (fun x y z h1 h2 => by unfold nLe at *; simp at *; omega) (fun x y => by unfold nLe; simp; omega) [a, b]
    generalize [a, b].mergeSort nLe = l at this s
    have l2 := this.length_eq
    match l, l2 with
    | [x, y], _ =>
      have hx : x ∈ [a, b] := this.subset (by simp)
      have ha : a ∈ [x, y] := this.symm.subset (by simp)
      have hb : b ∈ [x, y] := this.symm.subset (by simp)
      simp [nLe] at s hx ha hb
      have e : x = b ∧ y = a := by omega
      rw [e.1, e.2]
def kvA (p : Nat × Nat) : D × D := (pI (srt p), .bl true)
theorem nI_inj {a b : Nat} (h : nI a = nI b) : a = b := by unfold nI at h; injection h with h; omega
theorem pI_inj {a b : Nat × Nat} (h : pI a = pI b) : a = b := by
  unfold pI at h
  injection h with h
  injection h with h1 h2
  injection h2 with h2 _
  exact Prod.ext (nI_inj h1) (nI_inj h2)
theorem dPut_new {kvs : List (D × D)} {k v : D} (h : ∀ p ∈ kvs, p.1 ≠ k) : dPut kvs k v = kvs ++ [(k, v)] := by
  unfold dPut
  rw [if_neg]
  simp only [List.any_eq_true, decide_eq_true_eq]
  rintro ⟨p, hp, e⟩
  exact h p hp e
inductive R_are_arrows : List D → (D → Prop) → Prop
  | mk {Q : D → Prop} (n : Nat) (As : List (Nat × Nat)) (h : VAr n As) (hq : Q (.bl true)) : R_are_arrows [.int n, arD As] Q
abbrev lc_are_arrows_1 (Z : List D → Ev → Prop) : List D → List D → Ev → Prop := lcL (gN 2) cYes (cCall R_is_pair (cConsE (cVar 2) (cConsE (cVar 0) cNilE))) [2] Z
abbrev dc_are_arrows_2 (Z : List (D × D) → Ev → Prop) : List D → List (D × D) → Ev → Prop := dcL true (gN 2) cYes (cF cTuple (cCons (cOf (cF cSorted (cCons (cSl 2) cNil))) cNil)) (cC (.bl true)) [2] Z
abbrev N_are_arrows : List Str := ["many", "thing", "pair"]
def t_are_arrows : CS := (cSeq (cIfS (cOrT (cNot (cB (c1 (cIsi .tuple) (cSl 1)))) (cNot (cB (cF cAll (cCons (cOf (cLc (cIS (cVar 1)) (gN 2) cYes (cCall R_is_pair (cConsE (cVar 2) (cConsE (cVar 0) cNilE))) [2])) cNil)))))
  (cRet (cC (.bl false)))
  cNext)
  (cRet (c2 cEq (cOf (cF cLen (cCons (cOf (cDc true (cIS (cVar 1)) (gN 2) cYes (cF cTuple (cCons (cOf (cF cSorted (cCons (cSl 2) cNil))) cNil)) (cC (.bl true)) [2])) cNil))) (cOf (cF cLen (cCons (cSl 1) cNil))))))
theorem dc_arr {n : Nat} {As : D} {Z : List (D × D) → Ev → Prop} : ∀ (rest done : List (Nat × Nat)), ((done ++ rest).map srt).Nodup → (done ++ rest).length ≤ 1000 → Z ((done ++ rest).map kvA) [.fz (.int n), .fz As, .un] → dc_are_arrows_2 Z (rest.map pI) (done.map kvA) [.fz (.int n), .fz As, .un]
  | [], done, _, _, h => by rw [List.append_nil] at h; exact h
  | a :: rest, done, nd, hl, h => by
    have s := sort_nats [a.1, a.2] (szle (Nat.le_of_ble_eq_true rfl))
    refine And.intro rfl (And.intro s.1 ?_)
    have e1 : D.tup (([a.1, a.2].map nI).mergeSort dLe) = pI (srt a) := by rw [s.2, sort2]; rfl
    show okKey true (D.tup (([a.1, a.2].map nI).mergeSort dLe)) = true ∧ (done.map kvA).length < sizeLine ∧ dc_are_arrows_2 Z (rest.map pI) (dPut (done.map kvA) (D.tup (([a.1, a.2].map nI).mergeSort dLe)) (.bl true)) [.fz (.int n), .fz As, .un]
    rw [e1, dPut_new]
    · refine ⟨rfl, szlt (by rw [List.length_map]; rw [List.length_append] at hl; omega), ?_⟩
      have := dc_arr (n := n) (As := As) (Z := Z) rest (done ++ [a]) (by simpa using nd) (by simpa using hl) (by simpa using h)
      rw [List.map_append] at this
      exact this
    · intro p hp
      obtain ⟨b, hb, e⟩ := List.mem_map.mp hp
      subst e
      intro e
      have e := pI_inj e
      rw [List.map_append, List.map_cons, List.nodup_append] at nd
      exact nd.2.2 _ (List.mem_map_of_mem hb) _ List.mem_cons_self e
theorem len_are_arrows : ∀ ds Q, R_are_arrows ds Q → ds.length = 2 := fun _ _ ⟨_, _, _, _⟩ => rfl
theorem pure_are_arrows : ∀ ds Q, R_are_arrows ds Q → t_are_arrows { nx := fun _ => Q .non, rt := fun d _ => Q d } (envOf N_are_arrows ds) := fun _ Q ⟨n, As, h, hq⟩ => by
  refine And.intro rfl ?_
  refine lc_pure (Z := _) pI (fun _ => true) (fun _ => D.bl true) [.fz (.int n), .fz (arD As), .un] As (fun a ha X Y hX hY => ?_) (szle (by have := h.len; omega)) ?_
  · obtain ⟨h1, h2, h3⟩ := h.inn a ha
    exact R_is_pair.mk a n h1 h2 h3 (hX rfl)
  · rw [List.filter_eq_self.mpr (fun _ _ => rfl)]
    have e1 : (As.map fun _ => D.bl true) = (As.map fun _ => true).map D.bl := by rw [List.map_map]; rfl
    rw [e1]
    show (match blsOf ((As.map fun _ => true).map D.bl) with | some bs => _ | none => False)
    rw [blsOf_map]
    show (match (D.bl ((As.map fun _ => true).all id)) with | .bl b => _ | _ => False)
    rw [show (As.map fun _ => true).all id = true by simp]
    refine dc_arr (Z := _) As [] (by simpa using h.nd) (by have := h.len; simp; omega) ?_
    refine And.intro rfl (And.intro (plain_int 30 _) (And.intro (plain_int 30 _) ?_))
    show Q (.bl (eqD (.int ((As.map kvA).length : Nat)) (.int ((As.map pI).length : Nat))))
    rw [eqD_int, List.length_map, List.length_map, decide_eq_true rfl]
    exact hq
end TA
namespace TA
open PySem PySem.Spec PySem.Calls PyProof.Rows L2 CL
/-- lists of what comes next -/
def Nx (n : Nat) (As : List (Nat × Nat)) (L : List (List Nat)) : Prop := L.length = n ∧ ∀ i l, L[i]? = some l → ∀ j ∈ l, (i, j) ∈ As
def llD (L : List (List Nat)) : D := .lst ((L.map fun l => l.map nI).map D.lst)
inductive R_next_things : List D → (D → Prop) → Prop
  | mk {Q : D → Prop} (n : Nat) (As : List (Nat × Nat)) (h : VAr n As) (hq : ∀ L, Nx n As L → Q (llD L)) : R_next_things [.int n, arD As] Q
def bd_next_things_1 : CS := (cOoApp 3 4 5)
abbrev lp_next_things_1 (C : CEnds) : List D → Ev → Prop := forL (gTup0 2 (gCons0 (gN 4) (gCons0 (gN 5) gNil0))) [4, 5] bd_next_things_1 C
abbrev N_next_things : List Str := ["many", "pairs", "_", "found", "one", "other"]
def t_next_things : CS := (cSeq (cOoNew 3 [2] (cSl 0))
  (cSeq (cFor (cIS (cF cSorted (cCons (cSl 1) cNil))) (gTup0 2 (gCons0 (gN 4) (gCons0 (gN 5) gNil0))) [4, 5] bd_next_things_1)
  (cFrzO 3 (cRet (cVar 3)))))
theorem len_next_things : ∀ ds Q, R_next_things ds Q → ds.length = 2 := fun _ _ ⟨_, _, _, _⟩ => rfl
theorem pure_next_things : ∀ ds Q, R_next_things ds Q → t_next_things { nx := fun _ => Q .non, rt := fun d _ => Q d } (envOf N_next_things ds) := fun _ Q ⟨n, As, h, hq⟩ => by
  have s := sort_pairs As (szle (by have := h.len; omega))
  have hh := h.hi
  refine And.intro rfl (And.intro (by omega) (And.intro (by omega) ?_))
  refine And.intro rfl (And.intro s.1 ?_)
  show lp_next_things_1 _ ((As.map pI).mergeSort dLe) [.fz (.int n), .fz (arD As), .un, .oo (List.replicate n []), .un, .un]
  rw [s.2]
  have e0 : (List.replicate n [] : List (List D)) = (List.replicate n ([] : List Nat)).map fun l => l.map nI := by rw [List.map_replicate]; rfl
  rw [e0]
  refine for_any pI (fun L : List (List Nat) => [.fz (.int n), .fz (arD As), .un, .oo (L.map fun l => l.map nI), .un, .un])
    (fun rest L => Nx n As L ∧ (∀ p ∈ rest, p ∈ As) ∧ ∀ l ∈ L, l.length + rest.length ≤ 100) ?_ ?_ _ _ ⟨⟨List.length_replicate, ?_⟩, fun p hp => (List.mergeSort_perm As pLe).subset hp, ?_⟩
  · intro a rest L ⟨⟨hn, hs⟩, hr, hl⟩ X hX
    obtain ⟨b1, b2, b3⟩ := h.inn a (hr a List.mem_cons_self)
    have hi : a.1 < L.length := by omega
    have ei : L[a.1]? = some L[a.1] := List.getElem?_eq_getElem hi
    refine And.intro rfl (And.intro (by omega) ?_)
    show (match ((L.map fun l => l.map nI)[a.1]? : Option (List D)) with | some ds => _ | none => False)
    rw [List.getElem?_map, ei]
    refine And.intro (szlt ?_) ?_
    · have := hl _ (List.getElem_mem hi)
      rw [List.length_map]; omega
    · have := hX (L.set a.1 (L[a.1] ++ [a.2])) ⟨⟨by simpa using hn, fun i l hil j hj => ?_⟩, fun p hp => hr p (List.mem_cons_of_mem _ hp), fun l hl' => ?_⟩
      · rw [List.map_set, List.map_append] at this
        exact this
      · by_cases e : a.1 = i
        · subst e
          rw [List.getElem?_set_self hi] at hil
          cases hil
          rcases List.mem_append.mp hj with z | z
          · exact hs a.1 _ ei j z
          · have z : j = a.2 := by simpa using z
            subst z
            exact hr a List.mem_cons_self
        · rw [List.getElem?_set_ne e] at hil
          exact hs i l hil j hj
      · rcases List.mem_or_eq_of_mem_set hl' with z | z
        · have := hl l z
          rw [List.length_cons] at this; omega
        · subst z
          have := hl _ (List.getElem_mem hi)
          rw [List.length_cons] at this
          rw [List.length_append, List.length_singleton]; omega
  · intro L ⟨hn, _⟩
    exact hq L hn
  · intro i l hil j hj
    rw [List.getElem?_replicate] at hil
    split at hil
    · cases hil; cases hj
    · cases hil
  · intro l hl
    rw [List.eq_of_mem_replicate hl, List.length_mergeSort]
    have := h.len
    simpa using this
/-! the shortest way, where there is none -/
inductive R_shortest_way : List D → (D → Prop) → Prop
  | mk {Q : D → Prop} (n : Nat) (As : List (Nat × Nat)) (b e : Nat) (P : Nat → Prop) (h : VAr n As) (hb : b < n) (pb : P b) (pe : ¬ P e) (cl : ∀ i j, (i, j) ∈ As → P i → P j) (hq : Q .non) : R_shortest_way [.int n, arD As, nI b, nI e] Q
def bd_shortest_way_1 : CS := (cIfS (cB (c2 cDNotIn (cSl 9) (cSl 5)))
  (cSeq (cDPut 5 (cVar 9) (c2 cAdd (cOf (c2 cDGet (cSl 5) (cSl 8))) (cOf (cTup (cConsE (cVar 9) cNilE)))))
  (cApp 6 (cVar 9)))
  cNext)
abbrev lp_shortest_way_1 (C : CEnds) : List D → Ev → Prop := forL (gN 9) [9] bd_shortest_way_1 C
def bd_shortest_way_2 : CS := (cSeq (cSet 8 (c2 cIx (cSl 6) (cSl 7)))
  (cSeq (cFor (cIS (c2 cIx (cSl 4) (cSl 8))) (gN 9) [9] bd_shortest_way_1)
  (cFgt [8, 9] (cAug 7 cAddI (cOf (cC (.int 1)))))))
abbrev N_shortest_way : List Str := ["many", "pairs", "begin", "end", "later", "ways", "line", "at", "here", "there"]
def t_shortest_way : CS := (cSeq (cSet 4 (cCall R_next_things (cConsE (cVar 0) (cConsE (cVar 1) cNilE))))
  (cSeq (cOwn 5 (cDic1K (cVar 2) (cTup (cConsE (cVar 2) cNilE))))
  (cSeq (cOwn 6 (cLst (cConsE (cVar 2) cNilE)))
  (cSeq (cSet 7 (cC (.int 0)))
  (cSeq (cWhile (cAndT (cB (c2 cLt (cSl 7) (cOf (cF cLen (cCons (cSl 6) cNil))))) (cB (c2 cDNotIn (cSl 3) (cSl 5)))) bd_shortest_way_2)
  (cRet (cGet1 5 (cSl 3))))))))
/-- the dict of ways -/
def kvW (w : Nat × List Nat) : D × D := (nI w.1, .tup (w.2.map nI))
theorem dGet_kvW (k : Nat) : ∀ ws : List (Nat × List Nat), dGet (ws.map kvW) (nI k) = (ws.find? fun w => decide (w.1 = k)).map fun w => .tup (w.2.map nI)
  | [] => rfl
  | w :: ws => by
    have ih := dGet_kvW k ws
    unfold dGet at ih ⊢
    rw [List.map_cons]
    by_cases e : w.1 = k
    · rw [List.find?_cons_of_pos (by unfold kvW; rw [e]; simp), List.find?_cons_of_pos (by simpa using e)]; rfl
    · rw [List.find?_cons_of_neg (by unfold kvW; simpa using fun z => e (nI_inj z)), List.find?_cons_of_neg (by simpa using e)]
      exact ih
theorem nodup_le : ∀ (n : Nat) (l : List Nat), l.Nodup → (∀ x ∈ l, x < n) → l.length ≤ n
  | 0, l, _, h => by
    cases l with
    | nil => exact Nat.le_refl _
    | cons a l => exact absurd (h a List.mem_cons_self) (Nat.not_lt_zero _)
  | n + 1, l, nd, h => by
    by_cases e : n ∈ l
    · have := nodup_le n (l.erase n) (nd.erase n) fun x hx => by
        have h1 := h x (List.mem_of_mem_erase hx)
        have h2 : x ≠ n := fun z => by subst z; exact (List.Nodup.not_mem_erase nd) hx
        omega
      rw [List.length_erase_of_mem e] at this
      omega
    · have := nodup_le n l nd fun x hx => by
        have h1 := h x hx
        have h2 : x ≠ n := fun z => by subst z; exact e hx
        omega
      omega
/-- what holds amid the search: the ways known -/
structure WI (n : Nat) (P : Nat → Prop) (ws : List (Nat × List Nat)) : Prop where
  nd : (ws.map (·.1)).Nodup
  inn : ∀ w ∈ ws, w.1 < n ∧ P w.1 ∧ w.2.length ≤ ws.length
theorem WI.le {n : Nat} {P : Nat → Prop} {ws : List (Nat × List Nat)} (h : WI n P ws) : ws.length ≤ n := by
  have := nodup_le n _ h.nd fun x hx => by
    obtain ⟨w, hw, e⟩ := List.mem_map.mp hx
    subst e
    exact (h.inn w hw).1
  simpa using this
theorem find_mem {ws : List (Nat × List Nat)} {k : Nat} : (ws.find? fun w => decide (w.1 = k)).isSome = decide (k ∈ ws.map (·.1)) := by
  induction ws with
  | nil => simp
  | cons w ws ih =>
    by_cases e : w.1 = k
    · rw [List.find?_cons_of_pos (by simpa using e)]; simp [e]
    · rw [List.find?_cons_of_neg (by simpa using e), ih]
      have : k ≠ w.1 := fun z => e z.symm
      simp [this]
def wEnv (n : Nat) (As : List (Nat × Nat)) (b e : Nat) (L : List (List Nat)) (ws : List (Nat × List Nat)) (at_ : Nat) (here : Sl) : Ev :=
  [.fz (.int n), .fz (arD As), .fz (nI b), .fz (nI e), .fz (llD L), .od false (ws.map kvW), .ow ((ws.map (·.1)).map nI), .fz (.int at_), here, .un]
theorem len_shortest_way : ∀ ds Q, R_shortest_way ds Q → ds.length = 4 := fun _ _ ⟨_, _, _, _, _, _, _, _, _, _, _⟩ => rfl
theorem pure_shortest_way : ∀ ds Q, R_shortest_way ds Q → t_shortest_way { nx := fun _ => Q .non, rt := fun d _ => Q d } (envOf N_shortest_way ds) := fun _ Q ⟨n, As, b, e, P, h, hb, pb, pe, cl, hq⟩ => by
  refine R_next_things.mk n As h fun L hL => ?_
  have out : ∀ ws, WI n P ws → dGet (ws.map kvW) (nI e) = none := fun ws I => by
    rw [dGet_kvW]
    have : (ws.find? fun w => decide (w.1 = e)).isSome = false := by
      rw [find_mem, decide_eq_false]
      intro z
      obtain ⟨w, hw, ew⟩ := List.mem_map.mp z
      exact pe (by rw [← ew]; exact (I.inn w hw).2.1)
    rw [Option.isSome_eq_false_iff, Option.isNone_iff_eq_none] at this
    rw [this]; rfl
  refine And.intro (szle (Nat.le_of_ble_eq_true rfl)) (And.intro rfl ?_)
  refine And.intro (szle (Nat.le_of_ble_eq_true rfl)) ?_
  refine Exists.intro (fun m ρ => ∃ ws at_, ρ = wEnv n As b e L ws at_ .un ∧ WI n P ws ∧ at_ ≤ ws.length ∧ m = n - at_) (And.intro ⟨_, [(b, [b])], 0, rfl, ⟨by simp, by simp; exact ⟨hb, pb⟩⟩, by omega, rfl⟩ ?_)
  rintro m ρ ⟨ws, at_, rfl, I, ha, rfl⟩
  refine And.intro rfl (And.intro rfl ?_)
  show (if decide ((at_ : Int) < (((ws.map (·.1)).map nI).length : Int)) = true then _ else _)
  by_cases hlt : at_ < ws.length
  · rw [List.length_map, List.length_map, if_pos (by simpa using hlt)]
    refine And.intro rfl (And.intro rfl (And.intro rfl ?_))
    show (if (!(dGet (ws.map kvW) (nI e)).isSome) = true then _ else _)
    rw [out ws I]
    show bd_shortest_way_2 _ _
    obtain ⟨w, hw⟩ : ∃ w, ws[at_]? = some w := ⟨ws[at_], List.getElem?_eq_getElem hlt⟩
    obtain ⟨wn, wp, wl⟩ := I.inn w (List.mem_of_getElem? hw)
    refine And.intro rfl (And.intro rfl ?_)
    show (match (atI ((ws.map (·.1)).map nI) (at_ : Int)) with | some d => _ | none => False)
    rw [atI_nat _ at_ _ rfl, List.getElem?_map, List.getElem?_map, hw]
    obtain ⟨l, hl⟩ : ∃ l, L[w.1]? = some l := ⟨L[w.1]'(by rw [hL.1]; exact wn), List.getElem?_eq_getElem _⟩
    refine And.intro rfl (And.intro rfl ?_)
    show (match (atI ((L.map fun l => l.map nI).map D.lst) (w.1 : Int)) with | some d => _ | none => False)
    rw [atI_nat _ w.1 _ rfl, List.getElem?_map, List.getElem?_map, hl]
    show lp_shortest_way_1 _ (l.map nI) (wEnv n As b e L ws at_ (.fz (nI w.1)))
    refine for_any nI (fun ws' => wEnv n As b e L ws' at_ (.fz (nI w.1))) (fun rest ws' => WI n P ws' ∧ at_ < ws'.length ∧ w.1 ∈ ws'.map (·.1) ∧ ∀ x ∈ rest, x ∈ l) ?_ ?_ _ _ ⟨I, hlt, List.mem_map_of_mem (List.mem_of_getElem? hw), fun _ h => h⟩
    · intro a rest ws' ⟨I', ha', hk, hr⟩ X hX
      have hal : (w.1, a) ∈ As := hL.2 _ _ hl a (hr a List.mem_cons_self)
      have hr' : ∀ x ∈ rest, x ∈ l := fun x hx => hr x (List.mem_cons_of_mem _ hx)
      have hn := I'.le
      have hh := h.hi
      refine And.intro rfl (And.intro rfl (And.intro rfl ?_))
      show (if (!(dGet (ws'.map kvW) (nI a)).isSome) = true then _ else _)
      have ea : (dGet (ws'.map kvW) (nI a)).isSome = decide (a ∈ ws'.map (·.1)) := by rw [dGet_kvW, Option.isSome_map, find_mem]
      rw [ea]
      by_cases hin : a ∈ ws'.map (·.1)
      · rw [decide_eq_true hin]
        exact hX ws' ⟨I', ha', hk, hr'⟩
      · rw [decide_eq_false hin]
        obtain ⟨w', hw'⟩ : ∃ w', (ws'.find? fun w' => decide (w'.1 = w.1)) = some w' := Option.isSome_iff_exists.mp (by rw [find_mem]; exact decide_eq_true hk)
        have hm' := List.mem_of_find?_eq_some hw'
        obtain ⟨_, _, wl'⟩ := I'.inn w' hm'
        refine And.intro rfl (And.intro rfl (And.intro rfl ?_))
        show (match (dGet (ws'.map kvW) (nI w.1)) with | some d => _ | none => False)
        rw [dGet_kvW, hw']
        refine And.intro (szle (Nat.le_of_ble_eq_true rfl)) ?_
        refine And.intro (szle (by rw [List.length_map]; show w'.2.length + 1 ≤ _; omega)) ?_
        refine And.intro rfl (And.intro rfl (And.intro (szlt (by rw [List.length_map]; omega)) ?_))
        refine And.intro rfl (And.intro (szlt (by rw [List.length_map, List.length_map]; omega)) ?_)
        have ed : dPut (ws'.map kvW) (nI a) (.tup (w'.2.map nI ++ [nI a])) = (ws' ++ [(a, w'.2 ++ [a])]).map kvW := by
          rw [dPut_new]
          · rw [List.map_append]; unfold kvW; simp
          · intro p hp
            obtain ⟨v, hv, ev⟩ := List.mem_map.mp hp
            subst ev
            intro z
            exact hin (by rw [← nI_inj z]; exact List.mem_map_of_mem hv)
        show X ((((wEnv n As b e L ws' at_ (.fz (nI w.1))).set 5 (.od false (dPut (ws'.map kvW) (nI a) (.tup (w'.2.map nI ++ [nI a]))))).set 6 (.ow ((ws'.map (·.1)).map nI ++ [nI a]))))
        rw [ed]
        have ae : a < n := (h.inn _ hal).2.1
        have := hX (ws' ++ [(a, w'.2 ++ [a])]) ⟨⟨?_, ?_⟩, ?_, ?_, hr'⟩
        · unfold wEnv at this
          rw [show ((ws' ++ [(a, w'.2 ++ [a])]).map (·.1)).map nI = (ws'.map (·.1)).map nI ++ [nI a] by simp] at this
          exact this
        · rw [List.map_append]
          refine List.nodup_append.mpr ⟨I'.nd, by simp, fun x hx y hy exy => hin ?_⟩
          have : y = a := by simpa using hy
          rw [← this, ← exy]; exact hx
        · intro v hv
          rw [List.length_append, List.length_singleton]
          rcases List.mem_append.mp hv with z | z
          · obtain ⟨q1, q2, q3⟩ := I'.inn v z
            exact ⟨q1, q2, by omega⟩
          · have : v = (a, w'.2 ++ [a]) := by simpa using z
            subst this
            exact ⟨ae, cl _ _ hal wp, by simp; exact wl'⟩
        · rw [List.length_append]; omega
        · rw [List.map_append]; exact List.mem_append_left _ hk
    · intro ws' ⟨I', ha', hk, _⟩
      have hn := I'.le
      refine And.intro rfl ?_
      exact ⟨n - (at_ + 1), by omega, ws', at_ + 1, rfl, I', by omega, rfl⟩
  · rw [List.length_map, List.length_map, if_neg (by simpa using hlt)]
    refine And.intro ⟨_, _, rfl⟩ (And.intro rfl (And.intro rfl ?_))
    show Q ((dGet (ws.map kvW) (nI e)).getD .non)
    rw [out ws I]
    exact hq
/-! no ring -/
inductive R_shortest_ring : List D → (D → Prop) → Prop
  | mk {Q : D → Prop} (n : Nat) (As : List (Nat × Nat)) (h : VAr n As) (hq : Q .non) : R_shortest_ring [.int n, arD As] Q
def bd_shortest_ring_1 : CS := (cSeq (cSet 5 (cCall R_shortest_way (cConsE (cVar 0) (cConsE (cVar 1) (cConsE (cVar 4) (cConsE (cVar 3) cNilE))))))
  (cIfS (cB (c2 cNotN (cSl 5) (cOf (cC .non))))
  cNever
  cNext))
abbrev lp_shortest_ring_1 (C : CEnds) : List D → Ev → Prop := forL (gTup0 2 (gCons0 (gN 3) (gCons0 (gN 4) gNil0))) [3, 4, 5, 6] bd_shortest_ring_1 C
abbrev N_shortest_ring : List Str := ["many", "pairs", "found", "one", "other", "way", "at"]
def t_shortest_ring : CS := (cSeq (cOwn 2 (cLst cNilE))
  (cSeq (cFor (cIS (cVar 1)) (gTup0 2 (gCons0 (gN 3) (gCons0 (gN 4) gNil0))) [3, 4, 5, 6] bd_shortest_ring_1)
  (cFrz [2] (cRet (cIf (cB (c2 cGt (cOf (cF cLen (cCons (cSl 2) cNil))) (cOf (cC (.int 0))))) cNevE (cC .non))))))
theorem len_shortest_ring : ∀ ds Q, R_shortest_ring ds Q → ds.length = 2 := fun _ _ ⟨_, _, _, _⟩ => rfl
theorem pure_shortest_ring : ∀ ds Q, R_shortest_ring ds Q → t_shortest_ring { nx := fun _ => Q .non, rt := fun d _ => Q d } (envOf N_shortest_ring ds) := fun _ Q ⟨n, As, h, hq⟩ => by
  obtain ⟨r, hr⟩ := h.rk
  refine And.intro (szle (Nat.le_of_ble_eq_true rfl)) ?_
  show lp_shortest_ring_1 _ (As.map pI) [.fz (.int n), .fz (arD As), .ow [], .un, .un, .un, .un]
  refine for_any pI (fun _ : Unit => [.fz (.int n), .fz (arD As), .ow [], .un, .un, .un, .un]) (fun rest _ => ∀ p ∈ rest, p ∈ As) ?_ ?_ _ () (fun _ h => h)
  · intro a rest _ hm X hX
    obtain ⟨b1, b2, b3⟩ := h.inn a (hm a List.mem_cons_self)
    have ra := hr a (hm a List.mem_cons_self)
    refine And.intro rfl ?_
    refine R_shortest_way.mk n As a.2 a.1 (fun v => r a.2 ≤ r v) h b2 (Nat.le_refl _) (by show ¬ r a.2 ≤ r a.1; omega) (fun i j hij hp => by have z : r i < r j := hr (i, j) hij; show r a.2 ≤ r j; have hp : r a.2 ≤ r i := hp; omega) ?_
    exact And.intro rfl (hX () fun p hp => hm p (List.mem_cons_of_mem _ hp))
  · intro _ _
    exact And.intro rfl hq
/-! the object -/
def homeF (n : Nat) (As : List (Nat × Nat)) : List (Str × D) := [("many", .int n), ("arrows", arD As)]
def homeD (n : Nat) (As : List (Nat × Nat)) : D := .ins "Home" (homeF n As)
inductive R_Home : List D → (List (Str × D) → Prop) → Prop
  | mk {Q : List (Str × D) → Prop} (n : Nat) (As : List (Nat × Nat)) (h : VAr n As) (hq : Q (homeF n (As.mergeSort pLe))) : R_Home [.int n, arD As] Q
abbrev N_Home___init__ : List Str := ["self", "many", "arrows"]
def t_Home___init__ : CS := (cSeq (cIfS (cNot (cB (cCall R_is_between (cConsE (cVar 1) (cConsE (cC (.int 1)) (cConsE (cC (.int 10)) cNilE))))))
  cNever
  cNext)
  (cSeq (cIfS (cNot (cB (cCall R_are_arrows (cConsE (cVar 1) (cConsE (cVar 2) cNilE)))))
  cNever
  cNext)
  (cSeq (cIfS (cB (c2 cNotN (cOf (cCall R_shortest_ring (cConsE (cVar 1) (cConsE (cVar 2) cNilE)))) (cOf (cC .non))))
  cNever
  cNext)
  (cSeq (cFldSet 0 "Home" "many" (cVar 1))
  (cFldSet 0 "Home" "arrows" (cF cTuple (cCons (cOf (cF cSorted (cCons (cSl 2) cNil))) cNil)))))))
theorem len_Home___init__ : ∀ ds Q, R_Home ds Q → ds.length + 1 = 3 := fun _ _ ⟨_, _, _, _⟩ => rfl
theorem pure_Home___init__ : ∀ x dx ds Q, R_Home ds Q → t_Home___init__ { nx := fun ρ => ∃ fs, ρ[0]? = some (.oi x dx "Home" fs) ∧ Q fs, rt := fun d ρ => d = .non ∧ ∃ fs, ρ[0]? = some (.oi x dx "Home" fs) ∧ Q fs } (Sl.oi x dx "Home" [] :: (ds.map Sl.fz ++ List.replicate (N_Home___init__.length - (ds.length + 1)) .un)) := fun x dx _ Q ⟨n, As, h, hq⟩ => by
  have hl := h.lo
  have hh := h.hi
  have s := sort_pairs As (szle (by have := h.len; omega))
  refine R_is_between.mk _ _ _ rfl ?_
  rw [show betD 1 10 (.int n) = true by simp [betD]; omega]
  refine R_are_arrows.mk n As h ?_
  refine R_shortest_ring.mk n As h ?_
  refine And.intro rfl (And.intro (Nat.lt_of_sub_eq_succ rfl) ?_)
  refine And.intro rfl (And.intro s.1 ?_)
  rw [s.2]
  refine And.intro rfl (And.intro (Nat.lt_of_sub_eq_succ rfl) ?_)
  exact ⟨_, rfl, hq⟩
end TA
namespace TA
open PySem PySem.Spec PySem.Calls PyProof.Rows L2 CL
/-! ### counting: tools -/
theorem band (a b : Nat) : Builtin.bitAnd (a : Int) (b : Int) = ((a &&& b : Nat) : Int) := PySem.W.os_band a b
theorem bor (a b : Nat) : Builtin.bitOr (a : Int) (b : Int) = ((a ||| b : Nat) : Int) := by
  have n1 : ∀ k : Nat, Builtin.bitNot (Builtin.bitNot (k : Int)) = (k : Int) := fun k => by unfold Builtin.bitNot; omega
  have n2 : ∀ k : Nat, decide (0 ≤ Builtin.bitNot (k : Int)) = false := fun k => by unfold Builtin.bitNot; rw [decide_eq_false]; omega
  unfold Builtin.bitOr Builtin.bitAnd
  rw [n2, n2]
  show Builtin.bitNot (Builtin.bitNot (((Builtin.bitNot (Builtin.bitNot (a : Int))).toNat ||| (Builtin.bitNot (Builtin.bitNot (b : Int))).toNat : Nat) : Int)) = _
  rw [n1, n1, n1, Int.toNat_natCast, Int.toNat_natCast]
theorem blow (a : Nat) : Builtin.bitAnd ((a + 1 : Nat) : Int) (-((a + 1 : Nat) : Int)) = ((a + 1 - ((a + 1) &&& a) : Nat) : Int) := by
  have h1 : Builtin.bitNot (-((a + 1 : Nat) : Int)) = (a : Int) := by unfold Builtin.bitNot; omega
  have h2 : decide (0 ≤ -((a + 1 : Nat) : Int)) = false := by rw [decide_eq_false]; omega
  have h3 : decide (0 ≤ ((a + 1 : Nat) : Int)) = true := by rw [decide_eq_true]; omega
  unfold Builtin.bitAnd
  rw [h2, h3]
  show ((a + 1 : Nat) : Int) - (((((a + 1 : Nat) : Int)).toNat &&& (Builtin.bitNot (-((a + 1 : Nat) : Int))).toNat : Nat) : Int) = _
  rw [h1, Int.toNat_natCast, Int.toNat_natCast]
  have := Nat.and_le_left (n := a + 1) (m := a)
  omega
theorem shl1 (k : Nat) : (1 : Int) * 2 ^ ((k : Int).toNat) = ((2 ^ k : Nat) : Int) := by
  rw [Int.toNat_natCast, Int.one_mul]; simp
theorem cpow1 {k : Nat} (h : k ≤ 1000) : CPow 1 (k : Int) := ⟨by omega, by omega, by decide⟩
theorem fld_many {n : Nat} {As : List (Nat × Nat)} {Q : D → Prop} (h : Q (.int n)) : cFld "Home" "many" (homeD n As) Q := ⟨rfl, by
  have e : (homeF n As).lookup ("many" : Str) = some (.int n) := by simp [homeF]
  rw [e]; exact h⟩
theorem fld_arrows {n : Nat} {As : List (Nat × Nat)} {Q : D → Prop} (h : Q (arD As)) : cFld "Home" "arrows" (homeD n As) Q := ⟨rfl, by
  have e : (homeF n As).lookup ("arrows" : Str) = some (arD As) := by
    have : (("arrows" : Str) == ("many" : Str)) = false := by decide
    simp [homeF, List.lookup, this]
  rw [e]; exact h⟩
/-! ### tied bits -/
def tiedB (As : List (Nat × Nat)) (i j : Nat) : Bool := decide ((i, j) ∈ As) || decide ((j, i) ∈ As)
def TB (n : Nat) (As : List (Nat × Nat)) (B : List Nat) : Prop := B.length = n ∧ ∀ i b, B[i]? = some b → ∀ j, b.testBit j = tiedB As i j
inductive R_tied_bits : List D → (D → Prop) → Prop
  | mk {Q : D → Prop} (n : Nat) (As : List (Nat × Nat)) (h : VAr n As) (hq : ∀ B, TB n As B → Q (.lst (B.map nI))) : R_tied_bits [homeD n As] Q
def bd_tied_bits_1 : CS := (cSeq (cAugIx 1 cOr (cSl 2) (cOf (c2 cShl (cOf (cC (.int 1))) (cSl 3))))
  (cAugIx 1 cOr (cSl 3) (cOf (c2 cShl (cOf (cC (.int 1))) (cSl 2)))))
abbrev lp_tied_bits_1 (C : CEnds) : List D → Ev → Prop := forL (gTup0 2 (gCons0 (gN 2) (gCons0 (gN 3) gNil0))) [2, 3] bd_tied_bits_1 C
abbrev N_tied_bits : List Str := ["home", "found", "one", "other"]
def t_tied_bits : CS := (cSeq (cOwn 1 (cRepN (cLst (cConsE (cC (.int 0)) cNilE)) (cOf (c1 (cFld "Home" "many") (cSl 0)))))
  (cSeq (cFor (cIS (c1 (cFld "Home" "arrows") (cSl 0))) (gTup0 2 (gCons0 (gN 2) (gCons0 (gN 3) gNil0))) [2, 3] bd_tied_bits_1)
  (cFrz [1] (cRet (cVar 1)))))
theorem len_tied_bits : ∀ ds Q, R_tied_bits ds Q → ds.length = 1 := fun _ _ ⟨_, _, _, _⟩ => rfl
theorem setbit (b k j : Nat) : (b ||| 2 ^ k).testBit j = (b.testBit j || decide (k = j)) := by
  rw [Nat.testBit_or, Nat.testBit_two_pow]
theorem TB.put {n : Nat} {As : List (Nat × Nat)} {B : List Nat} {p : Nat × Nat} (h : TB n As B) (h1 : p.1 < n) (h2 : p.2 < n) (h3 : p.1 ≠ p.2) :
    ∃ b1 b2, B[p.1]? = some b1 ∧ B[p.2]? = some b2 ∧ TB n (As ++ [p]) ((B.set p.1 (b1 ||| 2 ^ p.2)).set p.2 (b2 ||| 2 ^ p.1)) := by
  have l1 : p.1 < B.length := by rw [h.1]; exact h1
  have l2 : p.2 < B.length := by rw [h.1]; exact h2
  refine ⟨B[p.1], B[p.2], List.getElem?_eq_getElem l1, List.getElem?_eq_getElem l2, by rw [List.length_set, List.length_set]; exact h.1, fun i b hb j => ?_⟩
  have key : tiedB (As ++ [p]) i j = (tiedB As i j || (decide (p.1 = i) && decide (p.2 = j)) || (decide (p.2 = i) && decide (p.1 = j))) := by
    unfold tiedB
    rw [Bool.eq_iff_iff]
    simp only [List.mem_append, List.mem_singleton, Bool.or_eq_true, Bool.and_eq_true, decide_eq_true_eq, Prod.ext_iff]
    constructor
    · rintro ((h | h) | (h | h))
      · exact .inl (.inl (.inl h))
      · exact .inl (.inr ⟨h.1.symm, h.2.symm⟩)
      · exact .inl (.inl (.inr h))
      · exact .inr ⟨h.2.symm, h.1.symm⟩
    · rintro (((h | h) | h) | h)
      · exact .inl (.inl h)
      · exact .inr (.inl h)
      · exact .inl (.inr ⟨h.1.symm, h.2.symm⟩)
      · exact .inr (.inr ⟨h.2.symm, h.1.symm⟩)
  rw [key]
  by_cases e2 : p.2 = i
  · subst e2
    rw [List.getElem?_set_self (by rw [List.length_set]; exact l2)] at hb
    cases hb
    rw [setbit, h.2 p.2 _ (List.getElem?_eq_getElem l2)]
    simp [h3]
  · rw [List.getElem?_set_ne e2] at hb
    by_cases e1 : p.1 = i
    · subst e1
      rw [List.getElem?_set_self l1] at hb
      cases hb
      rw [setbit, h.2 p.1 _ (List.getElem?_eq_getElem l1)]
      simp [e2]
    · rw [List.getElem?_set_ne e1] at hb
      rw [h.2 i b hb]
      simp [e1, e2]
theorem ixN_nat {n k : Nat} (h : k < n) : ixN n (k : Int) = some k := by
  unfold ixN
  rw [if_pos (by omega), if_pos (by omega), Int.toNat_natCast]
theorem pure_tied_bits : ∀ ds Q, R_tied_bits ds Q → t_tied_bits { nx := fun _ => Q .non, rt := fun d _ => Q d } (envOf N_tied_bits ds) := fun _ Q ⟨n, As, h, hq⟩ => by
  have hh := h.hi
  refine And.intro (szle (Nat.le_of_ble_eq_true rfl)) (And.intro rfl ?_)
  refine fld_many ?_
  refine And.intro (by omega) (And.intro (by omega) (And.intro (szle (by show 1 * n ≤ _; omega)) ?_))
  refine And.intro rfl ?_
  refine fld_arrows ?_
  have e0 : (List.replicate n [D.int 0]).flatten = (List.replicate n 0).map nI := by
    rw [List.map_replicate, List.flatten_replicate_singleton]; rfl
  show lp_tied_bits_1 _ (As.map pI) [.fz (homeD n As), .ow (List.replicate n [D.int 0]).flatten, .un, .un]
  rw [e0]
  refine for_any pI (fun B : List Nat => [.fz (homeD n As), .ow (B.map nI), .un, .un]) (fun rest B => ∃ done, done ++ rest = As ∧ TB n done B) ?_ ?_ _ _ ⟨[], rfl, by simp, fun i b hb j => ?_⟩
  · rintro a rest B ⟨done, e, hB⟩ X hX
    obtain ⟨b1, b2, b3⟩ := h.inn a (by rw [← e]; simp)
    obtain ⟨u1, u2, e1, e2, hB'⟩ := hB.put b1 b2 b3
    have l1 : a.1 < B.length := by rw [hB.1]; exact b1
    have l2 : a.2 < B.length := by rw [hB.1]; exact b2
    refine And.intro rfl (And.intro rfl (And.intro rfl (And.intro (by omega) ?_)))
    show (match ((B.map nI)[a.1]? : Option D) with | some old => _ | none => False)
    rw [List.getElem?_map, e1]
    refine And.intro rfl (And.intro (cpow1 (by omega)) ?_)
    show (match ixN (B.map nI).length (a.1 : Int) with | some j => _ | none => False)
    rw [List.length_map, ixN_nat l1]
    show cAugIx 1 cOr (cSl 3) (cOf (c2 cShl (cOf (cC (.int 1))) (cSl 2))) _ [.fz (homeD n As), .ow ((B.map nI).set a.1 (D.int (Builtin.bitOr (u1 : Int) (1 * 2 ^ ((a.2 : Int).toNat))))), .fz (nI a.1), .fz (nI a.2)]
    rw [shl1, bor, show (B.map nI).set a.1 (D.int ((u1 ||| 2 ^ a.2 : Nat) : Int)) = (B.set a.1 (u1 ||| 2 ^ a.2)).map nI from (List.map_set (f := nI) (l := B) (i := a.1) (a := u1 ||| 2 ^ a.2)).symm]
    refine And.intro rfl (And.intro rfl (And.intro (by omega) ?_))
    show (match (((B.set a.1 (u1 ||| 2 ^ a.2)).map nI)[a.2]? : Option D) with | some old => _ | none => False)
    rw [List.getElem?_map, List.getElem?_set_ne b3, e2]
    refine And.intro rfl (And.intro (cpow1 (by omega)) ?_)
    show (match ixN ((B.set a.1 (u1 ||| 2 ^ a.2)).map nI).length (a.2 : Int) with | some j => _ | none => False)
    rw [List.length_map, List.length_set, ixN_nat l2]
    show X [.fz (homeD n As), .ow (((B.set a.1 (u1 ||| 2 ^ a.2)).map nI).set a.2 (D.int (Builtin.bitOr (u2 : Int) (1 * 2 ^ ((a.1 : Int).toNat))))), .un, .un]
    rw [shl1, bor, show ((B.set a.1 (u1 ||| 2 ^ a.2)).map nI).set a.2 (D.int ((u2 ||| 2 ^ a.1 : Nat) : Int)) = ((B.set a.1 (u1 ||| 2 ^ a.2)).set a.2 (u2 ||| 2 ^ a.1)).map nI from (List.map_set (f := nI) (i := a.2) (a := u2 ||| 2 ^ a.1)).symm]
    exact hX _ ⟨done ++ [a], by rw [← e]; simp, hB'⟩
  · rintro B ⟨done, e, hB⟩
    rw [List.append_nil] at e
    subst e
    exact hq B hB
  · rw [List.getElem?_replicate] at hb
    split at hb
    · cases hb; simp [tiedB]
    · cases hb
/-! ### untied lots -/
theorem enum_pI : ∀ (k : Nat) (B : List Nat), enumD k (B.map nI) = ((List.range' k B.length).zip B).map pI
  | _, [] => rfl
  | k, b :: B => by
    rw [List.map_cons, List.length_cons, List.range'_succ]
    show D.tup [.int (k : Nat), nI b] :: enumD (k + 1) (B.map nI) = _
    rw [enum_pI (k + 1) B]; rfl
/-- U tells of each lot whether no two of its things are tied -/
structure UO (n : Nat) (As : List (Nat × Nat)) (U : Nat → Bool) : Prop where
  z : U 0 = true
  s : ∀ k m b, k < n → m < 2 ^ k → (∀ j, Nat.testBit b j = tiedB As k j) → U (2 ^ k + m) = (U m && decide (b &&& m = 0))
inductive R_untied_lots : List D → (D → Prop) → Prop
  | mk {Q : D → Prop} (n : Nat) (As : List (Nat × Nat)) (h : VAr n As) (U : Nat → Bool) (hU : UO n As U) (hq : Q (.lst ((List.range (2 ^ n)).map fun l => .bl (U l)))) : R_untied_lots [homeD n As] Q
abbrev lc_untied_lots_1 (Z : List D → Ev → Prop) : List D → List D → Ev → Prop := lcL (gN 4) cYes (cAndV (c2 cIx (cSl 1) (cSl 4)) (c2 cEq (cOf (c2 cAnd (cSl 3) (cSl 4))) (cOf (cC (.int 0))))) [4] Z
def bd_untied_lots_1 : CS := (cSet 1 (c2 cAdd (cSl 1) (cOf (cLc (cR1 (cOf (c2 cShl (cOf (cC (.int 1))) (cSl 2)))) (gN 4) cYes (cAndV (c2 cIx (cSl 1) (cSl 4)) (c2 cEq (cOf (c2 cAnd (cSl 3) (cSl 4))) (cOf (cC (.int 0))))) [4]))))
abbrev lp_untied_lots_1 (C : CEnds) : List D → Ev → Prop := forL (gTup0 2 (gCons0 (gN 2) (gCons0 (gN 3) gNil0))) [2, 3, 4] bd_untied_lots_1 C
abbrev N_untied_lots : List Str := ["home", "found", "thing", "ties", "lot"]
def t_untied_lots : CS := (cSeq (cSet 1 (cLst (cConsE (cC (.bl true)) cNilE)))
  (cSeq (cFor (cEn (cCall R_tied_bits (cConsE (cVar 0) cNilE))) (gTup0 2 (gCons0 (gN 2) (gCons0 (gN 3) gNil0))) [2, 3, 4] bd_untied_lots_1)
  (cRet (cVar 1))))
theorem len_untied_lots : ∀ ds Q, R_untied_lots ds Q → ds.length = 1 := fun _ _ ⟨_, _, _, _, _, _⟩ => rfl
theorem pow10 {k : Nat} (h : k ≤ 10) : 2 ^ k ≤ 1024 := Nat.pow_le_pow_right (by omega) h
theorem shl_rng {k : Nat} (h : k ≤ 10) : -(2 ^ 62) ≤ (1 : Int) * 2 ^ ((k : Int).toNat) ∧ (1 : Int) * 2 ^ ((k : Int).toNat) < 2 ^ 62 := by
  rw [shl1]
  have := pow10 h
  generalize 2 ^ k = z at this
  omega
theorem pure_untied_lots : ∀ ds Q, R_untied_lots ds Q → t_untied_lots { nx := fun _ => Q .non, rt := fun d _ => Q d } (envOf N_untied_lots ds) := fun _ Q ⟨n, As, h, U, hU, hq⟩ => by
  have hh := h.hi
  refine And.intro (szle (Nat.le_of_ble_eq_true rfl)) ?_
  refine R_tied_bits.mk n As h fun B hB => ?_
  show lp_untied_lots_1 _ (enumD 0 (B.map nI)) [.fz (homeD n As), .fz (.lst [.bl true]), .un, .un, .un]
  rw [enum_pI, ← List.range_eq_range', hB.1]
  have e0 : [D.bl true] = (List.range (2 ^ 0)).map fun l => D.bl (U l) := by simp [hU.z]
  rw [e0]
  refine for_any pI (fun k : Nat => [.fz (homeD n As), .fz (.lst ((List.range (2 ^ k)).map fun l => D.bl (U l))), .un, .un, .un]) (fun rest k => k ≤ n ∧ ((List.range n).zip B).drop k = rest) ?_ ?_ _ 0 ⟨by omega, rfl⟩
  · rintro ⟨i, b⟩ rest k ⟨hk, e⟩ X hX
    have hk' : k < n := by
      have := congrArg List.length e
      simp [hB.1] at this
      omega
    have hlz : k < ((List.range n).zip B).length := by simp [hB.1]; exact hk'
    rw [List.drop_eq_getElem_cons hlz] at e
    injection e with e1 e2
    have e1' : i = k ∧ b = B[k]'(by rw [hB.1]; exact hk') := by
      simp at e1
      exact ⟨e1.1.symm, e1.2.symm⟩
    obtain ⟨rfl, eb⟩ := e1'
    have hb : ∀ j, b.testBit j = tiedB As i j := hB.2 i b (by rw [eb]; exact List.getElem?_eq_getElem _)
    have hp : 2 ^ i ≤ 1024 := pow10 (by omega)
    refine And.intro rfl (And.intro rfl (And.intro rfl (And.intro (cpow1 (by omega)) ?_)))
    refine And.intro (shl_rng (by omega)).1 (And.intro (shl_rng (by omega)).2 ?_)
    show lc_untied_lots_1 _ (rngD 0 ((1 * 2 ^ ((i : Int).toNat) : Int).toNat)) [] [.fz (homeD n As), .fz (.lst ((List.range (2 ^ i)).map fun l => D.bl (U l))), .fz (nI i), .fz (nI b), .un]
    rw [shl1, Int.toNat_natCast, rngD_0]
    refine lc_pure nI (fun _ => true) (fun m => D.bl (U m && decide (b &&& m = 0))) _ _ (fun m hm Y Z hY _ => ?_) (szle (by simp; omega)) ?_
    · have hm' : m < 2 ^ i := List.mem_range.mp hm
      refine And.intro rfl (And.intro rfl ?_)
      show (match (atI ((List.range (2 ^ i)).map fun l => D.bl (U l)) (m : Int)) with | some d => _ | none => False)
      rw [atI_nat _ m _ rfl, List.getElem?_map, List.getElem?_range hm']
      have hY := hY rfl
      show (match D.bl (U m) with | .bl true => _ | .bl false => _ | _ => False)
      cases hu : U m with
      | false => rw [hu, Bool.false_and] at hY; exact hY
      | true =>
        rw [hu, Bool.true_and] at hY
        refine And.intro rfl (And.intro rfl (And.intro (plain_int 30 _) (And.intro (plain_int 30 _) ?_)))
        show Y (.bl (eqD (.int (Builtin.bitAnd (b : Int) (m : Int))) (.int 0))) _
        rw [eqD_int, band, show decide (((b &&& m : Nat) : Int) = 0) = decide (b &&& m = 0) by simp]
        exact hY
    · rw [List.filter_eq_self.mpr (fun _ _ => rfl)]
      have eU : ((List.range (2 ^ i)).map fun l => D.bl (U l)) ++ ((List.range (2 ^ i)).map fun m => D.bl (U m && decide (b &&& m = 0))) = (List.range (2 ^ (i + 1))).map fun l => D.bl (U l) := by
        have e2 : 2 ^ (i + 1) = 2 ^ i + 2 ^ i := by omega
        rw [e2, List.range_add, List.map_append, List.map_map]
        congr 1
        apply List.map_congr_left
        intro m hm
        show _ = D.bl (U (2 ^ i + m))
        rw [hU.s i m b hk' (List.mem_range.mp hm) hb]
      refine And.intro (szle (by simp; omega)) ?_
      show X [.fz (homeD n As), .fz (.lst (((List.range (2 ^ i)).map fun l => D.bl (U l)) ++ ((List.range (2 ^ i)).map fun m => D.bl (U m && decide (b &&& m = 0))))), .un, .un, .un]
      rw [eU]
      exact hX (i + 1) ⟨hk', e2⟩
  · rintro k ⟨hk, e⟩
    have : k = n := by
      have := congrArg List.length e
      simp [hB.1] at this
      omega
    subst this
    exact hq
end TA
namespace TA
open PySem PySem.Spec PySem.Calls PyProof.Rows L2 CL
/-! ### parts -/
/-- the parts of a lot from p down, nought left out -/
def downM (lot : Nat) : Nat → List Nat
  | 0 => []
  | p + 1 => (p + 1) :: downM lot (p &&& lot)
  termination_by p => p
  decreasing_by have := Nat.and_le_left (n := p) (m := lot); omega
theorem downM_z (lot : Nat) : downM lot 0 = [] := by unfold downM; rfl
theorem downM_s (lot p : Nat) : downM lot (p + 1) = (p + 1) :: downM lot (p &&& lot) := by rw [downM]
theorem downM_len (lot : Nat) : ∀ p, (downM lot p).length ≤ p := fun p => by
  induction p using Nat.strongRecOn with
  | _ p ih =>
    cases p with
    | zero => rw [downM_z]; exact Nat.le_refl _
    | succ p =>
      rw [downM_s, List.length_cons]
      have h1 := Nat.and_le_left (n := p) (m := lot)
      have := ih (p &&& lot) (by omega)
      omega
inductive R_parts_of : List D → (D → Prop) → Prop
  | mk {Q : D → Prop} (lot : Nat) (h : lot ≤ 1024) (hq : Q (.lst ((downM lot lot).map nI))) : R_parts_of [nI lot] Q
def bd_parts_of_1 : CS := (cSeq (cApp 1 (cVar 2))
  (cSet 2 (c2 cAnd (cOf (c2 cSub (cSl 2) (cOf (cC (.int 1))))) (cSl 0))))
abbrev N_parts_of : List Str := ["lot", "found", "part"]
def t_parts_of : CS := (cSeq (cOwn 1 (cLst cNilE))
  (cSeq (cSet 2 (cVar 0))
  (cSeq (cWhile (cB (c2 cGt (cSl 2) (cOf (cC (.int 0))))) bd_parts_of_1)
  (cFrz [1] (cRet (cVar 1))))))
theorem len_parts_of : ∀ ds Q, R_parts_of ds Q → ds.length = 1 := fun _ _ ⟨_, _, _⟩ => rfl
theorem pure_parts_of : ∀ ds Q, R_parts_of ds Q → t_parts_of { nx := fun _ => Q .non, rt := fun d _ => Q d } (envOf N_parts_of ds) := fun _ Q ⟨lot, h, hq⟩ => by
  refine And.intro (szle (Nat.zero_le _)) ?_
  refine Exists.intro (fun m ρ => ∃ done part, ρ = [.fz (nI lot), .ow (done.map nI), .fz (nI part)] ∧ done ++ downM lot part = downM lot lot ∧ m = part) (And.intro ⟨_, [], lot, rfl, rfl, rfl⟩ ?_)
  rintro m ρ ⟨done, part, rfl, e, rfl⟩
  refine And.intro rfl ?_
  show (if decide ((0 : Int) < (m : Int)) = true then _ else _)
  cases m with
  | zero =>
    rw [if_neg (by simp)]
    rw [downM_z, List.append_nil] at e
    subst e
    exact hq
  | succ p =>
    rw [if_pos (decide_eq_true (by omega))]
    have hl := downM_len lot lot
    have el := congrArg List.length e
    rw [List.length_append, downM_s, List.length_cons] at el
    refine And.intro rfl (And.intro (szlt (by rw [List.length_map]; omega)) ?_)
    refine And.intro rfl (And.intro rfl ?_)
    have h1 := Nat.and_le_left (n := p) (m := lot)
    refine Exists.intro (p &&& lot) (And.intro (by omega) ⟨done ++ [p + 1], p &&& lot, ?_, ?_, rfl⟩)
    · show [Sl.fz (nI lot), Sl.ow (done.map nI ++ [nI (p + 1)]), Sl.fz (D.int (Builtin.bitAnd (((p + 1 : Nat) : Int) - 1) (lot : Int)))] = _
      rw [show ((p + 1 : Nat) : Int) - 1 = (p : Int) by omega, band, List.map_append]; rfl
    · rw [← e, downM_s, List.append_assoc]; rfl
/-! ### signs -/
structure SO (n : Nat) (sg : Nat → Int) : Prop where
  z : sg 0 = -1
  s : ∀ k m, k < n → m < 2 ^ k → sg (2 ^ k + m) = - sg m
inductive R_signs_of_lots : List D → (D → Prop) → Prop
  | mk {Q : D → Prop} (n : Nat) (h : n ≤ 10) (sg : Nat → Int) (hs : SO n sg) (hq : Q (.lst ((List.range (2 ^ n)).map fun l => .int (sg l)))) : R_signs_of_lots [.int n] Q
abbrev lc_signs_of_lots_1 (Z : List D → Ev → Prop) : List D → List D → Ev → Prop := lcL (gN 3) cYes (c1 cNeg (cSl 3)) [3] Z
def bd_signs_of_lots_1 : CS := (cSet 1 (c2 cAdd (cSl 1) (cOf (cLc (cIS (cVar 1)) (gN 3) cYes (c1 cNeg (cSl 3)) [3]))))
abbrev lp_signs_of_lots_1 (C : CEnds) : List D → Ev → Prop := forL (gN 2) [2, 3] bd_signs_of_lots_1 C
abbrev N_signs_of_lots : List Str := ["many", "found", "_", "sign"]
def t_signs_of_lots : CS := (cSeq (cSet 1 (cLst (cConsE (c1 cNeg (cOf (cC (.int 1)))) cNilE)))
  (cSeq (cFor (cR1 (cSl 0)) (gN 2) [2, 3] bd_signs_of_lots_1)
  (cRet (cVar 1))))
theorem len_signs_of_lots : ∀ ds Q, R_signs_of_lots ds Q → ds.length = 1 := fun _ _ ⟨_, _, _, _, _⟩ => rfl
theorem pure_signs_of_lots : ∀ ds Q, R_signs_of_lots ds Q → t_signs_of_lots { nx := fun _ => Q .non, rt := fun d _ => Q d } (envOf N_signs_of_lots ds) := fun _ Q ⟨n, h, sg, hs, hq⟩ => by
  refine And.intro (szle (Nat.le_of_ble_eq_true rfl)) ?_
  refine And.intro rfl (And.intro (by omega) (And.intro (by omega) ?_))
  show lp_signs_of_lots_1 _ (rngD 0 ((n : Int).toNat)) [.fz (.int n), .fz (.lst [D.int (-1)]), .un, .un]
  rw [Int.toNat_natCast, rngD_0, show [D.int (-1)] = (List.range (2 ^ 0)).map fun l => D.int (sg l) by simp [hs.z]]
  refine for_any nI (fun k : Nat => [.fz (.int n), .fz (.lst ((List.range (2 ^ k)).map fun l => D.int (sg l))), .un, .un]) (fun rest k => k + rest.length = n) ?_ ?_ _ 0 (by show 0 + (List.range n).length = n; rw [List.length_range]; omega)
  · intro a rest k hk X hX
    rw [List.length_cons] at hk
    have hp : 2 ^ k ≤ 1024 := pow10 (by omega)
    refine And.intro rfl ?_
    refine lc_pure (fun l => D.int (sg l)) (fun _ => true) (fun l => D.int (- sg l)) [.fz (.int n), .fz (.lst ((List.range (2 ^ k)).map fun l => D.int (sg l))), .fz (nI a), .un] (List.range (2 ^ k)) (fun m hm Y Z hY _ => ?_) (szle (by rw [List.length_range]; omega)) ?_
    · exact And.intro rfl (hY rfl)
    · rw [List.filter_eq_self.mpr (fun _ _ => rfl)]
      have eU : ((List.range (2 ^ k)).map fun l => D.int (sg l)) ++ ((List.range (2 ^ k)).map fun m => D.int (- sg m)) = (List.range (2 ^ (k + 1))).map fun l => D.int (sg l) := by
        have e2 : 2 ^ (k + 1) = 2 ^ k + 2 ^ k := by omega
        rw [e2, List.range_add, List.map_append, List.map_map]
        congr 1
        apply List.map_congr_left
        intro m hm
        show _ = D.int (sg (2 ^ k + m))
        rw [hs.s k m (by omega) (List.mem_range.mp hm)]
      refine And.intro (szle (by simp; omega)) ?_
      show X [.fz (.int n), .fz (.lst (((List.range (2 ^ k)).map fun l => D.int (sg l)) ++ ((List.range (2 ^ k)).map fun m => D.int (- sg m)))), .un, .un]
      rw [eU]
      exact hX (k + 1) (by omega)
  · intro k hk
    have : k = n := by simpa using hk
    subst this
    exact hq
/-! ### numbers of standings -/
structure AO (n : Nat) (U : Nat → Bool) (sg a : Nat → Int) : Prop where
  z : a 0 = 1
  s : ∀ lot, 0 < lot → lot < 2 ^ n → a lot = (((downM lot lot).filter U).map fun p => a (lot - p) * sg p).sum
  b : ∀ lot, lot < 2 ^ n → sg lot = 1 ∨ sg lot = -1
inductive R_raw_many_standings : List D → (D → Prop) → Prop
  | mk {Q : D → Prop} (n : Nat) (As : List (Nat × Nat)) (h : VAr n As) (U : Nat → Bool) (hU : UO n As U) (sg : Nat → Int) (hs : SO n sg) (a : Nat → Int) (ha : AO n U sg a) (hq : Q (.int (a (2 ^ n - 1)))) : R_raw_many_standings [homeD n As] Q
abbrev lc_raw_many_standings_1 (Z : List D → Ev → Prop) : List D → List D → Ev → Prop := lcL (gN 5) (cB (c2 cIx (cSl 1) (cSl 5))) (c2 cMul (cOf (c2 cIx (cSl 3) (cOf (c2 cSub (cSl 4) (cSl 5))))) (cOf (c2 cIx (cSl 2) (cSl 5)))) [5] Z
def bd_raw_many_standings_1 : CS := (cApp 3 (cF cSum (cCons (cOf (cLc (cIS (cCall R_parts_of (cConsE (cVar 4) cNilE))) (gN 5) (cB (c2 cIx (cSl 1) (cSl 5))) (c2 cMul (cOf (c2 cIx (cSl 3) (cOf (c2 cSub (cSl 4) (cSl 5))))) (cOf (c2 cIx (cSl 2) (cSl 5)))) [5])) cNil)))
abbrev lp_raw_many_standings_1 (C : CEnds) : List D → Ev → Prop := forL (gN 4) [4, 5] bd_raw_many_standings_1 C
abbrev N_raw_many_standings : List Str := ["home", "untied", "signs", "found", "lot", "part"]
def t_raw_many_standings : CS := (cSeq (cSet 1 (cCall R_untied_lots (cConsE (cVar 0) cNilE)))
  (cSeq (cSet 2 (cCall R_signs_of_lots (cConsE (c1 (cFld "Home" "many") (cSl 0)) cNilE)))
  (cSeq (cOwn 3 (cLst (cConsE (cC (.int 1)) cNilE)))
  (cSeq (cFor (cR2 (cOf (cC (.int 1))) (cOf (c2 cShl (cOf (cC (.int 1))) (cOf (c1 (cFld "Home" "many") (cSl 0)))))) (gN 4) [4, 5] bd_raw_many_standings_1)
  (cRet (c2 cIx (cSl 3) (cOf (c1 cNeg (cOf (cC (.int 1)))))))))))
theorem len_raw_many_standings : ∀ ds Q, R_raw_many_standings ds Q → ds.length = 1 := fun _ _ h => by cases h; rfl
theorem downM_mem (lot : Nat) : ∀ q, q &&& lot = q → ∀ p ∈ downM lot q, 0 < p ∧ p ≤ q ∧ p &&& lot = p := fun q => by
  induction q using Nat.strongRecOn with
  | _ q ih =>
    intro hq p hp
    cases q with
    | zero => rw [downM_z] at hp; cases hp
    | succ q =>
      rw [downM_s] at hp
      have h1 := Nat.and_le_left (n := q) (m := lot)
      rcases List.mem_cons.mp hp with e | hp
      · subst e; exact ⟨by omega, Nat.le_refl _, hq⟩
      · obtain ⟨a, b, c⟩ := ih (q &&& lot) (by omega) (by rw [Nat.and_assoc, Nat.and_self]) p hp
        exact ⟨a, by omega, c⟩
theorem rng1_map (n : Nat) : rngD 1 n = (List.range n).map fun k => nI (k + 1) := by
  have := rngD_map 1 n
  rw [show ((1 : Nat) : Int) = 1 from rfl] at this
  rw [this, List.range'_eq_map_range, List.map_map]
  apply List.map_congr_left
  intro k _
  show nI (1 + k) = nI (k + 1)
  rw [Nat.add_comm]
theorem pure_raw_many_standings : ∀ ds Q, R_raw_many_standings ds Q → t_raw_many_standings { nx := fun _ => Q .non, rt := fun d _ => Q d } (envOf N_raw_many_standings ds) := fun _ Q ⟨n, As, h, U, hU, sg, hs, a, ha, hq⟩ => by
  have hh := h.hi
  have hp : 2 ^ n ≤ 1024 := pow10 hh
  have hp1 : 0 < 2 ^ n := Nat.two_pow_pos n
  refine R_untied_lots.mk n As h U hU ?_
  refine And.intro rfl ?_
  refine fld_many ?_
  refine R_signs_of_lots.mk n hh sg hs ?_
  refine And.intro (szle (Nat.le_of_ble_eq_true rfl)) ?_
  refine And.intro rfl ?_
  refine fld_many ?_
  refine And.intro (cpow1 (by omega)) ?_
  refine And.intro ⟨by decide, by decide, (shl_rng hh).1, (shl_rng hh).2⟩ ?_
  show lp_raw_many_standings_1 _ (rngD 1 (((1 : Int) * 2 ^ ((n : Int).toNat) - 1).toNat)) [.fz (homeD n As), .fz (.lst ((List.range (2 ^ n)).map fun l => .bl (U l))), .fz (.lst ((List.range (2 ^ n)).map fun l => .int (sg l))), .ow [D.int 1], .un, .un]
  rw [shl1, show (((2 ^ n : Nat) : Int) - 1).toNat = 2 ^ n - 1 by omega, rng1_map, show [D.int 1] = (List.range (0 + 1)).map fun l => D.int (a l) by simp [ha.z]]
  refine for_any (fun k => nI (k + 1)) (fun k : Nat => [.fz (homeD n As), .fz (.lst ((List.range (2 ^ n)).map fun l => .bl (U l))), .fz (.lst ((List.range (2 ^ n)).map fun l => .int (sg l))), .ow ((List.range (k + 1)).map fun l => D.int (a l)), .un, .un])
    (fun rest k => (List.range (2 ^ n - 1)).drop k = rest ∧ k ≤ 2 ^ n - 1) ?_ ?_ _ 0 ⟨rfl, by omega⟩
  · rintro j rest k ⟨e, hk⟩ X hX
    have hk' : k < 2 ^ n - 1 := by
      have := congrArg List.length e
      simp at this
      omega
    rw [List.drop_eq_getElem_cons (by simpa using hk')] at e
    injection e with e1 e2
    have e1 : k = j := by simpa using e1
    subst e1
    refine And.intro rfl ?_
    refine R_parts_of.mk (k + 1) (by omega) ?_
    refine lc_pure nI U (fun p => D.int (a (k + 1 - p) * sg p)) [.fz (homeD n As), .fz (.lst ((List.range (2 ^ n)).map fun l => .bl (U l))), .fz (.lst ((List.range (2 ^ n)).map fun l => .int (sg l))), .ow ((List.range (k + 1)).map fun l => D.int (a l)), .fz (nI (k + 1)), .un] _ (fun p hm Y Z hY hZ => ?_) (szle (by have := downM_len (k + 1) (k + 1); omega)) ?_
    · obtain ⟨p1, p2, p3⟩ := downM_mem (k + 1) (k + 1) (Nat.and_self _) p hm
      refine And.intro rfl (And.intro rfl ?_)
      show (match (atI ((List.range (2 ^ n)).map fun l => D.bl (U l)) (p : Int)) with | some d => _ | none => False)
      rw [atI_nat _ p _ rfl, List.getElem?_map, List.getElem?_range (by omega)]
      show (if U p = true then _ else _)
      cases hu : U p with
      | false => rw [if_neg (by simp)]; exact hZ hu
      | true =>
        rw [if_pos rfl]
        refine And.intro rfl (And.intro rfl (And.intro rfl ?_))
        show (match (atI ((List.range (k + 1)).map fun l => D.int (a l)) (((k + 1 : Nat) : Int) - (p : Int))) with | some d => _ | none => False)
        rw [atI_nat _ (k + 1 - p) _ (by omega), List.getElem?_map, List.getElem?_range (by omega)]
        refine And.intro rfl (And.intro rfl ?_)
        show (match (atI ((List.range (2 ^ n)).map fun l => D.int (sg l)) (p : Int)) with | some d => _ | none => False)
        rw [atI_nat _ p _ rfl, List.getElem?_map, List.getElem?_range (by omega)]
        refine And.intro (.inr ?_) (hY hu)
        rcases ha.b p (by omega) with z | z <;> rw [z] <;> decide
    · have e3 : ((downM (k + 1) (k + 1)).filter U).map (fun p => D.int (a (k + 1 - p) * sg p)) = (((downM (k + 1) (k + 1)).filter U).map fun p => a (k + 1 - p) * sg p).map D.int := by rw [List.map_map]; rfl
      rw [e3]
      show (match intsOf ((((downM (k + 1) (k + 1)).filter U).map fun p => a (k + 1 - p) * sg p).map D.int) with | some is => _ | none => False)
      rw [intsOf_map]
      refine And.intro (szlt (by simp; omega)) ?_
      have := hX (k + 1) ⟨e2, by omega⟩
      rw [List.range_succ, List.map_append, List.map_singleton, ha.s (k + 1) (by omega) (by omega)] at this
      exact this
  · rintro k ⟨e, hk⟩
    have hk' : k = 2 ^ n - 1 := by
      have := congrArg List.length e
      simp at this
      omega
    subst hk'
    refine And.intro rfl ?_
    show (match (atI ((List.range (2 ^ n - 1 + 1)).map fun l => D.int (a l)) (-1)) with | some d => Q d | none => False)
    have : atI ((List.range (2 ^ n - 1 + 1)).map fun l => D.int (a l)) (-1) = some (D.int (a (2 ^ n - 1))) := by
      unfold atI ixN
      rw [if_neg (by decide), if_pos (by simp; omega)]
      show ((List.range (2 ^ n - 1 + 1)).map fun l => D.int (a l))[((-1 : Int) + (((List.range (2 ^ n - 1 + 1)).map fun l => D.int (a l)).length : Nat)).toNat]? = _
      rw [List.length_map, List.length_range, show ((-1 : Int) + ((2 ^ n - 1 + 1 : Nat) : Int)).toNat = 2 ^ n - 1 by omega, List.getElem?_map, List.getElem?_range (by omega)]
      rfl
    rw [this]
    exact hq
inductive R_many_standings : List D → (D → Prop) → Prop
  | mk {Q : D → Prop} (n : Nat) (As : List (Nat × Nat)) (h : VAr n As) (U : Nat → Bool) (hU : UO n As U) (sg : Nat → Int) (hs : SO n sg) (a : Nat → Int) (ha : AO n U sg a) (hq : Q (.int (a (2 ^ n - 1)))) : R_many_standings [homeD n As] Q
abbrev N_many_standings : List Str := ["home"]
def t_many_standings : CS := (cRet (cCall R_raw_many_standings (cConsE (cVar 0) cNilE)))
theorem len_many_standings : ∀ ds Q, R_many_standings ds Q → ds.length = 1 := fun _ _ h => by cases h; rfl
theorem pure_many_standings : ∀ ds Q, R_many_standings ds Q → t_many_standings { nx := fun _ => Q .non, rt := fun d _ => Q d } (envOf N_many_standings ds) := fun _ Q ⟨n, As, h, U, hU, sg, hs, a, ha, hq⟩ =>
  R_raw_many_standings.mk n As h U hU sg hs a ha hq
end TA
namespace TA
open PySem PySem.Spec PySem.Calls PyProof.Rows L2 CL
/-! ### ways to part -/
def low (lot : Nat) : Nat := lot - (lot &&& (lot - 1))
structure WO (n : Nat) (U : Nat → Bool) (W : Nat → Nat → Int) : Prop where
  z : ∀ i, i ≤ n → W 0 i = if i = 0 then 1 else 0
  s0 : ∀ lot, 0 < lot → lot < 2 ^ n → W lot 0 = 0
  s : ∀ lot i, 0 < lot → lot < 2 ^ n → i < n → W lot (i + 1) = (((downM lot lot).filter fun p => decide (0 < p &&& low lot) && U p).map fun p => W (lot - p) i).sum
def rowD (n : Nat) (c : Nat → Int) : List D := (List.range (n + 1)).map fun i => D.int (c i)
theorem enum_range (f : Nat → D) : ∀ n k : Nat, enumD k ((List.range' k n).map f) = (List.range' k n).map fun i => D.tup [nI i, f i]
  | 0, k => rfl
  | n + 1, k => by
    rw [List.range'_succ, List.map_cons, List.map_cons]
    show D.tup [.int (k : Nat), f k] :: enumD (k + 1) ((List.range' (k + 1) n).map f) = _
    rw [enum_range f n (k + 1)]; rfl
theorem enum_rng (f : Nat → D) (n : Nat) : enumD 0 ((List.range n).map f) = (List.range n).map fun i => D.tup [nI i, f i] := by
  rw [List.range_eq_range']; exact enum_range f n 0
theorem row_len (n : Nat) (c : Nat → Int) : (rowD n c).length = n + 1 := by unfold rowD; simp
theorem row_get {n : Nat} {c : Nat → Int} {i : Nat} (h : i ≤ n) : (rowD n c)[i]? = some (.int (c i)) := by
  unfold rowD; rw [List.getElem?_map, List.getElem?_range (by omega)]; rfl
theorem row_set {n : Nat} {c : Nat → Int} {i : Nat} (h : i ≤ n) (v : Int) : (rowD n c).set i (.int v) = rowD n fun k => if k = i then v else c k := by
  apply List.ext_getElem?
  intro k
  by_cases hk : k ≤ n
  · rw [row_get hk]
    by_cases e : k = i
    · subst e
      rw [List.getElem?_set_self (by rw [row_len]; omega), if_pos rfl]
    · rw [List.getElem?_set_ne (Ne.symm e), row_get hk, if_neg e]
  · rw [List.getElem?_eq_none (by rw [List.length_set, row_len]; omega), List.getElem?_eq_none (by rw [row_len]; omega)]
theorem row_congr {n : Nat} {c c' : Nat → Int} (h : ∀ i, i ≤ n → c i = c' i) : rowD n c = rowD n c' := by
  unfold rowD
  apply List.map_congr_left
  intro i hi
  rw [h i (by have := List.mem_range.mp hi; omega)]
inductive R_ways_to_part : List D → (D → Prop) → Prop
  | mk {Q : D → Prop} (n : Nat) (As : List (Nat × Nat)) (h : VAr n As) (U : Nat → Bool) (hU : UO n As U) (W : Nat → Nat → Int) (hW : WO n U W) (hq : Q (.lst (rowD n (W (2 ^ n - 1))))) : R_ways_to_part [homeD n As] Q
def bd_ways_to_part_1 : CS := (cAugIx 5 cAddI (cOf (c2 cAdd (cSl 7) (cOf (cC (.int 1))))) (cSl 8))
abbrev lp_ways_to_part_1 (C : CEnds) : List D → Ev → Prop := forL (gTup0 2 (gCons0 (gN 7) (gCons0 (gN 8) gNil0))) [7, 8] bd_ways_to_part_1 C
def bd_ways_to_part_2 : CS := (cIfS (cAndT (cB (c2 cGt (cOf (c2 cAnd (cSl 6) (cSl 4))) (cOf (cC (.int 0))))) (cB (c2 cIx (cSl 1) (cSl 6))))
  (cFor (cEn (cSlice (cOf (c2 cIx (cSl 2) (cOf (c2 cSub (cSl 3) (cSl 6))))) cNoP (cSoP (cOf (c1 cNeg (cOf (cC (.int 1)))))))) (gTup0 2 (gCons0 (gN 7) (gCons0 (gN 8) gNil0))) [7, 8] bd_ways_to_part_1)
  cNext)
abbrev lp_ways_to_part_2 (C : CEnds) : List D → Ev → Prop := forL (gN 6) [6, 7, 8] bd_ways_to_part_2 C
def bd_ways_to_part_3 : CS := (cSeq (cSet 4 (c2 cAnd (cSl 3) (cOf (c1 cNeg (cSl 3)))))
  (cSeq (cOwn 5 (cRepN (cLst (cConsE (cC (.int 0)) cNilE)) (cOf (c2 cAdd (cOf (c1 (cFld "Home" "many") (cSl 0))) (cOf (cC (.int 1)))))))
  (cSeq (cFor (cIS (cCall R_parts_of (cConsE (cVar 3) cNilE))) (gN 6) [6, 7, 8] bd_ways_to_part_2)
  (cFrz [5] (cApp 2 (cVar 5))))))
abbrev lp_ways_to_part_3 (C : CEnds) : List D → Ev → Prop := forL (gN 3) [3, 4, 5, 6, 7, 8] bd_ways_to_part_3 C
abbrev N_ways_to_part : List Str := ["home", "untied", "found", "lot", "least", "counts", "part", "many", "ways"]
def t_ways_to_part : CS := (cSeq (cSet 1 (cCall R_untied_lots (cConsE (cVar 0) cNilE)))
  (cSeq (cOwn 2 (cLst (cConsE (c2 cAdd (cOf (cLst (cConsE (cC (.int 1)) cNilE))) (cOf (cRepN (cLst (cConsE (cC (.int 0)) cNilE)) (cOf (c1 (cFld "Home" "many") (cSl 0)))))) cNilE)))
  (cSeq (cFor (cR2 (cOf (cC (.int 1))) (cOf (c2 cShl (cOf (cC (.int 1))) (cOf (c1 (cFld "Home" "many") (cSl 0)))))) (gN 3) [3, 4, 5, 6, 7, 8] bd_ways_to_part_3)
  (cRet (c2 cIx (cSl 2) (cOf (c1 cNeg (cOf (cC (.int 1))))))))))
theorem len_ways_to_part : ∀ ds Q, R_ways_to_part ds Q → ds.length = 1 := fun _ _ h => by cases h; rfl
def wU (n : Nat) (U : Nat → Bool) : Sl := .fz (.lst ((List.range (2 ^ n)).map fun l => .bl (U l)))
def wF (n : Nat) (W : Nat → Nat → Int) (k : Nat) : Sl := .ow ((List.range (k + 1)).map fun l => .lst (rowD n (W l)))
theorem low_succ (k : Nat) : Builtin.bitAnd ((k + 1 : Nat) : Int) (-((k + 1 : Nat) : Int)) = (low (k + 1) : Int) := by
  rw [blow]; unfold low; rfl
/-- the innermost turns -/
theorem ways_in {n : Nat} {H U F : Sl} {lot least part : Nat} {w : Nat → Int} {C : CEnds} (hn : n ≤ 10) (c : Nat → Int)
    (fin : C.nx [H, U, F, .fz (nI lot), .fz (nI least), .ow (rowD n fun i => c i + if 1 ≤ i then w (i - 1) else 0), .fz (nI part), .un, .un]) :
    lp_ways_to_part_1 C ((List.range n).map fun i => D.tup [nI i, .int (w i)]) [H, U, F, .fz (nI lot), .fz (nI least), .ow (rowD n c), .fz (nI part), .un, .un] := by
  have go := for_any (fg := [7, 8]) (body := bd_ways_to_part_1) (C := C) (g := gTup0 2 (gCons0 (gN 7) (gCons0 (gN 8) gNil0))) (fun i => D.tup [nI i, .int (w i)]) (fun c : Nat → Int => [H, U, F, .fz (nI lot), .fz (nI least), .ow (rowD n c), .fz (nI part), .un, .un])
    (fun rest c' => ∃ j, (List.range n).drop j = rest ∧ j ≤ n ∧ ∀ i, c' i = c i + if 1 ≤ i ∧ i ≤ j then w (i - 1) else 0) ?_ ?_ (List.range n) c ⟨0, rfl, by omega, fun i => by rw [if_neg (by omega)]; omega⟩
  · exact go
  · rintro a rest c' ⟨j, e, hj, hc⟩ X hX
    have hj' : j < n := by
      have := congrArg List.length e
      simp at this
      omega
    rw [List.drop_eq_getElem_cons (by simpa using hj')] at e
    injection e with e1 e2
    have e1 : j = a := by simpa using e1
    subst e1
    refine And.intro rfl (And.intro rfl (And.intro rfl (And.intro (by show (0 : Int) ≤ (j : Int) + 1; omega) ?_)))
    show (match ((rowD n c')[j + 1]? : Option D) with | some old => _ | none => False)
    rw [row_get (by omega)]
    refine And.intro rfl ?_
    show (match ixN (rowD n c').length ((j + 1 : Nat) : Int) with | some k => _ | none => False)
    rw [row_len, ixN_nat (by omega)]
    show X [H, U, F, .fz (nI lot), .fz (nI least), .ow ((rowD n c').set (j + 1) (.int (c' (j + 1) + w j))), .fz (nI part), .un, .un]
    rw [row_set (by omega)]
    refine hX _ ⟨j + 1, e2, by omega, fun i => ?_⟩
    show (if i = j + 1 then c' (j + 1) + w j else c' i) = _
    rw [hc, hc]
    by_cases h : i = j + 1
    · subst h
      rw [if_pos rfl, if_neg (by omega), if_pos ⟨by omega, by omega⟩]
      simp
    · rw [if_neg h]
      by_cases h2 : 1 ≤ i ∧ i ≤ j
      · rw [if_pos h2, if_pos ⟨h2.1, by omega⟩]
      · rw [if_neg h2, if_neg (by omega)]
  · rintro c' ⟨j, e, hj, hc⟩
    have hj' : j = n := by
      have := congrArg List.length e
      simp at this
      omega
    subst hj'
    rw [row_congr (c' := fun i => c i + if 1 ≤ i then w (i - 1) else 0)]
    · exact fin
    · intro i hi
      rw [hc]
      by_cases h : 1 ≤ i
      · rw [if_pos ⟨h, hi⟩, if_pos h]
      · rw [if_neg (by omega), if_neg h]
theorem cut_row (n : Nat) (c : Nat → Int) : CL.cutD (rowD n c) none (some (-1)) = (List.range n).map fun i => D.int (c i) := by
  unfold CL.cutD rowD
  have e : HT.sIx ((List.range (n + 1)).map fun i => D.int (c i)).length ((List.range (n + 1)).map fun i => D.int (c i)).length (some (-1)) = n := by
    rw [List.length_map, List.length_range]
    show (if (-1 : Int) < 0 then ((-1 : Int) + ((n + 1 : Nat) : Int)).toNat else min ((-1 : Int)).toNat (n + 1)) = n
    rw [if_pos (by decide)]; omega
  rw [e]
  show (((List.range (n + 1)).map fun i => D.int (c i)).drop 0).take (n - 0) = _
  rw [List.drop_zero, Nat.sub_zero, ← List.map_take, List.take_range, Nat.min_eq_left (by omega)]
def wC (U : Nat → Bool) (W : Nat → Nat → Int) (lot : Nat) (done : List Nat) (i : Nat) : Int := if i = 0 then 0 else ((done.filter fun p => decide (0 < p &&& low lot) && U p).map fun p => W (lot - p) (i - 1)).sum
/-- one lot's turns -/
theorem ways_mid {n : Nat} {H : Sl} {U : Nat → Bool} {W : Nat → Nat → Int} {k : Nat} {C : CEnds} (hn : n ≤ 10) (hk : k + 1 < 2 ^ n)
    (fin : C.nx [H, wU n U, wF n W k, .fz (nI (k + 1)), .fz (nI (low (k + 1))), .ow (rowD n (wC U W (k + 1) (downM (k + 1) (k + 1)))), .un, .un, .un]) :
    lp_ways_to_part_2 C ((downM (k + 1) (k + 1)).map nI) [H, wU n U, wF n W k, .fz (nI (k + 1)), .fz (nI (low (k + 1))), .ow (rowD n fun _ => 0), .un, .un, .un] := by
  have hp : 2 ^ n ≤ 1024 := pow10 hn
  have go := for_any (fg := [6, 7, 8]) (body := bd_ways_to_part_2) (C := C) (g := gN 6) nI (fun done : List Nat => [H, wU n U, wF n W k, .fz (nI (k + 1)), .fz (nI (low (k + 1))), .ow (rowD n (wC U W (k + 1) done)), .un, .un, .un])
    (fun rest done => done ++ rest = downM (k + 1) (k + 1)) ?_ ?_ (downM (k + 1) (k + 1)) [] rfl
  · rw [row_congr (c' := wC U W (k + 1) [])]
    · exact go
    · intro i _
      unfold wC
      by_cases h : i = 0
      · rw [if_pos h]
      · rw [if_neg h]; rfl
  · rintro p rest done e X hX
    have hm : p ∈ downM (k + 1) (k + 1) := by rw [← e]; simp
    obtain ⟨p1, p2, p3⟩ := downM_mem (k + 1) (k + 1) (Nat.and_self _) p hm
    have hX := hX (done ++ [p]) (by rw [← e]; simp)
    refine And.intro rfl (And.intro rfl ?_)
    show (if decide ((0 : Int) < Builtin.bitAnd (p : Int) (low (k + 1) : Int)) = true then _ else _)
    rw [band, show decide ((0 : Int) < ((p &&& low (k + 1) : Nat) : Int)) = decide (0 < p &&& low (k + 1)) by rw [decide_eq_decide]; omega]
    have same : (decide (0 < p &&& low (k + 1)) && U p) = false → X [H, wU n U, wF n W k, .fz (nI (k + 1)), .fz (nI (low (k + 1))), .ow (rowD n (wC U W (k + 1) done)), .un, .un, .un] := fun h => by
      rw [row_congr (c' := wC U W (k + 1) (done ++ [p]))]
      · exact hX
      · intro i _
        unfold wC
        rw [List.filter_append, List.filter_cons_of_neg (by rw [h]; simp), List.filter_nil, List.append_nil]
    cases hc : decide (0 < p &&& low (k + 1)) with
    | false =>
      rw [if_neg (by simp)]
      exact same (by rw [hc]; rfl)
    | true =>
      rw [if_pos rfl]
      refine And.intro rfl (And.intro rfl ?_)
      show (match (atI ((List.range (2 ^ n)).map fun l => D.bl (U l)) (p : Int)) with | some d => _ | none => False)
      rw [atI_nat _ p _ rfl, List.getElem?_map, List.getElem?_range (by omega)]
      show (if U p = true then _ else _)
      cases hu : U p with
      | false =>
        rw [if_neg (by simp)]
        exact same (by rw [hc, hu]; rfl)
      | true =>
        rw [if_pos rfl]
        refine And.intro rfl (And.intro rfl (And.intro rfl ?_))
        show (match (atI ((List.range (k + 1)).map fun l => D.lst (rowD n (W l))) (((k + 1 : Nat) : Int) - (p : Int))) with | some d => _ | none => False)
        rw [atI_nat _ (k + 1 - p) _ (by omega), List.getElem?_map, List.getElem?_range (by omega)]
        show lp_ways_to_part_1 _ (enumD 0 (CL.cutD (rowD n (W (k + 1 - p))) none (some (-1)))) [H, wU n U, wF n W k, .fz (nI (k + 1)), .fz (nI (low (k + 1))), .ow (rowD n (wC U W (k + 1) done)), .fz (nI p), .un, .un]
        rw [cut_row, enum_rng]
        refine ways_in hn _ ?_
        show X [H, wU n U, wF n W k, .fz (nI (k + 1)), .fz (nI (low (k + 1))), .ow (rowD n fun i => wC U W (k + 1) done i + if 1 ≤ i then W (k + 1 - p) (i - 1) else 0), .un, .un, .un]
        rw [row_congr (c' := wC U W (k + 1) (done ++ [p]))]
        · exact hX
        · intro i _
          unfold wC
          by_cases h : i = 0
          · subst h; rfl
          · rw [if_neg h, if_neg h, if_pos (by omega), List.filter_append, List.filter_cons_of_pos (by rw [hc, hu]; rfl), List.filter_nil, List.map_append, List.sum_append]
            simp
  · intro done e
    rw [List.append_nil] at e
    subst e
    exact fin
theorem pure_ways_to_part : ∀ ds Q, R_ways_to_part ds Q → t_ways_to_part { nx := fun _ => Q .non, rt := fun d _ => Q d } (envOf N_ways_to_part ds) := fun _ Q ⟨n, As, h, U, hU, W, hW, hq⟩ => by
  have hh := h.hi
  have hp : 2 ^ n ≤ 1024 := pow10 hh
  have hp1 : 0 < 2 ^ n := Nat.two_pow_pos n
  refine R_untied_lots.mk n As h U hU ?_
  refine And.intro (szle (Nat.le_of_ble_eq_true rfl)) ?_
  refine And.intro (szle (Nat.le_of_ble_eq_true rfl)) ?_
  refine And.intro rfl ?_
  refine fld_many ?_
  refine And.intro (by omega) (And.intro (by omega) (And.intro (szle (by show 1 * n ≤ _; omega)) ?_))
  have e0 : ∀ m : Nat, (List.replicate m [D.int 0]).flatten = List.replicate m (D.int 0) := fun m => by rw [List.flatten_replicate_singleton]
  have er : D.int 1 :: List.replicate n (D.int 0) = rowD n (W 0) := by
    apply List.ext_getElem?
    intro i
    by_cases hi : i ≤ n
    · rw [row_get hi, hW.z i hi]
      cases i with
      | zero => rfl
      | succ i => rw [List.getElem?_cons_succ, List.getElem?_replicate, if_pos (by omega), if_neg (by omega)]
    · rw [List.getElem?_eq_none (by simp; omega), List.getElem?_eq_none (by rw [row_len]; omega)]
  refine And.intro (szle (by show 1 + (List.replicate n [D.int 0]).flatten.length ≤ _; rw [e0, List.length_replicate]; omega)) ?_
  refine And.intro (szle (Nat.le_of_ble_eq_true rfl)) ?_
  refine And.intro rfl ?_
  refine fld_many ?_
  refine And.intro (cpow1 (by omega)) ?_
  refine And.intro ⟨by decide, by decide, (shl_rng hh).1, (shl_rng hh).2⟩ ?_
  show lp_ways_to_part_3 _ (rngD 1 (((1 : Int) * 2 ^ ((n : Int).toNat) - 1).toNat)) [.fz (homeD n As), wU n U, .ow [.lst (D.int 1 :: (List.replicate n [D.int 0]).flatten)], .un, .un, .un, .un, .un, .un]
  rw [shl1, show (((2 ^ n : Nat) : Int) - 1).toNat = 2 ^ n - 1 by omega, rng1_map, e0, er]
  refine for_any (fun k => nI (k + 1)) (fun k : Nat => [.fz (homeD n As), wU n U, wF n W k, .un, .un, .un, .un, .un, .un])
    (fun rest k => (List.range (2 ^ n - 1)).drop k = rest ∧ k ≤ 2 ^ n - 1) ?_ ?_ _ 0 ⟨rfl, by omega⟩
  · rintro j rest k ⟨e, hk⟩ X hX
    have hk' : k < 2 ^ n - 1 := by
      have := congrArg List.length e
      simp at this
      omega
    rw [List.drop_eq_getElem_cons (by simpa using hk')] at e
    injection e with e1 e2
    have e1 : k = j := by simpa using e1
    subst e1
    refine And.intro rfl (And.intro rfl ?_)
    refine And.intro (szle (Nat.le_of_ble_eq_true rfl)) ?_
    refine And.intro rfl ?_
    refine fld_many ?_
    refine And.intro (by omega) (And.intro (by omega) (And.intro (szle (by show 1 * (((n : Int) + 1).toNat) ≤ _; omega)) ?_))
    refine R_parts_of.mk (k + 1) (by omega) ?_
    show lp_ways_to_part_2 _ ((downM (k + 1) (k + 1)).map nI) [.fz (homeD n As), wU n U, wF n W k, .fz (nI (k + 1)), .fz (D.int (Builtin.bitAnd ((k + 1 : Nat) : Int) (-((k + 1 : Nat) : Int)))), .ow (List.replicate (((n : Int) + 1).toNat) [D.int 0]).flatten, .un, .un, .un]
    rw [low_succ, e0, show List.replicate (((n : Int) + 1).toNat) (D.int 0) = rowD n fun _ => 0 by
      rw [show ((n : Int) + 1).toNat = n + 1 by omega]; unfold rowD; apply List.ext_getElem?; intro i
      rw [List.getElem?_replicate, List.getElem?_map]
      by_cases hi : i < n + 1
      · rw [if_pos hi, List.getElem?_range hi]; rfl
      · rw [if_neg hi, List.getElem?_eq_none (by simp; omega)]; rfl]
    refine ways_mid hh (by omega) ?_
    refine And.intro rfl (And.intro (szlt (by simp; omega)) ?_)
    have := hX (k + 1) ⟨e2, by omega⟩
    unfold wF at this
    rw [List.range_succ, List.map_append, List.map_singleton, row_congr (c := W (k + 1)) (c' := wC U W (k + 1) (downM (k + 1) (k + 1)))] at this
    · exact this
    · intro i hi
      unfold wC
      cases i with
      | zero => rw [if_pos rfl, hW.s0 _ (by omega) (by omega)]
      | succ i => rw [if_neg (by omega), hW.s _ i (by omega) (by omega) (by omega)]; rfl
  · rintro k ⟨e, hk⟩
    have hk' : k = 2 ^ n - 1 := by
      have := congrArg List.length e
      simp at this
      omega
    subst hk'
    refine And.intro rfl ?_
    show (match (atI ((List.range (2 ^ n - 1 + 1)).map fun l => D.lst (rowD n (W l))) (-1)) with | some d => Q d | none => False)
    have : atI ((List.range (2 ^ n - 1 + 1)).map fun l => D.lst (rowD n (W l))) (-1) = some (D.lst (rowD n (W (2 ^ n - 1)))) := by
      unfold atI ixN
      rw [if_neg (by decide), if_pos (by simp; omega)]
      show ((List.range (2 ^ n - 1 + 1)).map fun l => D.lst (rowD n (W l)))[((-1 : Int) + (((List.range (2 ^ n - 1 + 1)).map fun l => D.lst (rowD n (W l))).length : Nat)).toNat]? = _
      rw [List.length_map, List.length_range, show ((-1 : Int) + ((2 ^ n - 1 + 1 : Nat) : Int)).toNat = 2 ^ n - 1 by omega, List.getElem?_map, List.getElem?_range (by omega)]
      rfl
    rw [this]
    exact hq
/-! ### colourings -/
def ff (c : Int) : Nat → Int
  | 0 => 1
  | k + 1 => ff c k * (c - k)
def fsum (n : Nat) (w : Nat → Int) (c : Int) : Int := ((List.range n).map fun i => w i * ff c i).sum
inductive R_colourings : List D → (D → Prop) → Prop
  | mk {Q : D → Prop} (n : Nat) (As : List (Nat × Nat)) (h : VAr n As) (U : Nat → Bool) (hU : UO n As U) (W : Nat → Nat → Int) (hW : WO n U W) (hb : ∀ i, i ≤ n → -(2 ^ 64) < W (2 ^ n - 1) i ∧ W (2 ^ n - 1) i < 2 ^ 64) (c : Int) (c1 : -1000 ≤ c) (c2 : c ≤ 1000)
    (hq : Q (.int (fsum (n + 1) (W (2 ^ n - 1)) c))) : R_colourings [homeD n As, .int c] Q
def bd_colourings_1 : CS := (cSeq (cAug 2 cAddI (cOf (c2 cMul (cSl 5) (cSl 3))))
  (cAug 3 cMulI (cOf (c2 cSub (cSl 1) (cSl 4)))))
abbrev lp_colourings_1 (C : CEnds) : List D → Ev → Prop := forL (gTup0 2 (gCons0 (gN 4) (gCons0 (gN 5) gNil0))) [4, 5] bd_colourings_1 C
abbrev N_colourings : List Str := ["home", "colours", "total", "chosen", "many", "ways"]
def t_colourings : CS := (cSeq (cExpr (cCall R_check_number (cConsE (cVar 1) (cConsE (c1 cNeg (cOf (cC (.int 1000)))) (cConsE (cC (.int 1000)) cNilE)))))
  (cSeq (cSet 2 (cC (.int 0)))
  (cSeq (cSet 3 (cC (.int 1)))
  (cSeq (cFor (cEn (cCall R_ways_to_part (cConsE (cVar 0) cNilE))) (gTup0 2 (gCons0 (gN 4) (gCons0 (gN 5) gNil0))) [4, 5] bd_colourings_1)
  (cRet (cVar 2))))))
theorem len_colourings : ∀ ds Q, R_colourings ds Q → ds.length = 2 := fun _ _ h => by cases h; rfl
theorem pure_colourings : ∀ ds Q, R_colourings ds Q → t_colourings { nx := fun _ => Q .non, rt := fun d _ => Q d } (envOf N_colourings ds) := fun _ Q ⟨n, As, h, U, hU, W, hW, hb, c, c1, c2, hq⟩ => by
  have hh := h.hi
  refine R_check_number.mk c (-1000) 1000 c1 c2 ?_
  refine R_ways_to_part.mk n As h U hU W hW ?_
  show lp_colourings_1 _ (enumD 0 (rowD n (W (2 ^ n - 1)))) [.fz (homeD n As), .fz (.int c), .fz (.int 0), .fz (.int 1), .un, .un]
  unfold rowD
  rw [enum_rng]
  refine for_any (fun i => D.tup [nI i, .int (W (2 ^ n - 1) i)]) (fun k : Nat => [.fz (homeD n As), .fz (.int c), .fz (.int (fsum k (W (2 ^ n - 1)) c)), .fz (.int (ff c k)), .un, .un])
    (fun rest k => (List.range (n + 1)).drop k = rest ∧ k ≤ n + 1) ?_ ?_ _ 0 ⟨rfl, by omega⟩
  · rintro j rest k ⟨e, hk⟩ X hX
    have hk' : k < n + 1 := by
      have := congrArg List.length e
      simp at this
      omega
    rw [List.drop_eq_getElem_cons (by simpa using hk')] at e
    injection e with e1 e2
    have e1 : k = j := by simpa using e1
    subst e1
    refine And.intro rfl (And.intro rfl (And.intro rfl (And.intro rfl (And.intro (.inl (hb k (by omega))) ?_))))
    refine And.intro rfl (And.intro rfl (And.intro rfl (And.intro (.inr ?_) ?_)))
    · show -(2 ^ 64) < c - (k : Int) ∧ c - (k : Int) < 2 ^ 64
      omega
    · have := hX (k + 1) ⟨e2, by omega⟩
      unfold fsum at this
      rw [List.range_succ, List.map_append, List.sum_append, List.map_singleton, List.sum_singleton] at this
      exact this
  · rintro k ⟨e, hk⟩
    have hk' : k = n + 1 := by
      have := congrArg List.length e
      simp at this
      omega
    subst hk'
    exact hq
end TA
namespace TA
open PySem PySem.Spec PySem.Calls PyProof.Rows L2 CL
/-! ### the hand -/
def bagD (cells : List Int) (at_ : Nat) (g h s : Int) : List D := [.lst (cells.map D.int), nI at_, .int g, .int h, .int s]
def BagV (ds : List D) : Prop := ∃ cells at_ g h s, ds = bagD cells at_ g h s
abbrev Bag : OwnP := LstP BagV
abbrev lc_L_hand_1 (Z : List D → Ev → Prop) : List D → List D → Ev → Prop := lcL (gN 1) cYes (cF cAbs (cCons (cOf (cF cInt (cCons (cSl 1) cNil))) cNil)) [1] Z
abbrev N_L_hand : List Str := ["_law_script", "_law_cell", "_law_cells"]
def t_L_hand : (D → Ev → Prop) → Ev → Prop := fun Q ρ => ((cFzN 2 (cOwn 2 (cLc (cIS (cScSlice 0 63)) (gN 1) cYes (cF cAbs (cCons (cOf (cF cInt (cCons (cSl 1) cNil))) cNil)) [1]))) { nx := fun ρ => ((cLst (cConsE (cVar 2) (cConsE (cC (.int 0)) (cConsE (cC (.int 0)) (cConsE (c2 cAdd (cOf (cC (.int 1))) (cOf (cF cLen (cCons (cSl 2) cNil)))) (cConsE (cC (.int 0)) cNilE)))))) ρ Q), rt := fun _ _ => False } ρ)
theorem pure_L_hand : ∀ ns : List Int, ns.length ≤ 63 → t_L_hand (fun d _ => ∃ ds, d = .lst ds ∧ BagV ds) (envS ns N_L_hand) := fun ns hn => by
  refine Exists.intro ns (And.intro rfl ?_)
  refine lc_pure D.int (fun _ => true) (fun i => D.int (if i < 0 then -i else i)) [.ob (Scr ns), .un, .un] (ns.take 63) (fun i _ X Y hX _ => ?_) (szle (by rw [List.length_take]; omega)) ?_
  · exact And.intro rfl (hX rfl)
  · rw [List.filter_eq_self.mpr (fun _ _ => rfl)]
    refine And.intro rfl (And.intro (szle (Nat.le_of_ble_eq_true rfl)) ?_)
    refine Exists.intro _ (And.intro rfl ?_)
    refine ⟨(ns.take 63).map fun i => if i < 0 then -i else i, 0, 0, 1 + ((ns.take 63).length : Nat), 0, ?_⟩
    unfold bagD
    rw [List.map_map, ← List.length_map (f := fun i : Int => D.int (if i < 0 then -i else i))]
    rfl
/-! ### a draw -/
inductive R_L_draw : List D → (D → Prop) → Prop
  | mk {Q : D → Prop} (m : Nat) (h0 : 0 < m) (h1 : m < 1073741824) (hq : ∀ k, k < m → Q (nI k)) : R_L_draw [nI m] Q
abbrev N_L_draw : List Str := ["_law_hand_here", "_law_many", "_law_cell", "_law_digit", "_law_number"]
def t_L_draw : CS := (cOpen 0 BagV (cSeq (cIfS (cAndT (cB (c2 cEq (cOf (c2 cIx (cSl 0) (cOf (cC (.int 2))))) (cOf (cC (.int 0))))) (cB (c2 cLt (cOf (c2 cIx (cSl 0) (cOf (cC (.int 1))))) (cOf (cF cLen (cCons (cOf (c2 cIx (cSl 0) (cOf (cC (.int 0))))) cNil))))))
  (cSeq (cSet 2 (c2 cIx (cOf (c2 cIx (cSl 0) (cOf (cC (.int 0))))) (cOf (c2 cIx (cSl 0) (cOf (cC (.int 1)))))))
  (cSeq (cSetIxP 0 (cOf (cC (.int 1))) (c2 cAdd (cOf (c2 cIx (cSl 0) (cOf (cC (.int 1))))) (cOf (cC (.int 1)))))
  (cSeq (cSetIxP 0 (cOf (cC (.int 3))) (c2 cModC (cOf (cF cInt (cCons (cOf (c2 cAdd (cOf (c2 cAdd (cOf (c2 cMul (cOf (c2 cIx (cSl 0) (cOf (cC (.int 3))))) (cOf (cC (.int 69621))))) (cSl 2))) (cOf (cC (.int 11))))) cNil))) (cOf (cC (.int 2147483629)))))
  (cIfS (cB (c2 cGe (cSl 2) (cOf (c2 cPow (cOf (cC (.int 10))) (cOf (cC (.int 18)))))))
  (cSetIxP 0 (cOf (cC (.int 2))) (cVar 2))
  cNext))))
  cNext)
  (cSeq (cIfS (cB (c2 cGt (cOf (c2 cIx (cSl 0) (cOf (cC (.int 2))))) (cOf (cC (.int 0)))))
  (cSeq (cSet 3 (c2 cModC (cOf (cF cInt (cCons (cOf (c2 cIx (cSl 0) (cOf (cC (.int 2))))) cNil))) (cSl 1)))
  (cSeq (cSetIxP 0 (cOf (cC (.int 2))) (c2 cDivC (cOf (c2 cIx (cSl 0) (cOf (cC (.int 2))))) (cSl 1)))
  (cRet (cVar 3))))
  cNext)
  (cSeq (cSetIxP 0 (cOf (cC (.int 4))) (c2 cAdd (cOf (c2 cIx (cSl 0) (cOf (cC (.int 4))))) (cOf (cC (.int 1)))))
  (cSeq (cSet 4 (c2 cModC (cOf (cF cInt (cCons (cOf (c2 cMul (cOf (cF cInt (cCons (cOf (c2 cAdd (cOf (c2 cIx (cSl 0) (cOf (cC (.int 3))))) (cOf (c2 cMul (cOf (cC (.int 7919))) (cOf (c2 cIx (cSl 0) (cOf (cC (.int 4))))))))) cNil))) (cOf (cC (.int 48271))))) cNil))) (cOf (cC (.int 2147483647)))))
  (cSeq (cSet 4 (c2 cModC (cOf (cF cInt (cCons (cOf (c2 cMul (cSl 4) (cOf (c2 cAdd (cOf (c2 cDivC (cSl 4) (cOf (cC (.int 1009))))) (cOf (cC (.int 69621))))))) cNil))) (cOf (cC (.int 2147483647)))))
  (cSeq (cSet 4 (c2 cModC (cOf (cF cInt (cCons (cOf (c2 cMul (cSl 4) (cOf (c2 cAdd (cOf (c2 cDivC (cSl 4) (cOf (cC (.int 2003))))) (cOf (cC (.int 40692))))))) cNil))) (cOf (cC (.int 2147483399)))))
  (cRet (c2 cModC (cOf (cF cInt (cCons (cOf (c2 cDivC (cSl 4) (cOf (cC (.int 16))))) cNil))) (cSl 1))))))))))
theorem len_L_draw : ∀ ds Q, R_L_draw ds Q → ds.length + 1 = 2 := fun _ _ h => by cases h; rfl
theorem modN (x : Int) {m : Nat} (h : 0 < m) : ∃ k, k < m ∧ x % (m : Int) = (k : Int) := by
  have h1 := Int.emod_nonneg x (b := (m : Int)) (by omega)
  have h2 := Int.emod_lt_of_pos x (b := (m : Int)) (by omega)
  exact ⟨(x % (m : Int)).toNat, by omega, by omega⟩
def d_S2 : CS := (cSeq (cIfS (cB (c2 cGt (cOf (c2 cIx (cSl 0) (cOf (cC (.int 2))))) (cOf (cC (.int 0)))))
  (cSeq (cSet 3 (c2 cModC (cOf (cF cInt (cCons (cOf (c2 cIx (cSl 0) (cOf (cC (.int 2))))) cNil))) (cSl 1)))
  (cSeq (cSetIxP 0 (cOf (cC (.int 2))) (c2 cDivC (cOf (c2 cIx (cSl 0) (cOf (cC (.int 2))))) (cSl 1)))
  (cRet (cVar 3))))
  cNext)
  (cSeq (cSetIxP 0 (cOf (cC (.int 4))) (c2 cAdd (cOf (c2 cIx (cSl 0) (cOf (cC (.int 4))))) (cOf (cC (.int 1)))))
  (cSeq (cSet 4 (c2 cModC (cOf (cF cInt (cCons (cOf (c2 cMul (cOf (cF cInt (cCons (cOf (c2 cAdd (cOf (c2 cIx (cSl 0) (cOf (cC (.int 3))))) (cOf (c2 cMul (cOf (cC (.int 7919))) (cOf (c2 cIx (cSl 0) (cOf (cC (.int 4))))))))) cNil))) (cOf (cC (.int 48271))))) cNil))) (cOf (cC (.int 2147483647)))))
  (cSeq (cSet 4 (c2 cModC (cOf (cF cInt (cCons (cOf (c2 cMul (cSl 4) (cOf (c2 cAdd (cOf (c2 cDivC (cSl 4) (cOf (cC (.int 1009))))) (cOf (cC (.int 69621))))))) cNil))) (cOf (cC (.int 2147483647)))))
  (cSeq (cSet 4 (c2 cModC (cOf (cF cInt (cCons (cOf (c2 cMul (cSl 4) (cOf (c2 cAdd (cOf (c2 cDivC (cSl 4) (cOf (cC (.int 2003))))) (cOf (cC (.int 40692))))))) cNil))) (cOf (cC (.int 2147483399)))))
  (cRet (c2 cModC (cOf (cF cInt (cCons (cOf (c2 cDivC (cSl 4) (cOf (cC (.int 16))))) cNil))) (cSl 1))))))))
theorem mdm (x M : Int) {y : Int} (h : 0 < M) (h2 : M < 2 ^ 40) : CMul (x % M) y := .inl ⟨by have := Int.emod_nonneg x (b := M) (by omega); omega, by have := Int.emod_lt_of_pos x h; omega⟩
def d_S3 : CS := (cSeq (cSet 4 (c2 cModC (cOf (cF cInt (cCons (cOf (c2 cMul (cSl 4) (cOf (c2 cAdd (cOf (c2 cDivC (cSl 4) (cOf (cC (.int 1009))))) (cOf (cC (.int 69621))))))) cNil))) (cOf (cC (.int 2147483647)))))
  (cSeq (cSet 4 (c2 cModC (cOf (cF cInt (cCons (cOf (c2 cMul (cSl 4) (cOf (c2 cAdd (cOf (c2 cDivC (cSl 4) (cOf (cC (.int 2003))))) (cOf (cC (.int 40692))))))) cNil))) (cOf (cC (.int 2147483399)))))
  (cRet (c2 cModC (cOf (cF cInt (cCons (cOf (c2 cDivC (cSl 4) (cOf (cC (.int 16))))) cNil))) (cSl 1)))))
theorem draw_S3 {C : CEnds} {a : Addr} {m : Nat} {s2 : Sl} (h0 : 0 < m) (bs : List D) (hV : BagV bs) (e3 : Sl) (x : Int)
    (fin : ∀ k, k < m → ∀ bs, BagV bs → ∀ e3 e4, C.rt (nI k) [.op a bs, .fz (nI m), s2, e3, e4]) : d_S3 C [.op a bs, .fz (nI m), s2, e3, .fz (.int (x % 2147483647))] := by
  refine And.intro rfl (And.intro rfl (And.intro ⟨by decide, by decide⟩ (And.intro (mdm x _ (by decide) (by decide)) (And.intro (by decide) ?_))))
  refine And.intro rfl (And.intro rfl (And.intro ⟨by decide, by decide⟩ (And.intro (mdm _ _ (by decide) (by decide)) (And.intro (by decide) ?_))))
  refine And.intro rfl (And.intro ⟨by decide, by decide⟩ (And.intro rfl (And.intro (by show (0 : Int) < (m : Int); omega) ?_)))
  show C.rt (D.int (_ % (m : Int))) _
  generalize hz : (_ : Int) / 16 = z
  obtain ⟨k, hk, e⟩ := modN z h0
  rw [e]
  exact fin k hk _ hV _ _
theorem draw_S2 {C : CEnds} {a : Addr} {m : Nat} {s2 : Sl} (h0 : 0 < m) (h1 : m < 1073741824) (cells : List Int) (at_ : Nat) (g h s : Int)
    (fin : ∀ k, k < m → ∀ bs, BagV bs → ∀ e3 e4, C.rt (nI k) [.op a bs, .fz (nI m), s2, e3, e4]) : d_S2 C [.op a (bagD cells at_ g h s), .fz (nI m), s2, .un, .un] := by
  have md : ∀ x : Int, 0 ≤ x % 2147483647 ∧ x % 2147483647 < 2147483647 := fun x => ⟨Int.emod_nonneg _ (by decide), Int.emod_lt_of_pos _ (by decide)⟩
  refine And.intro rfl ?_
  show (if decide ((0 : Int) < g) = true then _ else _)
  by_cases hg : 0 < g
  · rw [if_pos (decide_eq_true hg)]
    obtain ⟨k, hk, e⟩ := modN g h0
    refine And.intro rfl (And.intro rfl (And.intro (by show (0 : Int) < (m : Int); omega) ?_))
    refine And.intro rfl (And.intro rfl (And.intro ⟨by show (0 : Int) < (m : Int); omega, by show (m : Int) < 1073741824; omega⟩ ?_))
    refine And.intro rfl ?_
    show C.rt (D.int (g % (m : Int))) [.op a (bagD cells at_ (g / (m : Int)) h s), .fz (nI m), s2, .fz (.int (g % (m : Int))), .un]
    rw [e]
    exact fin k hk _ ⟨_, _, _, _, _, rfl⟩ _ _
  · rw [if_neg (by simpa using hg)]
    refine And.intro rfl (And.intro rfl ?_)
    refine And.intro rfl (And.intro rfl (And.intro (.inl ⟨by decide, by decide⟩) (And.intro (.inr ⟨by decide, by decide⟩) (And.intro (by decide) ?_))))
    show d_S3 C [.op a (bagD cells at_ g h (s + 1)), .fz (nI m), s2, .un, .fz (.int (((h + 7919 * (s + 1)) * 48271) % 2147483647))]
    exact draw_S3 h0 _ ⟨_, _, _, _, _, rfl⟩ _ _ fin
theorem pure_L_draw : ∀ v0 ds Q, R_L_draw ds Q → t_L_draw { nx := fun ρ => ρ[0]? = some (.ob (pin Bag v0)) ∧ Q .non, rt := fun d ρ => ρ[0]? = some (.ob (pin Bag v0)) ∧ Q d } (envB (pin Bag v0) N_L_draw ds) := fun v0 _ Q ⟨m, h0, h1, hq⟩ => by
  refine And.intro ⟨v0, rfl⟩ fun a bs e hV => ?_
  have e : Sl.ob (pin Bag v0) = Sl.ob (pin Bag (.ref a)) := by injection e
  obtain ⟨cells, at_, g, h, s, rfl⟩ := hV
  have fin : ∀ s2 : Sl, ∀ k, k < m → ∀ bs, BagV bs → ∀ e3 e4, ∃ bs', ([Sl.op a bs, Sl.fz (nI m), s2, e3, e4] : Ev)[0]? = some (.op a bs') ∧ BagV bs' ∧ ((([Sl.op a bs, Sl.fz (nI m), s2, e3, e4] : Ev).set 0 (.ob (pin Bag (.ref a))))[0]? = some (.ob (pin Bag v0)) ∧ Q (nI k)) := fun s2 k hk bs hV e3 e4 => ⟨bs, rfl, hV, by rw [e]; rfl, hq k hk⟩
  refine And.intro rfl (And.intro (plain_int 30 _) (And.intro (plain_int 30 _) ?_))
  show (if eqD (.int g) (.int 0) = true then _ else _)
  rw [eqD_int]
  by_cases hg : g = 0
  · rw [if_pos (decide_eq_true hg)]
    refine And.intro rfl (And.intro rfl ?_)
    show (if decide ((at_ : Int) < (((cells.map D.int).length : Nat) : Int)) = true then _ else _)
    by_cases hl : at_ < cells.length
    · rw [if_pos (decide_eq_true (by rw [List.length_map]; omega))]
      refine And.intro rfl (And.intro rfl ?_)
      show (match (atI (cells.map D.int) (at_ : Int)) with | some d => _ | none => False)
      rw [atI_nat _ at_ _ rfl, List.getElem?_map, List.getElem?_eq_getElem hl]
      refine And.intro rfl (And.intro rfl ?_)
      refine And.intro rfl (And.intro (.inr ⟨by decide, by decide⟩) (And.intro rfl (And.intro (by decide) ?_)))
      refine And.intro rfl ?_
      refine And.intro rfl (And.intro ⟨by decide, by decide, by decide⟩ ?_)
      show (if decide ((10 : Int) ^ ((18 : Int).toNat) ≤ cells[at_]) = true then _ else _)
      by_cases hc : (10 : Int) ^ ((18 : Int).toNat) ≤ cells[at_]
      · rw [if_pos (decide_eq_true hc)]
        refine And.intro rfl ?_
        exact draw_S2 h0 h1 cells (at_ + 1) _ _ _ (fin _)
      · rw [if_neg (by simpa using hc)]
        exact draw_S2 h0 h1 cells (at_ + 1) _ _ _ (fin _)
    · rw [if_neg (by rw [List.length_map]; simpa using hl)]
      exact draw_S2 h0 h1 cells at_ g h s (fin _)
  · rw [if_neg (by simpa using hg)]
    exact draw_S2 h0 h1 cells at_ g h s (fin _)
/-! ### drawn things -/
inductive R_L_any : List D → (D → Prop) → Prop
  | mk {Q : D → Prop} (ds : List D) (h : 0 < ds.length) (hl : ds.length < 1073741824) (hq : ∀ d ∈ ds, Q d) : R_L_any [.lst ds] Q
abbrev N_L_any : List Str := ["_law_hand_here", "_law_things"]
def t_L_any : CS := (cRet (c2 cIx (cSl 1) (cOf (cCallB 0 Bag R_L_draw (cConsE (cF cLen (cCons (cSl 1) cNil)) cNilE)))))
theorem len_L_any : ∀ ds Q, R_L_any ds Q → ds.length + 1 = 2 := fun _ _ h => by cases h; rfl
theorem pure_L_any : ∀ v0 ds Q, R_L_any ds Q → t_L_any { nx := fun ρ => ρ[0]? = some (.ob (pin Bag v0)) ∧ Q .non, rt := fun d ρ => ρ[0]? = some (.ob (pin Bag v0)) ∧ Q d } (envB (pin Bag v0) N_L_any ds) := fun v0 _ Q ⟨ds, h, hl, hq⟩ => by
  refine And.intro rfl (And.intro ⟨v0, rfl⟩ (And.intro rfl (And.intro ⟨v0, rfl⟩ ?_)))
  refine R_L_draw.mk ds.length h hl fun k hk => ?_
  show (match (atI ds (k : Int)) with | some d => _ | none => False)
  rw [atI_nat _ k _ rfl, List.getElem?_eq_getElem hk]
  exact And.intro rfl (hq _ (List.getElem_mem hk))
theorem perm_erase {α : Type} : ∀ {l : List α} {k : Nat} (h : k < l.length), (l[k] :: l.eraseIdx k).Perm l
  | a :: l, 0, _ => List.Perm.refl _
  | a :: l, k + 1, h => (List.Perm.swap a (l[k]'(by simpa using h)) _).trans ((perm_erase (l := l) (k := k) (by simpa using h)).cons a)
inductive R_L_mixed : List D → (D → Prop) → Prop
  | mk {Q : D → Prop} (d : D) (ds : List D) (h : d = .lst ds ∨ d = .tup ds) (hl : ds.length ≤ 1000) (hq : ∀ es, es.Perm ds → Q (.lst es)) : R_L_mixed [d] Q
abbrev lc_L_mixed_1 (Z : List D → Ev → Prop) : List D → List D → Ev → Prop := lcL (gN 3) cYes (cPopAt 2 (cOf (cCallB 0 Bag R_L_draw (cConsE (cF cLen (cCons (cSl 2) cNil)) cNilE)))) [3] Z
abbrev N_L_mixed : List Str := ["_law_hand_here", "_law_things", "_law_left", "_law_turn"]
def t_L_mixed : CS := (cSeq (cOwn 2 (cF cList (cCons (cSl 1) cNil)))
  (cRet (cLc (cR1 (cOf (cF cLen (cCons (cSl 2) cNil)))) (gN 3) cYes (cPopAt 2 (cOf (cCallB 0 Bag R_L_draw (cConsE (cF cLen (cCons (cSl 2) cNil)) cNilE)))) [3])))
theorem len_L_mixed : ∀ ds Q, R_L_mixed ds Q → ds.length + 1 = 2 := fun _ _ h => by cases h; rfl
theorem pure_L_mixed : ∀ v0 ds Q, R_L_mixed ds Q → t_L_mixed { nx := fun ρ => ρ[0]? = some (.ob (pin Bag v0)) ∧ Q .non, rt := fun d ρ => ρ[0]? = some (.ob (pin Bag v0)) ∧ Q d } (envB (pin Bag v0) N_L_mixed ds) := fun v0 _ Q ⟨d, ds, h, hl, hq⟩ => by
  have main : lc_L_mixed_1 (fun acc ρ => ρ[0]? = some (.ob (pin Bag v0)) ∧ Q (.lst acc)) ((List.range ds.length).map nI) [] [.ob (pin Bag v0), .fz d, .ow ds, .un] := by
    refine lc_any nI (fun left : List D => [.ob (pin Bag v0), .fz d, .ow left, .un]) (fun rest acc left => rest.length = left.length ∧ (acc ++ left).Perm ds) ?_ ?_ ?_ _ _ ds ⟨by simp, List.Perm.refl _⟩
    · rintro a rest acc left ⟨h1, h2⟩
      have := h2.length_eq
      rw [List.length_append] at this
      rw [List.length_cons] at h1
      exact szlt (by omega)
    · rintro a rest acc left ⟨h1, h2⟩ X Y hX _
      rw [List.length_cons] at h1
      have hz := h2.length_eq
      rw [List.length_append] at hz
      refine And.intro rfl (And.intro ⟨v0, rfl⟩ (And.intro rfl (And.intro ⟨v0, rfl⟩ ?_)))
      refine R_L_draw.mk left.length (by omega) (by omega) fun k hk => ?_
      refine And.intro (by omega) (And.intro (by omega) ?_)
      show (match (left[k]? : Option D) with | some d => _ | none => False)
      rw [List.getElem?_eq_getElem hk]
      refine hX left[k] (left.eraseIdx k) ⟨?_, ?_⟩
      · rw [List.length_eraseIdx_of_lt hk]; omega
      · refine List.Perm.trans ?_ h2
        rw [List.append_assoc]
        exact List.Perm.append_left _ (perm_erase hk)
    · rintro acc left ⟨h1, h2⟩
      have : left = [] := by
        cases left with
        | nil => rfl
        | cons _ _ => simp at h1
      subst this
      rw [List.append_nil] at h2
      exact ⟨rfl, hq acc h2⟩
  rcases h with e | e <;> subst e
  · refine And.intro rfl (And.intro rfl ?_)
    refine And.intro (by omega) (And.intro (by omega) ?_)
    show lc_L_mixed_1 _ (rngD 0 (((ds.length : Nat) : Int).toNat)) [] _
    rw [Int.toNat_natCast, rngD_0]
    exact main
  · refine And.intro rfl (And.intro rfl ?_)
    refine And.intro (by omega) (And.intro (by omega) ?_)
    show lc_L_mixed_1 _ (rngD 0 (((ds.length : Nat) : Int).toNat)) [] _
    rw [Int.toNat_natCast, rngD_0]
    exact main
end TA
namespace TA
open PySem PySem.Spec PySem.Calls PyProof.Rows L2 CL
/-! ### drawn arrows -/
def allP : List Nat → List (Nat × Nat)
  | [] => []
  | x :: r => r.map (fun y => (x, y)) ++ allP r
theorem idx_ne {x y : Nat} {r : List Nat} (h : x ≠ y) : (x :: r).idxOf y = r.idxOf y + 1 := by
  rw [List.idxOf_cons]
  have : (x == y) = false := by simpa using h
  rw [this]; rfl
theorem allP_mem : ∀ (r : List Nat) (p : Nat × Nat), r.Nodup → p ∈ allP r → p.1 ∈ r ∧ p.2 ∈ r ∧ r.idxOf p.1 < r.idxOf p.2
  | [], p, _, h => by cases h
  | x :: r, p, nd, h => by
    have nd' := List.nodup_cons.mp nd
    rcases List.mem_append.mp h with h | h
    · obtain ⟨y, hy, e⟩ := List.mem_map.mp h
      subst e
      refine ⟨List.mem_cons_self, List.mem_cons_of_mem _ hy, ?_⟩
      have : x ≠ y := fun z => nd'.1 (by rw [z]; exact hy)
      show (x :: r).idxOf x < (x :: r).idxOf y
      rw [List.idxOf_cons_self, idx_ne this]
      omega
    · obtain ⟨h1, h2, h3⟩ := allP_mem r p nd'.2 h
      refine ⟨List.mem_cons_of_mem _ h1, List.mem_cons_of_mem _ h2, ?_⟩
      have e1 : x ≠ p.1 := fun z => nd'.1 (by rw [z]; exact h1)
      have e2 : x ≠ p.2 := fun z => nd'.1 (by rw [z]; exact h2)
      rw [idx_ne e1, idx_ne e2]
      omega
theorem srt_eq {p q : Nat × Nat} (h : srt p = srt q) : p = q ∨ p = (q.2, q.1) := by
  unfold srt at h
  split at h <;> split at h
  · exact .inl h
  · exact .inr h
  · right
    rw [← h]
  · left
    have h1 := congrArg Prod.fst h
    have h2 := congrArg Prod.snd h
    exact Prod.ext h2 h1
theorem allP_nd : ∀ r : List Nat, r.Nodup → ((allP r).map srt).Nodup
  | [], _ => List.nodup_nil
  | x :: r, nd => by
    have nd' := List.nodup_cons.mp nd
    have ih := allP_nd r nd'.2
    show ((r.map (fun y => (x, y)) ++ allP r).map srt).Nodup
    rw [List.map_append, List.map_map]
    refine List.nodup_append.mpr ⟨?_, ih, ?_⟩
    · refine List.Pairwise.map _ (fun a b (h : a ≠ b) => ?_) nd'.2
      intro e
      rcases srt_eq e with e | e
      · exact h (congrArg Prod.snd e)
      · have h1 := congrArg Prod.fst e
        have h2 := congrArg Prod.snd e
        have h1 : x = b := h1
        have h2 : a = x := h2
        exact h (by rw [h2, h1])
    · intro a ha b hb e
      subst e
      obtain ⟨y, hy, e1⟩ := List.mem_map.mp ha
      obtain ⟨q, hq, e2⟩ := List.mem_map.mp hb
      obtain ⟨h1, h2, _⟩ := allP_mem r q nd'.2 hq
      rcases srt_eq (p := q) (q := (x, y)) (by rw [e2, ← e1]; rfl) with e | e
      · exact nd'.1 (by rw [e] at h1; exact h1)
      · exact nd'.1 (by rw [e] at h2; exact h2)
theorem allP_len : ∀ r : List Nat, 2 * (allP r).length + r.length = r.length * r.length
  | [] => rfl
  | x :: r => by
    have := allP_len r
    show 2 * (r.map (fun y => (x, y)) ++ allP r).length + (r.length + 1) = (r.length + 1) * (r.length + 1)
    rw [List.length_append, List.length_map]
    simp only [Nat.add_mul, Nat.mul_add, Nat.mul_one, Nat.one_mul]
    omega
theorem VAr.sub {n : Nat} {As Bs : List (Nat × Nat)} (h : VAr n As) (s : Bs.Sublist As) : VAr n Bs :=
  ⟨h.lo, h.hi, fun p hp => h.inn p (s.subset hp), h.nd.sublist (s.map srt), Nat.le_trans s.length_le h.len, let ⟨r, hr⟩ := h.rk; ⟨r, fun p hp => hr p (s.subset hp)⟩⟩
theorem VAr.perm {n : Nat} {As Bs : List (Nat × Nat)} (h : VAr n As) (s : Bs.Perm As) : VAr n Bs :=
  ⟨h.lo, h.hi, fun p hp => h.inn p (s.subset hp), ((s.map srt).nodup_iff).mpr h.nd, by rw [s.length_eq]; exact h.len, let ⟨r, hr⟩ := h.rk; ⟨r, fun p hp => hr p (s.subset hp)⟩⟩
theorem VAr.all {n : Nat} {r : List Nat} (h1 : 1 ≤ n) (h2 : n ≤ 10) (hr : r.Perm (List.range n)) : VAr n (allP r) := by
  have nd : r.Nodup := hr.nodup_iff.mpr List.nodup_range
  have hl := hr.length_eq
  rw [List.length_range] at hl
  refine ⟨h1, h2, fun p hp => ?_, allP_nd r nd, ?_, ⟨fun v => r.idxOf v, fun p hp => (allP_mem r p nd hp).2.2⟩⟩
  · obtain ⟨a, b, c⟩ := allP_mem r p nd hp
    exact ⟨List.mem_range.mp (hr.subset a), List.mem_range.mp (hr.subset b), fun z => by rw [z] at c; omega⟩
  · have := allP_len r
    rw [hl] at this
    have : n * n ≤ 10 * 10 := Nat.mul_le_mul h2 h2
    omega
inductive R_L_arrows : List D → (D → Prop) → Prop
  | mk {Q : D → Prop} (n : Nat) (h1 : 1 ≤ n) (h2 : n ≤ 10) (hq : ∀ As, VAr n As → Q (arD As)) : R_L_arrows [.int n] Q
abbrev lc_L_arrows_1 (Z : List D → Ev → Prop) : List D → List D → Ev → Prop := lcL (gN 6) (cB (c2 cLt (cOf (cCallB 0 Bag R_L_draw (cConsE (cC (.int 4)) cNilE))) (cSl 3))) (cTup (cConsE (c2 cIx (cSl 2) (cSl 5)) (cConsE (c2 cIx (cSl 2) (cSl 6)) cNilE))) [6] Z
def bd_L_arrows_1 : CS := (cExt 4 (cLc (cR2 (cOf (c2 cAdd (cSl 5) (cOf (cC (.int 1))))) (cSl 1)) (gN 6) (cB (c2 cLt (cOf (cCallB 0 Bag R_L_draw (cConsE (cC (.int 4)) cNilE))) (cSl 3))) (cTup (cConsE (c2 cIx (cSl 2) (cSl 5)) (cConsE (c2 cIx (cSl 2) (cSl 6)) cNilE))) [6]))
abbrev lp_L_arrows_1 (C : CEnds) : List D → Ev → Prop := forL (gN 5) [5, 6] bd_L_arrows_1 C
abbrev N_L_arrows : List Str := ["_law_hand_here", "_law_many", "_law_row", "_law_rare", "_law_found", "_law_at", "_law_k"]
def t_L_arrows : CS := (cSeq (cSet 2 (cCallB 0 Bag R_L_mixed (cConsE (cLR1 (cSl 1)) cNilE)))
  (cSeq (cSet 3 (cCallB 0 Bag R_L_any (cConsE (cLst (cConsE (cC (.int 1)) (cConsE (cC (.int 2)) (cConsE (cC (.int 2)) (cConsE (cC (.int 3)) (cConsE (cC (.int 4)) cNilE)))))) cNilE)))
  (cSeq (cOwn 4 (cLst cNilE))
  (cSeq (cFor (cR1 (cSl 1)) (gN 5) [5, 6] bd_L_arrows_1)
  (cRet (cF cTuple (cCons (cOf (cF cSorted (cCons (cSl 4) cNil))) cNil)))))))
theorem len_L_arrows : ∀ ds Q, R_L_arrows ds Q → ds.length + 1 = 2 := fun _ _ h => by cases h; rfl
theorem nats_of : ∀ {es : List D} {ns : List Nat}, es.Perm (ns.map nI) → ∃ ms : List Nat, es = ms.map nI ∧ ms.Perm ns := fun {es ns} h => by
  have hm : ∀ e ∈ es, ∃ m, e = nI m := fun e he => by
    obtain ⟨m, _, e'⟩ := List.mem_map.mp (h.subset he)
    exact ⟨m, e'.symm⟩
  have : ∃ ms : List Nat, es = ms.map nI := by
    clear h
    induction es with
    | nil => exact ⟨[], rfl⟩
    | cons e es ih =>
      obtain ⟨m, hm1⟩ := hm e List.mem_cons_self
      obtain ⟨ms, hms⟩ := ih fun e he => hm e (List.mem_cons_of_mem _ he)
      exact ⟨m :: ms, by rw [hm1, hms]; rfl⟩
  obtain ⟨ms, e⟩ := this
  subst e
  refine ⟨ms, rfl, ?_⟩
  let un : D → Nat := fun d => match d with | .int i => i.toNat | _ => 0
  have := h.map un
  rw [List.map_map, List.map_map] at this
  have e : un ∘ nI = id := by funext n; show (n : Int).toNat = n; omega
  rw [e, List.map_id, List.map_id] at this
  exact this
theorem pure_L_arrows : ∀ v0 ds Q, R_L_arrows ds Q → t_L_arrows { nx := fun ρ => ρ[0]? = some (.ob (pin Bag v0)) ∧ Q .non, rt := fun d ρ => ρ[0]? = some (.ob (pin Bag v0)) ∧ Q d } (envB (pin Bag v0) N_L_arrows ds) := fun v0 _ Q ⟨n, h1, h2, hq⟩ => by
  refine And.intro ⟨v0, rfl⟩ (And.intro rfl (And.intro (by omega) (And.intro (by omega) (And.intro ⟨v0, rfl⟩ ?_))))
  show R_L_mixed [.lst (rngD 0 ((n : Int).toNat))] _
  rw [Int.toNat_natCast, rngD_0]
  refine R_L_mixed.mk _ _ (.inl rfl) (by simp; omega) fun es hes => ?_
  obtain ⟨r, rfl, hr⟩ := nats_of hes
  have hl := hr.length_eq
  rw [List.length_range] at hl
  refine And.intro ⟨v0, rfl⟩ (And.intro (szle (Nat.le_of_ble_eq_true rfl)) (And.intro ⟨v0, rfl⟩ ?_))
  refine R_L_any.mk _ (Nat.zero_lt_succ _) (Nat.lt_of_sub_eq_succ rfl) fun rare hrare => ?_
  obtain ⟨ra, rfl⟩ : ∃ ra : Int, rare = .int ra := by
    simp at hrare
    rcases hrare with e | e | e | e <;> exact ⟨_, e⟩
  refine And.intro (szle (Nat.zero_le _)) ?_
  refine And.intro rfl (And.intro (by omega) (And.intro (by omega) ?_))
  show lp_L_arrows_1 _ (rngD 0 ((n : Int).toNat)) [.ob (pin Bag v0), .fz (.int n), .fz (.lst (r.map nI)), .fz (.int ra), .ow [], .un, .un]
  rw [Int.toNat_natCast, rngD_0]
  have hV := VAr.all h1 h2 hr
  refine for_any nI (fun F : List (Nat × Nat) => [.ob (pin Bag v0), .fz (.int n), .fz (.lst (r.map nI)), .fz (.int ra), .ow (F.map pI), .un, .un])
    (fun rest F => ∃ at_ pre, (List.range n).drop at_ = rest ∧ at_ ≤ n ∧ allP r = pre ++ allP (r.drop at_) ∧ F.Sublist pre) ?_ ?_ _ [] ⟨0, [], rfl, by omega, rfl, List.Sublist.refl _⟩
  · rintro j rest F ⟨at_, pre, e, hat, ep, hs⟩ X hX
    have hat' : at_ < n := by
      have := congrArg List.length e
      simp at this
      omega
    rw [List.drop_eq_getElem_cons (by simpa using hat')] at e
    injection e with e1 e2
    have e1 : at_ = j := by simpa using e1
    subst e1
    have hal : at_ < r.length := by omega
    rw [List.drop_eq_getElem_cons hal] at ep
    have ep : allP r = (pre ++ (r.drop (at_ + 1)).map fun y => (r[at_], y)) ++ allP (r.drop (at_ + 1)) := by
      rw [ep, List.append_assoc]; rfl
    have hFl : ∀ G : List (Nat × Nat), G.Sublist (pre ++ (r.drop (at_ + 1)).map fun y => (r[at_], y)) → G.length ≤ 100 := fun G hG => by
      have h1 := hG.length_le
      have h2 := congrArg List.length ep
      rw [List.length_append] at h2
      have := hV.len
      omega
    refine And.intro rfl (And.intro rfl (And.intro rfl (And.intro ?_ ?_)))
    · show (-(2 ^ 62) ≤ (at_ : Int) + 1 ∧ (at_ : Int) + 1 < 2 ^ 62 ∧ -(2 ^ 62) ≤ (n : Int) ∧ (n : Int) < 2 ^ 62)
      omega
    show lc_L_arrows_1 _ (rngD ((at_ : Int) + 1) (((n : Int) - ((at_ : Int) + 1)).toNat)) [] [.ob (pin Bag v0), .fz (.int n), .fz (.lst (r.map nI)), .fz (.int ra), .ow (F.map pI), .fz (nI at_), .un]
    rw [show ((at_ : Int) + 1) = ((at_ + 1 : Nat) : Int) by omega, rngD_map, show ((n : Int) - ((at_ + 1 : Nat) : Int)).toNat = n - (at_ + 1) by omega]
    have em : ∃ fin : List D → Ev → Prop, True := ⟨fun _ _ => True, trivial⟩
    refine lc_any (Z := _) nI (fun _ : Unit => [.ob (pin Bag v0), .fz (.int n), .fz (.lst (r.map nI)), .fz (.int ra), .ow (F.map pI), .fz (nI at_), .un])
      (fun ks acc _ => ∃ k, at_ + 1 ≤ k ∧ ks = List.range' k (n - k) ∧ k ≤ n ∧ ∃ G : List (Nat × Nat), acc = G.map pI ∧ G.Sublist ((((r.drop (at_ + 1)).take (k - (at_ + 1)))).map fun y => (r[at_], y))) ?_ ?_ ?_ _ [] () ⟨at_ + 1, by omega, rfl, by omega, [], rfl, List.nil_sublist _⟩
    · rintro a ks acc _ ⟨k, _, _, _, G, rfl, hG⟩
      have := hG.length_le
      rw [List.length_map, List.length_take, List.length_drop] at this
      exact szlt (by rw [List.length_map]; omega)
    · rintro a ks acc _ ⟨k, hk1, hk2, hk3, G, rfl, hG⟩ X' Y' hX' hY'
      have hkn : k < n := by
        have := congrArg List.length hk2
        rw [List.length_range', List.length_cons] at this
        omega
      rw [show n - k = (n - (k + 1)) + 1 by omega, List.range'_succ] at hk2
      injection hk2 with ea eks
      subst ea
      have hkr : a < r.length := by omega
      have et : (((r.drop (at_ + 1)).take (a + 1 - (at_ + 1)))).map (fun y => (r[at_], y)) = (((r.drop (at_ + 1)).take (a - (at_ + 1)))).map (fun y => (r[at_], y)) ++ [(r[at_], r[a])] := by
        rw [show a + 1 - (at_ + 1) = (a - (at_ + 1)) + 1 by omega, List.take_succ, List.getElem?_drop, show at_ + 1 + (a - (at_ + 1)) = a by omega, List.getElem?_eq_getElem hkr, List.map_append]
        rfl
      refine And.intro ⟨v0, rfl⟩ (And.intro ⟨v0, rfl⟩ ?_)
      refine R_L_draw.mk 4 (by decide) (by decide) fun z hz => ?_
      refine And.intro rfl ?_
      show (if decide ((z : Int) < ra) = true then _ else _)
      by_cases hlt : (z : Int) < ra
      · rw [if_pos (decide_eq_true hlt)]
        refine And.intro rfl (And.intro rfl ?_)
        show (match (atI (r.map nI) (at_ : Int)) with | some d => _ | none => False)
        rw [atI_nat _ at_ _ rfl, List.getElem?_map, List.getElem?_eq_getElem hal]
        refine And.intro rfl (And.intro rfl ?_)
        show (match (atI (r.map nI) (a : Int)) with | some d => _ | none => False)
        rw [atI_nat _ a _ rfl, List.getElem?_map, List.getElem?_eq_getElem hkr]
        refine And.intro (szle (Nat.le_of_ble_eq_true rfl)) ?_
        refine hX' (pI (r[at_], r[a])) () ⟨a + 1, by omega, eks, by omega, G ++ [(r[at_], r[a])], by rw [List.map_append]; rfl, ?_⟩
        rw [et]
        exact hG.append (List.Sublist.refl _)
      · rw [if_neg (by simpa using hlt)]
        refine hY' () ⟨a + 1, by omega, eks, by omega, G, rfl, ?_⟩
        rw [et]
        exact hG.trans (List.sublist_append_left _ _)
    · rintro acc _ ⟨k, hk1, hk2, hk3, G, rfl, hG⟩
      have hkn : k = n := by
        have := congrArg List.length hk2
        rw [List.length_range', List.length_nil] at this
        omega
      subst hkn
      have hG' : (F ++ G).Sublist (pre ++ (r.drop (at_ + 1)).map fun y => (r[at_], y)) := hs.append (hG.trans ((List.take_sublist _ _).map _))
      have hl1 := hFl _ hG'
      rw [List.length_append] at hl1
      refine And.intro (szle (by rw [List.length_map, List.length_map]; omega)) ?_
      have := hX (F ++ G) ⟨at_ + 1, _, e2, by omega, ep, hG'⟩
      rw [List.map_append] at this
      exact this
  · rintro F ⟨at_, pre, e, hat, ep, hs⟩
    have hF : F.Sublist (allP r) := by rw [ep]; exact hs.trans (List.sublist_append_left _ _)
    have s := sort_pairs F (szle (by have := hF.length_le; have := hV.len; omega))
    refine And.intro rfl (And.intro s.1 ?_)
    rw [s.2]
    exact And.intro rfl (hq _ ((hV.sub hF).perm (List.mergeSort_perm _ _)))
end TA
namespace TA
open PySem PySem.Spec PySem.Calls PyProof.Rows L2 CL
/-! ### is -/
inductive R_L_isN : Nat → List D → (D → Prop) → Prop
  | int {Q : D → Prop} (n : Nat) (a b : Int) (hq : Q (.bl (decide (a = b)))) : R_L_isN (n + 1) [.int a, .int b] Q
  | lst {Q : D → Prop} (n : Nat) (as bs : List Int) (hl : as.length = bs.length) (hs : as.length ≤ 1000) (hq : Q (.bl (decide (as = bs)))) : R_L_isN (n + 2) [.lst (as.map D.int), .lst (bs.map D.int)] Q
abbrev R_L_is : List D → (D → Prop) → Prop := R_L_isN 2
abbrev lc_L_is_1 (Rs : CF) (Z : List D → Ev → Prop) : List D → List D → Ev → Prop := lcL (gTup0 2 (gCons0 (gN 2) (gCons0 (gN 3) gNil0))) cYes (cCall Rs (cConsE (cVar 2) (cConsE (cVar 3) cNilE))) [2, 3] Z
abbrev N_L_is : List Str := ["_law_told", "_law_due", "_law_one", "_law_two"]
def t_L_is (Rs : CF) : CS := (cSeq (cIfS (cB (c1 (cIsi2 .tuple .list) (cSl 1)))
  (cSeq (cIfS (cOrT (cB (c2 cNe (cOf (c1 (cIsi .tuple) (cSl 0))) (cOf (c1 (cIsi .tuple) (cSl 1))))) (cNot (cB (c1 (cIsi2 .tuple .list) (cSl 0)))))
  (cRet (cC (.bl false)))
  cNext)
  (cRet (cAndV (c2 cEq (cOf (cF cLen (cCons (cSl 0) cNil))) (cOf (cF cLen (cCons (cSl 1) cNil)))) (cF cAll (cCons (cOf (cLc (cZp (cVar 0) (cVar 1)) (gTup0 2 (gCons0 (gN 2) (gCons0 (gN 3) gNil0))) cYes (cCall Rs (cConsE (cVar 2) (cConsE (cVar 3) cNilE))) [2, 3])) cNil)))))
  cNext)
  (cRet (cAndV (c2 cEq (cOf (c1 (cIsi .bool) (cSl 0))) (cOf (c1 (cIsi .bool) (cSl 1)))) (c2 cEq (cSl 0) (cSl 1)))))
theorem len_L_isN (n : Nat) : ∀ ds Q, R_L_isN n ds Q → ds.length = 2 := fun _ _ h => by cases h <;> rfl
theorem zip_ints : ∀ as bs : List Int, zipD (as.map D.int) (bs.map D.int) = (as.zip bs).map fun p => D.tup [.int p.1, .int p.2]
  | [], bs => by cases bs <;> rfl
  | a :: as, [] => rfl
  | a :: as, b :: bs => by
    show D.tup [.int a, .int b] :: zipD (as.map D.int) (bs.map D.int) = _
    rw [zip_ints as bs]; rfl
theorem zip_all : ∀ as bs : List Int, as.length = bs.length → ((as.zip bs).map fun p => decide (p.1 = p.2)).all id = decide (as = bs)
  | [], [], _ => rfl
  | a :: as, b :: bs, h => by
    rw [List.zip_cons_cons, List.map_cons, List.all_cons, zip_all as bs (by simpa using h)]
    by_cases e : a = b
    · subst e; simp
    · simp [e]
theorem pure_L_isN (n : Nat) : ∀ ds Q, R_L_isN (n + 1) ds Q → t_L_is (R_L_isN n) { nx := fun _ => Q .non, rt := fun d _ => Q d } (envOf N_L_is ds) := fun _ Q h => by
  cases h with
  | int _ a b hq =>
    refine And.intro rfl ?_
    refine And.intro rfl (And.intro rfl (And.intro rfl (And.intro rfl ?_)))
    refine And.intro rfl (And.intro rfl (And.intro (plain_int 30 _) (And.intro (plain_int 30 _) ?_)))
    show Q (.bl (eqD (.int a) (.int b)))
    rw [eqD_int]; exact hq
  | lst m as bs hl hs hq =>
    refine And.intro rfl ?_
    refine And.intro rfl (And.intro rfl (And.intro rfl (And.intro rfl ?_)))
    refine And.intro rfl ?_
    refine And.intro rfl (And.intro rfl (And.intro (plain_int 30 _) (And.intro (plain_int 30 _) ?_)))
    show (match D.bl (eqD (.int ((as.map D.int).length : Nat)) (.int ((bs.map D.int).length : Nat))) with | .bl true => _ | .bl false => _ | _ => False)
    rw [eqD_int, List.length_map, List.length_map, hl, decide_eq_true rfl]
    show lc_L_is_1 (R_L_isN (m + 1)) _ (zipD (as.map D.int) (bs.map D.int)) [] [.fz (.lst (as.map D.int)), .fz (.lst (bs.map D.int)), .un, .un]
    rw [zip_ints]
    refine lc_pure (fun p : Int × Int => D.tup [.int p.1, .int p.2]) (fun _ => true) (fun p => D.bl (decide (p.1 = p.2))) [.fz (.lst (as.map D.int)), .fz (.lst (bs.map D.int)), .un, .un] (as.zip bs) (fun p _ X Y hX _ => ?_) (szle (by rw [List.length_zip]; omega)) ?_
    · refine And.intro rfl ?_
      exact R_L_isN.int m p.1 p.2 (hX rfl)
    · rw [List.filter_eq_self.mpr (fun _ _ => rfl)]
      have e1 : ((as.zip bs).map fun p => D.bl (decide (p.1 = p.2))) = ((as.zip bs).map fun p => decide (p.1 = p.2)).map D.bl := by rw [List.map_map]; rfl
      rw [e1]
      show (match blsOf (((as.zip bs).map fun p => decide (p.1 = p.2)).map D.bl) with | some bs => _ | none => False)
      rw [blsOf_map]
      show Q (.bl (((as.zip bs).map fun p => decide (p.1 = p.2)).all id))
      rw [zip_all as bs hl]
      exact hq
/-! ### sums of polynomials -/
def ev (l : List Int) (x : Int) : Int := l.foldr (fun a t => t * x + a) 0
inductive R_L_sum : List D → (D → Prop) → Prop
  | mk {Q : D → Prop} (l : List Int) (x : Int) (h1 : -1000 ≤ x) (h2 : x ≤ 1000) (hq : Q (.int (ev l x))) : R_L_sum [.lst (l.map D.int), .int x] Q
def bd_L_sum_1 : CS := (cSet 2 (c2 cAdd (cOf (c2 cMul (cSl 2) (cSl 1))) (cSl 3)))
abbrev lp_L_sum_1 (C : CEnds) : List D → Ev → Prop := forL (gN 3) [3] bd_L_sum_1 C
abbrev N_L_sum : List Str := ["_law_polynomial_here", "_law_colours", "_law_total", "_law_number"]
def t_L_sum : CS := (cSeq (cSet 2 (cC (.int 0)))
  (cSeq (cFor (cIS (c1 cRevL (cSl 0))) (gN 3) [3] bd_L_sum_1)
  (cRet (cVar 2))))
theorem len_L_sum : ∀ ds Q, R_L_sum ds Q → ds.length = 2 := fun _ _ h => by cases h; rfl
theorem pure_L_sum : ∀ ds Q, R_L_sum ds Q → t_L_sum { nx := fun _ => Q .non, rt := fun d _ => Q d } (envOf N_L_sum ds) := fun _ Q ⟨l, x, h1, h2, hq⟩ => by
  refine And.intro rfl ?_
  show lp_L_sum_1 _ (l.map D.int).reverse [.fz (.lst (l.map D.int)), .fz (.int x), .fz (.int 0), .un]
  rw [← List.map_reverse]
  refine for_any D.int (fun t : Int => [.fz (.lst (l.map D.int)), .fz (.int x), .fz (.int t), .un]) (fun rest t => rest.foldl (fun t a => t * x + a) t = ev l x) ?_ ?_ _ 0 ?_
  · intro a rest t h X hX
    refine And.intro rfl (And.intro rfl (And.intro (.inr ⟨by omega, by omega⟩) (And.intro rfl ?_)))
    exact hX _ h
  · intro t h
    have h : t = ev l x := h
    subst h
    exact hq
  · show l.reverse.foldl (fun t a => t * x + a) 0 = ev l x
    rw [List.foldl_reverse]; rfl
end TA
namespace TA
open PySem PySem.Spec PySem.Calls PyProof.Rows L2 CL
/-! ### polynomials -/
def ren (u v : Nat) (p : Nat × Nat) : Nat × Nat := srt (if p.1 = v then u else p.1, if p.2 = v then u else p.2)
def contr (u v : Nat) : List (Nat × Nat) → List (Nat × Nat) → List (Nat × Nat)
  | [], acc => acc
  | p :: ps, acc => contr u v ps (if ren u v p ∈ acc then acc else acc ++ [ren u v p])
theorem contr_len (u v : Nat) : ∀ ps acc : List (Nat × Nat), (contr u v ps acc).length ≤ acc.length + ps.length
  | [], acc => by unfold contr; simp
  | p :: ps, acc => by
    unfold contr
    have := contr_len u v ps (if ren u v p ∈ acc then acc else acc ++ [ren u v p])
    split at this
    · rw [if_pos (by assumption)]; simp; omega
    · rw [if_neg (by assumption)]; simp at this ⊢; omega
def subP : List Int → List Int → List Int
  | [], _ => []
  | a :: as, [] => (a - 0) :: subP as []
  | a :: as, b :: bs => (a - b) :: subP as bs
theorem subP_len : ∀ as bs : List Int, (subP as bs).length = as.length
  | [], bs => by cases bs <;> rfl
  | a :: as, [] => by unfold subP; rw [List.length_cons, List.length_cons, subP_len as []]
  | a :: as, b :: bs => by unfold subP; rw [List.length_cons, List.length_cons, subP_len as bs]
def poly (th : List Nat) : List (Nat × Nat) → List Int
  | [] => List.replicate th.length 0 ++ [1]
  | (u, v) :: E => subP (poly th E) (poly (th.filter fun x => decide (x ≠ v)) (contr u v E []))
  termination_by E => E.length
  decreasing_by
    · simp
    · have := contr_len u v E []; simp at this ⊢; omega
theorem poly_nil (th : List Nat) : poly th [] = List.replicate th.length 0 ++ [1] := by rw [poly]
theorem poly_cons (th : List Nat) (u v : Nat) (E : List (Nat × Nat)) : poly th ((u, v) :: E) = subP (poly th E) (poly (th.filter fun x => decide (x ≠ v)) (contr u v E [])) := by rw [poly]
theorem poly_len (th : List Nat) : ∀ E, (poly th E).length = th.length + 1
  | [] => by rw [poly_nil]; simp
  | (u, v) :: E => by rw [poly_cons, subP_len, poly_len th E]
def lI (p : Nat × Nat) : D := .lst [nI p.1, nI p.2]
theorem eqD_lI (p q : Nat × Nat) : eqD (lI p) (lI q) = decide (p = q) := by
  have e : ∀ p : Nat × Nat, D.py (lI p) = .list ([(p.1 : Int), (p.2 : Int)].map PyData.int) := fun p => by unfold lI nI; simp only [D.py, D.pyA]; rfl
  unfold eqD
  rw [e, e]
  show PyData.eqvAll _ _ = _
  rw [PySem.W.ked_eqvAll]
  rw [decide_eq_decide]
  constructor
  · intro h
    simp at h
    exact Prod.ext (by omega) (by omega)
  · intro h; rw [h]
theorem inD_lI (p : Nat × Nat) (acc : List (Nat × Nat)) : inD (lI p) (acc.map lI) = decide (p ∈ acc) := by
  unfold inD
  rw [List.any_map, Bool.eq_iff_iff]
  simp only [List.any_eq_true, Function.comp, eqD_lI, decide_eq_true_eq]
  exact ⟨fun ⟨x, h, e⟩ => e ▸ h, fun h => ⟨p, h, rfl⟩⟩
theorem plain_lI (n : Nat) (p : Nat × Nat) : D.plain (n + 1) (lI p) = true := by
  unfold lI nI D.plain
  unfold D.plainA; rw [plain_int]; unfold D.plainA; rw [plain_int]; unfold D.plainA; rfl
inductive R_L_polN : Nat → List D → (D → Prop) → Prop
  | mk {Q : D → Prop} (n : Nat) (th : List Nat) (E : List (Nat × Nat)) (hE : E.length < n) (hs : E.length ≤ 100) (ht : th.length ≤ 1000) (hq : Q (.lst ((poly th E).map D.int))) : R_L_polN n [.lst (th.map nI), .lst (E.map pI)] Q
abbrev R_L_polynomial : List D → (D → Prop) → Prop := R_L_polN 14
abbrev lc_L_polynomial_1 (Rs : CF) (Z : List D → Ev → Prop) : List D → List D → Ev → Prop := lcL (gN 6) cYes (cIf (cB (c2 cEq (cSl 6) (cSl 3))) (cVar 2) (cVar 6)) [6] Z
def bd_L_polynomial_1 (Rs : CF) : CS := (cSeq (cSet 7 (cF cSorted (cCons (cOf (cLc (cIS (cVar 5)) (gN 6) cYes (cIf (cB (c2 cEq (cSl 6) (cSl 3))) (cVar 2) (cVar 6)) [6])) cNil)))
  (cIfS (cB (c2 cNotIn (cSl 7) (cSl 4)))
  (cApp 4 (cVar 7))
  cNext))
abbrev lp_L_polynomial_1 (Rs : CF) (C : CEnds) : List D → Ev → Prop := forL (gN 5) [5, 6, 7] (bd_L_polynomial_1 Rs) C
abbrev lc_L_polynomial_2 (Rs : CF) (Z : List D → Ev → Prop) : List D → List D → Ev → Prop := lcL (gN 9) (cB (c2 cNe (cSl 9) (cSl 3))) (cVar 9) [9] Z
abbrev lc_L_polynomial_3 (Rs : CF) (Z : List D → Ev → Prop) : List D → List D → Ev → Prop := lcL (gN 7) cYes (cF cTuple (cCons (cSl 7) cNil)) [7] Z
abbrev lc_L_polynomial_4 (Rs : CF) (Z : List D → Ev → Prop) : List D → List D → Ev → Prop := lcL (gTup0 2 (gCons0 (gN 11) (gCons0 (gN 12) gNil0))) cYes (c2 cSub (cSl 12) (cOf (cIf (cB (c2 cLt (cSl 11) (cOf (cF cLen (cCons (cSl 10) cNil))))) (c2 cIx (cSl 10) (cSl 11)) (cC (.int 0))))) [11, 12] Z
abbrev N_L_polynomial : List Str := ["_law_things", "_law_ties", "_law_u", "_law_v", "_law_one", "_law_pair", "_law_end", "_law_ends", "_law_more", "_law_thing", "_law_less", "_law_at", "_law_number"]
def t_L_polynomial (Rs : CF) : CS := (cSeq (cIfS (cB (c2 cEq (cOf (cF cLen (cCons (cSl 1) cNil))) (cOf (cC (.int 0)))))
  (cRet (c2 cAdd (cOf (cRepN (cLst (cConsE (cC (.int 0)) cNilE)) (cOf (cF cLen (cCons (cSl 0) cNil))))) (cOf (cLst (cConsE (cC (.int 1)) cNilE)))))
  cNext)
  (cSeq (cAsg (c2 cIx (cSl 1) (cOf (cC (.int 0)))) (gTup0 2 (gCons0 (gN 2) (gCons0 (gN 3) gNil0))))
  (cSeq (cOwn 4 (cLst cNilE))
  (cSeq (cFor (cIS (cSlice (cSl 1) (cSoP (cOf (cC (.int 1)))) cNoP)) (gN 5) [5, 6, 7] (bd_L_polynomial_1 Rs))
  (cSeq (cSet 8 (cCall Rs (cConsE (cVar 0) (cConsE (cSlice (cSl 1) (cSoP (cOf (cC (.int 1)))) cNoP) cNilE))))
  (cSeq (cFrz [4] (cSet 10 (cCall Rs (cConsE (cLc (cIS (cVar 0)) (gN 9) (cB (c2 cNe (cSl 9) (cSl 3))) (cVar 9) [9]) (cConsE (cLc (cIS (cVar 4)) (gN 7) cYes (cF cTuple (cCons (cSl 7) cNil)) [7]) cNilE)))))
  (cRet (cLc (cEn (cVar 8)) (gTup0 2 (gCons0 (gN 11) (gCons0 (gN 12) gNil0))) cYes (c2 cSub (cSl 12) (cOf (cIf (cB (c2 cLt (cSl 11) (cOf (cF cLen (cCons (cSl 10) cNil))))) (c2 cIx (cSl 10) (cSl 11)) (cC (.int 0))))) [11, 12]))))))))
theorem len_L_polN (n : Nat) : ∀ ds Q, R_L_polN n ds Q → ds.length = 2 := fun _ _ h => by cases h; rfl
theorem enum_ints : ∀ (k : Nat) (l : List Int), enumD k (l.map D.int) = ((List.range' k l.length).zip l).map fun p => D.tup [nI p.1, .int p.2]
  | _, [] => rfl
  | k, a :: l => by
    rw [List.map_cons, List.length_cons, List.range'_succ]
    show D.tup [.int (k : Nat), .int a] :: enumD (k + 1) (l.map D.int) = _
    rw [enum_ints (k + 1) l]; rfl
theorem subP_enum : ∀ (l less : List Int) (k : Nat), ((List.range' k l.length).zip l).map (fun p : Nat × Int => p.2 - (less[p.1]?).getD 0) = subP l (less.drop k)
  | [], less, k => by cases h : less.drop k <;> rfl
  | a :: l, less, k => by
    rw [List.length_cons, List.range'_succ, List.zip_cons_cons, List.map_cons, subP_enum l less (k + 1)]
    by_cases h : k < less.length
    · rw [List.drop_eq_getElem_cons h, List.getElem?_eq_getElem h]; rfl
    · rw [List.drop_eq_nil_of_le (by omega), List.drop_eq_nil_of_le (by omega), List.getElem?_eq_none (by omega)]; rfl
theorem cut1 (d : D) (ds : List D) : CL.cutD (d :: ds) (some 1) none = ds := by
  unfold CL.cutD
  have e1 : HT.sIx (d :: ds).length 0 (some 1) = 1 := by
    show (if (1 : Int) < 0 then ((1 : Int) + (((d :: ds).length : Nat) : Int)).toNat else min ((1 : Int)).toNat (d :: ds).length) = 1
    rw [if_neg (by decide), List.length_cons]
    show min 1 (ds.length + 1) = 1
    omega
  rw [e1]
  show (ds).take ((d :: ds).length - 1) = ds
  rw [List.length_cons, Nat.add_sub_cancel, List.take_length]
def pEnv (th : List Nat) (E : List (Nat × Nat)) (u v : Nat) (s4 s5 s6 s7 s8 : Sl) : Ev :=
  [.fz (.lst (th.map nI)), .fz (.lst (E.map pI)), .fz (nI u), .fz (nI v), s4, s5, s6, s7, s8, .un, .un, .un, .un]
/-- ties with v made u, each once -/
theorem pol_loop {Rs : CF} {C : CEnds} {th : List Nat} {E : List (Nat × Nat)} {u v : Nat} (E' : List (Nat × Nat)) (hs : E'.length ≤ 100)
    (fin : C.nx (pEnv th E u v (.ow ((contr u v E' []).map lI)) .un .un .un .un)) : lp_L_polynomial_1 Rs C (E'.map pI) (pEnv th E u v (.ow []) .un .un .un .un) := by
  refine for_any (fg := [5, 6, 7]) (body := bd_L_polynomial_1 Rs) (C := C) (g := gN 5) pI (fun acc : List (Nat × Nat) => pEnv th E u v (.ow (acc.map lI)) .un .un .un .un) (fun rest acc => contr u v rest acc = contr u v E' [] ∧ acc.length + rest.length ≤ 100) ?_ ?_ E' [] ⟨rfl, by simpa using hs⟩
  · rintro p rest acc ⟨h1, h2⟩ X hX
    rw [List.length_cons] at h2
    show lc_L_polynomial_1 Rs _ ([p.1, p.2].map nI) [] (pEnv th E u v (.ow (acc.map lI)) (.fz (pI p)) .un .un .un)
    refine lc_pure nI (fun _ => true) (fun e => nI (if e = v then u else e)) (pEnv th E u v (.ow (acc.map lI)) (.fz (pI p)) .un .un .un) [p.1, p.2] (fun e _ Y Z hY _ => ?_) (szle (Nat.le_of_ble_eq_true rfl)) ?_
    · refine And.intro rfl (And.intro rfl (And.intro (plain_int 30 _) (And.intro (plain_int 30 _) ?_)))
      show (if eqD (.int e) (.int v) = true then _ else _)
      rw [eqD_int]
      have hY := hY rfl
      by_cases h : e = v
      · rw [if_pos (decide_eq_true (by omega))]
        rw [if_pos h] at hY
        exact hY
      · rw [if_neg (by simp; omega)]
        rw [if_neg h] at hY
        exact hY
    · rw [List.filter_eq_self.mpr (fun _ _ => rfl)]
      have s := sort_nats [(if p.1 = v then u else p.1), (if p.2 = v then u else p.2)] (szle (Nat.le_of_ble_eq_true rfl))
      refine And.intro s.1 ?_
      have es : D.lst (([(if p.1 = v then u else p.1), (if p.2 = v then u else p.2)].map nI).mergeSort dLe) = lI (ren u v p) := by
        rw [s.2, sort2]; rfl
      show (cIfS (cB (c2 cNotIn (cSl 7) (cSl 4))) (cApp 4 (cVar 7)) cNext) _ (pEnv th E u v (.ow (acc.map lI)) (.fz (pI p)) .un (.fz (D.lst (([(if p.1 = v then u else p.1), (if p.2 = v then u else p.2)].map nI).mergeSort dLe))) .un)
      rw [es]
      refine And.intro rfl (And.intro rfl (And.intro (plain_lI _ _) (And.intro (plainA_map (plain_lI _) _) ?_)))
      show (if (!inD (lI (ren u v p)) (acc.map lI)) = true then _ else _)
      rw [inD_lI]
      by_cases hin : ren u v p ∈ acc
      · rw [decide_eq_true hin]
        refine hX acc ⟨?_, by omega⟩
        rw [← h1]
        show _ = contr u v rest (if ren u v p ∈ acc then acc else acc ++ [ren u v p])
        rw [if_pos hin]
      · rw [decide_eq_false hin]
        refine And.intro rfl (And.intro (szlt (by rw [List.length_map]; omega)) ?_)
        have := hX (acc ++ [ren u v p]) ⟨by
          rw [← h1]
          show _ = contr u v rest (if ren u v p ∈ acc then acc else acc ++ [ren u v p])
          rw [if_neg hin], by rw [List.length_append, List.length_singleton]; omega⟩
        rw [List.map_append] at this
        exact this
  · rintro acc ⟨h1, h2⟩
    have h1 : acc = contr u v E' [] := h1
    rw [h1]
    exact fin
theorem pure_L_polN (n : Nat) : ∀ ds Q, R_L_polN (n + 1) ds Q → t_L_polynomial (R_L_polN n) { nx := fun _ => Q .non, rt := fun d _ => Q d } (envOf N_L_polynomial ds) := fun _ Q ⟨_, th, E, hE, hs, ht, hq⟩ => by
  refine And.intro rfl (And.intro (plain_int 30 _) (And.intro (plain_int 30 _) ?_))
  show (if eqD (.int ((E.map pI).length : Nat)) (.int 0) = true then _ else _)
  rw [eqD_int, List.length_map]
  cases E with
  | nil =>
    rw [if_pos (show decide (((([] : List (Nat × Nat)).length : Nat) : Int) = 0) = true from rfl)]
    rw [poly_nil] at hq
    refine And.intro (szle (Nat.le_of_ble_eq_true rfl)) (And.intro rfl ?_)
    show (-(2 ^ 63) ≤ (((th.map nI).length : Nat) : Int) ∧ _ ∧ _ ∧ _)
    rw [List.length_map]
    refine ⟨by omega, by omega, szle (by show 1 * ((th.length : Int).toNat) ≤ _; omega), ?_⟩
    refine And.intro (szle (Nat.le_of_ble_eq_true rfl)) ?_
    show ((List.replicate ((th.length : Int).toNat) [D.int 0]).flatten.length + 1 ≤ sizeLine ∧ Q (.lst ((List.replicate ((th.length : Int).toNat) [D.int 0]).flatten ++ [.int 1])))
    rw [Int.toNat_natCast, List.flatten_replicate_singleton]
    refine ⟨szle (by rw [List.length_replicate]; omega), ?_⟩
    rw [List.map_append, List.map_replicate] at hq
    exact hq
  | cons a E =>
    obtain ⟨u, v⟩ := a
    rw [if_neg (by simp; omega)]
    rw [List.length_cons] at hE hs
    refine And.intro rfl ?_
    show (match (atI (pI (u, v) :: E.map pI) (0 : Int)) with | some d => _ | none => False)
    rw [atI_nat _ 0 0 rfl, List.getElem?_cons_zero]
    refine And.intro rfl ?_
    refine And.intro (szle (Nat.zero_le _)) ?_
    refine And.intro rfl ?_
    show lp_L_polynomial_1 (R_L_polN n) _ (CL.cutD (pI (u, v) :: E.map pI) (some 1) none) (pEnv th ((u, v) :: E) u v (.ow []) .un .un .un .un)
    rw [cut1]
    refine pol_loop E (by omega) ?_
    refine And.intro rfl ?_
    show R_L_polN n [.lst (th.map nI), .lst (CL.cutD (pI (u, v) :: E.map pI) (some 1) none)] _
    rw [cut1]
    refine R_L_polN.mk n th E (by omega) (by omega) ht ?_
    refine lc_pure nI (fun x => decide (x ≠ v)) nI (pEnv th ((u, v) :: E) u v (.fz (.lst ((contr u v E []).map lI))) .un .un .un (.fz (.lst ((poly th E).map D.int)))) th (fun e _ Y Z hY hZ => ?_) (szle (by omega)) ?_
    · refine And.intro rfl (And.intro rfl (And.intro (plain_int 30 _) (And.intro (plain_int 30 _) ?_)))
      show (if (!eqD (.int e) (.int v)) = true then _ else _)
      rw [eqD_int]
      by_cases h : e = v
      · rw [decide_eq_true (by omega)]
        exact hZ (decide_eq_false (by omega))
      · rw [decide_eq_false (by omega)]
        exact hY (decide_eq_true (by omega))
    · have hc := contr_len u v E []
      rw [List.length_nil] at hc
      refine lc_pure lI (fun _ => true) pI (pEnv th ((u, v) :: E) u v (.fz (.lst ((contr u v E []).map lI))) .un .un .un (.fz (.lst ((poly th E).map D.int)))) (contr u v E []) (fun e _ Y Z hY hZ => ?_) (szle (by omega)) ?_
      · exact And.intro rfl (hY rfl)
      · rw [List.filter_eq_self.mpr (fun _ _ => rfl)]
        refine R_L_polN.mk n _ _ (by omega) (by omega) (Nat.le_trans (List.length_filter_le _ _) ht) ?_
        generalize hless : poly (th.filter fun x => decide (x ≠ v)) (contr u v E []) = less
        rw [poly_cons, hless] at hq
        show lc_L_polynomial_4 (R_L_polN n) _ (enumD 0 ((poly th E).map D.int)) [] [.fz (.lst (th.map nI)), .fz (.lst (pI (u, v) :: E.map pI)), .fz (nI u), .fz (nI v), .fz (.lst ((contr u v E []).map lI)), .un, .un, .un, .fz (.lst ((poly th E).map D.int)), .un, .fz (.lst (less.map D.int)), .un, .un]
        rw [enum_ints]
        have hl := poly_len th E
        refine lc_pure (fun p : Nat × Int => D.tup [nI p.1, .int p.2]) (fun _ => true) (fun p => D.int (p.2 - (less[p.1]?).getD 0)) _ _ (fun p _ Y Z hY hZ => ?_) (szle (by rw [List.length_zip]; omega)) ?_
        · refine And.intro rfl (And.intro rfl ?_)
          refine And.intro rfl (And.intro rfl ?_)
          show (if decide ((p.1 : Int) < (((less.map D.int).length : Nat) : Int)) = true then _ else _)
          have hY := hY rfl
          by_cases h : p.1 < less.length
          · rw [List.length_map, if_pos (decide_eq_true (by omega))]
            refine And.intro rfl (And.intro rfl ?_)
            show (match (atI (less.map D.int) (p.1 : Int)) with | some d => _ | none => False)
            rw [atI_nat _ p.1 _ rfl, List.getElem?_map, List.getElem?_eq_getElem h]
            rw [List.getElem?_eq_getElem h] at hY
            exact hY
          · rw [List.length_map, if_neg (by simpa using h)]
            rw [List.getElem?_eq_none (by omega)] at hY
            exact hY
        · rw [List.filter_eq_self.mpr (fun _ _ => rfl)]
          have e := subP_enum (poly th E) less 0
          rw [List.drop_zero] at e
          rw [← e, List.map_map] at hq
          exact hq
end TA
namespace TA
open PySem PySem.Spec PySem.Calls PyProof.Rows L2 CL
/-! ### ways -/
def taken (E : List (Nat × Nat)) (k : Nat) (r : List Nat) : List Nat := ((E.filter fun p => decide (p.2 = k)).map (·.1)).map fun u => (r[u]?).getD 0
def extR (q : Nat) (E : List (Nat × Nat)) (k : Nat) (r : List Nat) : List (List Nat) := ((List.range q).filter fun c => decide (c ∉ taken E k r)).map fun c => r ++ [c]
def rows (q : Nat) (E : List (Nat × Nat)) : Nat → List (List Nat)
  | 0 => [[]]
  | k + 1 => (rows q E k).flatMap (extR q E k)
theorem extR_len (q : Nat) (E : List (Nat × Nat)) (k : Nat) (r : List Nat) : (extR q E k r).length ≤ q := by
  unfold extR
  rw [List.length_map]
  exact Nat.le_trans (List.length_filter_le _ _) (by simp)
theorem flat_len (q : Nat) (E : List (Nat × Nat)) (k : Nat) : ∀ l : List (List Nat), (l.flatMap (extR q E k)).length ≤ l.length * q
  | [] => by simp
  | r :: l => by
    rw [List.flatMap_cons, List.length_append, List.length_cons, Nat.add_mul, Nat.one_mul]
    have h1 := extR_len q E k r
    have h2 := flat_len q E k l
    omega
theorem rows_len (q : Nat) (E : List (Nat × Nat)) : ∀ k, (rows q E k).length ≤ q ^ k
  | 0 => Nat.le_refl _
  | k + 1 => by
    rw [Nat.pow_succ]
    exact Nat.le_trans (flat_len q E k _) (Nat.mul_le_mul_right q (rows_len q E k))
theorem rows_mem (q : Nat) (E : List (Nat × Nat)) : ∀ k r, r ∈ rows q E k → r.length = k
  | 0, r, h => by
    have : r = [] := by simpa [rows] using h
    rw [this]; rfl
  | k + 1, r, h => by
    obtain ⟨r', h1, h2⟩ := List.mem_flatMap.mp h
    obtain ⟨c, _, e⟩ := List.mem_map.mp h2
    rw [← e, List.length_append, rows_mem q E k r' h1]; rfl
theorem rows_small {q k : Nat} (E : List (Nat × Nat)) (hq : q ≤ 3) (hk : k ≤ 6) : (rows q E k).length ≤ 729 :=
  Nat.le_trans (rows_len q E k) (Nat.le_trans (Nat.pow_le_pow_left hq k) (Nat.le_trans (Nat.pow_le_pow_right (by decide) hk) (by decide)))
def rI (r : List Nat) : D := .tup (r.map nI)
theorem inD_nI (c : Nat) (l : List Nat) : inD (nI c) (l.map nI) = decide (c ∈ l) := by
  unfold inD
  rw [List.any_map, Bool.eq_iff_iff]
  have e : ∀ x : Nat, eqD (nI x) (nI c) = decide (x = c) := fun x => by unfold nI; rw [eqD_int, decide_eq_decide]; omega
  simp only [List.any_eq_true, Function.comp, e, decide_eq_true_eq]
  exact ⟨fun ⟨x, h, e⟩ => e ▸ h, fun h => ⟨c, h, rfl⟩⟩
inductive R_L_ways : List D → (D → Prop) → Prop
  | mk {Q : D → Prop} (n : Nat) (E : List (Nat × Nat)) (q : Nat) (hn : n ≤ 6) (h3 : q ≤ 3) (hE : ∀ p ∈ E, p.1 < p.2) (hl : E.length ≤ 100) (hq : Q (.int (rows q E n).length)) : R_L_ways [.int n, .lst (E.map pI), .int q] Q
abbrev lc_L_ways_1 (Z : List D → Ev → Prop) : List D → List D → Ev → Prop := lcL (gTup0 2 (gCons0 (gN 5) (gCons0 (gN 6) gNil0))) (cB (c2 cEq (cSl 6) (cSl 4))) (cVar 5) [5, 6] Z
abbrev lc_L_ways_2 (Z : List D → Ev → Prop) : List D → List D → Ev → Prop := lcL (gN 5) cYes (c2 cIx (cSl 9) (cSl 5)) [5] Z
abbrev lc_L_ways_3 (Z : List D → Ev → Prop) : List D → List D → Ev → Prop := lcL (gN 11) (cB (c2 cNotIn (cSl 11) (cSl 10))) (c2 cAdd (cSl 9) (cOf (cTup (cConsE (cVar 11) cNilE)))) [11] Z
def bd_L_ways_1 : CS := (cSeq (cSet 10 (cLc (cIS (cVar 7)) (gN 5) cYes (c2 cIx (cSl 9) (cSl 5)) [5]))
  (cExt 8 (cLc (cR1 (cSl 2)) (gN 11) (cB (c2 cNotIn (cSl 11) (cSl 10))) (c2 cAdd (cSl 9) (cOf (cTup (cConsE (cVar 11) cNilE)))) [11])))
abbrev lp_L_ways_1 (C : CEnds) : List D → Ev → Prop := forL (gN 9) [5, 9, 10, 11] bd_L_ways_1 C
def bd_L_ways_2 : CS := (cSeq (cFzN 7 (cOwn 7 (cLc (cIS (cVar 1)) (gTup0 2 (gCons0 (gN 5) (gCons0 (gN 6) gNil0))) (cB (c2 cEq (cSl 6) (cSl 4))) (cVar 5) [5, 6])))
  (cSeq (cOwn 8 (cLst cNilE))
  (cSeq (cFor (cIS (cVar 3)) (gN 9) [5, 9, 10, 11] bd_L_ways_1)
  (cFrz [8] (cSet 3 (cVar 8))))))
abbrev lp_L_ways_2 (C : CEnds) : List D → Ev → Prop := forL (gN 4) [4, 5, 6, 7, 8, 9, 10, 11] bd_L_ways_2 C
abbrev N_L_ways : List Str := ["_law_many", "_law_ties", "_law_colours", "_law_rows", "_law_thing", "_law_u", "_law_v", "_law_near", "_law_longer", "_law_row", "_law_taken", "_law_colour"]
def t_L_ways : CS := (cSeq (cSet 3 (cLst (cConsE (cTup cNilE) cNilE)))
  (cSeq (cFor (cR1 (cSl 0)) (gN 4) [4, 5, 6, 7, 8, 9, 10, 11] bd_L_ways_2)
  (cRet (cF cLen (cCons (cSl 3) cNil)))))
theorem len_L_ways : ∀ ds Q, R_L_ways ds Q → ds.length = 3 := fun _ _ h => by cases h; rfl
def yEnv (n : Nat) (E : List (Nat × Nat)) (q : Nat) (s3 s4 s7 s8 s9 s10 : Sl) : Ev := [.fz (.int n), .fz (.lst (E.map pI)), .fz (.int q), s3, s4, .un, .un, s7, s8, s9, s10, .un]
theorem ways_row {n q k : Nat} {E : List (Nat × Nat)} {s3 s4 : Sl} {C : CEnds} (near : List Nat) (R : List (List Nat)) (h3 : q ≤ 3) (hk : k ≤ 6) (hR : R.length ≤ 729) (hr : ∀ r ∈ R, r.length = k) (hn : near = (E.filter fun p => decide (p.2 = k)).map (·.1)) (hE : ∀ p ∈ E, p.1 < p.2) (hl : E.length ≤ 100)
    (fin : C.nx (yEnv n E q s3 s4 (.fz (.lst (near.map nI))) (.ow ((R.flatMap (extR q E k)).map rI)) .un .un)) : lp_L_ways_1 C (R.map rI) (yEnv n E q s3 s4 (.fz (.lst (near.map nI))) (.ow []) .un .un) := by
  refine for_any (fg := [5, 9, 10, 11]) (body := bd_L_ways_1) (C := C) (g := gN 9) rI (fun L : List (List Nat) => yEnv n E q s3 s4 (.fz (.lst (near.map nI))) (.ow (L.map rI)) .un .un) (fun rest L => ∃ done, done ++ rest = R ∧ L = done.flatMap (extR q E k)) ?_ ?_ R [] ⟨[], rfl, rfl⟩
  · rintro r rest L ⟨done, e, rfl⟩ X hX
    have hrl : r.length = k := hr r (by rw [← e]; simp)
    have hdl : done.length + 1 ≤ 729 := by
      have := congrArg List.length e
      rw [List.length_append, List.length_cons] at this
      omega
    have hnl : near.length ≤ 100 := by
      rw [hn, List.length_map]
      exact Nat.le_trans (List.length_filter_le _ _) hl
    refine lc_pure nI (fun _ => true) (fun u => nI ((r[u]?).getD 0)) (yEnv n E q s3 s4 (.fz (.lst (near.map nI))) (.ow ((done.flatMap (extR q E k)).map rI)) (.fz (rI r)) .un) near (fun u hu Y Z hY _ => ?_) (szle (by omega)) ?_
    · have hur : u < r.length := by
        rw [hn] at hu
        obtain ⟨p, hp, e'⟩ := List.mem_map.mp hu
        have hp' := List.mem_filter.mp hp
        have h1 := hE p hp'.1
        have h2 : p.2 = k := by simpa using hp'.2
        rw [← e', hrl]; omega
      refine And.intro rfl (And.intro rfl ?_)
      show (match (atI (r.map nI) (u : Int)) with | some d => _ | none => False)
      rw [atI_nat _ u _ rfl, List.getElem?_map, List.getElem?_eq_getElem hur]
      have hY := hY rfl
      rw [List.getElem?_eq_getElem hur] at hY
      exact hY
    · rw [List.filter_eq_self.mpr (fun _ _ => rfl)]
      have et : near.map (fun u => nI ((r[u]?).getD 0)) = (taken E k r).map nI := by unfold taken; rw [← hn, List.map_map]; rfl
      rw [et]
      refine And.intro rfl (And.intro rfl (And.intro (by omega) (And.intro (by omega) ?_)))
      show lc_L_ways_3 _ (rngD 0 ((q : Int).toNat)) [] (yEnv n E q s3 s4 (.fz (.lst (near.map nI))) (.ow ((done.flatMap (extR q E k)).map rI)) (.fz (rI r)) (.fz (.lst ((taken E k r).map nI))))
      rw [Int.toNat_natCast, rngD_0]
      refine lc_pure nI (fun c => decide (c ∉ taken E k r)) (fun c => rI (r ++ [c])) _ (List.range q) (fun c _ Y Z hY hZ => ?_) (szle (by rw [List.length_range]; omega)) ?_
      · refine And.intro rfl (And.intro rfl (And.intro (plain_int 30 _) (And.intro (plainA_map (fun a => plain_int _ _) _) ?_)))
        show (if (!inD (nI c) ((taken E k r).map nI)) = true then _ else _)
        rw [inD_nI]
        by_cases hc : c ∈ taken E k r
        · rw [decide_eq_true hc]
          exact hZ (decide_eq_false (by simpa using hc))
        · rw [decide_eq_false hc]
          have hY := hY (decide_eq_true hc)
          refine And.intro rfl (And.intro (szle (Nat.le_of_ble_eq_true rfl)) (And.intro (szle (by show (r.map nI).length + 1 ≤ _; rw [List.length_map]; omega)) ?_))
          unfold rI at hY
          rw [List.map_append] at hY
          exact hY
      · have ex : (((List.range q).filter fun c => decide (c ∉ taken E k r)).map fun c => rI (r ++ [c])) = (extR q E k r).map rI := by unfold extR; rw [List.map_map]; rfl
        rw [ex]
        have h1 := flat_len q E k done
        have h2 := extR_len q E k r
        have h3' : done.length * q ≤ 729 * 3 := Nat.mul_le_mul (by omega) h3
        refine And.intro (szle (by rw [List.length_map, List.length_map]; omega)) ?_
        have := hX ((done ++ [r]).flatMap (extR q E k)) ⟨done ++ [r], by rw [← e]; simp, rfl⟩
        rw [List.flatMap_append, List.flatMap_cons, List.flatMap_nil, List.append_nil, List.map_append] at this
        exact this
  · rintro L ⟨done, e, rfl⟩
    rw [List.append_nil] at e
    subst e
    exact fin
theorem pure_L_ways : ∀ ds Q, R_L_ways ds Q → t_L_ways { nx := fun _ => Q .non, rt := fun d _ => Q d } (envOf N_L_ways ds) := fun _ Q ⟨n, E, q, hn, h3, hE, hl, hq⟩ => by
  refine And.intro (szle (Nat.zero_le _)) (And.intro (szle (Nat.le_of_ble_eq_true rfl)) ?_)
  refine And.intro rfl (And.intro (by omega) (And.intro (by omega) ?_))
  show lp_L_ways_2 _ (rngD 0 ((n : Int).toNat)) (yEnv n E q (.fz (.lst ([[]].map rI))) .un .un .un .un .un)
  rw [Int.toNat_natCast, rngD_0]
  refine for_any nI (fun k : Nat => yEnv n E q (.fz (.lst ((rows q E k).map rI))) .un .un .un .un .un) (fun rest k => (List.range n).drop k = rest ∧ k ≤ n) ?_ ?_ _ 0 ⟨rfl, by omega⟩
  · rintro j rest k ⟨e, hk⟩ X hX
    have hk' : k < n := by
      have := congrArg List.length e
      simp at this
      omega
    rw [List.drop_eq_getElem_cons (by simpa using hk')] at e
    injection e with e1 e2
    have e1 : k = j := by simpa using e1
    subst e1
    refine lc_pure pI (fun p => decide (p.2 = k)) (fun p => nI p.1) (yEnv n E q (.fz (.lst ((rows q E k).map rI))) (.fz (nI k)) .un .un .un .un) E (fun p _ Y Z hY hZ => ?_) (szle (by omega)) ?_
    · refine And.intro rfl (And.intro rfl (And.intro rfl (And.intro (plain_int 30 _) (And.intro (plain_int 30 _) ?_))))
      show (if eqD (.int p.2) (.int k) = true then _ else _)
      rw [eqD_int]
      by_cases h : p.2 = k
      · rw [if_pos (decide_eq_true (by omega))]
        exact hY (decide_eq_true h)
      · rw [if_neg (by simp; omega)]
        exact hZ (decide_eq_false h)
    · refine And.intro (szle (Nat.zero_le _)) ?_
      have em : ((E.filter fun p => decide (p.2 = k)).map fun p => nI p.1) = ((E.filter fun p => decide (p.2 = k)).map (·.1)).map nI := by rw [List.map_map]; rfl
      show lp_L_ways_1 _ ((rows q E k).map rI) (yEnv n E q (.fz (.lst ((rows q E k).map rI))) (.fz (nI k)) (.fz (.lst ((E.filter fun p => decide (p.2 = k)).map fun p => nI p.1))) (.ow []) .un .un)
      rw [em]
      refine ways_row ((E.filter fun p => decide (p.2 = k)).map (·.1)) (rows q E k) h3 (by omega) (rows_small E h3 (by omega)) (fun r hr => rows_mem q E k r hr) rfl hE hl ?_
      exact hX (k + 1) ⟨e2, hk'⟩
  · rintro k ⟨e, hk⟩
    have hk' : k = n := by
      have := congrArg List.length e
      simp at this
      omega
    subst hk'
    refine And.intro rfl ?_
    show Q (.int (((rows q E k).map rI).length : Nat))
    rw [List.length_map]
    exact hq
end TA
namespace TA
/-! ### sums -/
def S : Nat → (Nat → Int) → Int
  | 0, _ => 0
  | n + 1, f => S n f + f n
theorem S_congr {n : Nat} {f g : Nat → Int} (h : ∀ k, k < n → f k = g k) : S n f = S n g := by
  induction n with
  | zero => rfl
  | succ n ih => show S n f + f n = S n g + g n; rw [ih fun k hk => h k (by omega), h n (by omega)]
theorem S_zero (n : Nat) : S n (fun _ => 0) = 0 := by
  induction n with
  | zero => rfl
  | succ n ih => show S n (fun _ => 0) + 0 = 0; rw [ih]; rfl
theorem S_zero' {n : Nat} {f : Nat → Int} (h : ∀ k, k < n → f k = 0) : S n f = 0 := (S_congr h).trans (S_zero n)
theorem S_add (n : Nat) (f g : Nat → Int) : S n (fun k => f k + g k) = S n f + S n g := by
  induction n with
  | zero => rfl
  | succ n ih => show S n (fun k => f k + g k) + (f n + g n) = (S n f + f n) + (S n g + g n); rw [ih]; omega
theorem S_sub (n : Nat) (f g : Nat → Int) : S n (fun k => f k - g k) = S n f - S n g := by
  induction n with
  | zero => rfl
  | succ n ih => show S n (fun k => f k - g k) + (f n - g n) = (S n f + f n) - (S n g + g n); rw [ih]; omega
theorem S_mul (n : Nat) (a : Int) (f : Nat → Int) : S n (fun k => a * f k) = a * S n f := by
  induction n with
  | zero => exact (Int.mul_zero a).symm
  | succ n ih => show S n (fun k => a * f k) + a * f n = a * (S n f + f n); rw [ih, Int.mul_add]
theorem S_swap (n m : Nat) (f : Nat → Nat → Int) : S n (fun i => S m fun j => f i j) = S m fun j => S n fun i => f i j := by
  induction n with
  | zero => exact (S_zero m).symm
  | succ n ih =>
    show S n (fun i => S m fun j => f i j) + S m (fun j => f n j) = S m fun j => S n (fun i => f i j) + f n j
    rw [ih, S_add]
theorem S_split (n m : Nat) (f : Nat → Int) : S (n + m) f = S n f + S m fun k => f (n + k) := by
  induction m with
  | zero => show S n f = S n f + 0; omega
  | succ m ih => show S (n + m) f + f (n + m) = S n f + (S m (fun k => f (n + k)) + f (n + m)); rw [ih]; omega
theorem S_front (n : Nat) (f : Nat → Int) : S (n + 1) f = f 0 + S n fun k => f (k + 1) := by
  rw [Nat.add_comm n 1, S_split]
  show 0 + f 0 + _ = _
  rw [Int.zero_add]
  congr 1
  exact S_congr fun k _ => by rw [Nat.add_comm 1 k]
theorem S_one {n j : Nat} (h : j < n) (f : Nat → Int) : S n (fun k => if k = j then f k else 0) = f j := by
  induction n with
  | zero => omega
  | succ n ih =>
    show S n (fun k => if k = j then f k else 0) + (if n = j then f n else 0) = f j
    by_cases e : n = j
    · subst e
      rw [if_pos rfl, S_zero' fun k hk => if_neg (by omega), Int.zero_add]
    · rw [if_neg e, ih (by omega), Int.add_zero]
theorem S_nonneg {n : Nat} {f : Nat → Int} (h : ∀ k, k < n → 0 ≤ f k) : 0 ≤ S n f := by
  induction n with
  | zero => exact Int.le_refl _
  | succ n ih => have h1 := ih fun k hk => h k (by omega); have h2 := h n (by omega); show 0 ≤ S n f + f n; omega
theorem S_term {n j : Nat} {f : Nat → Int} (h : ∀ k, k < n → 0 ≤ f k) (hj : j < n) : f j ≤ S n f := by
  induction n with
  | zero => omega
  | succ n ih =>
    show f j ≤ S n f + f n
    by_cases e : j = n
    · subst e
      have := S_nonneg (n := j) (f := f) fun k hk => h k (by omega)
      omega
    · have h1 := ih (fun k hk => h k (by omega)) (by omega)
      have h2 := h n (by omega)
      omega
theorem S_le {n : Nat} {f g : Nat → Int} (h : ∀ k, k < n → f k ≤ g k) : S n f ≤ S n g := by
  induction n with
  | zero => exact Int.le_refl _
  | succ n ih => have h1 := ih fun k hk => h k (by omega); have h2 := h n (by omega); show S n f + f n ≤ S n g + g n; omega
theorem S_const (n : Nat) (a : Int) : S n (fun _ => a) = n * a := by
  induction n with
  | zero => show (0 : Int) = ((0 : Nat) : Int) * a; rw [Int.natCast_zero, Int.zero_mul]
  | succ n ih => show S n (fun _ => a) + a = ((n + 1 : Nat) : Int) * a; rw [ih, Int.natCast_add, Int.add_mul]; omega
theorem S_list (n : Nat) (f : Nat → Int) : ((List.range n).map f).sum = S n f := by
  induction n with
  | zero => rfl
  | succ n ih => rw [List.range_succ, List.map_append, List.sum_append, ih]; show _ + (f n + 0) = S n f + f n; omega
/-! ### polynomials by differences -/
def Pol : Nat → (Int → Int) → Prop
  | 0, f => ∀ x, f x = 0
  | d + 1, f => Pol d fun x => f (x + 1) - f x
theorem Pol.congr : ∀ {d : Nat} {f g : Int → Int}, (∀ x, f x = g x) → Pol d f → Pol d g := fun {d f g} e h => by
  have : f = g := funext e
  rw [← this]; exact h
theorem Pol.add : ∀ {d : Nat} {f g : Int → Int}, Pol d f → Pol d g → Pol d fun x => f x + g x
  | 0, f, g, h, k => fun x => by show f x + g x = 0; rw [h x, k x]; rfl
  | d + 1, f, g, h, k => Pol.congr (d := d) (fun x => by show (f (x + 1) - f x) + (g (x + 1) - g x) = (f (x + 1) + g (x + 1)) - (f x + g x); omega) (Pol.add (d := d) h k)
theorem Pol.scale (a : Int) : ∀ {d : Nat} {f : Int → Int}, Pol d f → Pol d fun x => a * f x
  | 0, f, h => fun x => by show a * f x = 0; rw [h x, Int.mul_zero]
  | d + 1, f, h => Pol.congr (d := d) (fun x => by show a * (f (x + 1) - f x) = a * f (x + 1) - a * f x; rw [Int.mul_sub]) (Pol.scale a (d := d) h)
theorem Pol.shift : ∀ {d : Nat} {f : Int → Int}, Pol d f → Pol d fun x => f (x + 1)
  | 0, f, h => fun x => h (x + 1)
  | d + 1, f, h => Pol.shift (d := d) h
theorem Pol.up : ∀ {d : Nat} {f : Int → Int}, Pol d f → Pol (d + 1) f
  | 0, f, h => fun x => by show f (x + 1) - f x = 0; rw [h, h]; rfl
  | d + 1, f, h => Pol.up (d := d) h
theorem Pol.ups {d : Nat} {f : Int → Int} (h : Pol d f) : ∀ k, Pol (d + k) f
  | 0 => h
  | k + 1 => (Pol.ups h k).up
theorem Pol.le {d e : Nat} {f : Int → Int} (h : Pol d f) (l : d ≤ e) : Pol e f := by
  have := h.ups (e - d)
  rw [show d + (e - d) = e by omega] at this
  exact this
theorem Pol.const (a : Int) : Pol 1 fun _ => a := fun x => by show a - a = 0; omega
theorem Pol.mulx (a : Int) : ∀ {d : Nat} {f : Int → Int}, Pol d f → Pol (d + 1) fun x => (x - a) * f x
  | 0, f, h => fun x => by show (x + 1 - a) * f (x + 1) - (x - a) * f x = 0; rw [h, h, Int.mul_zero, Int.mul_zero]; rfl
  | d + 1, f, h => by
    show Pol (d + 1) fun x => (x + 1 - a) * f (x + 1) - (x - a) * f x
    refine Pol.congr (d := d + 1) (f := fun x => (x - a) * (f (x + 1) - f x) + f (x + 1)) (fun x => ?_) (Pol.add (Pol.mulx a (d := d) h) (Pol.shift (d := d + 1) h))
    show (x - a) * (f (x + 1) - f x) + f (x + 1) = (x + 1 - a) * f (x + 1) - (x - a) * f x
    rw [Int.mul_sub, show x + 1 - a = (x - a) + 1 by omega, Int.add_mul, Int.one_mul]; omega
theorem Pol.zero : ∀ {d : Nat} {f : Int → Int}, Pol d f → (∀ q : Nat, f q = 0) → ∀ x, f x = 0
  | 0, f, h, _ => h
  | d + 1, f, h, z => by
    have hd : ∀ x, f (x + 1) - f x = 0 := Pol.zero (d := d) h fun q => by
      have := z (q + 1)
      rw [Int.natCast_add] at this
      show f ((q : Int) + 1) - f q = 0
      rw [z q, show f ((q : Int) + 1) = 0 from this]; rfl
    have up : ∀ (k : Nat) (x : Int), f (x + k) = f x := fun k => by
      induction k with
      | zero => intro x; rw [Int.natCast_zero, Int.add_zero]
      | succ k ih =>
        intro x
        have := hd (x + k)
        rw [Int.natCast_add, ← Int.add_assoc]
        show f (x + k + 1) = f x
        rw [← ih x]; omega
    intro x
    rcases Int.le_total 0 x with h0 | h0
    · obtain ⟨q, rfl⟩ := Int.eq_ofNat_of_zero_le h0
      exact z q
    · have := up (-x).toNat x
      rw [show x + (((-x).toNat : Nat) : Int) = ((0 : Nat) : Int) by omega, z 0] at this
      exact this.symm
theorem ev_pol : ∀ l : List Int, Pol (l.length + 1) (ev l)
  | [] => Pol.const 0
  | a :: l => by
    refine Pol.congr (f := fun x => (x - 0) * ev l x + a) (fun x => ?_) (Pol.add (Pol.mulx 0 (ev_pol l)) ((Pol.const a).le (by simp)))
    show (x - 0) * ev l x + a = ev l x * x + a
    rw [Int.sub_zero, Int.mul_comm]
theorem ff_pol : ∀ k, Pol (k + 1) fun x => ff x k
  | 0 => Pol.const 1
  | k + 1 => Pol.congr (f := fun x => (x - k) * ff x k) (fun x => Int.mul_comm _ _) (Pol.mulx k (ff_pol k))
theorem ffsum_pol (w : Nat → Int) : ∀ n, Pol (n + 1) fun x => S n fun i => w i * ff x i
  | 0 => (Pol.const 0)
  | n + 1 => Pol.add ((ffsum_pol w n).up) ((Pol.scale (w n) (ff_pol n)).up)
theorem ff_shift (x : Int) : ∀ k, ff (x + 1) (k + 1) = (x + 1) * ff x k
  | 0 => by show 1 * (x + 1 - ((0 : Nat) : Int)) = (x + 1) * 1; rw [Int.natCast_zero]; omega
  | k + 1 => by
    show ff (x + 1) (k + 1) * (x + 1 - ((k + 1 : Nat) : Int)) = (x + 1) * (ff x k * (x - k))
    rw [ff_shift x k, show x + 1 - ((k + 1 : Nat) : Int) = x - k by omega, Int.mul_assoc]
theorem ff_succ (x : Int) (k : Nat) : ff (x + 1) (k + 1) = ff x (k + 1) + (k + 1) * ff x k := by
  rw [ff_shift]
  show _ = ff x k * (x - k) + (k + 1) * ff x k
  rw [Int.mul_comm (ff x k), ← Int.add_mul]
  congr 1; omega
theorem ff_zero (k : Nat) : ff 0 (k + 1) = 0 := by
  induction k with
  | zero => rfl
  | succ k ih => show ff 0 (k + 1) * _ = 0; rw [ih, Int.zero_mul]
theorem ff_pos (q : Nat) : ∀ k, k ≤ q → 1 ≤ ff (q : Int) k
  | 0, _ => Int.le_refl _
  | k + 1, h => by
    have h1 := ff_pos q k (by omega)
    show 1 ≤ ff (q : Int) k * ((q : Int) - k)
    have h2 : (1 : Int) ≤ (q : Int) - k := by omega
    have := Int.mul_le_mul h1 h2 (by decide) (by omega)
    simpa using this
end TA
namespace TA
/-! ### colourings counted -/
def up (c : Nat → Nat) (v k : Nat) : Nat → Nat := fun x => if x = v then k else c x
theorem up_self {c : Nat → Nat} {v k : Nat} : up c v k v = k := if_pos rfl
theorem up_ne {c : Nat → Nat} {v k x : Nat} (h : x ≠ v) : up c v k x = c x := if_neg h
theorem up_comm {c : Nat → Nat} {v k x j : Nat} (h : x ≠ v) : up (up c v k) x j = up (up c x j) v k := by
  funext y
  unfold up
  by_cases h1 : y = x
  · rw [if_pos h1, if_neg (by rw [h1]; exact h), if_pos h1]
  · rw [if_neg h1, if_neg h1]
def cnt (q : Nat) : List Nat → (Nat → Nat) → ((Nat → Nat) → Int) → Int
  | [], c, w => w c
  | v :: vs, c, w => S q fun k => cnt q vs (up c v k) w
theorem cnt_congr {q : Nat} {w w' : (Nat → Nat) → Int} : ∀ {vs : List Nat} {c : Nat → Nat}, (∀ c', (∀ x ∈ vs, c' x < q) → (∀ x, x ∉ vs → c' x = c x) → w c' = w' c') → cnt q vs c w = cnt q vs c w'
  | [], c, h => h c (fun _ z => by cases z) (fun _ _ => rfl)
  | v :: vs, c, h => S_congr fun k hk => cnt_congr (vs := vs) fun c' h1 h2 => h c' (fun x hx => by
      by_cases e : x ∈ vs
      · exact h1 x e
      · rcases List.mem_cons.mp hx with z | z
        · rw [h2 x e, z, up_self]; exact hk
        · exact absurd z e) (fun x hx => by
      simp only [List.mem_cons, not_or] at hx
      rw [h2 x hx.2, up_ne hx.1])
theorem cnt_sub (q : Nat) (w w' : (Nat → Nat) → Int) : ∀ (vs : List Nat) (c : Nat → Nat), cnt q vs c (fun c => w c - w' c) = cnt q vs c w - cnt q vs c w'
  | [], c => rfl
  | v :: vs, c => by
    show S q (fun k => cnt q vs (up c v k) fun c => w c - w' c) = S q _ - S q _
    rw [← S_sub]
    exact S_congr fun k _ => cnt_sub q w w' vs _
/-- what agrees on D and the things counts the same -/
theorem cnt_base {q : Nat} {w : (Nat → Nat) → Int} : ∀ {vs : List Nat} {D : Nat → Prop} {c c' : Nat → Nat}, (∀ c1 c2 : Nat → Nat, (∀ x, D x ∨ x ∈ vs → c1 x = c2 x) → w c1 = w c2) → (∀ x, D x → c x = c' x) → cnt q vs c w = cnt q vs c' w
  | [], D, c, c', h, e => h c c' fun x hx => by
      rcases hx with hx | hx
      · exact e x hx
      · cases hx
  | v :: vs, D, c, c', h, e => S_congr fun k _ => cnt_base (vs := vs) (D := fun x => D x ∨ x = v) (fun c1 c2 g => h c1 c2 fun x hx => g x (by
      rcases hx with hx | hx
      · exact .inl (.inl hx)
      · rcases List.mem_cons.mp hx with z | z
        · exact .inl (.inr z)
        · exact .inr z)) fun x hx => by
      by_cases z : x = v
      · rw [z, up_self, up_self]
      · rw [up_ne z, up_ne z]
        exact e x (hx.resolve_right z)
/-- one thing counted last -/
theorem cnt_last {q : Nat} {w : (Nat → Nat) → Int} {v : Nat} : ∀ {vs : List Nat} {c : Nat → Nat}, v ∉ vs → S q (fun k => cnt q vs (up c v k) w) = cnt q vs c fun c' => S q fun k => w (up c' v k)
  | [], c, _ => rfl
  | x :: vs, c, h => by
    simp only [List.mem_cons, not_or] at h
    show S q (fun k => S q fun j => cnt q vs (up (up c v k) x j) w) = S q fun j => cnt q vs (up c x j) fun c' => S q fun k => w (up c' v k)
    rw [S_swap]
    refine S_congr fun j _ => ?_
    rw [← cnt_last (vs := vs) (c := up c x j) h.2]
    exact S_congr fun k _ => by rw [up_comm (Ne.symm h.1)]
def wo (v : Nat) (vs : List Nat) : List Nat := vs.filter fun x => decide (x ≠ v)
theorem wo_not {v : Nat} {vs : List Nat} (h : v ∉ vs) : wo v vs = vs := List.filter_eq_self.mpr fun x hx => decide_eq_true fun e => h (by rw [← e]; exact hx)
theorem cnt_pull {q : Nat} {w : (Nat → Nat) → Int} {v : Nat} : ∀ {vs : List Nat} {c : Nat → Nat}, vs.Nodup → v ∈ vs → cnt q vs c w = cnt q (wo v vs) c fun c' => S q fun k => w (up c' v k)
  | [], c, _, h => by cases h
  | x :: vs, c, nd, h => by
    have nd' := List.nodup_cons.mp nd
    by_cases e : x = v
    · subst e
      have e1 : wo x (x :: vs) = vs := by
        unfold wo
        rw [List.filter_cons_of_neg (by simp)]
        exact wo_not nd'.1
      rw [e1]
      exact cnt_last nd'.1
    · have e1 : wo v (x :: vs) = x :: wo v vs := by
        unfold wo
        rw [List.filter_cons_of_pos (by simpa using e)]
      rw [e1]
      have hv : v ∈ vs := by
        rcases List.mem_cons.mp h with z | z
        · exact absurd z.symm e
        · exact z
      exact S_congr fun k _ => cnt_pull nd'.2 hv
theorem cnt_one (q : Nat) : ∀ (vs : List Nat) (c : Nat → Nat), cnt q vs c (fun _ => 1) = (q : Int) ^ vs.length
  | [], c => rfl
  | v :: vs, c => by
    show S q (fun k => cnt q vs (up c v k) fun _ => 1) = _
    rw [S_congr (g := fun _ => (q : Int) ^ vs.length) fun k _ => cnt_one q vs _, S_const, List.length_cons, Int.pow_succ, Int.mul_comm]
theorem cnt_le {q : Nat} {w w' : (Nat → Nat) → Int} (h : ∀ c, w c ≤ w' c) : ∀ (vs : List Nat) (c : Nat → Nat), cnt q vs c w ≤ cnt q vs c w'
  | [], c => h c
  | v :: vs, c => S_le fun k _ => cnt_le h vs _
theorem cnt_perm {q : Nat} {w : (Nat → Nat) → Int} {l1 l2 : List Nat} (p : l1.Perm l2) : l1.Nodup → ∀ c, cnt q l1 c w = cnt q l2 c w := by
  induction p with
  | nil => intro _ c; rfl
  | cons x p ih => intro nd c; exact S_congr fun k _ => ih (List.nodup_cons.mp nd).2 _
  | swap x y l =>
    intro nd c
    show S q (fun k => S q fun j => cnt q l (up (up c y k) x j) w) = S q fun j => S q fun k => cnt q l (up (up c x j) y k) w
    rw [S_swap]
    have h : y ≠ x := by
      have := (List.nodup_cons.mp nd).1
      simp only [List.mem_cons, not_or] at this
      exact this.1
    exact S_congr fun j _ => S_congr fun k _ => by rw [up_comm (Ne.symm h)]
  | trans p1 p2 i1 i2 => intro nd c; rw [i1 nd, i2 ((p1.nodup_iff).mp nd)]
/-! ### ties kept, one tie less, both things as one -/
def pr (E : List (Nat × Nat)) (c : Nat → Nat) : Bool := E.all fun p => decide (c p.1 ≠ c p.2)
def iv (b : Bool) : Int := if b = true then 1 else 0
def N (q : Nat) (th : List Nat) (E : List (Nat × Nat)) : Int := cnt q th (fun _ => 0) fun c => iv (pr E c)
theorem ren_cases (u v : Nat) (p : Nat × Nat) : (ren u v p = ((if p.1 = v then u else p.1), (if p.2 = v then u else p.2)) ∧ (if p.1 = v then u else p.1) ≤ (if p.2 = v then u else p.2)) ∨ (ren u v p = ((if p.2 = v then u else p.2), (if p.1 = v then u else p.1)) ∧ (if p.2 = v then u else p.2) < (if p.1 = v then u else p.1)) := by
  unfold ren
  generalize (if p.1 = v then u else p.1) = a
  generalize (if p.2 = v then u else p.2) = b
  unfold srt
  by_cases h : a ≤ b
  · exact .inl ⟨if_pos h, h⟩
  · exact .inr ⟨if_neg h, by omega⟩
theorem ren_ok {u v : Nat} {p : Nat × Nat} (c : Nat → Nat) : decide (c (ren u v p).1 ≠ c (ren u v p).2) = decide (up c v (c u) p.1 ≠ up c v (c u) p.2) := by
  have e : ∀ x, c (if x = v then u else x) = up c v (c u) x := fun x => by
    unfold up
    by_cases h : x = v
    · rw [if_pos h, if_pos h]
    · rw [if_neg h, if_neg h]
  rw [decide_eq_decide]
  rcases ren_cases u v p with ⟨h, _⟩ | ⟨h, _⟩
  · rw [h, e, e]
  · rw [h, e, e]
    exact ⟨Ne.symm, Ne.symm⟩
theorem pr_contr (u v : Nat) (c : Nat → Nat) : ∀ (E acc : List (Nat × Nat)), pr (contr u v E acc) c = (pr acc c && pr E (up c v (c u)))
  | [], acc => by unfold contr; simp [pr]
  | p :: E, acc => by
    unfold contr
    rw [pr_contr u v c E]
    have e : pr (p :: E) (up c v (c u)) = (decide (c (ren u v p).1 ≠ c (ren u v p).2) && pr E (up c v (c u))) := by
      rw [ren_ok]; rfl
    rw [e]
    split
    · rename_i h
      rw [Bool.eq_iff_iff]
      simp only [Bool.and_eq_true]
      constructor
      · rintro ⟨h1, h2⟩
        exact ⟨h1, List.all_eq_true.mp h1 _ h, h2⟩
      · rintro ⟨h1, _, h2⟩
        exact ⟨h1, h2⟩
    · have : pr (acc ++ [ren u v p]) c = (pr acc c && decide (c (ren u v p).1 ≠ c (ren u v p).2)) := by
        unfold pr
        rw [List.all_append]; simp
      rw [this, Bool.and_assoc]
theorem N_cons {q : Nat} {th : List Nat} {u v : Nat} {E : List (Nat × Nat)} (nd : th.Nodup) (hu : u ∈ th) (hv : v ∈ th) (huv : u ≠ v) : N q th ((u, v) :: E) = N q th E - N q (wo v th) (contr u v E []) := by
  unfold N
  have e1 : (fun c => iv (pr ((u, v) :: E) c)) = fun c => iv (pr E c) - iv (pr E c && decide (c u = c v)) := by
    funext c
    have : pr ((u, v) :: E) c = (decide (c u ≠ c v) && pr E c) := rfl
    rw [this]
    by_cases h : c u = c v
    · rw [decide_eq_false (by simpa using h), decide_eq_true h, Bool.and_true, Bool.false_and]; unfold iv; simp
    · rw [decide_eq_true h, decide_eq_false h, Bool.and_false, Bool.true_and]; unfold iv; simp
  rw [e1, cnt_sub, cnt_pull (v := v) (w := fun c => iv (pr E c && decide (c u = c v))) nd hv]
  congr 1
  refine cnt_congr fun c h1 h2 => ?_
  have hcu : c u < q := h1 u (List.mem_filter.mpr ⟨hu, decide_eq_true huv⟩)
  rw [pr_contr]
  have e2 : ∀ k, k < q → iv (pr E (up c v k) && decide (up c v k u = up c v k v)) = if k = c u then iv (pr E (up c v k)) else 0 := fun k _ => by
    rw [up_ne huv, up_self]
    by_cases h : k = c u
    · rw [if_pos h, decide_eq_true h.symm, Bool.and_true]
    · rw [if_neg h, decide_eq_false (Ne.symm h), Bool.and_false]; rfl
  rw [S_congr e2, S_one hcu]
  rfl
/-! ### the polynomial -/
/-- ties between things of th, the lesser ahead, each once -/
structure TE (th : List Nat) (E : List (Nat × Nat)) : Prop where
  nt : th.Nodup
  ne : E.Nodup
  inn : ∀ p ∈ E, p.1 ∈ th ∧ p.2 ∈ th ∧ p.1 < p.2
theorem contr_nd (u v : Nat) : ∀ (E acc : List (Nat × Nat)), acc.Nodup → (contr u v E acc).Nodup
  | [], acc, h => h
  | p :: E, acc, h => by
    unfold contr
    refine contr_nd u v E _ ?_
    split
    · exact h
    · rename_i hn
      exact List.nodup_append.mpr ⟨h, by simp, fun a ha b hb e => hn (by rw [← show b = ren u v p by simpa using hb, ← e]; exact ha)⟩
theorem contr_mem (u v : Nat) : ∀ (E acc : List (Nat × Nat)) (x : Nat × Nat), x ∈ contr u v E acc → x ∈ acc ∨ ∃ p ∈ E, x = ren u v p
  | [], acc, x, h => .inl h
  | p :: E, acc, x, h => by
    unfold contr at h
    rcases contr_mem u v E _ x h with h | ⟨p', h1, h2⟩
    · split at h
      · exact .inl h
      · rcases List.mem_append.mp h with h | h
        · exact .inl h
        · exact .inr ⟨p, List.mem_cons_self, by simpa using h⟩
    · exact .inr ⟨p', List.mem_cons_of_mem _ h1, h2⟩
theorem TE.tail {th : List Nat} {a : Nat × Nat} {E : List (Nat × Nat)} (h : TE th (a :: E)) : TE th E := ⟨h.nt, (List.nodup_cons.mp h.ne).2, fun p hp => h.inn p (List.mem_cons_of_mem _ hp)⟩
theorem TE.less {th : List Nat} {u v : Nat} {E : List (Nat × Nat)} (h : TE th ((u, v) :: E)) : TE (wo v th) (contr u v E []) := by
  refine ⟨h.nt.filter _, contr_nd u v E [] List.nodup_nil, fun x hx => ?_⟩
  obtain ⟨hu, hv, huv⟩ := h.inn (u, v) List.mem_cons_self
  have huv : u < v := huv
  rcases contr_mem u v E [] x hx with z | ⟨p, hp, e⟩
  · cases z
  · subst e
    obtain ⟨h1, h2, h3⟩ := h.inn p (List.mem_cons_of_mem _ hp)
    have hne : p ≠ (u, v) := fun z => (List.nodup_cons.mp h.ne).1 (by rw [← z]; exact hp)
    have mem : ∀ y, y ∈ th → (if y = v then u else y) ∈ wo v th := fun y hy => by
      split
      · exact List.mem_filter.mpr ⟨hu, decide_eq_true (show u ≠ v by omega)⟩
      · exact List.mem_filter.mpr ⟨hy, decide_eq_true (by assumption)⟩
    have m1 := mem p.1 h1
    have m2 := mem p.2 h2
    have ned : (if p.1 = v then u else p.1) ≠ (if p.2 = v then u else p.2) := by
      split <;> split
      · omega
      · omega
      · rename_i a b
        intro z
        exact hne (Prod.ext z b)
      · omega
    rcases ren_cases u v p with ⟨h, g⟩ | ⟨h, g⟩
    · rw [h]
      exact ⟨m1, m2, Nat.lt_of_le_of_ne g ned⟩
    · rw [h]
      exact ⟨m2, m1, g⟩
theorem ev_cons (a : Int) (l : List Int) (x : Int) : ev (a :: l) x = ev l x * x + a := rfl
theorem ev_sub (x : Int) : ∀ as bs : List Int, bs.length ≤ as.length → ev (subP as bs) x = ev as x - ev bs x
  | [], [], _ => rfl
  | [], b :: bs, h => by simp at h
  | a :: as, [], _ => by
    have := ev_sub x as [] (Nat.zero_le _)
    unfold subP
    rw [ev_cons, this, ev_cons]
    show (ev as x - 0) * x + (a - 0) = ev as x * x + a - 0
    rw [Int.sub_zero, Int.sub_zero, Int.sub_zero]
  | a :: as, b :: bs, h => by
    have := ev_sub x as bs (by simpa using h)
    unfold subP
    rw [ev_cons, this, ev_cons, ev_cons, Int.sub_mul]; omega
theorem ev_pow (x : Int) : ∀ k, ev (List.replicate k 0 ++ [1]) x = x ^ k
  | 0 => by show 0 * x + 1 = x ^ 0; rw [Int.zero_mul, Int.pow_zero]; rfl
  | k + 1 => by
    rw [List.replicate_succ, List.cons_append, ev_cons, ev_pow x k, Int.pow_succ, Int.add_zero]
theorem wo_len {v : Nat} {th : List Nat} (nd : th.Nodup) (hv : v ∈ th) : (wo v th).length + 1 = th.length := by
  have : wo v th = th.erase v := by
    unfold wo
    rw [List.Nodup.erase_eq_filter nd]
    apply List.filter_congr
    intro x _
    by_cases h : x = v
    · subst h; simp
    · rw [decide_eq_true h]
      have : (x == v) = false := by simpa using h
      simp [bne, this]
  rw [this, List.length_erase_of_mem hv]
  have := List.length_pos_of_mem hv
  omega
theorem poly_ind {P : List Nat → List (Nat × Nat) → Prop} (h0 : ∀ th, P th []) (h1 : ∀ th u v E, TE th ((u, v) :: E) → P th E → P (wo v th) (contr u v E []) → P th ((u, v) :: E)) : ∀ (m : Nat) (th : List Nat) (E : List (Nat × Nat)), E.length ≤ m → TE th E → P th E
  | _, th, [], _, _ => h0 th
  | 0, th, _ :: _, h, _ => by simp at h
  | m + 1, th, (u, v) :: E, h, t => by
    rw [List.length_cons] at h
    have hc := contr_len u v E []
    rw [List.length_nil] at hc
    exact h1 th u v E t (poly_ind h0 h1 m th E (by omega) t.tail) (poly_ind h0 h1 m _ _ (by omega) t.less)
theorem poly_ev (q : Nat) {th : List Nat} {E : List (Nat × Nat)} (t : TE th E) : ev (poly th E) q = N q th E := by
  refine poly_ind (P := fun th E => ev (poly th E) q = N q th E) (fun th => ?_) (fun th u v E t h1 h2 => ?_) _ th E (Nat.le_refl _) t
  · rw [poly_nil, ev_pow]
    exact (cnt_one q th _).symm
  · obtain ⟨hu, hv, huv⟩ := t.inn (u, v) List.mem_cons_self
    have huv : u < v := huv
    have hl : (wo v th).length + 1 = th.length := wo_len t.nt hv
    rw [poly_cons, N_cons t.nt hu hv (by omega), ← h1, ← h2]
    exact ev_sub _ _ _ (by rw [poly_len, poly_len]; show (wo v th).length + 1 ≤ _; omega)
theorem poly_sign {th : List Nat} {E : List (Nat × Nat)} (t : TE th E) : 0 ≤ (-1) ^ th.length * ev (poly th E) (-1) := by
  refine poly_ind (P := fun th E => 0 ≤ (-1) ^ th.length * ev (poly th E) (-1)) (fun th => ?_) (fun th u v E t h1 h2 => ?_) _ th E (Nat.le_refl _) t
  · rw [poly_nil, ev_pow, ← Int.mul_pow]
    show 0 ≤ (1 : Int) ^ th.length
    rw [Int.one_pow]; decide
  · obtain ⟨hu, hv, huv⟩ := t.inn (u, v) List.mem_cons_self
    have hl : (wo v th).length + 1 = th.length := wo_len t.nt hv
    rw [poly_cons, ev_sub _ _ _ (by rw [poly_len, poly_len]; show (wo v th).length + 1 ≤ _; omega), Int.mul_sub]
    have h2 : 0 ≤ (-1) ^ (wo v th).length * ev (poly (wo v th) (contr u v E [])) (-1) := h2
    have e : (-1 : Int) ^ th.length * ev (poly (th.filter fun x => decide (x ≠ v)) (contr u v E [])) (-1) = -((-1) ^ (wo v th).length * ev (poly (wo v th) (contr u v E [])) (-1)) := by
      rw [← hl, Int.pow_succ, Int.mul_neg_one, Int.neg_mul]; rfl
    rw [e]
    omega
end TA
namespace TA
/-! ### lots as masks -/
def sb (p s : Nat) : Bool := decide (p &&& s = p)
theorem sb_iff {p s : Nat} : sb p s = true ↔ ∀ j, p.testBit j = true → s.testBit j = true := by
  unfold sb
  rw [decide_eq_true_eq]
  constructor
  · intro h j hj
    have := congrArg (fun x => x.testBit j) h
    simp only [Nat.testBit_and, hj, Bool.true_and] at this
    exact this
  · intro h
    apply Nat.eq_of_testBit_eq
    intro j
    rw [Nat.testBit_and]
    cases e : p.testBit j with
    | false => rfl
    | true => rw [h j e]; rfl
theorem sb_le {p s : Nat} (h : sb p s = true) : p ≤ s := by
  unfold sb at h
  rw [decide_eq_true_eq] at h
  rw [← h]
  exact Nat.and_le_right
theorem sb_half {p s : Nat} (h : sb p s = true) : sb (p / 2) (s / 2) = true ∧ p % 2 ≤ s % 2 := by
  rw [sb_iff] at h
  refine ⟨sb_iff.mpr fun j hj => ?_, ?_⟩
  · have := h (j + 1) (by rw [Nat.testBit_succ]; exact hj)
    rw [Nat.testBit_succ] at this
    exact this
  · have := h 0
    rw [← Nat.mod_two_eq_one_iff_testBit_zero, ← Nat.mod_two_eq_one_iff_testBit_zero] at this
    have h1 := Nat.mod_two_eq_zero_or_one p
    have h2 := Nat.mod_two_eq_zero_or_one s
    omega
theorem sub_bits : ∀ (j : Nat) {s p : Nat}, sb p s = true → (s - p).testBit j = (s.testBit j && !p.testBit j)
  | 0, s, p, h => by
    obtain ⟨h1, h2⟩ := sb_half h
    have hl := sb_le h
    have hl2 := sb_le h1
    rw [Bool.eq_iff_iff]
    simp only [Bool.and_eq_true, Bool.not_eq_true', ← Nat.mod_two_eq_one_iff_testBit_zero, Bool.eq_false_iff, ne_eq]
    have a1 := Nat.mod_two_eq_zero_or_one p
    have a2 := Nat.mod_two_eq_zero_or_one s
    omega
  | j + 1, s, p, h => by
    obtain ⟨h1, h2⟩ := sb_half h
    have hl := sb_le h
    have hl2 := sb_le h1
    rw [Nat.testBit_succ, Nat.testBit_succ, Nat.testBit_succ, show (s - p) / 2 = s / 2 - p / 2 by omega]
    exact sub_bits j h1
theorem sb_trans {a b c : Nat} (h1 : sb a b = true) (h2 : sb b c = true) : sb a c = true := sb_iff.mpr fun j hj => sb_iff.mp h2 j (sb_iff.mp h1 j hj)
theorem sb_minus {p s : Nat} (h : sb p s = true) : sb (s - p) s = true := sb_iff.mpr fun j hj => by
  rw [sub_bits j h] at hj
  simp only [Bool.and_eq_true] at hj
  exact hj.1
theorem sb_self (s : Nat) : sb s s = true := sb_iff.mpr fun _ h => h
theorem sb_zero (s : Nat) : sb 0 s = true := sb_iff.mpr fun j h => by rw [Nat.zero_testBit] at h; cases h
/-- the parts of a lot, one below the other -/
theorem sb_ord : ∀ (lot p q : Nat), sb p lot = true → sb q lot = true → p < q → p ≤ (q - 1) &&& lot := fun lot => by
  induction lot using Nat.strongRecOn with
  | _ lot ih =>
    intro p q hp hq hlt
    obtain ⟨p1, p2⟩ := sb_half hp
    obtain ⟨q1, q2⟩ := sb_half hq
    have ql := sb_le hq
    have e2 := Nat.and_div_two (a := q - 1) (b := lot)
    have e3 := Nat.and_mod_two_eq_one (a := q - 1) (b := lot)
    have m1 := Nat.mod_two_eq_zero_or_one q
    have m2 := Nat.mod_two_eq_zero_or_one p
    have m3 := Nat.mod_two_eq_zero_or_one lot
    have m4 := Nat.mod_two_eq_zero_or_one ((q - 1) &&& lot)
    rcases m1 with m1 | m1
    · have i := ih (lot / 2) (by omega) (p / 2) (q / 2) p1 q1 (by omega)
      have e4 : (q - 1) / 2 = q / 2 - 1 := by omega
      rw [e4] at e2
      have e5 : (q - 1) % 2 = 1 := by omega
      rw [e5] at e3
      simp only [true_and] at e3
      omega
    · have e4 : (q - 1) / 2 = q / 2 := by omega
      rw [e4] at e2
      have e6 : q / 2 &&& lot / 2 = q / 2 := of_decide_eq_true q1
      omega
theorem downM_sum (f : Nat → Int) (lot : Nat) : ∀ q, sb q lot = true → ((downM lot q).map f).sum = S (q + 1) fun p => if (decide (0 < p) && sb p lot) = true then f p else 0 := fun q => by
  induction q using Nat.strongRecOn with
  | _ q ih =>
    intro hq
    cases q with
    | zero => rw [downM_z]; rfl
    | succ q =>
      rw [downM_s, List.map_cons, List.sum_cons]
      have hle := Nat.and_le_left (n := q) (m := lot)
      have hs : sb (q &&& lot) lot = true := sb_iff.mpr fun j hj => by rw [Nat.testBit_and, Bool.and_eq_true] at hj; exact hj.2
      rw [ih (q &&& lot) (by omega) hs]
      show f (q + 1) + _ = S (q + 1) _ + (if (decide (0 < q + 1) && sb (q + 1) lot) = true then f (q + 1) else 0)
      rw [hq, if_pos (by simp), Int.add_comm]
      congr 1
      obtain ⟨d, hd⟩ : ∃ d, q + 1 = (q &&& lot) + 1 + d := ⟨q - (q &&& lot), by omega⟩
      conv => rhs; rw [hd, S_split]
      rw [S_zero' (n := d), Int.add_zero]
      intro k hk
      refine if_neg fun h => ?_
      rw [Bool.and_eq_true] at h
      have := sb_ord lot ((q &&& lot) + 1 + k) (q + 1) h.2 hq (by omega)
      rw [Nat.add_sub_cancel] at this
      omega
/-- sums over the parts of a lot below M -/
def PS (M s : Nat) (g : Nat → Bool) (f : Nat → Int) : Int := S M fun p => if (sb p s && g p) = true then f p else 0
theorem down_PS {M lot : Nat} (h : lot < M) (g : Nat → Bool) (f : Nat → Int) (h0 : g 0 = false) : (((downM lot lot).filter g).map f).sum = PS M lot g f := by
  have e1 : ∀ l : List Nat, ((l.filter g).map f).sum = (l.map fun p => if g p = true then f p else 0).sum := fun l => by
    induction l with
    | nil => rfl
    | cons a l ih =>
      rw [List.map_cons, List.sum_cons]
      cases e : g a with
      | false => rw [List.filter_cons_of_neg (by rw [e]; simp), ih, if_neg (by simp), Int.zero_add]
      | true => rw [List.filter_cons_of_pos e, List.map_cons, List.sum_cons, ih, if_pos rfl]
  rw [e1, downM_sum _ lot lot (sb_self lot)]
  obtain ⟨d, hd⟩ : ∃ d, M = (lot + 1) + d := ⟨M - (lot + 1), by omega⟩
  unfold PS
  rw [hd]
  conv => rhs; rw [S_split]
  rw [S_zero' (n := d), Int.add_zero]
  · refine S_congr fun p hp => ?_
    cases e1 : sb p lot with
    | false => rw [Bool.and_false, Bool.false_and]; rfl
    | true =>
      rw [Bool.and_true, Bool.true_and]
      by_cases hp0 : 0 < p
      · rw [decide_eq_true hp0, if_pos rfl]
      · have : p = 0 := by omega
        subst this
        rw [decide_eq_false hp0, h0]; rfl
  · intro k hk
    refine if_neg fun h => ?_
    rw [Bool.and_eq_true] at h
    have := sb_le h.1
    omega
theorem PS_congr {M s : Nat} {g g' : Nat → Bool} {f f' : Nat → Int} (h : ∀ p, p < M → sb p s = true → g p = g' p) (h2 : ∀ p, p < M → sb p s = true → g p = true → f p = f' p) : PS M s g f = PS M s g' f' := S_congr fun p hp => by
  cases e : sb p s with
  | false => rfl
  | true =>
    rw [Bool.true_and, Bool.true_and, ← h p hp e]
    cases e2 : g p with
    | false => rfl
    | true => rw [if_pos rfl, if_pos rfl]; exact h2 p hp e e2
theorem PS_split (M s : Nat) (g h : Nat → Bool) (f : Nat → Int) : PS M s g f = PS M s (fun p => g p && h p) f + PS M s (fun p => g p && !h p) f := by
  unfold PS
  rw [← S_add]
  refine S_congr fun p _ => ?_
  show (if (sb p s && g p) = true then f p else 0) = (if (sb p s && (g p && h p)) = true then f p else 0) + (if (sb p s && (g p && !h p)) = true then f p else 0)
  cases sb p s <;> cases g p <;> cases h p <;> simp
theorem PS_mul (M s : Nat) (g : Nat → Bool) (a : Int) (f : Nat → Int) : PS M s g (fun p => a * f p) = a * PS M s g f := by
  unfold PS
  rw [← S_mul]
  refine S_congr fun p _ => ?_
  split
  · rfl
  · rw [Int.mul_zero]
theorem PS_zero {M s : Nat} {g : Nat → Bool} {f : Nat → Int} (h : ∀ p, p < M → sb p s = true → g p = true → f p = 0) : PS M s g f = 0 := S_zero' fun p hp => by
  split
  · rename_i e
    rw [Bool.and_eq_true] at e
    exact h p hp e.1 e.2
  · rfl
theorem PS_swap (M s : Nat) (g h : Nat → Bool) (r r' : Nat → Nat) (g2 : Nat → Nat → Bool) (h2 : Nat → Nat → Bool) (f : Nat → Nat → Int)
    (e : ∀ p u, p < M → u < M → ((sb p s && g p) && (sb u (r p) && g2 p u)) = ((sb u s && h u) && (sb p (r' u) && h2 u p))) : PS M s g (fun p => PS M (r p) (g2 p) fun u => f p u) = PS M s h fun u => PS M (r' u) (h2 u) fun p => f p u := by
  unfold PS
  have lhs : (S M fun p => if (sb p s && g p) = true then S M (fun u => if (sb u (r p) && g2 p u) = true then f p u else 0) else 0) = S M fun p => S M fun u => if ((sb p s && g p) && (sb u (r p) && g2 p u)) = true then f p u else 0 := S_congr fun p _ => by
    cases hh : (sb p s && g p) with
    | false => rw [if_neg (by simp), S_zero' fun u _ => if_neg (by simp)]
    | true => rw [if_pos rfl]; exact S_congr fun u _ => by rw [Bool.true_and]
  have rhs : (S M fun u => if (sb u s && h u) = true then S M (fun p => if (sb p (r' u) && h2 u p) = true then f p u else 0) else 0) = S M fun u => S M fun p => if ((sb u s && h u) && (sb p (r' u) && h2 u p)) = true then f p u else 0 := S_congr fun u _ => by
    cases hh : (sb u s && h u) with
    | false => rw [if_neg (by simp), S_zero' fun p _ => if_neg (by simp)]
    | true => rw [if_pos rfl]; exact S_congr fun p _ => by rw [Bool.true_and]
  rw [lhs, rhs, S_swap]
  exact S_congr fun u hu => S_congr fun p hp => by rw [e p u hp hu]
theorem PS_exch (M s : Nat) (g : Nat → Bool) (n : Nat) (f : Nat → Nat → Int) : PS M s g (fun p => S n fun i => f p i) = S n fun i => PS M s g fun p => f p i := by
  unfold PS
  rw [S_swap]
  refine S_congr fun p _ => ?_
  split
  · rfl
  · exact (S_zero n).symm
/-! ### the least thing -/
theorem low_spec : ∀ s, 0 < s → ∃ v, low s = 2 ^ v ∧ s.testBit v = true ∧ ∀ j, j < v → s.testBit j = false := fun s => by
  induction s using Nat.strongRecOn with
  | _ s ih =>
    intro hs
    have e2 := Nat.and_div_two (a := s) (b := s - 1)
    have e3 := Nat.and_mod_two_eq_one (a := s) (b := s - 1)
    have hle := Nat.and_le_right (n := s) (m := s - 1)
    rcases Nat.mod_two_eq_zero_or_one s with m | m
    · obtain ⟨v, h1, h2, h3⟩ := ih (s / 2) (by omega) (by omega)
      refine ⟨v + 1, ?_, by rw [Nat.testBit_succ]; exact h2, fun j hj => ?_⟩
      · unfold low at h1 ⊢
        have e4 : (s - 1) / 2 = s / 2 - 1 := by omega
        rw [e4] at e2
        have hh := Nat.and_le_left (n := s / 2) (m := s / 2 - 1)
        rw [Nat.pow_succ, ← h1]
        have : (s &&& (s - 1)) % 2 = 0 := by
          rcases Nat.mod_two_eq_zero_or_one (s &&& (s - 1)) with z | z
          · exact z
          · have := (e3.mp z).1; omega
        omega
      · cases j with
        | zero =>
          cases e : s.testBit 0 with
          | false => rfl
          | true => have := Nat.mod_two_eq_one_iff_testBit_zero.mpr e; omega
        | succ j => rw [Nat.testBit_succ]; exact h3 j (by omega)
    · refine ⟨0, ?_, Nat.mod_two_eq_one_iff_testBit_zero.mp m, fun j hj => by omega⟩
      unfold low
      have e4 : (s - 1) / 2 = s / 2 := by omega
      rw [e4, Nat.and_self] at e2
      have : (s &&& (s - 1)) % 2 = 0 := by
        rcases Nat.mod_two_eq_zero_or_one (s &&& (s - 1)) with z | z
        · exact z
        · have := (e3.mp z).2; omega
      show s - (s &&& (s - 1)) = 1
      omega
theorem and_pow (p v : Nat) : decide (0 < p &&& 2 ^ v) = p.testBit v := by
  cases e : p.testBit v with
  | true =>
    have : (p &&& 2 ^ v).testBit v = true := by rw [Nat.testBit_and, e, Nat.testBit_two_pow_self]; rfl
    refine decide_eq_true (Nat.pos_of_ne_zero fun z => ?_)
    rw [z, Nat.zero_testBit] at this
    cases this
  | false =>
    have : p &&& 2 ^ v = 0 := by
      apply Nat.eq_of_testBit_eq
      intro j
      rw [Nat.testBit_and, Nat.zero_testBit, Nat.testBit_two_pow]
      by_cases h : v = j
      · subst h; rw [e]; rfl
      · rw [decide_eq_false h, Bool.and_false]
    rw [this]; rfl
theorem low_of {s s' : Nat} (h : 0 < s) (sbs : sb s' s = true) (k : ∀ v, low s = 2 ^ v → s'.testBit v = true) : low s' = low s := by
  obtain ⟨v, h1, h2, h3⟩ := low_spec s h
  have hv := k v h1
  have hp : 0 < s' := Nat.pos_of_ne_zero fun z => by rw [z, Nat.zero_testBit] at hv; cases hv
  obtain ⟨v', h1', h2', h3'⟩ := low_spec s' hp
  have e : v' = v := by
    rcases Nat.lt_trichotomy v' v with z | z | z
    · have := sb_iff.mp sbs v' h2'
      rw [h3 v' z] at this; cases this
    · exact z
    · rw [h3' v z] at hv; cases hv
  rw [h1', h1, e]
end TA
namespace TA
/-! ### ways to part, by lots -/
def Wi (M : Nat) (g : Nat → Bool) : Nat → Nat → Int
  | 0, s => if s = 0 then 1 else 0
  | i + 1, s => if s = 0 then 0 else PS M s (fun p => decide (0 < p &&& low s) && g p) fun p => Wi M g i (s - p)
theorem sb_of_minus {p u s : Nat} (h : sb u s = true) (hp : sb p (s - u) = true) : sb p s = true ∧ sb u (s - p) = true := by
  have h1 : sb p s = true := sb_trans hp (sb_minus h)
  refine ⟨h1, sb_iff.mpr fun j hj => ?_⟩
  rw [sub_bits j h1, sb_iff.mp h j hj]
  cases e : p.testBit j with
  | false => rfl
  | true =>
    have := sb_iff.mp hp j e
    rw [sub_bits j h, hj] at this
    simp at this
theorem Wi_id (M : Nat) (g : Nat → Bool) : ∀ (i s : Nat), s < M → ((i : Int) + 1) * Wi M g (i + 1) s = PS M s (fun p => decide (0 < p) && g p) fun p => Wi M g i (s - p)
  | i, s, hs => by
    by_cases h0 : s = 0
    · subst h0
      have e : Wi M g (i + 1) 0 = 0 := if_pos rfl
      rw [e, Int.mul_zero]
      exact (PS_zero fun p _ h1 h2 => by
        have := sb_le h1
        rw [Bool.and_eq_true, decide_eq_true_eq] at h2
        omega).symm
    · obtain ⟨v, hv, hb, _⟩ := low_spec s (by omega)
      have L : ∀ p, decide (0 < p &&& low s) = p.testBit v := fun p => by rw [hv, and_pow]
      have eW : ∀ i, Wi M g (i + 1) s = PS M s (fun p => p.testBit v && g p) fun p => Wi M g i (s - p) := fun i => by
        show (if s = 0 then 0 else _) = _
        rw [if_neg h0]
        exact PS_congr (fun p _ _ => by rw [L]) fun _ _ _ _ => rfl
      rw [PS_split M s _ (fun p => p.testBit v)]
      have eA : PS M s (fun p => (decide (0 < p) && g p) && p.testBit v) (fun p => Wi M g i (s - p)) = Wi M g (i + 1) s := by
        rw [eW]
        refine PS_congr (fun p _ _ => ?_) fun _ _ _ _ => rfl
        cases e : p.testBit v with
        | false => rw [Bool.and_false, Bool.false_and]
        | true =>
          have : 0 < p := Nat.pos_of_ne_zero fun z => by rw [z, Nat.zero_testBit] at e; cases e
          rw [decide_eq_true this, Bool.and_true, Bool.true_and]
      rw [eA]
      have rest : ∀ p, sb p s = true → p.testBit v = false → low (s - p) = low s ∧ s - p ≠ 0 := fun p h1 h2 => by
        have hb' : (s - p).testBit v = true := by rw [sub_bits v h1, hb, h2]; rfl
        refine ⟨low_of (by omega) (sb_minus h1) fun v' hv' => ?_, fun z => by rw [z, Nat.zero_testBit] at hb'; cases hb'⟩
        have : v' = v := by
          have e : (2 ^ v').testBit v = true := by rw [← hv', hv, Nat.testBit_two_pow_self]
          rw [Nat.testBit_two_pow] at e
          exact of_decide_eq_true e
        rw [this]; exact hb'
      cases i with
      | zero =>
        rw [PS_zero (g := fun p => (decide (0 < p) && g p) && !p.testBit v) fun p _ h1 h2 => ?_]
        · show (((0 : Nat) : Int) + 1) * _ = _ + 0; rw [Int.natCast_zero]; omega
        · simp only [Bool.and_eq_true, Bool.not_eq_true'] at h2
          exact if_neg (rest p h1 h2.2).2
      | succ i =>
        have ih := Wi_id M g i
        have e1 : PS M s (fun p => (decide (0 < p) && g p) && !p.testBit v) (fun p => Wi M g (i + 1) (s - p)) = PS M s (fun p => (decide (0 < p) && g p) && !p.testBit v) fun p => PS M (s - p) (fun u => decide (0 < u &&& low (s - p)) && g u) fun u => Wi M g i (s - p - u) := PS_congr (fun _ _ _ => rfl) fun p _ h1 h2 => by
          simp only [Bool.and_eq_true, Bool.not_eq_true'] at h2
          show (if s - p = 0 then 0 else _) = _
          rw [if_neg (rest p h1 h2.2).2]
        rw [e1, PS_swap M s (fun p => (decide (0 < p) && g p) && !p.testBit v) (fun u => u.testBit v && g u) (fun p => s - p) (fun u => s - u) (fun p u => decide (0 < u &&& low (s - p)) && g u) (fun u p => decide (0 < p) && g p) (fun p u => Wi M g i (s - p - u))]
        · have e2 : PS M s (fun u => u.testBit v && g u) (fun u => PS M (s - u) (fun p => decide (0 < p) && g p) fun p => Wi M g i (s - p - u)) = PS M s (fun u => u.testBit v && g u) fun u => ((i : Int) + 1) * Wi M g (i + 1) (s - u) := PS_congr (fun _ _ _ => rfl) fun u _ h1 _ => by
            rw [ih (s - u) (by omega)]
            exact PS_congr (fun _ _ _ => rfl) fun p _ _ _ => by rw [show s - p - u = s - u - p by omega]
          rw [e2, PS_mul, ← eW, Int.natCast_add, Int.add_mul, Int.add_comm]
          rw [Int.one_mul]; rfl
        · intro p u _ _
          rw [Bool.eq_iff_iff]
          simp only [Bool.and_eq_true, Bool.not_eq_true', decide_eq_true_eq]
          constructor
          · rintro ⟨⟨h1, ⟨h2, h3⟩, h4⟩, h5, h6, h7⟩
            have hl := (rest p h1 h4).1
            rw [hl] at h6
            have h8 : u.testBit v = true := by rw [← L]; exact decide_eq_true h6
            have := sb_of_minus h1 h5
            exact ⟨⟨this.1, h8, h7⟩, this.2, h2, h3⟩
          · rintro ⟨⟨h1, h2, h3⟩, h4, h5, h6⟩
            have := sb_of_minus h1 h4
            have hp : p.testBit v = false := by
              cases e : p.testBit v with
              | false => rfl
              | true =>
                have := sb_iff.mp h4 v e
                rw [sub_bits v h1, h2] at this
                simp at this
            refine ⟨⟨this.1, ⟨h5, h6⟩, hp⟩, this.2, ?_, h3⟩
            rw [(rest p this.1 hp).1]
            exact of_decide_eq_true (by rw [L]; exact h2)
/-! ### how many things a lot has -/
def pcn : Nat → Nat → Nat
  | 0, _ => 0
  | n + 1, s => pcn n s + if s.testBit n = true then 1 else 0
theorem pcn_sub {s p : Nat} (h : sb p s = true) : ∀ n, pcn n p + pcn n (s - p) = pcn n s
  | 0 => rfl
  | n + 1 => by
    have ih := pcn_sub h n
    unfold pcn
    rw [sub_bits n h]
    cases e : p.testBit n with
    | false =>
      cases e2 : s.testBit n <;> simp <;> omega
    | true =>
      rw [sb_iff.mp h n e]; simp; omega
theorem pcn_pos {n p : Nat} (hp : 0 < p) (h : p < 2 ^ n) : 1 ≤ pcn n p := by
  obtain ⟨j, hj⟩ := Nat.exists_testBit_of_ne_zero (show p ≠ 0 by omega)
  have hjn : j < n := by
    by_cases z : j < n
    · exact z
    · rw [Nat.testBit_lt_two_pow (Nat.lt_of_lt_of_le h (Nat.pow_le_pow_right (by omega) (by omega)))] at hj; cases hj
  have : ∀ m, j < m → 1 ≤ pcn m p := fun m => by
    induction m with
    | zero => intro z; omega
    | succ m ih =>
      intro z
      unfold pcn
      by_cases e : j = m
      · subst e; rw [if_pos hj]; omega
      · have := ih (by omega); omega
  exact this n hjn
theorem pcn_le (s : Nat) : ∀ n, pcn n s ≤ n
  | 0 => Nat.le_refl _
  | n + 1 => by have := pcn_le s n; unfold pcn; split <;> omega
theorem pcn_zero : ∀ n, pcn n 0 = 0
  | 0 => rfl
  | n + 1 => by unfold pcn; rw [pcn_zero n, Nat.zero_testBit]; rfl
theorem pcn_congr {s t : Nat} : ∀ {n : Nat}, (∀ j, j < n → s.testBit j = t.testBit j) → pcn n s = pcn n t
  | 0, _ => rfl
  | n + 1, h => by unfold pcn; rw [pcn_congr (n := n) fun j hj => h j (by omega), h n (by omega)]
theorem tb_add {k m j : Nat} (h : m < 2 ^ k) : (2 ^ k + m).testBit j = (decide (j = k) || m.testBit j) := by
  rcases Nat.lt_trichotomy j k with z | z | z
  · rw [Nat.testBit_two_pow_add_gt z, decide_eq_false (by omega), Bool.false_or]
  · subst z
    rw [Nat.testBit_two_pow_add_eq, Nat.testBit_lt_two_pow h]; simp
  · rw [Nat.testBit_lt_two_pow (Nat.lt_of_lt_of_le (by omega : 2 ^ k + m < 2 ^ k * 2) (by rw [← Nat.pow_succ]; exact Nat.pow_le_pow_right (by omega) z)), Nat.testBit_lt_two_pow (Nat.lt_of_lt_of_le h (Nat.pow_le_pow_right (by omega) (by omega))), decide_eq_false (by omega)]; rfl
theorem pcn_add {k m : Nat} (h : m < 2 ^ k) : ∀ n, k < n → pcn n (2 ^ k + m) = pcn n m + 1
  | 0, z => by omega
  | n + 1, z => by
    unfold pcn
    rw [tb_add h]
    by_cases e : n = k
    · subst e
      rw [pcn_congr (s := 2 ^ n + m) (t := m) (n := n) fun j hj => by rw [tb_add h, decide_eq_false (by omega), Bool.false_or], Nat.testBit_lt_two_pow h]
      simp
    · rw [pcn_add h n (by omega), decide_eq_false e, Bool.false_or]; omega
theorem Wi_vanish {n : Nat} (g : Nat → Bool) : ∀ (i s : Nat), s < 2 ^ n → pcn n s < i → Wi (2 ^ n) g i s = 0
  | 0, s, _, h => by omega
  | i + 1, s, hs, h => by
    show (if s = 0 then 0 else _) = 0
    split
    · rfl
    · refine PS_zero fun p hp h1 h2 => ?_
      rw [Bool.and_eq_true, decide_eq_true_eq] at h2
      have hp0 : 0 < p := Nat.pos_of_ne_zero fun z => by
        have h3 := h2.1
        rw [z, Nat.zero_and] at h3
        omega
      have e1 := pcn_sub h1 n
      have e2 := pcn_pos hp0 hp
      exact Wi_vanish g i (s - p) (by omega) (by omega)
/-! ### colourings by parting -/
def Fs (n : Nat) (g : Nat → Bool) (s : Nat) (x : Int) : Int := S (n + 1) fun i => Wi (2 ^ n) g i s * ff x i
theorem Fs_zero (n : Nat) (g : Nat → Bool) (s : Nat) : Fs n g s 0 = if s = 0 then 1 else 0 := by
  unfold Fs
  rw [S_front, S_zero' fun k _ => by rw [ff_zero, Int.mul_zero]]
  show (if s = 0 then (1 : Int) else 0) * 1 + 0 = _
  rw [Int.mul_one, Int.add_zero]
theorem Fs_succ (n : Nat) (g : Nat → Bool) (s : Nat) (hs : s < 2 ^ n) (x : Int) : Fs n g s (x + 1) = Fs n g s x + PS (2 ^ n) s (fun p => decide (0 < p) && g p) fun p => Fs n g (s - p) x := by
  have e1 : Fs n g s (x + 1) = Fs n g s x + S n fun k => (((k : Int) + 1) * Wi (2 ^ n) g (k + 1) s) * ff x k := by
    unfold Fs
    rw [S_front, S_front, Int.add_assoc, ← S_add]
    congr 1
    exact S_congr fun k _ => by
      rw [ff_succ, Int.mul_add]
      congr 1
      rw [← Int.mul_assoc, Int.mul_comm (Wi (2 ^ n) g (k + 1) s)]
  rw [e1]
  congr 1
  have e2 : PS (2 ^ n) s (fun p => decide (0 < p) && g p) (fun p => Fs n g (s - p) x) = PS (2 ^ n) s (fun p => decide (0 < p) && g p) fun p => S n fun i => Wi (2 ^ n) g i (s - p) * ff x i := PS_congr (fun _ _ _ => rfl) fun p hp h1 h2 => by
    rw [Bool.and_eq_true, decide_eq_true_eq] at h2
    have q1 := pcn_sub h1 n
    have q2 := pcn_pos h2.1 hp
    have q3 := pcn_le s n
    show S n _ + Wi (2 ^ n) g n (s - p) * ff x n = _
    rw [Wi_vanish g n (s - p) (by omega) (by omega), Int.zero_mul, Int.add_zero]
  rw [e2, PS_exch]
  refine S_congr fun k _ => ?_
  rw [Wi_id (2 ^ n) g k s hs, Int.mul_comm, ← PS_mul]
  exact PS_congr (fun _ _ _ => rfl) fun p _ _ _ => Int.mul_comm _ _
/-! ### standings by parting -/
def sgn (n s : Nat) : Int := (-1) ^ pcn n s
def aS (n : Nat) (g : Nat → Bool) (s : Nat) : Int := sgn n s * Fs n g s (-1)
theorem sgn_pm (n s : Nat) : sgn n s = 1 ∨ sgn n s = -1 := by
  unfold sgn
  generalize pcn n s = k
  induction k with
  | zero => exact .inl rfl
  | succ k ih =>
    rw [Int.pow_succ]
    rcases ih with e | e <;> rw [e]
    · exact .inr rfl
    · exact .inl rfl
theorem SO_sgn (n : Nat) : SO n fun s => - sgn n s := by
  refine ⟨by show - sgn n 0 = -1; unfold sgn; rw [pcn_zero]; rfl, fun k m hk hm => ?_⟩
  show - sgn n (2 ^ k + m) = - - sgn n m
  unfold sgn
  rw [pcn_add hm n hk, Int.pow_succ, Int.mul_neg_one]
theorem AO_a {n : Nat} {g : Nat → Bool} : AO n g (fun s => - sgn n s) (aS n g) := by
  refine ⟨?_, fun lot h0 hl => ?_, fun lot _ => ?_⟩
  · show sgn n 0 * Fs n g 0 (-1) = 1
    have e0 : Fs n g 0 (-1) = 1 := by
      unfold Fs
      rw [S_front, S_zero' fun k _ => by rw [show Wi (2 ^ n) g (k + 1) 0 = 0 from if_pos rfl, Int.zero_mul]]
      rfl
    rw [e0]; unfold sgn; rw [pcn_zero]; rfl
  · have ef : (downM lot lot).filter g = (downM lot lot).filter fun p => decide (0 < p) && g p := List.filter_congr fun p hp => by
      rw [decide_eq_true (downM_mem lot lot (Nat.and_self _) p hp).1, Bool.true_and]
    rw [ef, down_PS hl (fun p => decide (0 < p) && g p) _ rfl]
    have e1 : PS (2 ^ n) lot (fun p => decide (0 < p) && g p) (fun p => aS n g (lot - p) * - sgn n p) = PS (2 ^ n) lot (fun p => decide (0 < p) && g p) fun p => (- sgn n lot) * Fs n g (lot - p) (-1) := PS_congr (fun _ _ _ => rfl) fun p _ h1 _ => by
      unfold aS sgn
      rw [← pcn_sub h1 n, Int.pow_add, Int.mul_neg, Int.neg_mul]
      congr 1
      rw [Int.mul_assoc, Int.mul_comm (Fs n g (lot - p) (-1)), ← Int.mul_assoc, Int.mul_comm ((-1) ^ pcn n (lot - p))]
    rw [e1, PS_mul]
    have e2 := Fs_succ n g lot hl (-1)
    rw [show (-1 : Int) + 1 = 0 from rfl, Fs_zero, if_neg (by omega)] at e2
    have e3 : PS (2 ^ n) lot (fun p => decide (0 < p) && g p) (fun p => Fs n g (lot - p) (-1)) = - Fs n g lot (-1) := by omega
    rw [e3, Int.neg_mul_neg]; rfl
  · rcases sgn_pm n lot with e | e
    · right; show - sgn n lot = -1; rw [e]
    · left; show - sgn n lot = 1; rw [e]; rfl
theorem WO_W {n : Nat} {g : Nat → Bool} : WO n g fun s i => Wi (2 ^ n) g i s := by
  refine ⟨fun i _ => ?_, fun lot h0 _ => if_neg (by omega), fun lot i h0 hl _ => ?_⟩
  · cases i with
    | zero => rfl
    | succ i => rfl
  · show (if lot = 0 then 0 else _) = _
    rw [if_neg (by omega), down_PS hl _ _ (by rw [Nat.zero_and]; rfl)]
end TA
namespace TA
/-! ### lots in which nothing is tied -/
def indB (n : Nat) (As : List (Nat × Nat)) (p : Nat) : Bool := (List.range n).all fun i => (List.range n).all fun j => !(p.testBit i && p.testBit j && tiedB As i j)
theorem bit_lt {n p j : Nat} (h : p < 2 ^ n) (hj : p.testBit j = true) : j < n := by
  by_cases z : j < n
  · exact z
  · rw [Nat.testBit_lt_two_pow (Nat.lt_of_lt_of_le h (Nat.pow_le_pow_right (by omega) (by omega)))] at hj; cases hj
theorem ind_iff {n : Nat} {As : List (Nat × Nat)} {p : Nat} (hp : p < 2 ^ n) : indB n As p = true ↔ ∀ i j, p.testBit i = true → p.testBit j = true → tiedB As i j = false := by
  unfold indB
  simp only [List.all_eq_true, List.mem_range, Bool.not_eq_true', Bool.and_eq_false_iff]
  constructor
  · intro h i j hi hj
    rcases h i (bit_lt hp hi) j (bit_lt hp hj) with (z | z) | z
    · rw [hi] at z; cases z
    · rw [hj] at z; cases z
    · exact z
  · intro h i _ j _
    cases hi : p.testBit i with
    | false => exact .inl (.inl rfl)
    | true =>
      cases hj : p.testBit j with
      | false => exact .inl (.inr rfl)
      | true => exact .inr (h i j hi hj)
theorem tiedB_comm (As : List (Nat × Nat)) (i j : Nat) : tiedB As i j = tiedB As j i := by unfold tiedB; rw [Bool.or_comm]
theorem tiedB_irr {n : Nat} {As : List (Nat × Nat)} (h : VAr n As) (i : Nat) : tiedB As i i = false := by
  unfold tiedB
  rw [Bool.or_self, decide_eq_false]
  intro z
  exact (h.inn _ z).2.2 rfl
theorem UO_ind {n : Nat} {As : List (Nat × Nat)} (h : VAr n As) : UO n As (indB n As) := by
  refine ⟨(ind_iff (Nat.two_pow_pos n)).mpr (fun i j hi _ => by rw [Nat.zero_testBit] at hi; cases hi), fun k m b hk hm hb => ?_⟩
  have hkn : 2 ^ (k + 1) ≤ 2 ^ n := Nat.pow_le_pow_right (by omega) hk
  have h2 : 2 ^ k + m < 2 ^ n := by rw [Nat.pow_succ] at hkn; omega
  have hm' : m < 2 ^ n := by omega
  rw [Bool.eq_iff_iff, Bool.and_eq_true, ind_iff h2, ind_iff hm', decide_eq_true_eq]
  constructor
  · intro g
    refine ⟨fun i j hi hj => g i j (by rw [tb_add hm, hi, Bool.or_true]) (by rw [tb_add hm, hj, Bool.or_true]), ?_⟩
    apply Nat.eq_of_testBit_eq
    intro j
    rw [Nat.testBit_and, Nat.zero_testBit, hb]
    cases hj : m.testBit j with
    | false => rw [Bool.and_false]
    | true => rw [Bool.and_true]; exact g k j (by rw [tb_add hm, decide_eq_true rfl, Bool.true_or]) (by rw [tb_add hm, hj, Bool.or_true])
  · rintro ⟨g1, g2⟩ i j hi hj
    rw [tb_add hm, Bool.or_eq_true, decide_eq_true_eq] at hi hj
    have kk : ∀ j, m.testBit j = true → tiedB As k j = false := fun j hj => by
      have := congrArg (fun x => x.testBit j) g2
      simp only [Nat.testBit_and, Nat.zero_testBit, hb, hj, Bool.and_true] at this
      exact this
    rcases hi with hi | hi <;> rcases hj with hj | hj
    · rw [hi, hj]; exact tiedB_irr h k
    · rw [hi]; exact kk j hj
    · rw [hj, tiedB_comm]; exact kk i hi
    · exact g1 i j hi hj
/-! ### the last colour's lot -/
def bl (s : Nat) : Nat → List Nat
  | 0 => []
  | k + 1 => if s.testBit k = true then k :: bl s k else bl s k
theorem bl_pos {s k : Nat} (h : s.testBit k = true) : bl s (k + 1) = k :: bl s k := if_pos h
theorem bl_neg {s k : Nat} (h : ¬ s.testBit k = true) : bl s (k + 1) = bl s k := if_neg h
theorem bl_mem {s x : Nat} : ∀ {k : Nat}, x ∈ bl s k ↔ x < k ∧ s.testBit x = true
  | 0 => by unfold bl; simp
  | k + 1 => by
    unfold bl
    have ih := bl_mem (s := s) (x := x) (k := k)
    by_cases h : s.testBit k = true
    · rw [if_pos h, List.mem_cons, ih]
      constructor
      · rintro (e | ⟨a, b⟩)
        · subst e; exact ⟨by omega, h⟩
        · exact ⟨by omega, b⟩
      · rintro ⟨a, b⟩
        by_cases e : x = k
        · exact .inl e
        · exact .inr ⟨by omega, b⟩
    · rw [if_neg h, ih]
      constructor
      · rintro ⟨a, b⟩; exact ⟨by omega, b⟩
      · rintro ⟨a, b⟩
        have : x ≠ k := fun e => h (by rw [← e]; exact b)
        exact ⟨by omega, b⟩
theorem bl_nd (s : Nat) : ∀ k, (bl s k).Nodup
  | 0 => List.nodup_nil
  | k + 1 => by
    unfold bl
    split
    · exact List.nodup_cons.mpr ⟨fun h => by have := (bl_mem.mp h).1; omega, bl_nd s k⟩
    · exact bl_nd s k
theorem bl_congr {s t : Nat} : ∀ {k : Nat}, (∀ j, j < k → s.testBit j = t.testBit j) → bl s k = bl t k
  | 0, _ => rfl
  | k + 1, h => by unfold bl; rw [bl_congr (k := k) fun j hj => h j (by omega), h k (by omega)]
def mark (q : Nat) (c : Nat → Nat) (p : Nat) : Nat → Nat := fun i => if p.testBit i = true then q else c i
theorem cnt_split (q : Nat) (w : (Nat → Nat) → Int) : ∀ (k s : Nat) (c : Nat → Nat), s < 2 ^ k → cnt (q + 1) (bl s k) c w = PS (2 ^ k) s (fun _ => true) fun p => cnt q (bl (s - p) k) (mark q c p) w
  | 0, s, c, h => by
    have : s = 0 := by rw [Nat.pow_zero] at h; omega
    subst this
    have e : mark q c 0 = c := by funext i; unfold mark; rw [Nat.zero_testBit]; rfl
    show w c = 0 + (if (sb 0 0 && true) = true then w (mark q c 0) else 0)
    rw [e, sb_self]; simp
  | k + 1, s, c, h => by
    have e2 : 2 ^ (k + 1) = 2 ^ k + 2 ^ k := by omega
    by_cases hb : s.testBit k = true
    · have hge : 2 ^ k ≤ s := Nat.ge_two_pow_of_testBit hb
      obtain ⟨m, hm⟩ : ∃ m, s = 2 ^ k + m := ⟨s - 2 ^ k, by omega⟩
      have hmk : m < 2 ^ k := by omega
      have hbits : ∀ j, s.testBit j = (decide (j = k) || m.testBit j) := fun j => by rw [hm, tb_add hmk]
      have ebl : bl s (k + 1) = k :: bl m k := by
        rw [bl_pos hb, bl_congr (t := m) fun j hj => by rw [hbits, decide_eq_false (by omega), Bool.false_or]]
      have hp' : ∀ p, p < 2 ^ k → p.testBit k = false := fun p hp => Nat.testBit_lt_two_pow hp
      rw [ebl]
      show S q (fun j => cnt (q + 1) (bl m k) (up c k j) w) + cnt (q + 1) (bl m k) (up c k q) w = _
      have ih := fun c => cnt_split q w k m c hmk
      rw [S_congr fun j _ => ih (up c k j), ih]
      unfold PS
      rw [e2, S_split]
      congr 1
      · rw [S_swap]
        refine S_congr fun p hp => ?_
        have es : sb p s = sb p m := by
          rw [Bool.eq_iff_iff, sb_iff, sb_iff]
          constructor
          · intro g j hj
            have := g j hj
            rw [hbits, Bool.or_eq_true, decide_eq_true_eq] at this
            rcases this with z | z
            · rw [z, hp' p hp] at hj; cases hj
            · exact z
          · intro g j hj
            rw [hbits, g j hj, Bool.or_true]
        rw [es]
        by_cases hs : sb p m = true
        · have hs' : sb p s = true := es.trans hs
          rw [hs]
          simp only [Bool.and_self, if_true]
          have eb : bl (s - p) (k + 1) = k :: bl (m - p) k := by
            rw [bl_pos (by rw [sub_bits k hs', hb, hp' p hp]; rfl), bl_congr (t := m - p) fun j hj => by rw [sub_bits j hs', sub_bits j hs, hbits, decide_eq_false (by omega), Bool.false_or]]
          rw [eb]
          refine S_congr fun j _ => ?_
          congr 1
          funext i
          unfold mark up
          by_cases e : i = k
          · rw [e, hp' p hp]; simp
          · rw [if_neg e, if_neg e]
        · rw [Bool.eq_false_iff.mpr hs]
          simp only [Bool.false_and]
          exact S_zero' fun _ _ => if_neg (by simp)
      · refine S_congr fun p hp => ?_
        have es : sb (2 ^ k + p) s = sb p m := by
          rw [Bool.eq_iff_iff, sb_iff, sb_iff]
          constructor
          · intro g j hj
            have := g j (by rw [tb_add hp, hj, Bool.or_true])
            rw [hbits, Bool.or_eq_true, decide_eq_true_eq] at this
            rcases this with z | z
            · rw [z, hp' p hp] at hj; cases hj
            · exact z
          · intro g j hj
            rw [tb_add hp, Bool.or_eq_true, decide_eq_true_eq] at hj
            rw [hbits]
            rcases hj with z | z
            · rw [decide_eq_true z, Bool.true_or]
            · rw [g j z, Bool.or_true]
        rw [es]
        by_cases hs : sb p m = true
        · rw [hs]
          simp only [Bool.and_self, if_true]
          have e3 : s - (2 ^ k + p) = m - p := by omega
          have eb : bl (m - p) (k + 1) = bl (m - p) k := by
            rw [bl_neg (by rw [Nat.testBit_lt_two_pow (by omega)]; simp)]
          rw [e3, eb]
          congr 1
          funext i
          unfold mark up
          rw [tb_add hp]
          by_cases e : i = k
          · rw [e, hp' p hp]; simp
          · rw [decide_eq_false e, Bool.false_or, if_neg e]
        · rw [Bool.eq_false_iff.mpr hs]
          simp
    · have hb' : s.testBit k = false := Bool.eq_false_iff.mpr hb
      have hlt : s < 2 ^ k := by
        by_cases z : s < 2 ^ k
        · exact z
        · obtain ⟨m, hm⟩ : ∃ m, s = 2 ^ k + m := ⟨s - 2 ^ k, by omega⟩
          exfalso
          apply hb
          rw [hm, tb_add (by omega), decide_eq_true rfl, Bool.true_or]
      have ebl : bl s (k + 1) = bl s k := by
        rw [bl_neg hb]
      rw [ebl, cnt_split q w k s c hlt]
      unfold PS
      have hz : (S (2 ^ k) fun p => if (sb (2 ^ k + p) s && true) = true then cnt q (bl (s - (2 ^ k + p)) (k + 1)) (mark q c (2 ^ k + p)) w else 0) = 0 := S_zero' fun p hp => if_neg fun z => by
        rw [Bool.and_true] at z
        have := sb_le z
        omega
      rw [e2, S_split]
      show S (2 ^ k) (fun p => if (sb p s && true) = true then cnt q (bl (s - p) k) (mark q c p) w else 0) = S (2 ^ k) (fun p => if (sb p s && true) = true then cnt q (bl (s - p) (k + 1)) (mark q c p) w else 0) + (S (2 ^ k) fun p => if (sb (2 ^ k + p) s && true) = true then cnt q (bl (s - (2 ^ k + p)) (k + 1)) (mark q c (2 ^ k + p)) w else 0)
      rw [hz, Int.add_zero]
      refine S_congr fun p hp => ?_
      rw [bl_neg (s := s - p) (by rw [Nat.testBit_lt_two_pow (by omega)]; simp)]
/-! ### proper colourings of a lot -/
def prS (n : Nat) (As : List (Nat × Nat)) (s : Nat) (c : Nat → Nat) : Bool := (List.range n).all fun i => (List.range n).all fun j => !(s.testBit i && s.testBit j && tiedB As i j && decide (c i = c j))
theorem prS_iff {n : Nat} {As : List (Nat × Nat)} {s : Nat} {c : Nat → Nat} (hs : s < 2 ^ n) : prS n As s c = true ↔ ∀ i j, s.testBit i = true → s.testBit j = true → tiedB As i j = true → c i ≠ c j := by
  unfold prS
  simp only [List.all_eq_true, List.mem_range, Bool.not_eq_true', Bool.and_eq_false_iff, decide_eq_false_iff_not]
  constructor
  · intro h i j hi hj ht
    rcases h i (bit_lt hs hi) j (bit_lt hs hj) with ((z | z) | z) | z
    · rw [hi] at z; cases z
    · rw [hj] at z; cases z
    · rw [ht] at z; cases z
    · exact z
  · intro h i _ j _
    cases hi : s.testBit i with
    | false => exact .inl (.inl (.inl rfl))
    | true =>
      cases hj : s.testBit j with
      | false => exact .inl (.inl (.inr rfl))
      | true =>
        cases ht : tiedB As i j with
        | false => exact .inl (.inr rfl)
        | true => exact .inr (h i j hi hj ht)
def NS (n : Nat) (As : List (Nat × Nat)) (q s : Nat) : Int := cnt q (bl s n) (fun _ => 0) fun c => iv (prS n As s c)
theorem cnt_zero (q : Nat) : ∀ (vs : List Nat) (c : Nat → Nat), cnt q vs c (fun _ => 0) = 0
  | [], _ => rfl
  | v :: vs, c => S_zero' fun k _ => cnt_zero q vs _
theorem NS_succ {n : Nat} {As : List (Nat × Nat)} {q s : Nat} (hs : s < 2 ^ n) : NS n As (q + 1) s = PS (2 ^ n) s (indB n As) fun p => NS n As q (s - p) := by
  unfold NS
  rw [cnt_split q _ n s _ hs]
  unfold PS
  refine S_congr fun p hp => ?_
  cases hsb : sb p s with
  | false => rfl
  | true =>
    rw [Bool.true_and, Bool.true_and, if_pos rfl]
    have hsp : s - p < 2 ^ n := by omega
    have key : cnt q (bl (s - p) n) (mark q (fun _ => 0) p) (fun c => iv (prS n As s c)) = cnt q (bl (s - p) n) (mark q (fun _ => 0) p) fun c => iv (indB n As p && prS n As (s - p) c) := by
      refine cnt_congr fun c h1 h2 => ?_
      congr 1
      have hq : ∀ i, p.testBit i = true → c i = q := fun i hi => by
        rw [h2 i fun z => by
          have := (bl_mem.mp z).2
          rw [sub_bits i hsb, hi] at this
          simp at this]
        unfold mark
        rw [if_pos hi]
      have hl : ∀ i, s.testBit i = true → p.testBit i = false → c i < q ∧ (s - p).testBit i = true := fun i hi hpi => by
        have : (s - p).testBit i = true := by rw [sub_bits i hsb, hi, hpi]; rfl
        exact ⟨h1 i (bl_mem.mpr ⟨bit_lt hsp this, this⟩), this⟩
      rw [Bool.eq_iff_iff, Bool.and_eq_true, prS_iff hs, ind_iff hp, prS_iff hsp]
      constructor
      · intro g
        refine ⟨fun i j hi hj => ?_, fun i j hi hj ht => ?_⟩
        · cases ht : tiedB As i j with
          | false => rfl
          | true => exact absurd ((hq i hi).trans (hq j hj).symm) (g i j (sb_iff.mp hsb i hi) (sb_iff.mp hsb j hj) ht)
        · rw [sub_bits _ hsb, Bool.and_eq_true] at hi hj
          exact g i j hi.1 hj.1 ht
      · rintro ⟨g1, g2⟩ i j hi hj ht e
        cases hpi : p.testBit i with
        | true =>
          cases hpj : p.testBit j with
          | true => rw [g1 i j hpi hpj] at ht; cases ht
          | false => have := (hl j hj hpj).1; rw [← e, hq i hpi] at this; omega
        | false =>
          cases hpj : p.testBit j with
          | true => have := (hl i hi hpi).1; rw [e, hq j hpj] at this; omega
          | false => exact g2 i j (hl i hi hpi).2 (hl j hj hpj).2 ht e
    show cnt q (bl (s - p) n) (mark q (fun _ => 0) p) (fun c => iv (prS n As s c)) = if indB n As p = true then cnt q (bl (s - p) n) (fun _ => 0) (fun c => iv (prS n As (s - p) c)) else 0
    rw [key]
    cases hi : indB n As p with
    | false =>
      rw [if_neg (by simp)]
      exact cnt_zero q _ _
    | true =>
      rw [if_pos rfl]
      refine cnt_base (D := fun _ => False) (fun c1 c2 g => ?_) (fun _ z => z.elim)
      rw [Bool.true_and, Bool.true_and]
      congr 1
      have g' : ∀ i, (s - p).testBit i = true → c1 i = c2 i := fun i hi => g i (.inr (bl_mem.mpr ⟨bit_lt hsp hi, hi⟩))
      rw [Bool.eq_iff_iff, prS_iff hsp, prS_iff hsp]
      exact ⟨fun f i j hi hj ht => by rw [← g' i hi, ← g' j hj]; exact f i j hi hj ht, fun f i j hi hj ht => by rw [g' i hi, g' j hj]; exact f i j hi hj ht⟩
theorem NS_zero {n : Nat} {As : List (Nat × Nat)} {s : Nat} (hs : s < 2 ^ n) : NS n As 0 s = if s = 0 then 1 else 0 := by
  by_cases h : s = 0
  · subst h
    rw [if_pos rfl]
    unfold NS
    have e : bl 0 n = [] := by
      cases hb : bl 0 n with
      | nil => rfl
      | cons x l =>
        have : x ∈ bl 0 n := by rw [hb]; exact List.mem_cons_self
        have := (bl_mem.mp this).2
        rw [Nat.zero_testBit] at this; cases this
    rw [e]
    show iv (prS n As 0 _) = 1
    have : prS n As 0 (fun _ => 0) = true := (prS_iff hs).mpr fun i j hi => by rw [Nat.zero_testBit] at hi; cases hi
    rw [this]; rfl
  · rw [if_neg h]
    obtain ⟨j, hj⟩ := Nat.exists_testBit_of_ne_zero h
    have hm : j ∈ bl s n := bl_mem.mpr ⟨bit_lt hs hj, hj⟩
    unfold NS
    cases hb : bl s n with
    | nil => rw [hb] at hm; cases hm
    | cons x l => rfl
theorem Fs_nat {n : Nat} {As : List (Nat × Nat)} : ∀ (q s : Nat), s < 2 ^ n → Fs n (indB n As) s (q : Int) = NS n As q s
  | 0, s, hs => by rw [NS_zero hs]; exact Fs_zero n _ s
  | q + 1, s, hs => by
    rw [NS_succ hs, Int.natCast_add]
    show Fs n (indB n As) s ((q : Int) + 1) = _
    rw [Fs_succ n _ s hs]
    have e1 : PS (2 ^ n) s (indB n As) (fun p => NS n As q (s - p)) = PS (2 ^ n) s (indB n As) fun p => Fs n (indB n As) (s - p) q := PS_congr (fun _ _ _ => rfl) fun p _ _ _ => (Fs_nat q (s - p) (by omega)).symm
    rw [e1, PS_split (2 ^ n) s (indB n As) (fun p => decide (0 < p)), Int.add_comm]
    congr 1
    · exact PS_congr (fun p _ _ => Bool.and_comm _ _) fun _ _ _ _ => rfl
    · unfold PS
      have e2 : ∀ p, p < 2 ^ n → (if (sb p s && (indB n As p && !decide (0 < p))) = true then Fs n (indB n As) (s - p) q else 0) = if p = 0 then Fs n (indB n As) (s - p) q else 0 := fun p hp => by
        by_cases h : p = 0
        · subst h
          rw [sb_zero, (ind_iff hp).mpr fun i j hi => by rw [Nat.zero_testBit] at hi; cases hi]
          rfl
        · rw [if_neg h, decide_eq_true (by omega)]; simp
      exact ((S_congr e2).trans (S_one (Nat.two_pow_pos n) (fun p => Fs n (indB n As) (s - p) q))).symm
end TA
namespace TA
/-! ### ways counted row by row -/
theorem cnt_snoc (q : Nat) (w : (Nat → Nat) → Int) (k : Nat) : ∀ (l : List Nat) (c : Nat → Nat), cnt q (l ++ [k]) c w = cnt q l c fun c' => S q fun j => w (up c' k j)
  | [], c => rfl
  | v :: l, c => S_congr fun j _ => cnt_snoc q w k l _
def prk (E : List (Nat × Nat)) (k : Nat) (c : Nat → Nat) : Bool := pr (E.filter fun p => decide (p.2 < k)) c
theorem prk_iff {E : List (Nat × Nat)} {k : Nat} {c : Nat → Nat} : prk E k c = true ↔ ∀ p ∈ E, p.2 < k → c p.1 ≠ c p.2 := by
  unfold prk pr
  simp only [List.all_eq_true, List.mem_filter, decide_eq_true_eq]
  exact ⟨fun h p hp hk => h p ⟨hp, hk⟩, fun h p hp => h p hp.1 hp.2⟩
theorem taken_iff {E : List (Nat × Nat)} {k j : Nat} {c : Nat → Nat} (hE : ∀ p ∈ E, p.1 < p.2) : j ∈ taken E k ((List.range k).map c) ↔ ∃ p ∈ E, p.2 = k ∧ c p.1 = j := by
  unfold taken
  simp only [List.mem_map, List.mem_filter, decide_eq_true_eq]
  have e : ∀ p ∈ E, p.2 = k → (((List.range k).map c)[p.1]?).getD 0 = c p.1 := fun p hp hk => by
    rw [List.getElem?_map, List.getElem?_range (by have := hE p hp; omega)]; rfl
  constructor
  · rintro ⟨u, ⟨p, ⟨h1, h2⟩, rfl⟩, h3⟩
    exact ⟨p, h1, h2, by rw [← e p h1 h2]; exact h3⟩
  · rintro ⟨p, h1, h2, h3⟩
    exact ⟨p.1, ⟨p, ⟨h1, h2⟩, rfl⟩, by rw [e p h1 h2]; exact h3⟩
theorem sum_flat {α β : Type} (f : β → Int) (g : α → List β) : ∀ l : List α, ((l.flatMap g).map f).sum = (l.map fun a => ((g a).map f).sum).sum
  | [] => rfl
  | a :: l => by rw [List.flatMap_cons, List.map_append, List.sum_append, List.map_cons, List.sum_cons, sum_flat f g l]
theorem sum_ext (q : Nat) (E : List (Nat × Nat)) (k : Nat) (f : List Nat → Int) (r : List Nat) : ((extR q E k r).map f).sum = S q fun j => if j ∈ taken E k r then 0 else f (r ++ [j]) := by
  unfold extR
  rw [List.map_map, ← S_list]
  have : ∀ l : List Nat, ((l.filter fun c => decide (c ∉ taken E k r)).map (f ∘ fun c => r ++ [c])).sum = (l.map fun j => if j ∈ taken E k r then 0 else f (r ++ [j])).sum := fun l => by
    induction l with
    | nil => rfl
    | cons a l ih =>
      rw [List.map_cons, List.sum_cons]
      by_cases h : a ∈ taken E k r
      · rw [List.filter_cons_of_neg (by simpa using h), ih, if_pos h, Int.zero_add]
      · rw [List.filter_cons_of_pos (by simpa using h), List.map_cons, List.sum_cons, ih, if_neg h]; rfl
  exact this _
theorem rows_sum (q : Nat) {E : List (Nat × Nat)} (hE : ∀ p ∈ E, p.1 < p.2) : ∀ (k : Nat) (f : List Nat → Int), ((rows q E k).map f).sum = cnt q (List.range k) (fun _ => 0) fun c => iv (prk E k c) * f ((List.range k).map c)
  | 0, f => by
    have : prk E 0 (fun _ => 0) = true := prk_iff.mpr fun p _ h => by omega
    show f [] + 0 = iv (prk E 0 fun _ => 0) * f []
    rw [this]
    show f [] + 0 = 1 * f []
    rw [Int.one_mul, Int.add_zero]
  | k + 1, f => by
    show (((rows q E k).flatMap (extR q E k)).map f).sum = _
    rw [sum_flat, List.map_congr_left fun r _ => sum_ext q E k f r, rows_sum q hE k, List.range_succ, cnt_snoc]
    refine cnt_congr fun c _ _ => ?_
    rw [← S_mul]
    refine S_congr fun j _ => ?_
    have e1 : (List.range k ++ [k]).map (up c k j) = (List.range k).map c ++ [j] := by
      rw [List.map_append, List.map_singleton, up_self]
      congr 1
      exact List.map_congr_left fun x hx => up_ne (by have := List.mem_range.mp hx; omega)
    rw [e1]
    have e2 : prk E (k + 1) (up c k j) = (prk E k c && decide (j ∉ taken E k ((List.range k).map c))) := by
      rw [Bool.eq_iff_iff, Bool.and_eq_true, prk_iff, prk_iff, decide_eq_true_eq, taken_iff hE]
      constructor
      · intro h
        refine ⟨fun p hp hk => ?_, ?_⟩
        · have := h p hp (by omega)
          have h1 := hE p hp
          rw [up_ne (by omega), up_ne (by omega)] at this
          exact this
        · rintro ⟨p, hp, h2, h3⟩
          have := h p hp (by omega)
          have h1 := hE p hp
          rw [up_ne (by omega), h2, up_self] at this
          exact this h3
      · rintro ⟨g1, g2⟩ p hp hk
        have h1 := hE p hp
        rw [up_ne (by omega)]
        by_cases e : p.2 = k
        · rw [e, up_self]
          exact fun z => g2 ⟨p, hp, e, z⟩
        · rw [up_ne e]
          exact g1 p hp (by omega)
    rw [e2]
    by_cases h : j ∈ taken E k ((List.range k).map c)
    · rw [if_pos h, decide_eq_false (by simpa using h), Bool.and_false, Int.mul_zero]
      exact (Int.zero_mul _).symm
    · rw [if_neg h, decide_eq_true h, Bool.and_true]
theorem rows_N (q : Nat) {n : Nat} {E : List (Nat × Nat)} (t : TE (List.range n) E) : ((rows q E n).length : Int) = N q (List.range n) E := by
  have h := rows_sum q (E := E) (fun p hp => (t.inn p hp).2.2) n fun _ => 1
  have e : ∀ l : List (List Nat), ((l.map fun _ => (1 : Int)).sum) = (l.length : Int) := fun l => by
    induction l with
    | nil => rfl
    | cons a l ih => rw [List.map_cons, List.sum_cons, ih, List.length_cons, Int.natCast_add]; omega
  rw [e] at h
  rw [h]
  unfold N
  refine cnt_congr fun c _ _ => ?_
  rw [Int.mul_one]
  congr 1
  unfold prk
  rw [List.filter_eq_self.mpr fun p hp => decide_eq_true (List.mem_range.mp (t.inn p hp).2.1)]
/-! ### all together -/
theorem srt_mem (p : Nat × Nat) : srt p = p ∨ srt p = (p.2, p.1) := by
  unfold srt
  split
  · exact .inl rfl
  · exact .inr rfl
structure HE (n : Nat) (As E : List (Nat × Nat)) : Prop where
  h : VAr n As
  e : E.Perm (As.map srt)
section
variable {n : Nat} {As E : List (Nat × Nat)}
theorem HE.te (H : HE n As E) : TE (List.range n) E := by
  refine ⟨List.nodup_range, (H.e.nodup_iff).mpr H.h.nd, fun p hp => ?_⟩
  obtain ⟨a, ha, rfl⟩ := List.mem_map.mp (H.e.subset hp)
  obtain ⟨h1, h2, h3⟩ := H.h.inn a ha
  unfold srt
  split
  · exact ⟨List.mem_range.mpr h1, List.mem_range.mpr h2, by omega⟩
  · exact ⟨List.mem_range.mpr h2, List.mem_range.mpr h1, by show a.2 < a.1; omega⟩
theorem HE.tied (H : HE n As E) (i j : Nat) : tiedB As i j = true ↔ (i, j) ∈ E ∨ (j, i) ∈ E := by
  unfold tiedB
  rw [Bool.or_eq_true, decide_eq_true_eq, decide_eq_true_eq]
  have fwd : ∀ i j, (i, j) ∈ As → (i, j) ∈ E ∨ (j, i) ∈ E := fun i j h => by
    have : srt (i, j) ∈ E := H.e.symm.subset (List.mem_map_of_mem h)
    rcases srt_mem (i, j) with z | z
    · rw [z] at this; exact .inl this
    · rw [z] at this; exact .inr this
  have bwd : ∀ i j, (i, j) ∈ E → (i, j) ∈ As ∨ (j, i) ∈ As := fun i j h => by
    obtain ⟨a, ha, e⟩ := List.mem_map.mp (H.e.subset h)
    rcases srt_mem a with z | z
    · rw [z] at e; rw [← e]; exact .inl ha
    · rw [z] at e
      have e1 : a.2 = i := congrArg Prod.fst e
      have e2 : a.1 = j := congrArg Prod.snd e
      right
      rw [← e1, ← e2]; exact ha
  constructor
  · rintro (h | h)
    · exact fwd i j h
    · exact (fwd j i h).symm
  · rintro (h | h)
    · exact bwd i j h
    · exact (bwd j i h).symm
theorem full_bit {j : Nat} (h : j < n) : (2 ^ n - 1).testBit j = true := by
  rw [Nat.testBit_two_pow_sub_one]; exact decide_eq_true h
theorem full_lt : 2 ^ n - 1 < 2 ^ n := by have := Nat.two_pow_pos n; omega
theorem HE.ns (H : HE n As E) (q : Nat) : NS n As q (2 ^ n - 1) = N q (List.range n) E := by
  have pe : (bl (2 ^ n - 1) n).Perm (List.range n) := by
    refine (List.perm_ext_iff_of_nodup (bl_nd _ _) List.nodup_range).mpr fun x => ?_
    rw [bl_mem, List.mem_range]
    exact ⟨fun h => h.1, fun h => ⟨h, full_bit h⟩⟩
  unfold NS N
  rw [cnt_perm pe (bl_nd _ _)]
  refine cnt_congr fun c _ _ => ?_
  congr 1
  rw [Bool.eq_iff_iff, prS_iff full_lt]
  unfold pr
  simp only [List.all_eq_true, decide_eq_true_eq]
  constructor
  · intro g p hp
    obtain ⟨h1, h2, _⟩ := H.te.inn p hp
    exact g p.1 p.2 (full_bit (List.mem_range.mp h1)) (full_bit (List.mem_range.mp h2)) ((H.tied _ _).mpr (.inl hp))
  · intro g i j _ _ ht
    rcases (H.tied i j).mp ht with z | z
    · exact g (i, j) z
    · exact fun e => g (j, i) z e.symm
theorem HE.fs_nat (H : HE n As E) (q : Nat) : Fs n (indB n As) (2 ^ n - 1) (q : Int) = ev (poly (List.range n) E) q := by
  rw [Fs_nat q _ full_lt, H.ns, poly_ev q H.te]
theorem HE.fs (H : HE n As E) (x : Int) : Fs n (indB n As) (2 ^ n - 1) x = ev (poly (List.range n) E) x := by
  have p1 : Pol (n + 2) (ev (poly (List.range n) E)) := by
    have := ev_pol (poly (List.range n) E)
    rw [poly_len, List.length_range] at this
    exact this
  have p2 : Pol (n + 2) fun x => Fs n (indB n As) (2 ^ n - 1) x := ffsum_pol (fun i => Wi (2 ^ n) (indB n As) i (2 ^ n - 1)) (n + 1)
  have p3 := Pol.add p2 (Pol.scale (-1) p1)
  have := Pol.zero p3 (fun q => by show Fs n (indB n As) (2 ^ n - 1) (q : Int) + -1 * ev (poly (List.range n) E) q = 0; rw [H.fs_nat]; omega) x
  have this : Fs n (indB n As) (2 ^ n - 1) x + -1 * ev (poly (List.range n) E) x = 0 := this
  omega
theorem HE.colour (H : HE n As E) (x : Int) : fsum (n + 1) (fun i => Wi (2 ^ n) (indB n As) i (2 ^ n - 1)) x = ev (poly (List.range n) E) x := by
  unfold fsum
  rw [S_list]
  exact H.fs x
theorem Wi_nonneg (M : Nat) (g : Nat → Bool) : ∀ i s, 0 ≤ Wi M g i s
  | 0, s => by show 0 ≤ (if s = 0 then (1 : Int) else 0); split <;> decide
  | i + 1, s => by
    show 0 ≤ (if s = 0 then 0 else _)
    split
    · exact Int.le_refl _
    · exact S_nonneg fun p _ => by
        split
        · exact Wi_nonneg M g i _
        · exact Int.le_refl _
theorem HE.bound (H : HE n As E) (i : Nat) (hi : i ≤ n) : -(2 ^ 64) < Wi (2 ^ n) (indB n As) i (2 ^ n - 1) ∧ Wi (2 ^ n) (indB n As) i (2 ^ n - 1) < 2 ^ 64 := by
  have h0 := Wi_nonneg (2 ^ n) (indB n As) i (2 ^ n - 1)
  refine ⟨by omega, ?_⟩
  have h1 : Wi (2 ^ n) (indB n As) i (2 ^ n - 1) ≤ Wi (2 ^ n) (indB n As) i (2 ^ n - 1) * ff (n : Int) i := by
    have := Int.mul_le_mul_of_nonneg_left (ff_pos n i hi) h0
    rw [Int.mul_one] at this
    exact this
  have h2 : Wi (2 ^ n) (indB n As) i (2 ^ n - 1) * ff (n : Int) i ≤ Fs n (indB n As) (2 ^ n - 1) n := S_term (f := fun i => Wi (2 ^ n) (indB n As) i (2 ^ n - 1) * ff (n : Int) i) (fun k hk => Int.mul_nonneg (Wi_nonneg _ _ _ _) (by have := ff_pos n k (by omega); omega)) (by omega)
  have h3 : Fs n (indB n As) (2 ^ n - 1) n ≤ (n : Int) ^ n := by
    rw [Fs_nat n _ full_lt, H.ns]
    have := cnt_le (q := n) (w := fun c => iv (pr E c)) (w' := fun _ => 1) (fun c => by unfold iv; split <;> decide) (List.range n) fun _ => 0
    rw [cnt_one, List.length_range] at this
    exact this
  have h4 : n ^ n ≤ 10 ^ 10 := Nat.le_trans (Nat.pow_le_pow_left H.h.hi n) (Nat.pow_le_pow_right (by decide) H.h.hi)
  have h5 : (n : Int) ^ n ≤ 10 ^ 10 := by
    have : ((n ^ n : Nat) : Int) ≤ ((10 ^ 10 : Nat) : Int) := by omega
    rw [Int.natCast_pow] at this
    exact this
  have h6 : (10 : Int) ^ 10 < 2 ^ 64 := by decide
  omega
theorem pcn_full : ∀ m, m ≤ n → pcn m (2 ^ n - 1) = m
  | 0, _ => rfl
  | m + 1, h => by unfold pcn; rw [pcn_full m (by omega), full_bit (by omega)]; rfl
theorem HE.stand (H : HE n As E) : aS n (indB n As) (2 ^ n - 1) = if ev (poly (List.range n) E) (-1) < 0 then - ev (poly (List.range n) E) (-1) else ev (poly (List.range n) E) (-1) := by
  have hs := poly_sign H.te
  rw [List.length_range] at hs
  unfold aS
  rw [H.fs]
  have e : sgn n (2 ^ n - 1) = (-1) ^ n := by unfold sgn; rw [pcn_full n (Nat.le_refl _)]
  rw [e]
  rcases sgn_pm n (2 ^ n - 1) with z | z
  · rw [e] at z
    rw [z] at hs ⊢
    rw [Int.one_mul] at hs ⊢
    rw [if_neg (by omega)]
  · rw [e] at z
    rw [z] at hs ⊢
    split <;> omega
theorem HE.ways (H : HE n As E) (q : Nat) : ((rows q E n).length : Int) = ev (poly (List.range n) E) q := by
  rw [rows_N q H.te, poly_ev q H.te]
end
end TA
namespace TA
open PySem PySem.Spec PySem.Calls PyProof.Rows L2 CL
theorem pairs_of : ∀ {es : List D} {ps : List (Nat × Nat)}, es.Perm (ps.map pI) → ∃ ms : List (Nat × Nat), es = ms.map pI ∧ ms.Perm ps := fun {es ps} h => by
  have hm : ∀ e ∈ es, ∃ m, e = pI m := fun e he => by
    obtain ⟨m, _, e'⟩ := List.mem_map.mp (h.subset he)
    exact ⟨m, e'.symm⟩
  have : ∃ ms : List (Nat × Nat), es = ms.map pI := by
    clear h
    induction es with
    | nil => exact ⟨[], rfl⟩
    | cons e es ih =>
      obtain ⟨m, hm1⟩ := hm e List.mem_cons_self
      obtain ⟨ms, hms⟩ := ih fun e he => hm e (List.mem_cons_of_mem _ he)
      exact ⟨m :: ms, by rw [hm1, hms]; rfl⟩
  obtain ⟨ms, e⟩ := this
  subst e
  refine ⟨ms, rfl, ?_⟩
  let un : D → Nat × Nat := fun d => match d with | .tup [.int i, .int j] => (i.toNat, j.toNat) | _ => (0, 0)
  have := h.map un
  rw [List.map_map, List.map_map] at this
  have e : un ∘ pI = id := by
    funext p
    show ((p.1 : Int).toNat, (p.2 : Int).toNat) = p
    exact Prod.ext (Int.toNat_natCast _) (Int.toNat_natCast _)
  rw [e, List.map_id, List.map_id] at this
  exact this
theorem cut_take (es : List D) (k : Nat) : CL.cutD es none (some (k : Int)) = es.take k := by
  unfold CL.cutD
  rw [HT.sIx_nat]
  show (es.drop 0).take (min k es.length - 0) = es.take k
  rw [List.drop_zero, Nat.sub_zero, ← List.take_take, List.take_length]
/-- what is drawn: some of the arrows, in order -/
theorem drawn_ok {n k : Nat} {As : List (Nat × Nat)} {es : List D} (h : VAr n As) (he : es.Perm (As.map pI)) : ∃ Bs, VAr n Bs ∧ Bs.length ≤ k ∧ SortOk (CL.cutD es none (some (k : Int))) ∧ (CL.cutD es none (some (k : Int))).mergeSort dLe = Bs.map pI := by
  obtain ⟨ms, rfl, hm⟩ := pairs_of he
  have hs := (h.perm hm).sub (List.take_sublist k ms)
  rw [cut_take, ← List.map_take]
  have s := sort_pairs (ms.take k) (szle (by have := hs.len; omega))
  exact ⟨(ms.take k).mergeSort pLe, hs.perm (List.mergeSort_perm _ _), by rw [List.length_mergeSort]; exact List.length_take_le _ _, s.1, s.2⟩
def tiesOf (As : List (Nat × Nat)) : List (Nat × Nat) := (As.map srt).mergeSort pLe
theorem ties_he {n : Nat} {As : List (Nat × Nat)} (h : VAr n As) : HE n (As.mergeSort pLe) (tiesOf As) :=
  ⟨h.perm (List.mergeSort_perm _ _), (List.mergeSort_perm _ _).trans ((List.mergeSort_perm As pLe).symm.map srt)⟩
theorem ties_sort {As : List (Nat × Nat)} (h : As.length ≤ 100) : SortOk ((As.map srt).map pI) ∧ ((As.map srt).map pI).mergeSort dLe = (tiesOf As).map pI :=
  sort_pairs (As.map srt) (szle (by rw [List.length_map]; omega))
theorem ties_len (As : List (Nat × Nat)) : (tiesOf As).length = As.length := by unfold tiesOf; rw [List.length_mergeSort, List.length_map]
theorem sort_pair {p : Nat × Nat} : SortOk [nI p.1, nI p.2] ∧ D.tup ([nI p.1, nI p.2].mergeSort dLe) = pI (srt p) := by
  have s := sort_nats [p.1, p.2] (szle (Nat.le_of_ble_eq_true rfl))
  refine ⟨s.1, ?_⟩
  have e : [nI p.1, nI p.2] = [p.1, p.2].map nI := rfl
  rw [e, s.2, sort2]; rfl
theorem colour_ok {n : Nat} {As E : List (Nat × Nat)} {c : Int} {Q : D → Prop} (H : HE n As E) (c1 : -1000 ≤ c) (c2 : c ≤ 1000) (hq : Q (.int (ev (poly (List.range n) E) c))) : R_colourings [homeD n As, .int c] Q :=
  .mk n As H.h (indB n As) (UO_ind H.h) (fun s i => Wi (2 ^ n) (indB n As) i s) WO_W H.bound c c1 c2 (by rw [H.colour]; exact hq)
def absI (x : Int) : Int := if x < 0 then -x else x
theorem stand_ok {n : Nat} {As E : List (Nat × Nat)} {Q : D → Prop} (H : HE n As E) (hq : Q (.int (absI (ev (poly (List.range n) E) (-1))))) : R_many_standings [homeD n As] Q :=
  .mk n As H.h (indB n As) (UO_ind H.h) _ (SO_sgn n) (aS n (indB n As)) AO_a (by rw [H.stand]; exact hq)
inductive R_L_great_right : List D → (D → Prop) → Prop
  | mk {Q : D → Prop} (hq : Q (.bl true)) : R_L_great_right [] Q
abbrev lc_L_great_right_1 (Z : List D → Ev → Prop) : List D → List D → Ev → Prop := lcL (gN 3) cYes (cF cTuple (cCons (cOf (cF cSorted (cCons (cSl 3) cNil))) cNil)) [3] Z
abbrev N_L_great_right : List Str := ["_law_hand_here", "_law_many", "_law_arrows_here", "_law_pair", "_law_polynomial_here", "_law_home", "_law_colours", "_law_due"]
def t_L_great_right : CS := (cSeq (cSet 1 (c2 cAdd (cOf (cC (.int 7))) (cOf (cCallB 0 Bag R_L_draw (cConsE (cC (.int 4)) cNilE)))))
  (cSeq (cSet 2 (cF cTuple (cCons (cOf (cF cSorted (cCons (cOf (cSlice (cOf (cCallB 0 Bag R_L_mixed (cConsE (cCallB 0 Bag R_L_arrows (cConsE (cVar 1) cNilE)) cNilE))) cNoP (cSoP (cOf (c2 cAdd (cOf (cC (.int 10))) (cOf (cCallB 0 Bag R_L_draw (cConsE (cC (.int 4)) cNilE)))))))) cNil))) cNil)))
  (cSeq (cSet 4 (cCall R_L_polynomial (cConsE (cLR1 (cSl 1)) (cConsE (cF cSorted (cCons (cOf (cLc (cIS (cVar 2)) (gN 3) cYes (cF cTuple (cCons (cOf (cF cSorted (cCons (cSl 3) cNil))) cNil)) [3])) cNil)) cNilE))))
  (cSeq (cPar 5 6 (cConsE (cMake "Home" R_Home (cConsE (cVar 1) (cConsE (cVar 2) cNilE))) (cConsE (c2 cSub (cOf (cCallB 0 Bag R_L_draw (cConsE (cC (.int 2001)) cNilE))) (cOf (cC (.int 1000)))) cNilE)))
  (cSeq (cSet 7 (cLst (cConsE (cCall R_L_sum (cConsE (cVar 4) (cConsE (cC (.int 3)) cNilE))) (cConsE (cCall R_L_sum (cConsE (cVar 4) (cConsE (cVar 6) cNilE))) cNilE))))
  (cSeq (cIfS (cNot (cB (cCall R_L_is (cConsE (cLst (cConsE (cCall R_colourings (cConsE (cVar 5) (cConsE (cC (.int 3)) cNilE))) (cConsE (cCall R_colourings (cConsE (cVar 5) (cConsE (cVar 6) cNilE))) cNilE))) (cConsE (cVar 7) cNilE)))))
  (cRet (cC (.bl false)))
  cNext)
  (cRet (cCall R_L_is (cConsE (cCall R_many_standings (cConsE (cVar 5) cNilE)) (cConsE (cF cAbs (cCons (cOf (cCall R_L_sum (cConsE (cVar 4) (cConsE (c1 cNeg (cOf (cC (.int 1)))) cNilE)))) cNil)) cNilE))))))))))
theorem len_L_great_right : ∀ ds Q, R_L_great_right ds Q → ds.length + 1 = 1 := fun _ _ h => by cases h; rfl
def g_S5 : CS := (cSeq (cSet 7 (cLst (cConsE (cCall R_L_sum (cConsE (cVar 4) (cConsE (cC (.int 3)) cNilE))) (cConsE (cCall R_L_sum (cConsE (cVar 4) (cConsE (cVar 6) cNilE))) cNilE))))
  (cSeq (cIfS (cNot (cB (cCall R_L_is (cConsE (cLst (cConsE (cCall R_colourings (cConsE (cVar 5) (cConsE (cC (.int 3)) cNilE))) (cConsE (cCall R_colourings (cConsE (cVar 5) (cConsE (cVar 6) cNilE))) cNilE))) (cConsE (cVar 7) cNilE)))))
  (cRet (cC (.bl false)))
  cNext)
  (cRet (cCall R_L_is (cConsE (cCall R_many_standings (cConsE (cVar 5) cNilE)) (cConsE (cF cAbs (cCons (cOf (cCall R_L_sum (cConsE (cVar 4) (cConsE (c1 cNeg (cOf (cC (.int 1)))) cNilE)))) cNil)) cNilE))))))
def g_S3 : CS := (cSeq (cSet 4 (cCall R_L_polynomial (cConsE (cLR1 (cSl 1)) (cConsE (cF cSorted (cCons (cOf (cLc (cIS (cVar 2)) (gN 3) cYes (cF cTuple (cCons (cOf (cF cSorted (cCons (cSl 3) cNil))) cNil)) [3])) cNil)) cNilE))))
  (cSeq (cPar 5 6 (cConsE (cMake "Home" R_Home (cConsE (cVar 1) (cConsE (cVar 2) cNilE))) (cConsE (c2 cSub (cOf (cCallB 0 Bag R_L_draw (cConsE (cC (.int 2001)) cNilE))) (cOf (cC (.int 1000)))) cNilE)))
  g_S5))
def g_S2 : CS := (cSeq (cSet 2 (cF cTuple (cCons (cOf (cF cSorted (cCons (cOf (cSlice (cOf (cCallB 0 Bag R_L_mixed (cConsE (cCallB 0 Bag R_L_arrows (cConsE (cVar 1) cNilE)) cNilE))) cNoP (cSoP (cOf (c2 cAdd (cOf (cC (.int 10))) (cOf (cCallB 0 Bag R_L_draw (cConsE (cC (.int 4)) cNilE)))))))) cNil))) cNil)))
  g_S3)
theorem great_5 {C : CEnds} {v0 : L2.V} {n : Nat} {As E : List (Nat × Nat)} {c : Int} (s2 s3 : Sl) (H : HE n As E) (c1 : -1000 ≤ c) (c2 : c ≤ 1000)
    (fin : ∀ s7, C.rt (.bl true) [.ob (pin Bag v0), .fz (.int n), s2, s3, .fz (.lst ((poly (List.range n) E).map D.int)), .fz (homeD n As), .fz (.int c), s7]) :
    g_S5 C [.ob (pin Bag v0), .fz (.int n), s2, s3, .fz (.lst ((poly (List.range n) E).map D.int)), .fz (homeD n As), .fz (.int c), .un] := by
  refine R_L_sum.mk _ 3 (by decide) (by decide) ?_
  refine R_L_sum.mk _ c c1 c2 ?_
  refine And.intro (szle (Nat.le_of_ble_eq_true rfl)) ?_
  refine colour_ok H (by decide) (by decide) ?_
  refine colour_ok H c1 c2 ?_
  refine And.intro (szle (Nat.le_of_ble_eq_true rfl)) ?_
  refine R_L_isN.lst 0 [ev (poly (List.range n) E) 3, ev (poly (List.range n) E) c] [ev (poly (List.range n) E) 3, ev (poly (List.range n) E) c] rfl (Nat.le_of_ble_eq_true rfl) ?_
  rw [decide_eq_true rfl]
  refine stand_ok H ?_
  refine R_L_sum.mk _ (-1) (by decide) (by decide) ?_
  refine R_L_isN.int 1 (absI (ev (poly (List.range n) E) (-1))) (absI (ev (poly (List.range n) E) (-1))) ?_
  rw [decide_eq_true rfl]
  exact fin _
theorem great_3 {C : CEnds} {v0 : L2.V} {n : Nat} {Bs : List (Nat × Nat)} (h : VAr n Bs) (hl : Bs.length ≤ 13)
    (fin : ∀ s4 s5 s6 s7, C.rt (.bl true) [.ob (pin Bag v0), .fz (.int n), .fz (arD Bs), .un, s4, s5, s6, s7]) :
    g_S3 C [.ob (pin Bag v0), .fz (.int n), .fz (arD Bs), .un, .un, .un, .un, .un] := by
  have hn := h.hi
  refine And.intro rfl (And.intro (by omega) (And.intro (by omega) ?_))
  refine lc_pure pI (fun _ => true) (fun p => pI (srt p)) [.ob (pin Bag v0), .fz (.int n), .fz (arD Bs), .un, .un, .un, .un, .un] Bs (fun p _ X Y hX _ => ?_) (szle (by omega)) ?_
  · refine And.intro rfl (And.intro sort_pair.1 ?_)
    show X (D.tup ([nI p.1, nI p.2].mergeSort dLe)) _
    rw [sort_pair.2]
    exact hX rfl
  · rw [List.filter_eq_self.mpr (fun _ _ => rfl)]
    have ts := ties_sort (As := Bs) (by omega)
    rw [show (Bs.map fun p => pI (srt p)) = (Bs.map srt).map pI by rw [List.map_map]; rfl]
    refine And.intro ts.1 ?_
    show R_L_polynomial [.lst (rngD 0 ((n : Int).toNat)), .lst (((Bs.map srt).map pI).mergeSort dLe)] _
    rw [ts.2, Int.toNat_natCast, rngD_0]
    refine R_L_polN.mk 14 (List.range n) (tiesOf Bs) (by rw [ties_len]; omega) (by rw [ties_len]; omega) (by rw [List.length_range]; omega) ?_
    refine R_Home.mk n Bs h ?_
    refine And.intro ⟨v0, rfl⟩ (And.intro ⟨v0, rfl⟩ ?_)
    refine R_L_draw.mk 2001 (by decide) (by decide) fun k hk => ?_
    exact great_5 (.fz (arD Bs)) .un (ties_he h) (c := (k : Int) - 1000) (by omega) (by omega) fun s7 => fin _ _ _ _
theorem great_2 {C : CEnds} {v0 : L2.V} {n : Nat} (h1 : 1 ≤ n) (h2 : n ≤ 10)
    (fin : ∀ s2 s4 s5 s6 s7, C.rt (.bl true) [.ob (pin Bag v0), .fz (.int n), s2, .un, s4, s5, s6, s7]) :
    g_S2 C [.ob (pin Bag v0), .fz (.int n), .un, .un, .un, .un, .un, .un] := by
  refine And.intro ⟨v0, rfl⟩ (And.intro ⟨v0, rfl⟩ (And.intro ⟨v0, rfl⟩ ?_))
  refine R_L_arrows.mk n h1 h2 fun As hA => ?_
  refine And.intro ⟨v0, rfl⟩ ?_
  refine R_L_mixed.mk _ (As.map pI) (.inr rfl) (by rw [List.length_map]; have := hA.len; omega) fun es hes => ?_
  refine And.intro ⟨v0, rfl⟩ (And.intro ⟨v0, rfl⟩ ?_)
  refine R_L_draw.mk 4 (by decide) (by decide) fun j hj => ?_
  obtain ⟨Bs, hB, hl, so, e⟩ := drawn_ok (k := 10 + j) hA hes
  refine And.intro so ?_
  show g_S3 C [.ob (pin Bag v0), .fz (.int n), .fz (.tup ((CL.cutD es none (some ((10 + j : Nat) : Int))).mergeSort dLe)), .un, .un, .un, .un, .un]
  rw [e]
  exact great_3 hB (by omega) fun _ _ _ _ => fin _ _ _ _ _
theorem pure_L_great_right : ∀ v0 ds Q, R_L_great_right ds Q → t_L_great_right { nx := fun ρ => ρ[0]? = some (.ob (pin Bag v0)) ∧ Q .non, rt := fun d ρ => ρ[0]? = some (.ob (pin Bag v0)) ∧ Q d } (envB (pin Bag v0) N_L_great_right ds) := fun v0 _ Q ⟨hq⟩ => by
  refine And.intro ⟨v0, rfl⟩ (And.intro ⟨v0, rfl⟩ ?_)
  refine R_L_draw.mk 4 (by decide) (by decide) fun k hk => ?_
  exact great_2 (n := 7 + k) (by omega) (by omega) fun _ _ _ _ _ => ⟨rfl, hq⟩
end TA
namespace TA
open PySem PySem.Spec PySem.Calls PyProof.Rows L2 CL
abbrev lc_law_1 (Z : List D → Ev → Prop) : List D → List D → Ev → Prop := lcL (gN 5) cYes (cF cTuple (cCons (cOf (cF cSorted (cCons (cSl 5) cNil))) cNil)) [5] Z
def bd_law_1 : CS := (cIfS (cNot (cB (cCall R_L_is (cConsE (cCall R_colourings (cConsE (cVar 6) (cConsE (cVar 10) cNilE))) (cConsE (cCall R_L_sum (cConsE (cVar 8) (cConsE (cVar 10) cNilE))) cNilE)))))
  (cRet (cC (.bl false)))
  cNext)
abbrev lp_law_1 (C : CEnds) : List D → Ev → Prop := forL (gN 10) [10] bd_law_1 C
def bd_law_2 : CS := (cIfS (cB (c2 cNe (cOf (cCall R_L_ways (cConsE (cVar 3) (cConsE (cVar 7) (cConsE (cVar 10) cNilE))))) (cOf (cCall R_L_sum (cConsE (cVar 8) (cConsE (cVar 10) cNilE))))))
  (cRet (cC (.bl false)))
  cNext)
abbrev lp_law_2 (C : CEnds) : List D → Ev → Prop := forL (gN 10) [10] bd_law_2 C
def bd_law_3 : CS := (cSeq (cSet 3 (c2 cAdd (cOf (cC (.int 1))) (cOf (cCallB 1 Bag R_L_draw (cConsE (cC (.int 6)) cNilE)))))
  (cSeq (cSet 4 (cF cTuple (cCons (cOf (cF cSorted (cCons (cOf (cSlice (cOf (cCallB 1 Bag R_L_mixed (cConsE (cCallB 1 Bag R_L_arrows (cConsE (cVar 3) cNilE)) cNilE))) cNoP (cSoP (cOf (cC (.int 9)))))) cNil))) cNil)))
  (cSeq (cPar 6 7 (cConsE (cMake "Home" R_Home (cConsE (cVar 3) (cConsE (cVar 4) cNilE))) (cConsE (cF cSorted (cCons (cOf (cLc (cIS (cVar 4)) (gN 5) cYes (cF cTuple (cCons (cOf (cF cSorted (cCons (cSl 5) cNil))) cNil)) [5])) cNil)) cNilE)))
  (cSeq (cSet 8 (cCall R_L_polynomial (cConsE (cLR1 (cSl 3)) (cConsE (cVar 7) cNilE))))
  (cSeq (cSet 9 (cLst (cConsE (cC (.int 0)) (cConsE (cC (.int 1)) (cConsE (cC (.int 2)) (cConsE (cC (.int 3)) (cConsE (c1 cNeg (cOf (cC (.int 1)))) (cConsE (c1 cNeg (cOf (cC (.int 2)))) (cConsE (cC (.int 1000)) (cConsE (c1 cNeg (cOf (cC (.int 1000)))) (cConsE (c2 cSub (cOf (cCallB 1 Bag R_L_draw (cConsE (cC (.int 2001)) cNilE))) (cOf (cC (.int 1000)))) (cConsE (cCallB 1 Bag R_L_draw (cConsE (cC (.int 12)) cNilE)) cNilE))))))))))))
  (cSeq (cFor (cIS (cVar 9)) (gN 10) [10] bd_law_1)
  (cSeq (cFor (cR1 (cOf (cC (.int 4)))) (gN 10) [10] bd_law_2)
  (cIfS (cNot (cB (cCall R_L_is (cConsE (cCall R_many_standings (cConsE (cVar 6) cNilE)) (cConsE (cF cAbs (cCons (cOf (cCall R_L_sum (cConsE (cVar 8) (cConsE (c1 cNeg (cOf (cC (.int 1)))) cNilE)))) cNil)) cNilE)))))
  (cRet (cC (.bl false)))
  cNext))))))))
abbrev lp_law_3 (C : CEnds) : List D → Ev → Prop := forL (gN 2) [2, 3, 4, 5, 6, 7, 8, 9, 10] bd_law_3 C
abbrev N_law : List Str := ["_law_script", "_law_hand_here", "_law_turn", "_law_many", "_law_arrows_here", "_law_pair", "_law_home", "_law_ties", "_law_polynomial_here", "_law_numbers", "_law_colours"]
def t_law : CS := (cSeq (cHand 0 1 BagV)
  (cSeq (cIfS (cAndT (cB (c2 cEq (cOf (cCallB 1 Bag R_L_draw (cConsE (cC (.int 8)) cNilE))) (cOf (cC (.int 0))))) (cNot (cB (cCallB 1 Bag R_L_great_right cNilE))))
  (cRet (cC (.bl false)))
  cNext)
  (cSeq (cFor (cR1 (cOf (cC (.int 3)))) (gN 2) [2, 3, 4, 5, 6, 7, 8, 9, 10] bd_law_3)
  (cRet (cC (.bl true))))))
def wEnvL (v0 : L2.V) (s2 : Sl) (n : Nat) (As E : List (Nat × Nat)) (s4 s9 s10 : Sl) : Ev :=
  [.un, .ob (pin Bag v0), s2, .fz (.int n), s4, .un, .fz (homeD n As), .fz (.lst (E.map pI)), .fz (.lst ((poly (List.range n) E).map D.int)), s9, s10]
def l_S7 : CS := (cSeq (cFor (cR1 (cOf (cC (.int 4)))) (gN 10) [10] bd_law_2)
  (cIfS (cNot (cB (cCall R_L_is (cConsE (cCall R_many_standings (cConsE (cVar 6) cNilE)) (cConsE (cF cAbs (cCons (cOf (cCall R_L_sum (cConsE (cVar 8) (cConsE (c1 cNeg (cOf (cC (.int 1)))) cNilE)))) cNil)) cNilE)))))
  (cRet (cC (.bl false)))
  cNext))
theorem law_7 {C : CEnds} {v0 : L2.V} {s2 s4 s9 : Sl} {n : Nat} {As E : List (Nat × Nat)} (H : HE n As E) (hn : n ≤ 6) (hE : E.length ≤ 100)
    (fin : C.nx (wEnvL v0 s2 n As E s4 s9 .un)) : l_S7 C (wEnvL v0 s2 n As E s4 s9 .un) := by
  refine And.intro (by decide) (And.intro (by decide) ?_)
  show lp_law_2 _ (rngD 0 4) (wEnvL v0 s2 n As E s4 s9 .un)
  rw [rngD_0]
  refine for_any nI (fun _ : Unit => wEnvL v0 s2 n As E s4 s9 .un) (fun rest _ => ∀ q ∈ rest, q < 4) ?_ ?_ _ () (fun q hq => List.mem_range.mp hq)
  · intro q rest _ hq X hX
    have hq4 := hq q List.mem_cons_self
    refine R_L_ways.mk n E q hn (by omega) (fun p hp => (H.te.inn p hp).2.2) hE ?_
    refine R_L_sum.mk _ (q : Int) (by omega) (by omega) ?_
    refine And.intro (plain_int 30 _) (And.intro (plain_int 30 _) ?_)
    show (if (!eqD (.int ((rows q E n).length : Nat)) (.int (ev (poly (List.range n) E) q))) = true then _ else _)
    rw [eqD_int, H.ways, decide_eq_true rfl]
    exact hX () fun q hq' => hq q (List.mem_cons_of_mem _ hq')
  · intro _ _
    refine stand_ok H ?_
    refine R_L_sum.mk _ (-1) (by decide) (by decide) ?_
    refine R_L_isN.int 1 (absI (ev (poly (List.range n) E) (-1))) (absI (ev (poly (List.range n) E) (-1))) ?_
    rw [decide_eq_true rfl]
    exact fin
def l_S6 : CS := (cSeq (cFor (cIS (cVar 9)) (gN 10) [10] bd_law_1) l_S7)
theorem law_6 {C : CEnds} {v0 : L2.V} {s2 s4 : Sl} {n : Nat} {As E : List (Nat × Nat)} (cs : List Int) (hcs : ∀ c ∈ cs, -1000 ≤ c ∧ c ≤ 1000) (H : HE n As E) (hn : n ≤ 6) (hE : E.length ≤ 100)
    (fin : ∀ s9, C.nx (wEnvL v0 s2 n As E s4 s9 .un)) : l_S6 C (wEnvL v0 s2 n As E s4 (.fz (.lst (cs.map D.int))) .un) := by
  show lp_law_1 _ (cs.map D.int) (wEnvL v0 s2 n As E s4 (.fz (.lst (cs.map D.int))) .un)
  refine for_any D.int (fun _ : Unit => wEnvL v0 s2 n As E s4 (.fz (.lst (cs.map D.int))) .un) (fun rest _ => ∀ c ∈ rest, -1000 ≤ c ∧ c ≤ 1000) ?_ ?_ _ () hcs
  · intro c rest _ hc X hX
    obtain ⟨c1, c2⟩ := hc c List.mem_cons_self
    refine colour_ok H c1 c2 ?_
    refine R_L_sum.mk _ c c1 c2 ?_
    refine R_L_isN.int 1 (ev (poly (List.range n) E) c) (ev (poly (List.range n) E) c) ?_
    rw [decide_eq_true rfl]
    exact hX () fun c hc' => hc c (List.mem_cons_of_mem _ hc')
  · intro _ _
    exact law_7 H hn hE (fin _)
def l_S3 : CS := (cSeq (cPar 6 7 (cConsE (cMake "Home" R_Home (cConsE (cVar 3) (cConsE (cVar 4) cNilE))) (cConsE (cF cSorted (cCons (cOf (cLc (cIS (cVar 4)) (gN 5) cYes (cF cTuple (cCons (cOf (cF cSorted (cCons (cSl 5) cNil))) cNil)) [5])) cNil)) cNilE)))
  (cSeq (cSet 8 (cCall R_L_polynomial (cConsE (cLR1 (cSl 3)) (cConsE (cVar 7) cNilE))))
  (cSeq (cSet 9 (cLst (cConsE (cC (.int 0)) (cConsE (cC (.int 1)) (cConsE (cC (.int 2)) (cConsE (cC (.int 3)) (cConsE (c1 cNeg (cOf (cC (.int 1)))) (cConsE (c1 cNeg (cOf (cC (.int 2)))) (cConsE (cC (.int 1000)) (cConsE (c1 cNeg (cOf (cC (.int 1000)))) (cConsE (c2 cSub (cOf (cCallB 1 Bag R_L_draw (cConsE (cC (.int 2001)) cNilE))) (cOf (cC (.int 1000)))) (cConsE (cCallB 1 Bag R_L_draw (cConsE (cC (.int 12)) cNilE)) cNilE))))))))))))
  l_S6)))
theorem law_3 {C : CEnds} {v0 : L2.V} {s2 : Sl} {n : Nat} {Bs : List (Nat × Nat)} (h : VAr n Bs) (hn : n ≤ 6) (hl : Bs.length ≤ 9)
    (fin : ∀ As E s4 s9, C.nx (wEnvL v0 s2 n As E s4 s9 .un)) : l_S3 C [.un, .ob (pin Bag v0), s2, .fz (.int n), .fz (arD Bs), .un, .un, .un, .un, .un, .un] := by
  refine R_Home.mk n Bs h ?_
  refine lc_pure pI (fun _ => true) (fun p => pI (srt p)) [.un, .ob (pin Bag v0), s2, .fz (.int n), .fz (arD Bs), .un, .un, .un, .un, .un, .un] Bs (fun p _ X Y hX _ => ?_) (szle (by omega)) ?_
  · refine And.intro rfl (And.intro sort_pair.1 ?_)
    show X (D.tup ([nI p.1, nI p.2].mergeSort dLe)) _
    rw [sort_pair.2]
    exact hX rfl
  · rw [List.filter_eq_self.mpr (fun _ _ => rfl)]
    have ts := ties_sort (As := Bs) (by omega)
    rw [show (Bs.map fun p => pI (srt p)) = (Bs.map srt).map pI by rw [List.map_map]; rfl]
    refine And.intro ts.1 ?_
    rw [ts.2]
    refine And.intro rfl (And.intro (by omega) (And.intro (by omega) ?_))
    show R_L_polynomial [.lst (rngD 0 ((n : Int).toNat)), .lst ((tiesOf Bs).map pI)] _
    rw [Int.toNat_natCast, rngD_0]
    refine R_L_polN.mk 14 (List.range n) (tiesOf Bs) (by rw [ties_len]; omega) (by rw [ties_len]; omega) (by rw [List.length_range]; omega) ?_
    refine And.intro ⟨v0, rfl⟩ (And.intro ⟨v0, rfl⟩ ?_)
    refine R_L_draw.mk 2001 (by decide) (by decide) fun k hk => ?_
    refine And.intro ⟨v0, rfl⟩ (And.intro ⟨v0, rfl⟩ ?_)
    refine R_L_draw.mk 12 (by decide) (by decide) fun j hj => ?_
    refine And.intro (szle (Nat.le_of_ble_eq_true rfl)) ?_
    refine law_6 [0, 1, 2, 3, -1, -2, 1000, -1000, (k : Int) - 1000, (j : Int)] (fun c hc => ?_) (ties_he h) hn (by rw [ties_len]; omega) fun s9 => fin _ _ _ s9
    simp at hc
    omega
def l_S2 : CS := (cSeq (cSet 4 (cF cTuple (cCons (cOf (cF cSorted (cCons (cOf (cSlice (cOf (cCallB 1 Bag R_L_mixed (cConsE (cCallB 1 Bag R_L_arrows (cConsE (cVar 3) cNilE)) cNilE))) cNoP (cSoP (cOf (cC (.int 9)))))) cNil))) cNil))) l_S3)
theorem law_2 {C : CEnds} {v0 : L2.V} {s2 : Sl} {n : Nat} (h1 : 1 ≤ n) (hn : n ≤ 6)
    (fin : ∀ As E s4 s9, C.nx (wEnvL v0 s2 n As E s4 s9 .un)) : l_S2 C [.un, .ob (pin Bag v0), s2, .fz (.int n), .un, .un, .un, .un, .un, .un, .un] := by
  refine And.intro ⟨v0, rfl⟩ (And.intro ⟨v0, rfl⟩ (And.intro ⟨v0, rfl⟩ ?_))
  refine R_L_arrows.mk n h1 (by omega) fun As hA => ?_
  refine And.intro ⟨v0, rfl⟩ ?_
  refine R_L_mixed.mk _ (As.map pI) (.inr rfl) (by rw [List.length_map]; have := hA.len; omega) fun es hes => ?_
  obtain ⟨Bs, hB, hl, so, e⟩ := drawn_ok (k := 9) hA hes
  refine And.intro so ?_
  show l_S3 C [.un, .ob (pin Bag v0), s2, .fz (.int n), .fz (.tup ((CL.cutD es none (some ((9 : Nat) : Int))).mergeSort dLe)), .un, .un, .un, .un, .un, .un]
  rw [e]
  exact law_3 hB hn hl fin
theorem pure_law : ∀ ns : List Int, ns.length ≤ 63 → t_law { nx := fun _ => False, rt := fun d _ => d = .bl true } (envS ns N_law) := fun ns hn => by
  refine And.intro (by decide) (And.intro ⟨ns, rfl, hn⟩ fun p => ?_)
  generalize hv : V.ref p = v0
  have turns : lp_law_3 { nx := cRet (cC (.bl true)) { nx := fun _ => False, rt := fun d _ => d = .bl true }, rt := fun d _ => d = .bl true } (rngD 0 3) [.un, .ob (pin Bag v0), .un, .un, .un, .un, .un, .un, .un, .un, .un] := by
    rw [rngD_0]
    refine for_any nI (fun _ : Unit => [.un, .ob (pin Bag v0), .un, .un, .un, .un, .un, .un, .un, .un, .un]) (fun _ _ => True) ?_ ?_ _ () trivial
    · intro t rest _ _ X hX
      refine And.intro ⟨v0, rfl⟩ (And.intro ⟨v0, rfl⟩ ?_)
      refine R_L_draw.mk 6 (by decide) (by decide) fun k hk => ?_
      exact law_2 (n := 1 + k) (by omega) (by omega) fun _ _ _ _ => hX () trivial
    · intro _ _
      rfl
  refine And.intro ⟨v0, rfl⟩ (And.intro ⟨v0, rfl⟩ ?_)
  refine R_L_draw.mk 8 (by decide) (by decide) fun k hk => ?_
  refine And.intro (plain_int 30 _) (And.intro (plain_int 30 _) ?_)
  show (if eqD (.int k) (.int 0) = true then _ else _)
  rw [eqD_int]
  by_cases h0 : (k : Int) = 0
  · rw [if_pos (decide_eq_true h0)]
    refine And.intro ⟨v0, rfl⟩ (And.intro ⟨v0, rfl⟩ ?_)
    refine R_L_great_right.mk ?_
    refine And.intro (by decide) (And.intro (by decide) ?_)
    exact turns
  · rw [if_neg (by simpa using h0)]
    refine And.intro (by decide) (And.intro (by decide) ?_)
    exact turns
end TA
namespace TA
open PySem PySem.Spec PySem.Calls PyProof.Rows L2 CL
def topS (i : Nat) : Stmt := PySem.Challenge.pw_turnedapart_k44_whole_colourings.main.body.getD i (.Pass ⟨0, 0, 0, 0⟩)
def inClass (s : Stmt) (j : Nat) : Stmt := match s with
  | .ClassDef (body := b) .. => b.getD j (.Pass ⟨0, 0, 0, 0⟩)
  | s => s
structure Tx (K : PySem.W.Frag) (mg : Str → Option Value) : Prop where
  c_Home : Cls K (He.ga K "Home")
  k_MOST_COLOURS : ∃ t, mg "MOST_COLOURS" = some (.int 1000 t)
  k_MOST_THINGS : ∃ t, mg "MOST_THINGS" = some (.int 10 t)
  n_abs : mg "abs" = none
  n_all : mg "all" = none
  n_bool : mg "bool" = none
  n_enumerate : mg "enumerate" = none
  n_int : mg "int" = none
  n_isinstance : mg "isinstance" = none
  n_len : mg "len" = none
  n_list : mg "list" = none
  n_range : mg "range" = none
  n_sorted : mg "sorted" = none
  n_sum : mg "sum" = none
  n_tuple : mg "tuple" = none
  n_zip : mg "zip" = none
  a_Home_arrows : NoAttr K (He.ga K "Home") "arrows"
  a_Home_many : NoAttr K (He.ga K "Home") "many"
  f_is_integer : ∃ fd, FunD K "is_integer" "is_integer" (defArgs (topS 5)) (defBody (topS 5)) (defScope (topS 5)) [] [] (He.ga K "is_integer") fd
  g_is_integer : mg "is_integer" = some (.ref (He.ga K "is_integer"))
  f_is_between : ∃ fd, FunD K "is_between" "is_between" (defArgs (topS 6)) (defBody (topS 6)) (defScope (topS 6)) [] [] (He.ga K "is_between") fd
  g_is_between : mg "is_between" = some (.ref (He.ga K "is_between"))
  f_is_index : ∃ fd, FunD K "is_index" "is_index" (defArgs (topS 7)) (defBody (topS 7)) (defScope (topS 7)) [] [] (He.ga K "is_index") fd
  g_is_index : mg "is_index" = some (.ref (He.ga K "is_index"))
  f_check_number : ∃ fd, FunD K "check_number" "check_number" (defArgs (topS 8)) (defBody (topS 8)) (defScope (topS 8)) [] [] (He.ga K "check_number") fd
  g_check_number : mg "check_number" = some (.ref (He.ga K "check_number"))
  f_is_tuple_of : ∃ fd, FunD K "is_tuple_of" "is_tuple_of" (defArgs (topS 9)) (defBody (topS 9)) (defScope (topS 9)) [] [] (He.ga K "is_tuple_of") fd
  g_is_tuple_of : mg "is_tuple_of" = some (.ref (He.ga K "is_tuple_of"))
  f_is_pair : ∃ fd, FunD K "is_pair" "is_pair" (defArgs (topS 10)) (defBody (topS 10)) (defScope (topS 10)) [] [] (He.ga K "is_pair") fd
  g_is_pair : mg "is_pair" = some (.ref (He.ga K "is_pair"))
  f_are_arrows : ∃ fd, FunD K "are_arrows" "are_arrows" (defArgs (topS 14)) (defBody (topS 14)) (defScope (topS 14)) [] [] (He.ga K "are_arrows") fd
  g_are_arrows : mg "are_arrows" = some (.ref (He.ga K "are_arrows"))
  f_next_things : ∃ fd, FunD K "next_things" "next_things" (defArgs (topS 15)) (defBody (topS 15)) (defScope (topS 15)) [] [] (He.ga K "next_things") fd
  g_next_things : mg "next_things" = some (.ref (He.ga K "next_things"))
  f_shortest_way : ∃ fd, FunD K "shortest_way" "shortest_way" (defArgs (topS 16)) (defBody (topS 16)) (defScope (topS 16)) [] [] (He.ga K "shortest_way") fd
  g_shortest_way : mg "shortest_way" = some (.ref (He.ga K "shortest_way"))
  f_shortest_ring : ∃ fd, FunD K "shortest_ring" "shortest_ring" (defArgs (topS 17)) (defBody (topS 17)) (defScope (topS 17)) [] [] (He.ga K "shortest_ring") fd
  g_shortest_ring : mg "shortest_ring" = some (.ref (He.ga K "shortest_ring"))
  f_Home___init__ : ∃ fd, FunD K "__init__" "Home.__init__" (defArgs (inClass (topS 13) 0)) (defBody (inClass (topS 13) 0)) (defScope (inClass (topS 13) 0)) [] [] (He.ma K (He.ga K "Home") "__init__") fd
  g_Home : mg "Home" = some (.ref (He.ga K "Home"))
  m_Home : Mk K (He.ga K "Home") (He.ma K (He.ga K "Home") "__init__")
  f_tied_bits : ∃ fd, FunD K "tied_bits" "tied_bits" (defArgs (topS 20)) (defBody (topS 20)) (defScope (topS 20)) [] [] (He.ga K "tied_bits") fd
  g_tied_bits : mg "tied_bits" = some (.ref (He.ga K "tied_bits"))
  f_untied_lots : ∃ fd, FunD K "untied_lots" "untied_lots" (defArgs (topS 21)) (defBody (topS 21)) (defScope (topS 21)) [] [] (He.ga K "untied_lots") fd
  g_untied_lots : mg "untied_lots" = some (.ref (He.ga K "untied_lots"))
  f_parts_of : ∃ fd, FunD K "parts_of" "parts_of" (defArgs (topS 22)) (defBody (topS 22)) (defScope (topS 22)) [] [] (He.ga K "parts_of") fd
  g_parts_of : mg "parts_of" = some (.ref (He.ga K "parts_of"))
  f_signs_of_lots : ∃ fd, FunD K "signs_of_lots" "signs_of_lots" (defArgs (topS 23)) (defBody (topS 23)) (defScope (topS 23)) [] [] (He.ga K "signs_of_lots") fd
  g_signs_of_lots : mg "signs_of_lots" = some (.ref (He.ga K "signs_of_lots"))
  f_raw_many_standings : ∃ fd, FunD K "raw_many_standings" "raw_many_standings" (defArgs (topS 24)) (defBody (topS 24)) (defScope (topS 24)) [] [] (He.ga K "raw_many_standings") fd
  g_raw_many_standings : mg "raw_many_standings" = some (.ref (He.ga K "raw_many_standings"))
  f_many_standings : ∃ fd, FunD K "many_standings" "many_standings" (defArgs (topS 25)) (defBody (topS 25)) (defScope (topS 25)) [] [] (He.ga K "many_standings") fd
  g_many_standings : mg "many_standings" = some (.ref (He.ga K "many_standings"))
  f_ways_to_part : ∃ fd, FunD K "ways_to_part" "ways_to_part" (defArgs (topS 26)) (defBody (topS 26)) (defScope (topS 26)) [] [] (He.ga K "ways_to_part") fd
  g_ways_to_part : mg "ways_to_part" = some (.ref (He.ga K "ways_to_part"))
  f_colourings : ∃ fd, FunD K "colourings" "colourings" (defArgs (topS 27)) (defBody (topS 27)) (defScope (topS 27)) [] [] (He.ga K "colourings") fd
  g_colourings : mg "colourings" = some (.ref (He.ga K "colourings"))
  f_L_hand : ∃ fd, FunD K "_law_hand" "_law_hand" (defArgs (topS 29)) (defBody (topS 29)) (defScope (topS 29)) [] [] (He.ga K "_law_hand") fd
  g_L_hand : mg "_law_hand" = some (.ref (He.ga K "_law_hand"))
  f_L_draw : ∃ fd, FunD K "_law_draw" "_law_draw" (defArgs (topS 30)) (defBody (topS 30)) (defScope (topS 30)) [] [] (He.ga K "_law_draw") fd
  g_L_draw : mg "_law_draw" = some (.ref (He.ga K "_law_draw"))
  f_L_any : ∃ fd, FunD K "_law_any" "_law_any" (defArgs (topS 31)) (defBody (topS 31)) (defScope (topS 31)) [] [] (He.ga K "_law_any") fd
  g_L_any : mg "_law_any" = some (.ref (He.ga K "_law_any"))
  f_L_mixed : ∃ fd, FunD K "_law_mixed" "_law_mixed" (defArgs (topS 32)) (defBody (topS 32)) (defScope (topS 32)) [] [] (He.ga K "_law_mixed") fd
  g_L_mixed : mg "_law_mixed" = some (.ref (He.ga K "_law_mixed"))
  f_L_arrows : ∃ fd, FunD K "_law_arrows" "_law_arrows" (defArgs (topS 33)) (defBody (topS 33)) (defScope (topS 33)) [] [] (He.ga K "_law_arrows") fd
  g_L_arrows : mg "_law_arrows" = some (.ref (He.ga K "_law_arrows"))
  f_L_is : ∃ fd, FunD K "_law_is" "_law_is" (defArgs (topS 34)) (defBody (topS 34)) (defScope (topS 34)) [] [] (He.ga K "_law_is") fd
  g_L_is : mg "_law_is" = some (.ref (He.ga K "_law_is"))
  f_L_polynomial : ∃ fd, FunD K "_law_polynomial" "_law_polynomial" (defArgs (topS 35)) (defBody (topS 35)) (defScope (topS 35)) [] [] (He.ga K "_law_polynomial") fd
  g_L_polynomial : mg "_law_polynomial" = some (.ref (He.ga K "_law_polynomial"))
  f_L_sum : ∃ fd, FunD K "_law_sum" "_law_sum" (defArgs (topS 36)) (defBody (topS 36)) (defScope (topS 36)) [] [] (He.ga K "_law_sum") fd
  g_L_sum : mg "_law_sum" = some (.ref (He.ga K "_law_sum"))
  f_L_ways : ∃ fd, FunD K "_law_ways" "_law_ways" (defArgs (topS 37)) (defBody (topS 37)) (defScope (topS 37)) [] [] (He.ga K "_law_ways") fd
  g_L_ways : mg "_law_ways" = some (.ref (He.ga K "_law_ways"))
  f_L_great_right : ∃ fd, FunD K "_law_great_right" "_law_great_right" (defArgs (topS 38)) (defBody (topS 38)) (defScope (topS 38)) [] [] (He.ga K "_law_great_right") fd
  g_L_great_right : mg "_law_great_right" = some (.ref (He.ga K "_law_great_right"))
  f_law : ∃ fd, FunD K "law" "law" (defArgs (topS 39)) (defBody (topS 39)) (defScope (topS 39)) [] [] (He.ga K "law") fd
  g_law : mg "law" = some (.ref (He.ga K "law"))
section
variable {P : Program} {w : World} {K : PySem.W.Frag} {mg : Str → Option Value} {base : Heap}
abbrev s_is_integer : Stmt := (topS 5)
theorem sc_is_integer : FnScope ["thing"] ["thing"] (defScope s_is_integer) := ⟨rfl, rfl, rfl, by decide +kernel, rfl, by decide +kernel, by decide +kernel⟩
theorem ok_is_integer (T : Tx K mg)  : Fd P w K mg base 1 "is_integer" ["thing"] (spC K R_is_integer) := by
  obtain ⟨fd, F⟩ := T.f_is_integer
  have nd := sc_is_integer.nd
  exact fd_mk F T.g_is_integer sc_is_integer (fun _ _ _ _ _ _ us hl => match us, hl with | [_], _ => rfl) len_is_integer (fun cdv A outer s H E hr => ⟨t_is_integer,
    (vss_one (vs_ret (ve_and (ve_isi .int (vo_var 0) T.n_isinstance T.n_int bt_int) (ve_one (ve_not (ve_isi .bool (vo_var 0) T.n_isinstance T.n_bool bt_bool)))))),
    pure_is_integer⟩)
abbrev s_is_between : Stmt := (topS 6)
theorem sc_is_between : FnScope ["thing", "least", "most"] ["thing", "least", "most"] (defScope s_is_between) := ⟨rfl, rfl, rfl, by decide +kernel, rfl, by decide +kernel, by decide +kernel⟩
theorem ok_is_between (T : Tx K mg) (G_is_integer : Fd P w K mg base 1 "is_integer" ["thing"] (spC K R_is_integer)) : Fd P w K mg base 2 "is_between" ["thing", "least", "most"] (spC K R_is_between) := by
  obtain ⟨fd, F⟩ := T.f_is_between
  have nd := sc_is_between.nd
  exact fd_mk F T.g_is_between sc_is_between (fun _ _ _ _ _ _ us hl => match us, hl with | [_, _, _], _ => rfl) len_is_between (fun cdv A outer s H E hr => ⟨t_is_between,
    (vss_one (vs_ret (ve_and (ve_call G_is_integer (hr.mono (by decide)) (vae_cons (ve_var 0) vae_nil)) (ve_one (ve_chain op_le o_le op_le o_le (vo_var 1) (vo_var 0) (vo_var 2)))))),
    pure_is_between⟩)
abbrev s_is_index : Stmt := (topS 7)
theorem sc_is_index : FnScope ["thing", "many"] ["thing", "many"] (defScope s_is_index) := ⟨rfl, rfl, rfl, by decide +kernel, rfl, by decide +kernel, by decide +kernel⟩
theorem ok_is_index (T : Tx K mg) (G_is_between : Fd P w K mg base 2 "is_between" ["thing", "least", "most"] (spC K R_is_between)) : Fd P w K mg base 3 "is_index" ["thing", "many"] (spC K R_is_index) := by
  obtain ⟨fd, F⟩ := T.f_is_index
  have nd := sc_is_index.nd
  exact fd_mk F T.g_is_index sc_is_index (fun _ _ _ _ _ _ us hl => match us, hl with | [_, _], _ => rfl) len_is_index (fun cdv A outer s H E hr => ⟨t_is_index,
    (vss_one (vs_ret (ve_call G_is_between (hr.mono (by decide)) (vae_cons (ve_var 0) (vae_cons ve_int (vae_cons (ve_op op_sub o_sub (vo_var 1) (vo_e ve_int)) vae_nil)))))),
    pure_is_index⟩)
abbrev s_check_number : Stmt := (topS 8)
theorem sc_check_number : FnScope ["thing", "least", "most"] ["thing", "least", "most"] (defScope s_check_number) := ⟨rfl, rfl, rfl, by decide +kernel, rfl, by decide +kernel, by decide +kernel⟩
theorem ok_check_number (T : Tx K mg) (G_is_between : Fd P w K mg base 2 "is_between" ["thing", "least", "most"] (spC K R_is_between)) : Fd P w K mg base 3 "check_number" ["thing", "least", "most"] (spC K R_check_number) := by
  obtain ⟨fd, F⟩ := T.f_check_number
  have nd := sc_check_number.nd
  exact fd_mk F T.g_check_number sc_check_number (fun _ _ _ _ _ _ us hl => match us, hl with | [_, _, _], _ => rfl) len_check_number (fun cdv A outer s H E hr => ⟨t_check_number,
    (vss_one (vs_if (vt_not (vt_val (ve_call G_is_between (hr.mono (by decide)) (vae_cons (ve_var 0) (vae_cons (ve_var 1) (vae_cons (ve_var 2) vae_nil))))))
      (vss_one vs_never)
      vss_nil)),
    pure_check_number⟩)
abbrev s_is_tuple_of : Stmt := (topS 9)
theorem sc_is_tuple_of : FnScope ["thing", "many"] ["thing", "many"] (defScope s_is_tuple_of) := ⟨rfl, rfl, rfl, by decide +kernel, rfl, by decide +kernel, by decide +kernel⟩
theorem ok_is_tuple_of (T : Tx K mg)  : Fd P w K mg base 1 "is_tuple_of" ["thing", "many"] (spC K R_is_tuple_of) := by
  obtain ⟨fd, F⟩ := T.f_is_tuple_of
  have nd := sc_is_tuple_of.nd
  exact fd_mk F T.g_is_tuple_of sc_is_tuple_of (fun _ _ _ _ _ _ us hl => match us, hl with | [_, _], _ => rfl) len_is_tuple_of (fun cdv A outer s H E hr => ⟨t_is_tuple_of,
    (vss_one (vs_ret (ve_and (ve_isi .tuple (vo_var 0) T.n_isinstance T.n_tuple bt_tuple) (ve_one (ve_cmp (op_eqD (hu64 hr)) o_eq (vo_e (ve_b r_len f_len T.n_len bt_len (va_cons (vo_var 0) va_nil))) (vo_var 1)))))),
    pure_is_tuple_of⟩)
abbrev s_is_pair : Stmt := (topS 10)
theorem sc_is_pair : FnScope ["thing", "many", "item"] ["thing", "many"] (defScope s_is_pair) := ⟨rfl, rfl, rfl, by decide +kernel, rfl, by decide +kernel, by decide +kernel⟩
theorem ok_is_pair (T : Tx K mg) (G_is_index : Fd P w K mg base 3 "is_index" ["thing", "many"] (spC K R_is_index)) (G_is_tuple_of : Fd P w K mg base 1 "is_tuple_of" ["thing", "many"] (spC K R_is_tuple_of)) : Fd P w K mg base 4 "is_pair" ["thing", "many"] (spC K R_is_pair) := by
  obtain ⟨fd, F⟩ := T.f_is_pair
  have nd := sc_is_pair.nd
  exact fd_mk F T.g_is_pair sc_is_pair (fun _ _ _ _ _ _ us hl => match us, hl with | [_, _], _ => rfl) len_is_pair (fun cdv A outer s H E hr => ⟨t_is_pair,
    (vss_one (vs_ret (ve_and (ve_call G_is_tuple_of (hr.mono (by decide)) (vae_cons (ve_var 0) (vae_cons ve_int vae_nil))) (ve_and (ve_b (cr_all rfl) f_all T.n_all bt_all (va_cons (vo_e (ve_n (vn_lc rfl nd (vi_seq (ve_var 0)) (blkOk_by (own := [("item", 2)]) rfl) (fun _ _ _ _ _ => (vg_name 2 nd)) (fun _ _ _ _ _ => vts_nil) (fun _ _ _ _ _ => (ve_call G_is_index (hr.mono (by decide)) (vae_cons (ve_var 2) (vae_cons (ve_var 1) vae_nil))))))) va_nil)) (ve_one (ve_cmp (op_neD (hu64 hr)) o_ne (vo_e (ve_ix ix_seq o_ix (vo_var 0) (vo_e ve_int))) (vo_e (ve_ix ix_seq o_ix (vo_var 0) (vo_e ve_int))))))))),
    pure_is_pair⟩)
abbrev s_are_arrows : Stmt := (topS 14)
theorem sc_are_arrows : FnScope ["many", "thing", "pair"] ["many", "thing"] (defScope s_are_arrows) := ⟨rfl, rfl, rfl, by decide +kernel, rfl, by decide +kernel, by decide +kernel⟩
theorem ok_are_arrows (T : Tx K mg) (G_is_pair : Fd P w K mg base 4 "is_pair" ["thing", "many"] (spC K R_is_pair)) : Fd P w K mg base 5 "are_arrows" ["many", "thing"] (spC K R_are_arrows) := by
  obtain ⟨fd, F⟩ := T.f_are_arrows
  have nd := sc_are_arrows.nd
  exact fd_mk F T.g_are_arrows sc_are_arrows (fun _ _ _ _ _ _ us hl => match us, hl with | [_, _], _ => rfl) len_are_arrows (fun cdv A outer s H E hr => ⟨t_are_arrows,
    (vss_cons (vs_if (vt_w (vw_or (vt_not (vt_val (ve_isi .tuple (vo_var 1) T.n_isinstance T.n_tuple bt_tuple))) (vw_or1 (vt_not (vt_val (ve_b (cr_all rfl) f_all T.n_all bt_all (va_cons (vo_e (ve_n (vn_lc rfl nd (vi_seq (ve_var 1)) (blkOk_by (own := [("pair", 2)]) rfl) (fun _ _ _ _ _ => (vg_name 2 nd)) (fun _ _ _ _ _ => vts_nil) (fun _ _ _ _ _ => (ve_call G_is_pair (hr.mono (by decide)) (vae_cons (ve_var 2) (vae_cons (ve_var 0) vae_nil))))))) va_nil)))))))
      (vss_one (vs_ret ve_bl))
      vss_nil)
      (vss_one (vs_ret (ve_cmp (op_eqD (hu64 hr)) o_eq (vo_e (ve_b r_len f_len T.n_len bt_len (va_cons (vo_e (ve_n (vn_dc true (hu1 hr) rfl nd (vi_seq (ve_var 1)) (blkOk_by (own := [("pair", 2)]) rfl) (fun _ _ _ _ _ => (vg_name 2 nd)) (fun _ _ _ _ _ => vts_nil) (fun _ _ _ _ _ => (ve_ty r_tuple f_tuple T.n_tuple bt_tuple (va_cons (vo_e (ve_n (vn_b (cr_sortD (hu64 hr)) fn_sorted T.n_sorted bt_sorted (va_cons (vo_var 2) va_nil)))) va_nil))) (fun _ _ _ _ _ => ve_bl)))) va_nil))) (vo_e (ve_b r_len f_len T.n_len bt_len (va_cons (vo_var 1) va_nil))))))),
    pure_are_arrows⟩)
abbrev s_next_things : Stmt := (topS 15)
theorem sc_next_things : FnScope ["many", "pairs", "_", "found", "one", "other"] ["many", "pairs"] (defScope s_next_things) := ⟨rfl, rfl, rfl, by decide +kernel, rfl, by decide +kernel, by decide +kernel⟩
theorem ok_next_things (T : Tx K mg)  : Fd P w K mg base 1 "next_things" ["many", "pairs"] (spC K R_next_things) := by
  obtain ⟨fd, F⟩ := T.f_next_things
  have nd := sc_next_things.nd
  exact fd_mk F T.g_next_things sc_next_things (fun _ _ _ _ _ _ us hl => match us, hl with | [_, _], _ => rfl) len_next_things (fun cdv A outer s H E hr => ⟨t_next_things,
    (vss_cons (vs_ooNew (ws := 2) rfl nd T.n_range (sw_true rfl rfl rfl (by decide +kernel)) (vo_var 0) (blkOk_by (own := [("_", 2)]) rfl) (fun _ _ _ _ _ => pg_name nd rfl (Or.inl rfl)))
      (vss_cons (vs_for [4, 5] PassesOwn.never rfl (vi_seq (ve_n (vn_b (cr_sortD (hu64 hr)) fn_sorted T.n_sorted bt_sorted (va_cons (vo_var 1) va_nil)))) (vg_tup rfl (vgs_cons (vg_name 4 nd) (vgs_cons (vg_name 5 nd) vgs_nil)))
      (vss_one (vs_ooApp 3 4 5)))
      (vss_one (vs_frzO 3 (vs_ret (ve_var 3)))))),
    pure_next_things⟩)
abbrev s_shortest_way : Stmt := (topS 16)
theorem sc_shortest_way : FnScope ["many", "pairs", "begin", "end", "later", "ways", "line", "at", "here", "there"] ["many", "pairs", "begin", "end"] (defScope s_shortest_way) := ⟨rfl, rfl, rfl, by decide +kernel, rfl, by decide +kernel, by decide +kernel⟩
theorem ok_shortest_way (T : Tx K mg) (G_next_things : Fd P w K mg base 1 "next_things" ["many", "pairs"] (spC K R_next_things)) : Fd P w K mg base 2 "shortest_way" ["many", "pairs", "begin", "end"] (spC K R_shortest_way) := by
  obtain ⟨fd, F⟩ := T.f_shortest_way
  have nd := sc_shortest_way.nd
  exact fd_mk F T.g_shortest_way sc_shortest_way (fun _ _ _ _ _ _ us hl => match us, hl with | [_, _, _, _], _ => rfl) len_shortest_way (fun cdv A outer s H E hr => ⟨t_shortest_way,
    (vss_cons (vs_set (i := 4) nd (ve_call G_next_things (hr.mono (by decide)) (vae_cons (ve_var 0) (vae_cons (ve_var 1) vae_nil))))
      (vss_cons (vs_own (i := 5) nd (vn_dic1K (ve_var 2) (ve_tup (vae_cons (ve_var 2) vae_nil))))
      (vss_cons (vs_own (i := 6) nd (vn_lst (vae_cons (ve_var 2) vae_nil)))
      (vss_cons (vs_set (i := 7) nd ve_int)
      (vss_cons (vs_while PassesOwn.never (vt_w (vw_and (vt_cmp op_lt o_lt (vo_var 7) (vo_e (ve_b r_len f_len T.n_len bt_len (va_cons (vo_var 6) va_nil)))) (vw_and1 (vt_dnotin (hu1 hr) (vo_var 3) (vo_var 5)))))
      (vss_cons (vs_set (i := 8) nd (ve_ix ix_seq o_ix (vo_var 6) (vo_var 7)))
      (vss_cons (vs_for [9] PassesOwn.never rfl (vi_seq (ve_ix ix_seq o_ix (vo_var 4) (vo_var 8))) (vg_name 9 nd)
      (vss_one (vs_if (vt_dnotin (hu1 hr) (vo_var 9) (vo_var 5))
      (vss_cons (vs_dput 5 (hu1 hr) (ve_var 9) (ve_op r_add o_add (vo_e (ve_dget (hu1 hr) (vo_var 5) (vo_var 8))) (vo_e (ve_tup (vae_cons (ve_var 9) vae_nil)))))
      (vss_one (vs_app 6 (ve_var 9))))
      vss_nil)))
      (vss_one (vs_fgt [8, 9] (vs_aug (i := 7) nd iop_add o_addI (vo_e ve_int)))))))
      (vss_one (vs_ret (ve_get1 5 (hu1 hr) (vo_var 3))))))))),
    pure_shortest_way⟩)
abbrev s_shortest_ring : Stmt := (topS 17)
theorem sc_shortest_ring : FnScope ["many", "pairs", "found", "one", "other", "way", "at"] ["many", "pairs"] (defScope s_shortest_ring) := ⟨rfl, rfl, rfl, by decide +kernel, rfl, by decide +kernel, by decide +kernel⟩
theorem ok_shortest_ring (T : Tx K mg) (G_shortest_way : Fd P w K mg base 2 "shortest_way" ["many", "pairs", "begin", "end"] (spC K R_shortest_way)) : Fd P w K mg base 3 "shortest_ring" ["many", "pairs"] (spC K R_shortest_ring) := by
  obtain ⟨fd, F⟩ := T.f_shortest_ring
  have nd := sc_shortest_ring.nd
  exact fd_mk F T.g_shortest_ring sc_shortest_ring (fun _ _ _ _ _ _ us hl => match us, hl with | [_, _], _ => rfl) len_shortest_ring (fun cdv A outer s H E hr => ⟨t_shortest_ring,
    (vss_cons (vs_own (i := 2) nd (vn_lst vae_nil))
      (vss_cons (vs_for [3, 4, 5, 6] PassesOwn.never rfl (vi_seq (ve_var 1)) (vg_tup rfl (vgs_cons (vg_name 3 nd) (vgs_cons (vg_name 4 nd) vgs_nil)))
      (vss_cons (vs_set (i := 5) nd (ve_call G_shortest_way (hr.mono (by decide)) (vae_cons (ve_var 0) (vae_cons (ve_var 1) (vae_cons (ve_var 4) (vae_cons (ve_var 3) vae_nil))))))
      (vss_one (vs_if (vt_cmp op_notN o_notN (vo_var 5) (vo_e ve_non))
      vss_never
      vss_nil))))
      (vss_one (vs_frz [2] (vs_ret (ve_if (vt_cmp op_gt o_gt (vo_e (ve_b r_len f_len T.n_len bt_len (va_cons (vo_var 2) va_nil))) (vo_e ve_int)) ve_never ve_non)))))),
    pure_shortest_ring⟩)
abbrev s_Home___init__ : Stmt := (inClass (topS 13) 0)
theorem sc_Home___init__ : FnScope ["self", "many", "arrows"] ["self", "many", "arrows"] (defScope s_Home___init__) := ⟨rfl, rfl, rfl, by decide +kernel, rfl, by decide +kernel, by decide +kernel⟩
theorem ok_Home___init__ (T : Tx K mg) (G_are_arrows : Fd P w K mg base 5 "are_arrows" ["many", "thing"] (spC K R_are_arrows)) (G_is_between : Fd P w K mg base 2 "is_between" ["thing", "least", "most"] (spC K R_is_between)) (G_shortest_ring : Fd P w K mg base 3 "shortest_ring" ["many", "pairs"] (spC K R_shortest_ring)) : Id P w K mg base 6 "Home" ["self", "many", "arrows"] R_Home := by
  obtain ⟨fd, F⟩ := T.f_Home___init__
  have nd := sc_Home___init__.nd
  exact id_mk F T.g_Home T.m_Home sc_Home___init__ (fun _ _ _ _ _ _ us hl => match us, hl with | [_, _, _], _ => rfl) len_Home___init__ (fun cdv A outer s H E hr => ⟨t_Home___init__,
    (vss_cons (vs_if (vt_not (vt_val (ve_call G_is_between (hr.mono (by decide)) (vae_cons (ve_var 1) (vae_cons ve_int (vae_cons (ve_gint rfl T.k_MOST_THINGS) vae_nil))))))
      (vss_one vs_never)
      vss_nil)
      (vss_cons (vs_if (vt_not (vt_val (ve_call G_are_arrows (hr.mono (by decide)) (vae_cons (ve_var 1) (vae_cons (ve_var 2) vae_nil)))))
      (vss_one vs_never)
      vss_nil)
      (vss_cons (vs_if (vt_cmp op_notN o_notN (vo_e (ve_call G_shortest_ring (hr.mono (by decide)) (vae_cons (ve_var 1) (vae_cons (ve_var 2) vae_nil)))) (vo_e ve_non))
      (vss_one vs_never)
      vss_nil)
      (vss_cons (vs_fldSet 0 T.c_Home T.a_Home_many (ve_var 1))
      (vss_one (vs_fldSet 0 T.c_Home T.a_Home_arrows (ve_ty r_tuple f_tuple T.n_tuple bt_tuple (va_cons (vo_e (ve_n (vn_b (cr_sortD (hu64 hr)) fn_sorted T.n_sorted bt_sorted (va_cons (vo_var 2) va_nil)))) va_nil)))))))),
    pure_Home___init__⟩)
abbrev s_tied_bits : Stmt := (topS 20)
theorem sc_tied_bits : FnScope ["home", "found", "one", "other"] ["home"] (defScope s_tied_bits) := ⟨rfl, rfl, rfl, by decide +kernel, rfl, by decide +kernel, by decide +kernel⟩
theorem ok_tied_bits (T : Tx K mg)  : Fd P w K mg base 1 "tied_bits" ["home"] (spC K R_tied_bits) := by
  obtain ⟨fd, F⟩ := T.f_tied_bits
  have nd := sc_tied_bits.nd
  exact fd_mk F T.g_tied_bits sc_tied_bits (fun _ _ _ _ _ _ us hl => match us, hl with | [_], _ => rfl) len_tied_bits (fun cdv A outer s H E hr => ⟨t_tied_bits,
    (vss_cons (vs_own (i := 1) nd (vn_rep (ve_n (vn_lst (vae_cons ve_int vae_nil))) (vo_e (ve_fld T.c_Home T.a_Home_many (vo_var 0)))))
      (vss_cons (vs_for [2, 3] PassesOwn.never rfl (vi_seq (ve_fld T.c_Home T.a_Home_arrows (vo_var 0))) (vg_tup rfl (vgs_cons (vg_name 2 nd) (vgs_cons (vg_name 3 nd) vgs_nil)))
      (vss_cons (vs_augIx 1 iop_or o_or (vo_var 2) (vo_e (ve_op op_shl o_shl (vo_e ve_int) (vo_var 3))))
      (vss_one (vs_augIx 1 iop_or o_or (vo_var 3) (vo_e (ve_op op_shl o_shl (vo_e ve_int) (vo_var 2)))))))
      (vss_one (vs_frz [1] (vs_ret (ve_var 1)))))),
    pure_tied_bits⟩)
abbrev s_untied_lots : Stmt := (topS 21)
theorem sc_untied_lots : FnScope ["home", "found", "thing", "ties", "lot"] ["home"] (defScope s_untied_lots) := ⟨rfl, rfl, rfl, by decide +kernel, rfl, by decide +kernel, by decide +kernel⟩
theorem ok_untied_lots (T : Tx K mg) (G_tied_bits : Fd P w K mg base 1 "tied_bits" ["home"] (spC K R_tied_bits)) : Fd P w K mg base 2 "untied_lots" ["home"] (spC K R_untied_lots) := by
  obtain ⟨fd, F⟩ := T.f_untied_lots
  have nd := sc_untied_lots.nd
  exact fd_mk F T.g_untied_lots sc_untied_lots (fun _ _ _ _ _ _ us hl => match us, hl with | [_], _ => rfl) len_untied_lots (fun cdv A outer s H E hr => ⟨t_untied_lots,
    (vss_cons (vs_set (i := 1) nd (ve_n (vn_lst (vae_cons ve_bl vae_nil))))
      (vss_cons (vs_for [2, 3, 4] PassesOwn.never rfl (vi_enum T.n_enumerate (ve_call G_tied_bits (hr.mono (by decide)) (vae_cons (ve_var 0) vae_nil))) (vg_tup rfl (vgs_cons (vg_name 2 nd) (vgs_cons (vg_name 3 nd) vgs_nil)))
      (vss_one (vs_set (i := 1) nd (ve_op r_add o_add (vo_var 1) (vo_e (ve_n (vn_lc rfl nd (vi_r1 T.n_range (vo_e (ve_op op_shl o_shl (vo_e ve_int) (vo_var 2)))) (blkOk_by (own := [("lot", 4)]) rfl) (fun _ _ _ _ _ => (vg_name 4 nd)) (fun _ _ _ _ _ => vts_nil) (fun _ _ _ _ _ => (ve_and (ve_ix ix_seq o_ix (vo_var 1) (vo_var 4)) (ve_one (ve_cmp (op_eqD (hu64 hr)) o_eq (vo_e (ve_op op_and o_and (vo_var 3) (vo_var 4))) (vo_e ve_int))))))))))))
      (vss_one (vs_ret (ve_var 1))))),
    pure_untied_lots⟩)
abbrev s_parts_of : Stmt := (topS 22)
theorem sc_parts_of : FnScope ["lot", "found", "part"] ["lot"] (defScope s_parts_of) := ⟨rfl, rfl, rfl, by decide +kernel, rfl, by decide +kernel, by decide +kernel⟩
theorem ok_parts_of (T : Tx K mg)  : Fd P w K mg base 1 "parts_of" ["lot"] (spC K R_parts_of) := by
  obtain ⟨fd, F⟩ := T.f_parts_of
  have nd := sc_parts_of.nd
  exact fd_mk F T.g_parts_of sc_parts_of (fun _ _ _ _ _ _ us hl => match us, hl with | [_], _ => rfl) len_parts_of (fun cdv A outer s H E hr => ⟨t_parts_of,
    (vss_cons (vs_own (i := 1) nd (vn_lst vae_nil))
      (vss_cons (vs_set (i := 2) nd (ve_var 0))
      (vss_cons (vs_while PassesOwn.never (vt_cmp op_gt o_gt (vo_var 2) (vo_e ve_int))
      (vss_cons (vs_app 1 (ve_var 2))
      (vss_one (vs_set (i := 2) nd (ve_op op_and o_and (vo_e (ve_op op_sub o_sub (vo_var 2) (vo_e ve_int))) (vo_var 0))))))
      (vss_one (vs_frz [1] (vs_ret (ve_var 1))))))),
    pure_parts_of⟩)
abbrev s_signs_of_lots : Stmt := (topS 23)
theorem sc_signs_of_lots : FnScope ["many", "found", "_", "sign"] ["many"] (defScope s_signs_of_lots) := ⟨rfl, rfl, rfl, by decide +kernel, rfl, by decide +kernel, by decide +kernel⟩
theorem ok_signs_of_lots (T : Tx K mg)  : Fd P w K mg base 1 "signs_of_lots" ["many"] (spC K R_signs_of_lots) := by
  obtain ⟨fd, F⟩ := T.f_signs_of_lots
  have nd := sc_signs_of_lots.nd
  exact fd_mk F T.g_signs_of_lots sc_signs_of_lots (fun _ _ _ _ _ _ us hl => match us, hl with | [_], _ => rfl) len_signs_of_lots (fun cdv A outer s H E hr => ⟨t_signs_of_lots,
    (vss_cons (vs_set (i := 1) nd (ve_n (vn_lst (vae_cons (ve_neg (vo_e ve_int)) vae_nil))))
      (vss_cons (vs_for [2, 3] PassesOwn.never rfl (vi_r1 T.n_range (vo_var 0)) (vg_name 2 nd)
      (vss_one (vs_set (i := 1) nd (ve_op r_add o_add (vo_var 1) (vo_e (ve_n (vn_lc rfl nd (vi_seq (ve_var 1)) (blkOk_by (own := [("sign", 3)]) rfl) (fun _ _ _ _ _ => (vg_name 3 nd)) (fun _ _ _ _ _ => vts_nil) (fun _ _ _ _ _ => (ve_neg (vo_var 3))))))))))
      (vss_one (vs_ret (ve_var 1))))),
    pure_signs_of_lots⟩)
abbrev s_raw_many_standings : Stmt := (topS 24)
theorem sc_raw_many_standings : FnScope ["home", "untied", "signs", "found", "lot", "part"] ["home"] (defScope s_raw_many_standings) := ⟨rfl, rfl, rfl, by decide +kernel, rfl, by decide +kernel, by decide +kernel⟩
theorem ok_raw_many_standings (T : Tx K mg) (G_parts_of : Fd P w K mg base 1 "parts_of" ["lot"] (spC K R_parts_of)) (G_signs_of_lots : Fd P w K mg base 1 "signs_of_lots" ["many"] (spC K R_signs_of_lots)) (G_untied_lots : Fd P w K mg base 2 "untied_lots" ["home"] (spC K R_untied_lots)) : Fd P w K mg base 3 "raw_many_standings" ["home"] (spC K R_raw_many_standings) := by
  obtain ⟨fd, F⟩ := T.f_raw_many_standings
  have nd := sc_raw_many_standings.nd
  exact fd_mk F T.g_raw_many_standings sc_raw_many_standings (fun _ _ _ _ _ _ us hl => match us, hl with | [_], _ => rfl) len_raw_many_standings (fun cdv A outer s H E hr => ⟨t_raw_many_standings,
    (vss_cons (vs_set (i := 1) nd (ve_call G_untied_lots (hr.mono (by decide)) (vae_cons (ve_var 0) vae_nil)))
      (vss_cons (vs_set (i := 2) nd (ve_call G_signs_of_lots (hr.mono (by decide)) (vae_cons (ve_fld T.c_Home T.a_Home_many (vo_var 0)) vae_nil)))
      (vss_cons (vs_own (i := 3) nd (vn_lst (vae_cons ve_int vae_nil)))
      (vss_cons (vs_for [4, 5] PassesOwn.never rfl (vi_r2 T.n_range (vo_e ve_int) (vo_e (ve_op op_shl o_shl (vo_e ve_int) (vo_e (ve_fld T.c_Home T.a_Home_many (vo_var 0)))))) (vg_name 4 nd)
      (vss_one (vs_app 3 (ve_b (cr_sum rfl) f_sum T.n_sum bt_sum (va_cons (vo_e (ve_n (vn_lc rfl nd (vi_seq (ve_call G_parts_of (hr.mono (by decide)) (vae_cons (ve_var 4) vae_nil))) (blkOk_by (own := [("part", 5)]) rfl) (fun _ _ _ _ _ => (vg_name 5 nd)) (fun _ _ _ _ _ => (vts_one (vt_val (ve_ix ix_seq o_ix (vo_var 1) (vo_var 5))))) (fun _ _ _ _ _ => (ve_op r_mul o_mul (vo_e (ve_ix ix_seq o_ix (vo_var 3) (vo_e (ve_op op_sub o_sub (vo_var 4) (vo_var 5))))) (vo_e (ve_ix ix_seq o_ix (vo_var 2) (vo_var 5)))))))) va_nil)))))
      (vss_one (vs_ret (ve_ix ix_seq o_ix (vo_var 3) (vo_e (ve_neg (vo_e ve_int)))))))))),
    pure_raw_many_standings⟩)
abbrev s_many_standings : Stmt := (topS 25)
theorem sc_many_standings : FnScope ["home"] ["home"] (defScope s_many_standings) := ⟨rfl, rfl, rfl, by decide +kernel, rfl, by decide +kernel, by decide +kernel⟩
theorem ok_many_standings (T : Tx K mg) (G_raw_many_standings : Fd P w K mg base 3 "raw_many_standings" ["home"] (spC K R_raw_many_standings)) : Fd P w K mg base 4 "many_standings" ["home"] (spC K R_many_standings) := by
  obtain ⟨fd, F⟩ := T.f_many_standings
  have nd := sc_many_standings.nd
  exact fd_mk F T.g_many_standings sc_many_standings (fun _ _ _ _ _ _ us hl => match us, hl with | [_], _ => rfl) len_many_standings (fun cdv A outer s H E hr => ⟨t_many_standings,
    (vss_one (vs_ret (ve_call G_raw_many_standings (hr.mono (by decide)) (vae_cons (ve_var 0) vae_nil)))),
    pure_many_standings⟩)
abbrev s_ways_to_part : Stmt := (topS 26)
theorem sc_ways_to_part : FnScope ["home", "untied", "found", "lot", "least", "counts", "part", "many", "ways"] ["home"] (defScope s_ways_to_part) := ⟨rfl, rfl, rfl, by decide +kernel, rfl, by decide +kernel, by decide +kernel⟩
theorem ok_ways_to_part (T : Tx K mg) (G_parts_of : Fd P w K mg base 1 "parts_of" ["lot"] (spC K R_parts_of)) (G_untied_lots : Fd P w K mg base 2 "untied_lots" ["home"] (spC K R_untied_lots)) : Fd P w K mg base 3 "ways_to_part" ["home"] (spC K R_ways_to_part) := by
  obtain ⟨fd, F⟩ := T.f_ways_to_part
  have nd := sc_ways_to_part.nd
  exact fd_mk F T.g_ways_to_part sc_ways_to_part (fun _ _ _ _ _ _ us hl => match us, hl with | [_], _ => rfl) len_ways_to_part (fun cdv A outer s H E hr => ⟨t_ways_to_part,
    (vss_cons (vs_set (i := 1) nd (ve_call G_untied_lots (hr.mono (by decide)) (vae_cons (ve_var 0) vae_nil)))
      (vss_cons (vs_own (i := 2) nd (vn_lst (vae_cons (ve_op r_add o_add (vo_e (ve_n (vn_lst (vae_cons ve_int vae_nil)))) (vo_e (ve_n (vn_rep (ve_n (vn_lst (vae_cons ve_int vae_nil))) (vo_e (ve_fld T.c_Home T.a_Home_many (vo_var 0))))))) vae_nil)))
      (vss_cons (vs_for [3, 4, 5, 6, 7, 8] PassesOwn.never rfl (vi_r2 T.n_range (vo_e ve_int) (vo_e (ve_op op_shl o_shl (vo_e ve_int) (vo_e (ve_fld T.c_Home T.a_Home_many (vo_var 0)))))) (vg_name 3 nd)
      (vss_cons (vs_set (i := 4) nd (ve_op op_and o_and (vo_var 3) (vo_e (ve_neg (vo_var 3)))))
      (vss_cons (vs_own (i := 5) nd (vn_rep (ve_n (vn_lst (vae_cons ve_int vae_nil))) (vo_e (ve_op r_add o_add (vo_e (ve_fld T.c_Home T.a_Home_many (vo_var 0))) (vo_e ve_int)))))
      (vss_cons (vs_for [6, 7, 8] PassesOwn.never rfl (vi_seq (ve_call G_parts_of (hr.mono (by decide)) (vae_cons (ve_var 3) vae_nil))) (vg_name 6 nd)
      (vss_one (vs_if (vt_w (vw_and (vt_cmp op_gt o_gt (vo_e (ve_op op_and o_and (vo_var 6) (vo_var 4))) (vo_e ve_int)) (vw_and1 (vt_val (ve_ix ix_seq o_ix (vo_var 1) (vo_var 6))))))
      (vss_one (vs_for [7, 8] PassesOwn.never rfl (vi_enum T.n_enumerate (ve_slice (vo_e (ve_ix ix_seq o_ix (vo_var 2) (vo_e (ve_op op_sub o_sub (vo_var 3) (vo_var 6))))) vp_no (vp_so (vo_e (ve_neg (vo_e ve_int)))))) (vg_tup rfl (vgs_cons (vg_name 7 nd) (vgs_cons (vg_name 8 nd) vgs_nil)))
      (vss_one (vs_augIx 5 iop_add o_addI (vo_e (ve_op r_add o_add (vo_var 7) (vo_e ve_int))) (vo_var 8)))))
      vss_nil)))
      (vss_one (vs_frz [5] (vs_app 2 (ve_var 5))))))))
      (vss_one (vs_ret (ve_ix ix_seq o_ix (vo_var 2) (vo_e (ve_neg (vo_e ve_int))))))))),
    pure_ways_to_part⟩)
abbrev s_colourings : Stmt := (topS 27)
theorem sc_colourings : FnScope ["home", "colours", "total", "chosen", "many", "ways"] ["home", "colours"] (defScope s_colourings) := ⟨rfl, rfl, rfl, by decide +kernel, rfl, by decide +kernel, by decide +kernel⟩
theorem ok_colourings (T : Tx K mg) (G_check_number : Fd P w K mg base 3 "check_number" ["thing", "least", "most"] (spC K R_check_number)) (G_ways_to_part : Fd P w K mg base 3 "ways_to_part" ["home"] (spC K R_ways_to_part)) : Fd P w K mg base 4 "colourings" ["home", "colours"] (spC K R_colourings) := by
  obtain ⟨fd, F⟩ := T.f_colourings
  have nd := sc_colourings.nd
  exact fd_mk F T.g_colourings sc_colourings (fun _ _ _ _ _ _ us hl => match us, hl with | [_, _], _ => rfl) len_colourings (fun cdv A outer s H E hr => ⟨t_colourings,
    (vss_cons (vs_expr (ve_call G_check_number (hr.mono (by decide)) (vae_cons (ve_var 1) (vae_cons (ve_neg (vo_e (ve_gint rfl T.k_MOST_COLOURS))) (vae_cons (ve_gint rfl T.k_MOST_COLOURS) vae_nil)))))
      (vss_cons (vs_set (i := 2) nd ve_int)
      (vss_cons (vs_set (i := 3) nd ve_int)
      (vss_cons (vs_for [4, 5] PassesOwn.never rfl (vi_enum T.n_enumerate (ve_call G_ways_to_part (hr.mono (by decide)) (vae_cons (ve_var 0) vae_nil))) (vg_tup rfl (vgs_cons (vg_name 4 nd) (vgs_cons (vg_name 5 nd) vgs_nil)))
      (vss_cons (vs_aug (i := 2) nd iop_add o_addI (vo_e (ve_op r_mul o_mul (vo_var 5) (vo_var 3))))
      (vss_one (vs_aug (i := 3) nd iop_mul o_mulI (vo_e (ve_op op_sub o_sub (vo_var 1) (vo_var 4)))))))
      (vss_one (vs_ret (ve_var 2))))))),
    pure_colourings⟩)
abbrev s_L_hand : Stmt := (topS 29)
theorem sc_L_hand : FnScope ["_law_script", "_law_cell", "_law_cells"] ["_law_script"] (defScope s_L_hand) := ⟨rfl, rfl, rfl, by decide +kernel, rfl, by decide +kernel, by decide +kernel⟩
theorem ok_L_hand (T : Tx K mg)  : Fd P w K mg base 1 "_law_hand" ["_law_script"] (spN K BagV) := by
  obtain ⟨fd, F⟩ := T.f_L_hand
  have nd := sc_L_hand.nd
  exact fdN_mk F T.g_L_hand sc_L_hand (fun _ _ _ _ _ _ us hl => match us, hl with | [_], _ => rfl) (fun cdv A outer s H E hr => ⟨t_L_hand,
    (pr_cons (vs_fzN 2 (vs_setLc (i := 2) rfl nd (sw_true rfl rfl rfl (by decide +kernel)) (vi_seq (ve_scSlice 0 (n := 63))) (blkOk_by (own := [("_law_cell", 1)]) rfl) (fun _ _ _ _ _ => (vg_name 1 nd)) (fun _ _ _ _ _ => vts_nil) (fun _ _ _ _ _ => (ve_b call_abs f_abs T.n_abs bt_abs (va_cons (vo_e (ve_ty call_int1 f_int T.n_int bt_int (va_cons (vo_var 1) va_nil))) va_nil)))))
      (pr_one (vn_lst (vae_cons (ve_var 2) (vae_cons ve_int (vae_cons ve_int (vae_cons (ve_op r_add o_add (vo_e ve_int) (vo_e (ve_b r_len f_len T.n_len bt_len (va_cons (vo_var 2) va_nil)))) (vae_cons ve_int vae_nil)))))))),
    pure_L_hand⟩)
abbrev s_L_draw : Stmt := (topS 30)
theorem sc_L_draw : FnScope ["_law_hand_here", "_law_many", "_law_cell", "_law_digit", "_law_number"] ["_law_hand_here", "_law_many"] (defScope s_L_draw) := ⟨rfl, rfl, rfl, by decide +kernel, rfl, by decide +kernel, by decide +kernel⟩
theorem ok_L_draw (T : Tx K mg)  : Fd P w K mg base 1 "_law_draw" ["_law_hand_here", "_law_many"] (spB K Bag R_L_draw) := by
  obtain ⟨fd, F⟩ := T.f_L_draw
  have nd := sc_L_draw.nd
  exact fdB_mk (O := Bag) F T.g_L_draw sc_L_draw (fun _ _ _ _ _ _ us hl => match us, hl with | [_, _], _ => rfl) len_L_draw (fun cdv A outer s H E hr => ⟨t_L_draw,
    (vss_open 0 BagV (vss_cons (vs_if (vt_w (vw_and (vt_cmp (op_eqD (hu64 hr)) o_eq (vo_e (ve_ix ix_seq o_ix (vo_var 0) (vo_e ve_int))) (vo_e ve_int)) (vw_and1 (vt_cmp op_lt o_lt (vo_e (ve_ix ix_seq o_ix (vo_var 0) (vo_e ve_int))) (vo_e (ve_b r_len f_len T.n_len bt_len (va_cons (vo_e (ve_ix ix_seq o_ix (vo_var 0) (vo_e ve_int))) va_nil)))))))
      (vss_cons (vs_set (i := 2) nd (ve_ix ix_seq o_ix (vo_e (ve_ix ix_seq o_ix (vo_var 0) (vo_e ve_int))) (vo_e (ve_ix ix_seq o_ix (vo_var 0) (vo_e ve_int)))))
      (vss_cons (vs_setIxP 0 (vo_e ve_int) (ve_op r_add o_add (vo_e (ve_ix ix_seq o_ix (vo_var 0) (vo_e ve_int))) (vo_e ve_int)))
      (vss_cons (vs_setIxP 0 (vo_e ve_int) (ve_op op_mod o_mod (vo_e (ve_ty call_int1 f_int T.n_int bt_int (va_cons (vo_e (ve_op r_add o_add (vo_e (ve_op r_add o_add (vo_e (ve_op r_mul o_mul (vo_e (ve_ix ix_seq o_ix (vo_var 0) (vo_e ve_int))) (vo_e ve_int))) (vo_var 2))) (vo_e ve_int))) va_nil))) (vo_e ve_int)))
      (vss_one (vs_if (vt_cmp op_ge o_ge (vo_var 2) (vo_e (ve_op op_pow o_pow (vo_e ve_int) (vo_e ve_int))))
      (vss_one (vs_setIxP 0 (vo_e ve_int) (ve_var 2)))
      vss_nil)))))
      vss_nil)
      (vss_cons (vs_if (vt_cmp op_gt o_gt (vo_e (ve_ix ix_seq o_ix (vo_var 0) (vo_e ve_int))) (vo_e ve_int))
      (vss_cons (vs_set (i := 3) nd (ve_op op_mod o_mod (vo_e (ve_ty call_int1 f_int T.n_int bt_int (va_cons (vo_e (ve_ix ix_seq o_ix (vo_var 0) (vo_e ve_int))) va_nil))) (vo_var 1)))
      (vss_cons (vs_setIxP 0 (vo_e ve_int) (ve_op op_fdiv o_div (vo_e (ve_ix ix_seq o_ix (vo_var 0) (vo_e ve_int))) (vo_var 1)))
      (vss_one (vs_ret (ve_var 3)))))
      vss_nil)
      (vss_cons (vs_setIxP 0 (vo_e ve_int) (ve_op r_add o_add (vo_e (ve_ix ix_seq o_ix (vo_var 0) (vo_e ve_int))) (vo_e ve_int)))
      (vss_cons (vs_set (i := 4) nd (ve_op op_mod o_mod (vo_e (ve_ty call_int1 f_int T.n_int bt_int (va_cons (vo_e (ve_op r_mul o_mul (vo_e (ve_ty call_int1 f_int T.n_int bt_int (va_cons (vo_e (ve_op r_add o_add (vo_e (ve_ix ix_seq o_ix (vo_var 0) (vo_e ve_int))) (vo_e (ve_op r_mul o_mul (vo_e ve_int) (vo_e (ve_ix ix_seq o_ix (vo_var 0) (vo_e ve_int))))))) va_nil))) (vo_e ve_int))) va_nil))) (vo_e ve_int)))
      (vss_cons (vs_set (i := 4) nd (ve_op op_mod o_mod (vo_e (ve_ty call_int1 f_int T.n_int bt_int (va_cons (vo_e (ve_op r_mul o_mul (vo_var 4) (vo_e (ve_op r_add o_add (vo_e (ve_op op_fdiv o_div (vo_var 4) (vo_e ve_int))) (vo_e ve_int))))) va_nil))) (vo_e ve_int)))
      (vss_cons (vs_set (i := 4) nd (ve_op op_mod o_mod (vo_e (ve_ty call_int1 f_int T.n_int bt_int (va_cons (vo_e (ve_op r_mul o_mul (vo_var 4) (vo_e (ve_op r_add o_add (vo_e (ve_op op_fdiv o_div (vo_var 4) (vo_e ve_int))) (vo_e ve_int))))) va_nil))) (vo_e ve_int)))
      (vss_one (vs_ret (ve_op op_mod o_mod (vo_e (ve_ty call_int1 f_int T.n_int bt_int (va_cons (vo_e (ve_op op_fdiv o_div (vo_var 4) (vo_e ve_int))) va_nil))) (vo_var 1))))))))))),
    pure_L_draw⟩)
abbrev s_L_any : Stmt := (topS 31)
theorem sc_L_any : FnScope ["_law_hand_here", "_law_things"] ["_law_hand_here", "_law_things"] (defScope s_L_any) := ⟨rfl, rfl, rfl, by decide +kernel, rfl, by decide +kernel, by decide +kernel⟩
theorem ok_L_any (T : Tx K mg) (G_L_draw : Fd P w K mg base 1 "_law_draw" ["_law_hand_here", "_law_many"] (spB K Bag R_L_draw)) : Fd P w K mg base 2 "_law_any" ["_law_hand_here", "_law_things"] (spB K Bag R_L_any) := by
  obtain ⟨fd, F⟩ := T.f_L_any
  have nd := sc_L_any.nd
  exact fdB_mk (O := Bag) F T.g_L_any sc_L_any (fun _ _ _ _ _ _ us hl => match us, hl with | [_, _], _ => rfl) len_L_any (fun cdv A outer s H E hr => ⟨t_L_any,
    (vss_one (vs_ret (ve_ix ix_seq o_ix (vo_var 1) (vo_e (ve_callB 0 G_L_draw (hr.mono (by decide)) (vae_cons (ve_b r_len f_len T.n_len bt_len (va_cons (vo_var 1) va_nil)) vae_nil)))))),
    pure_L_any⟩)
abbrev s_L_mixed : Stmt := (topS 32)
theorem sc_L_mixed : FnScope ["_law_hand_here", "_law_things", "_law_left", "_law_turn"] ["_law_hand_here", "_law_things"] (defScope s_L_mixed) := ⟨rfl, rfl, rfl, by decide +kernel, rfl, by decide +kernel, by decide +kernel⟩
theorem ok_L_mixed (T : Tx K mg) (G_L_draw : Fd P w K mg base 1 "_law_draw" ["_law_hand_here", "_law_many"] (spB K Bag R_L_draw)) : Fd P w K mg base 2 "_law_mixed" ["_law_hand_here", "_law_things"] (spB K Bag R_L_mixed) := by
  obtain ⟨fd, F⟩ := T.f_L_mixed
  have nd := sc_L_mixed.nd
  exact fdB_mk (O := Bag) F T.g_L_mixed sc_L_mixed (fun _ _ _ _ _ _ us hl => match us, hl with | [_, _], _ => rfl) len_L_mixed (fun cdv A outer s H E hr => ⟨t_L_mixed,
    (vss_cons (vs_own (i := 2) nd (vn_ty r_list fn_list T.n_list bt_list (va_cons (vo_var 1) va_nil)))
      (vss_one (vs_ret (ve_n (vn_lc rfl nd (vi_r1 T.n_range (vo_e (ve_b r_len f_len T.n_len bt_len (va_cons (vo_var 2) va_nil)))) (blkOk_by (own := [("_law_turn", 3)]) rfl) (fun _ _ _ _ _ => (vg_name 3 nd)) (fun _ _ _ _ _ => vts_nil) (fun _ _ _ _ _ => (ve_popAt 2 (vo_e (ve_callB 0 G_L_draw (hr.mono (by decide)) (vae_cons (ve_b r_len f_len T.n_len bt_len (va_cons (vo_var 2) va_nil)) vae_nil)))))))))),
    pure_L_mixed⟩)
abbrev s_L_arrows : Stmt := (topS 33)
theorem sc_L_arrows : FnScope ["_law_hand_here", "_law_many", "_law_row", "_law_rare", "_law_found", "_law_at", "_law_k"] ["_law_hand_here", "_law_many"] (defScope s_L_arrows) := ⟨rfl, rfl, rfl, by decide +kernel, rfl, by decide +kernel, by decide +kernel⟩
theorem ok_L_arrows (T : Tx K mg) (G_L_any : Fd P w K mg base 2 "_law_any" ["_law_hand_here", "_law_things"] (spB K Bag R_L_any)) (G_L_draw : Fd P w K mg base 1 "_law_draw" ["_law_hand_here", "_law_many"] (spB K Bag R_L_draw)) (G_L_mixed : Fd P w K mg base 2 "_law_mixed" ["_law_hand_here", "_law_things"] (spB K Bag R_L_mixed)) : Fd P w K mg base 3 "_law_arrows" ["_law_hand_here", "_law_many"] (spB K Bag R_L_arrows) := by
  obtain ⟨fd, F⟩ := T.f_L_arrows
  have nd := sc_L_arrows.nd
  exact fdB_mk (O := Bag) F T.g_L_arrows sc_L_arrows (fun _ _ _ _ _ _ us hl => match us, hl with | [_, _], _ => rfl) len_L_arrows (fun cdv A outer s H E hr => ⟨t_L_arrows,
    (vss_cons (vs_set (i := 2) nd (ve_callB 0 G_L_mixed (hr.mono (by decide)) (vae_cons (ve_n (vn_lr1 rfl T.n_list T.n_range (vo_var 1))) vae_nil)))
      (vss_cons (vs_set (i := 3) nd (ve_callB 0 G_L_any (hr.mono (by decide)) (vae_cons (ve_n (vn_lst (vae_cons ve_int (vae_cons ve_int (vae_cons ve_int (vae_cons ve_int (vae_cons ve_int vae_nil))))))) vae_nil)))
      (vss_cons (vs_own (i := 4) nd (vn_lst vae_nil))
      (vss_cons (vs_for [5, 6] PassesOwn.never rfl (vi_r1 T.n_range (vo_var 1)) (vg_name 5 nd)
      (vss_one (vs_ext 4 (ve_n (vn_lc rfl nd (vi_r2 T.n_range (vo_e (ve_op r_add o_add (vo_var 5) (vo_e ve_int))) (vo_var 1)) (blkOk_by (own := [("_law_k", 6)]) rfl) (fun _ _ _ _ _ => (vg_name 6 nd)) (fun _ _ _ _ _ => (vts_one (vt_cmp op_lt o_lt (vo_e (ve_callB 0 G_L_draw (hr.mono (by decide)) (vae_cons ve_int vae_nil))) (vo_var 3)))) (fun _ _ _ _ _ => (ve_tup (vae_cons (ve_ix ix_seq o_ix (vo_var 2) (vo_var 5)) (vae_cons (ve_ix ix_seq o_ix (vo_var 2) (vo_var 6)) vae_nil)))))))))
      (vss_one (vs_ret (ve_ty r_tuple f_tuple T.n_tuple bt_tuple (va_cons (vo_e (ve_n (vn_b (cr_sortD (hu64 hr)) fn_sorted T.n_sorted bt_sorted (va_cons (vo_var 4) va_nil)))) va_nil)))))))),
    pure_L_arrows⟩)
abbrev s_L_is : Stmt := (topS 34)
theorem sc_L_is : FnScope ["_law_told", "_law_due", "_law_one", "_law_two"] ["_law_told", "_law_due"] (defScope s_L_is) := ⟨rfl, rfl, rfl, by decide +kernel, rfl, by decide +kernel, by decide +kernel⟩
theorem ok_L_is (T : Tx K mg) {k : Nat} {Rs R' : CF} (G_self : Fd P w K mg base k "_law_is" ["_law_told", "_law_due"] (spC K Rs))  (len : ∀ ds Q, R' ds Q → ds.length = 2) (pure : ∀ ds Q, R' ds Q → t_L_is Rs { nx := fun _ => Q .non, rt := fun d _ => Q d } (envOf N_L_is ds)) : Fd P w K mg base (k + 1) "_law_is" ["_law_told", "_law_due"] (spC K R') := by
  obtain ⟨fd, F⟩ := T.f_L_is
  have nd := sc_L_is.nd
  exact fd_mk F T.g_L_is sc_L_is (fun _ _ _ _ _ _ us hl => match us, hl with | [_, _], _ => rfl) len (fun cdv A outer s H E hr => ⟨t_L_is Rs,
    (vss_cons (vs_if (vt_val (ve_isi2 .tuple .list (vo_var 1) T.n_isinstance T.n_tuple bt_tuple T.n_list bt_list))
      (vss_cons (vs_if (vt_w (vw_or (vt_cmp (op_neD (hu64 hr)) o_ne (vo_e (ve_isi .tuple (vo_var 0) T.n_isinstance T.n_tuple bt_tuple)) (vo_e (ve_isi .tuple (vo_var 1) T.n_isinstance T.n_tuple bt_tuple))) (vw_or1 (vt_not (vt_val (ve_isi2 .tuple .list (vo_var 0) T.n_isinstance T.n_tuple bt_tuple T.n_list bt_list))))))
      (vss_one (vs_ret ve_bl))
      vss_nil)
      (vss_one (vs_ret (ve_and (ve_cmp (op_eqD (hu64 hr)) o_eq (vo_e (ve_b r_len f_len T.n_len bt_len (va_cons (vo_var 0) va_nil))) (vo_e (ve_b r_len f_len T.n_len bt_len (va_cons (vo_var 1) va_nil)))) (ve_one (ve_b (cr_all rfl) f_all T.n_all bt_all (va_cons (vo_e (ve_n (vn_lc rfl nd (vi_zip T.n_zip (ve_var 0) (ve_var 1)) (blkOk_by (own := [("_law_one", 2), ("_law_two", 3)]) rfl) (fun _ _ _ _ _ => (vg_tup rfl (vgs_cons (vg_name 2 nd) (vgs_cons (vg_name 3 nd) vgs_nil)))) (fun _ _ _ _ _ => vts_nil) (fun _ _ _ _ _ => (ve_call G_self hr (vae_cons (ve_var 2) (vae_cons (ve_var 3) vae_nil))))))) va_nil)))))))
      vss_nil)
      (vss_one (vs_ret (ve_and (ve_cmp (op_eqD (hu64 hr)) o_eq (vo_e (ve_isi .bool (vo_var 0) T.n_isinstance T.n_bool bt_bool)) (vo_e (ve_isi .bool (vo_var 1) T.n_isinstance T.n_bool bt_bool))) (ve_one (ve_cmp (op_eqD (hu64 hr)) o_eq (vo_var 0) (vo_var 1))))))),
    pure⟩)
theorem ok0_L_is (T : Tx K mg) {R' : CF} (no : ∀ ds Q, ¬ R' ds Q) : Fd P w K mg base 1 "_law_is" ["_law_told", "_law_due"] (spC K R') := by
  obtain ⟨fd, F⟩ := T.f_L_is
  exact fd_mk F T.g_L_is sc_L_is (fun _ _ _ _ _ _ us hl => match us, hl with | [_, _], _ => rfl) (fun ds Q h => (no ds Q h).elim) (fun cdv A outer s H E hr => ⟨cNever, vss_never, fun ds Q h => (no ds Q h).elim⟩)
abbrev s_L_polynomial : Stmt := (topS 35)
theorem sc_L_polynomial : FnScope ["_law_things", "_law_ties", "_law_u", "_law_v", "_law_one", "_law_pair", "_law_end", "_law_ends", "_law_more", "_law_thing", "_law_less", "_law_at", "_law_number"] ["_law_things", "_law_ties"] (defScope s_L_polynomial) := ⟨rfl, rfl, rfl, by decide +kernel, rfl, by decide +kernel, by decide +kernel⟩
theorem ok_L_polynomial (T : Tx K mg) {k : Nat} {Rs R' : CF} (G_self : Fd P w K mg base k "_law_polynomial" ["_law_things", "_law_ties"] (spC K Rs))  (len : ∀ ds Q, R' ds Q → ds.length = 2) (pure : ∀ ds Q, R' ds Q → t_L_polynomial Rs { nx := fun _ => Q .non, rt := fun d _ => Q d } (envOf N_L_polynomial ds)) : Fd P w K mg base (k + 1) "_law_polynomial" ["_law_things", "_law_ties"] (spC K R') := by
  obtain ⟨fd, F⟩ := T.f_L_polynomial
  have nd := sc_L_polynomial.nd
  exact fd_mk F T.g_L_polynomial sc_L_polynomial (fun _ _ _ _ _ _ us hl => match us, hl with | [_, _], _ => rfl) len (fun cdv A outer s H E hr => ⟨t_L_polynomial Rs,
    (vss_cons (vs_if (vt_cmp (op_eqD (hu64 hr)) o_eq (vo_e (ve_b r_len f_len T.n_len bt_len (va_cons (vo_var 1) va_nil))) (vo_e ve_int))
      (vss_one (vs_ret (ve_op r_add o_add (vo_e (ve_n (vn_rep (ve_n (vn_lst (vae_cons ve_int vae_nil))) (vo_e (ve_b r_len f_len T.n_len bt_len (va_cons (vo_var 0) va_nil)))))) (vo_e (ve_n (vn_lst (vae_cons ve_int vae_nil)))))))
      vss_nil)
      (vss_cons (vs_asg (ve_ix ix_seq o_ix (vo_var 1) (vo_e ve_int)) (vg_tup rfl (vgs_cons (vg_name 2 nd) (vgs_cons (vg_name 3 nd) vgs_nil))))
      (vss_cons (vs_own (i := 4) nd (vn_lst vae_nil))
      (vss_cons (vs_for [5, 6, 7] PassesOwn.never rfl (vi_seq (ve_slice (vo_var 1) (vp_so (vo_e ve_int)) vp_no)) (vg_name 5 nd)
      (vss_cons (vs_set (i := 7) nd (ve_n (vn_b (cr_sortD (hu64 hr)) fn_sorted T.n_sorted bt_sorted (va_cons (vo_e (ve_n (vn_lc rfl nd (vi_seq (ve_var 5)) (blkOk_by (own := [("_law_end", 6)]) rfl) (fun _ _ _ _ _ => (vg_name 6 nd)) (fun _ _ _ _ _ => vts_nil) (fun _ _ _ _ _ => (ve_if (vt_cmp (op_eqD (hu64 hr)) o_eq (vo_var 6) (vo_var 3)) (ve_var 2) (ve_var 6)))))) va_nil))))
      (vss_one (vs_if (vt_cmp (r_notIn (hu65 hr)) o_notIn (vo_var 7) (vo_var 4))
      (vss_one (vs_app 4 (ve_var 7)))
      vss_nil))))
      (vss_cons (vs_set (i := 8) nd (ve_call G_self hr (vae_cons (ve_var 0) (vae_cons (ve_slice (vo_var 1) (vp_so (vo_e ve_int)) vp_no) vae_nil))))
      (vss_cons (vs_frz [4] (vs_set (i := 10) nd (ve_call G_self hr (vae_cons (ve_n (vn_lc rfl nd (vi_seq (ve_var 0)) (blkOk_by (own := [("_law_thing", 9)]) rfl) (fun _ _ _ _ _ => (vg_name 9 nd)) (fun _ _ _ _ _ => (vts_one (vt_cmp (op_neD (hu64 hr)) o_ne (vo_var 9) (vo_var 3)))) (fun _ _ _ _ _ => (ve_var 9)))) (vae_cons (ve_n (vn_lc rfl nd (vi_seq (ve_var 4)) (blkOk_by (own := [("_law_ends", 7)]) rfl) (fun _ _ _ _ _ => (vg_name 7 nd)) (fun _ _ _ _ _ => vts_nil) (fun _ _ _ _ _ => (ve_ty r_tuple f_tuple T.n_tuple bt_tuple (va_cons (vo_var 7) va_nil))))) vae_nil)))))
      (vss_one (vs_ret (ve_n (vn_lc rfl nd (vi_enum T.n_enumerate (ve_var 8)) (blkOk_by (own := [("_law_at", 11), ("_law_number", 12)]) rfl) (fun _ _ _ _ _ => (vg_tup rfl (vgs_cons (vg_name 11 nd) (vgs_cons (vg_name 12 nd) vgs_nil)))) (fun _ _ _ _ _ => vts_nil) (fun _ _ _ _ _ => (ve_op op_sub o_sub (vo_var 12) (vo_e (ve_if (vt_cmp op_lt o_lt (vo_var 11) (vo_e (ve_b r_len f_len T.n_len bt_len (va_cons (vo_var 10) va_nil)))) (ve_ix ix_seq o_ix (vo_var 10) (vo_var 11)) ve_int)))))))))))))),
    pure⟩)
theorem ok0_L_polynomial (T : Tx K mg) {R' : CF} (no : ∀ ds Q, ¬ R' ds Q) : Fd P w K mg base 1 "_law_polynomial" ["_law_things", "_law_ties"] (spC K R') := by
  obtain ⟨fd, F⟩ := T.f_L_polynomial
  exact fd_mk F T.g_L_polynomial sc_L_polynomial (fun _ _ _ _ _ _ us hl => match us, hl with | [_, _], _ => rfl) (fun ds Q h => (no ds Q h).elim) (fun cdv A outer s H E hr => ⟨cNever, vss_never, fun ds Q h => (no ds Q h).elim⟩)
abbrev s_L_sum : Stmt := (topS 36)
theorem sc_L_sum : FnScope ["_law_polynomial_here", "_law_colours", "_law_total", "_law_number"] ["_law_polynomial_here", "_law_colours"] (defScope s_L_sum) := ⟨rfl, rfl, rfl, by decide +kernel, rfl, by decide +kernel, by decide +kernel⟩
theorem ok_L_sum (T : Tx K mg)  : Fd P w K mg base 1 "_law_sum" ["_law_polynomial_here", "_law_colours"] (spC K R_L_sum) := by
  obtain ⟨fd, F⟩ := T.f_L_sum
  have nd := sc_L_sum.nd
  exact fd_mk F T.g_L_sum sc_L_sum (fun _ _ _ _ _ _ us hl => match us, hl with | [_, _], _ => rfl) len_L_sum (fun cdv A outer s H E hr => ⟨t_L_sum,
    (vss_cons (vs_set (i := 2) nd ve_int)
      (vss_cons (vs_for [3] PassesOwn.never rfl (vi_seq (ve_revL (vo_var 0))) (vg_name 3 nd)
      (vss_one (vs_set (i := 2) nd (ve_op r_add o_add (vo_e (ve_op r_mul o_mul (vo_var 2) (vo_var 1))) (vo_var 3)))))
      (vss_one (vs_ret (ve_var 2))))),
    pure_L_sum⟩)
abbrev s_L_ways : Stmt := (topS 37)
theorem sc_L_ways : FnScope ["_law_many", "_law_ties", "_law_colours", "_law_rows", "_law_thing", "_law_u", "_law_v", "_law_near", "_law_longer", "_law_row", "_law_taken", "_law_colour"] ["_law_many", "_law_ties", "_law_colours"] (defScope s_L_ways) := ⟨rfl, rfl, rfl, by decide +kernel, rfl, by decide +kernel, by decide +kernel⟩
theorem ok_L_ways (T : Tx K mg)  : Fd P w K mg base 1 "_law_ways" ["_law_many", "_law_ties", "_law_colours"] (spC K R_L_ways) := by
  obtain ⟨fd, F⟩ := T.f_L_ways
  have nd := sc_L_ways.nd
  exact fd_mk F T.g_L_ways sc_L_ways (fun _ _ _ _ _ _ us hl => match us, hl with | [_, _, _], _ => rfl) len_L_ways (fun cdv A outer s H E hr => ⟨t_L_ways,
    (vss_cons (vs_set (i := 3) nd (ve_n (vn_lst (vae_cons (ve_tup vae_nil) vae_nil))))
      (vss_cons (vs_for [4, 5, 6, 7, 8, 9, 10, 11] PassesOwn.never rfl (vi_r1 T.n_range (vo_var 0)) (vg_name 4 nd)
      (vss_cons (vs_fzN 7 (vs_setLc (i := 7) rfl nd (sw_true rfl rfl rfl (by decide +kernel)) (vi_seq (ve_var 1)) (blkOk_by (own := [("_law_u", 5), ("_law_v", 6)]) rfl) (fun _ _ _ _ _ => (vg_tup rfl (vgs_cons (vg_name 5 nd) (vgs_cons (vg_name 6 nd) vgs_nil)))) (fun _ _ _ _ _ => (vts_one (vt_cmp (op_eqD (hu64 hr)) o_eq (vo_var 6) (vo_var 4)))) (fun _ _ _ _ _ => (ve_var 5))))
      (vss_cons (vs_own (i := 8) nd (vn_lst vae_nil))
      (vss_cons (vs_for [5, 9, 10, 11] PassesOwn.never rfl (vi_seq (ve_var 3)) (vg_name 9 nd)
      (vss_cons (vs_set (i := 10) nd (ve_n (vn_lc rfl nd (vi_seq (ve_var 7)) (blkOk_by (own := [("_law_u", 5)]) rfl) (fun _ _ _ _ _ => (vg_name 5 nd)) (fun _ _ _ _ _ => vts_nil) (fun _ _ _ _ _ => (ve_ix ix_seq o_ix (vo_var 9) (vo_var 5))))))
      (vss_one (vs_ext 8 (ve_n (vn_lc rfl nd (vi_r1 T.n_range (vo_var 2)) (blkOk_by (own := [("_law_colour", 11)]) rfl) (fun _ _ _ _ _ => (vg_name 11 nd)) (fun _ _ _ _ _ => (vts_one (vt_cmp (r_notIn (hu65 hr)) o_notIn (vo_var 11) (vo_var 10)))) (fun _ _ _ _ _ => (ve_op r_add o_add (vo_var 9) (vo_e (ve_tup (vae_cons (ve_var 11) vae_nil)))))))))))
      (vss_one (vs_frz [8] (vs_set (i := 3) nd (ve_var 8))))))))
      (vss_one (vs_ret (ve_b r_len f_len T.n_len bt_len (va_cons (vo_var 3) va_nil)))))),
    pure_L_ways⟩)
abbrev s_L_great_right : Stmt := (topS 38)
theorem sc_L_great_right : FnScope ["_law_hand_here", "_law_many", "_law_arrows_here", "_law_pair", "_law_polynomial_here", "_law_home", "_law_colours", "_law_due"] ["_law_hand_here"] (defScope s_L_great_right) := ⟨rfl, rfl, rfl, by decide +kernel, rfl, by decide +kernel, by decide +kernel⟩
theorem ok_L_great_right (T : Tx K mg) (G_L_arrows : Fd P w K mg base 3 "_law_arrows" ["_law_hand_here", "_law_many"] (spB K Bag R_L_arrows)) (G_L_draw : Fd P w K mg base 1 "_law_draw" ["_law_hand_here", "_law_many"] (spB K Bag R_L_draw)) (G_L_is : Fd P w K mg base 3 "_law_is" ["_law_told", "_law_due"] (spC K R_L_is)) (G_L_mixed : Fd P w K mg base 2 "_law_mixed" ["_law_hand_here", "_law_things"] (spB K Bag R_L_mixed)) (G_L_polynomial : Fd P w K mg base 15 "_law_polynomial" ["_law_things", "_law_ties"] (spC K R_L_polynomial)) (G_L_sum : Fd P w K mg base 1 "_law_sum" ["_law_polynomial_here", "_law_colours"] (spC K R_L_sum)) (G_colourings : Fd P w K mg base 4 "colourings" ["home", "colours"] (spC K R_colourings)) (G_many_standings : Fd P w K mg base 4 "many_standings" ["home"] (spC K R_many_standings)) (G_Home : Id P w K mg base 6 "Home" ["self", "many", "arrows"] R_Home) : Fd P w K mg base 16 "_law_great_right" ["_law_hand_here"] (spB K Bag R_L_great_right) := by
  obtain ⟨fd, F⟩ := T.f_L_great_right
  have nd := sc_L_great_right.nd
  exact fdB_mk (O := Bag) F T.g_L_great_right sc_L_great_right (fun _ _ _ _ _ _ us hl => match us, hl with | [_], _ => rfl) len_L_great_right (fun cdv A outer s H E hr => ⟨t_L_great_right,
    (vss_cons (vs_set (i := 1) nd (ve_op r_add o_add (vo_e ve_int) (vo_e (ve_callB 0 G_L_draw (hr.mono (by decide)) (vae_cons ve_int vae_nil)))))
      (vss_cons (vs_set (i := 2) nd (ve_ty r_tuple f_tuple T.n_tuple bt_tuple (va_cons (vo_e (ve_n (vn_b (cr_sortD (hu64 hr)) fn_sorted T.n_sorted bt_sorted (va_cons (vo_e (ve_slice (vo_e (ve_callB 0 G_L_mixed (hr.mono (by decide)) (vae_cons (ve_callB 0 G_L_arrows (hr.mono (by decide)) (vae_cons (ve_var 1) vae_nil)) vae_nil))) vp_no (vp_so (vo_e (ve_op r_add o_add (vo_e ve_int) (vo_e (ve_callB 0 G_L_draw (hr.mono (by decide)) (vae_cons ve_int vae_nil)))))))) va_nil)))) va_nil)))
      (vss_cons (vs_set (i := 4) nd (ve_call G_L_polynomial (hr.mono (by decide)) (vae_cons (ve_n (vn_lr1 rfl T.n_list T.n_range (vo_var 1))) (vae_cons (ve_n (vn_b (cr_sortD (hu64 hr)) fn_sorted T.n_sorted bt_sorted (va_cons (vo_e (ve_n (vn_lc rfl nd (vi_seq (ve_var 2)) (blkOk_by (own := [("_law_pair", 3)]) rfl) (fun _ _ _ _ _ => (vg_name 3 nd)) (fun _ _ _ _ _ => vts_nil) (fun _ _ _ _ _ => (ve_ty r_tuple f_tuple T.n_tuple bt_tuple (va_cons (vo_e (ve_n (vn_b (cr_sortD (hu64 hr)) fn_sorted T.n_sorted bt_sorted (va_cons (vo_var 3) va_nil)))) va_nil)))))) va_nil))) vae_nil))))
      (vss_cons (vs_par (i := 5) (j := 6) rfl nd (vae_cons (ve_make G_Home (hr.mono (by decide)) (vae_cons (ve_var 1) (vae_cons (ve_var 2) vae_nil))) (vae_cons (ve_op op_sub o_sub (vo_e (ve_callB 0 G_L_draw (hr.mono (by decide)) (vae_cons ve_int vae_nil))) (vo_e ve_int)) vae_nil)))
      (vss_cons (vs_set (i := 7) nd (ve_n (vn_lst (vae_cons (ve_call G_L_sum (hr.mono (by decide)) (vae_cons (ve_var 4) (vae_cons ve_int vae_nil))) (vae_cons (ve_call G_L_sum (hr.mono (by decide)) (vae_cons (ve_var 4) (vae_cons (ve_var 6) vae_nil))) vae_nil)))))
      (vss_cons (vs_if (vt_not (vt_val (ve_call G_L_is (hr.mono (by decide)) (vae_cons (ve_n (vn_lst (vae_cons (ve_call G_colourings (hr.mono (by decide)) (vae_cons (ve_var 5) (vae_cons ve_int vae_nil))) (vae_cons (ve_call G_colourings (hr.mono (by decide)) (vae_cons (ve_var 5) (vae_cons (ve_var 6) vae_nil))) vae_nil)))) (vae_cons (ve_var 7) vae_nil)))))
      (vss_one (vs_ret ve_bl))
      vss_nil)
      (vss_one (vs_ret (ve_call G_L_is (hr.mono (by decide)) (vae_cons (ve_call G_many_standings (hr.mono (by decide)) (vae_cons (ve_var 5) vae_nil)) (vae_cons (ve_b call_abs f_abs T.n_abs bt_abs (va_cons (vo_e (ve_call G_L_sum (hr.mono (by decide)) (vae_cons (ve_var 4) (vae_cons (ve_neg (vo_e ve_int)) vae_nil)))) va_nil)) vae_nil))))))))))),
    pure_L_great_right⟩)
abbrev s_law : Stmt := (topS 39)
theorem sc_law : FnScope ["_law_script", "_law_hand_here", "_law_turn", "_law_many", "_law_arrows_here", "_law_pair", "_law_home", "_law_ties", "_law_polynomial_here", "_law_numbers", "_law_colours"] ["_law_script"] (defScope s_law) := ⟨rfl, rfl, rfl, by decide +kernel, rfl, by decide +kernel, by decide +kernel⟩
theorem ok_law (T : Tx K mg) {fd : FuncData} (F : FunD K "law" "law" (defArgs (topS 39)) (defBody (topS 39)) (defScope (topS 39)) [] [] (He.ga K "law") fd) (G_L_arrows : Fd P w K mg base 3 "_law_arrows" ["_law_hand_here", "_law_many"] (spB K Bag R_L_arrows)) (G_L_draw : Fd P w K mg base 1 "_law_draw" ["_law_hand_here", "_law_many"] (spB K Bag R_L_draw)) (G_L_great_right : Fd P w K mg base 16 "_law_great_right" ["_law_hand_here"] (spB K Bag R_L_great_right)) (G_L_hand : Fd P w K mg base 1 "_law_hand" ["_law_script"] (spN K BagV)) (G_L_is : Fd P w K mg base 3 "_law_is" ["_law_told", "_law_due"] (spC K R_L_is)) (G_L_mixed : Fd P w K mg base 2 "_law_mixed" ["_law_hand_here", "_law_things"] (spB K Bag R_L_mixed)) (G_L_polynomial : Fd P w K mg base 15 "_law_polynomial" ["_law_things", "_law_ties"] (spC K R_L_polynomial)) (G_L_sum : Fd P w K mg base 1 "_law_sum" ["_law_polynomial_here", "_law_colours"] (spC K R_L_sum)) (G_L_ways : Fd P w K mg base 1 "_law_ways" ["_law_many", "_law_ties", "_law_colours"] (spC K R_L_ways)) (G_colourings : Fd P w K mg base 4 "colourings" ["home", "colours"] (spC K R_colourings)) (G_many_standings : Fd P w K mg base 4 "many_standings" ["home"] (spC K R_many_standings)) (G_Home : Id P w K mg base 6 "Home" ["self", "many", "arrows"] R_Home) : FnOk P w K mg base CX0 17 (He.ga K "law") fd ["_law_script"] (spL K) := by
  have nd := sc_law.nd
  exact fdL_mk F sc_law (fun cdv A outer s H E hr => ⟨t_law,
    (vss_cons (vs_hand 0 1 G_L_hand (hr.mono (by decide)) nd)
      (vss_cons (vs_if (vt_w (vw_and (vt_cmp (op_eqD (hu64 hr)) o_eq (vo_e (ve_callB 1 G_L_draw (hr.mono (by decide)) (vae_cons ve_int vae_nil))) (vo_e ve_int)) (vw_and1 (vt_not (vt_val (ve_callB 1 G_L_great_right (hr.mono (by decide)) vae_nil))))))
      (vss_one (vs_ret ve_bl))
      vss_nil)
      (vss_cons (vs_for [2, 3, 4, 5, 6, 7, 8, 9, 10] PassesOwn.never rfl (vi_r1 T.n_range (vo_e ve_int)) (vg_name 2 nd)
      (vss_cons (vs_set (i := 3) nd (ve_op r_add o_add (vo_e ve_int) (vo_e (ve_callB 1 G_L_draw (hr.mono (by decide)) (vae_cons ve_int vae_nil)))))
      (vss_cons (vs_set (i := 4) nd (ve_ty r_tuple f_tuple T.n_tuple bt_tuple (va_cons (vo_e (ve_n (vn_b (cr_sortD (hu64 hr)) fn_sorted T.n_sorted bt_sorted (va_cons (vo_e (ve_slice (vo_e (ve_callB 1 G_L_mixed (hr.mono (by decide)) (vae_cons (ve_callB 1 G_L_arrows (hr.mono (by decide)) (vae_cons (ve_var 3) vae_nil)) vae_nil))) vp_no (vp_so (vo_e ve_int)))) va_nil)))) va_nil)))
      (vss_cons (vs_par (i := 6) (j := 7) rfl nd (vae_cons (ve_make G_Home (hr.mono (by decide)) (vae_cons (ve_var 3) (vae_cons (ve_var 4) vae_nil))) (vae_cons (ve_n (vn_b (cr_sortD (hu64 hr)) fn_sorted T.n_sorted bt_sorted (va_cons (vo_e (ve_n (vn_lc rfl nd (vi_seq (ve_var 4)) (blkOk_by (own := [("_law_pair", 5)]) rfl) (fun _ _ _ _ _ => (vg_name 5 nd)) (fun _ _ _ _ _ => vts_nil) (fun _ _ _ _ _ => (ve_ty r_tuple f_tuple T.n_tuple bt_tuple (va_cons (vo_e (ve_n (vn_b (cr_sortD (hu64 hr)) fn_sorted T.n_sorted bt_sorted (va_cons (vo_var 5) va_nil)))) va_nil)))))) va_nil))) vae_nil)))
      (vss_cons (vs_set (i := 8) nd (ve_call G_L_polynomial (hr.mono (by decide)) (vae_cons (ve_n (vn_lr1 rfl T.n_list T.n_range (vo_var 3))) (vae_cons (ve_var 7) vae_nil))))
      (vss_cons (vs_set (i := 9) nd (ve_n (vn_lst (vae_cons ve_int (vae_cons ve_int (vae_cons ve_int (vae_cons ve_int (vae_cons (ve_neg (vo_e ve_int)) (vae_cons (ve_neg (vo_e ve_int)) (vae_cons ve_int (vae_cons (ve_neg (vo_e ve_int)) (vae_cons (ve_op op_sub o_sub (vo_e (ve_callB 1 G_L_draw (hr.mono (by decide)) (vae_cons ve_int vae_nil))) (vo_e ve_int)) (vae_cons (ve_callB 1 G_L_draw (hr.mono (by decide)) (vae_cons ve_int vae_nil)) vae_nil)))))))))))))
      (vss_cons (vs_for [10] PassesOwn.never rfl (vi_seq (ve_var 9)) (vg_name 10 nd)
      (vss_one (vs_if (vt_not (vt_val (ve_call G_L_is (hr.mono (by decide)) (vae_cons (ve_call G_colourings (hr.mono (by decide)) (vae_cons (ve_var 6) (vae_cons (ve_var 10) vae_nil))) (vae_cons (ve_call G_L_sum (hr.mono (by decide)) (vae_cons (ve_var 8) (vae_cons (ve_var 10) vae_nil))) vae_nil)))))
      (vss_one (vs_ret ve_bl))
      vss_nil)))
      (vss_cons (vs_for [10] PassesOwn.never rfl (vi_r1 T.n_range (vo_e ve_int)) (vg_name 10 nd)
      (vss_one (vs_if (vt_cmp (op_neD (hu64 hr)) o_ne (vo_e (ve_call G_L_ways (hr.mono (by decide)) (vae_cons (ve_var 3) (vae_cons (ve_var 7) (vae_cons (ve_var 10) vae_nil))))) (vo_e (ve_call G_L_sum (hr.mono (by decide)) (vae_cons (ve_var 8) (vae_cons (ve_var 10) vae_nil)))))
      (vss_one (vs_ret ve_bl))
      vss_nil)))
      (vss_one (vs_if (vt_not (vt_val (ve_call G_L_is (hr.mono (by decide)) (vae_cons (ve_call G_many_standings (hr.mono (by decide)) (vae_cons (ve_var 6) vae_nil)) (vae_cons (ve_b call_abs f_abs T.n_abs bt_abs (va_cons (vo_e (ve_call G_L_sum (hr.mono (by decide)) (vae_cons (ve_var 8) (vae_cons (ve_neg (vo_e ve_int)) vae_nil)))) va_nil)) vae_nil)))))
      (vss_one (vs_ret ve_bl))
      vss_nil))))))))))
      (vss_one (vs_ret ve_bl))))),
    pure_law⟩)
theorem up_L_is (T : Tx K mg) : ∀ n : Nat, Fd P w K mg base (n + 1) "_law_is" ["_law_told", "_law_due"] (spC K (R_L_isN n))
  | 0 => ok0_L_is T (fun ds Q h => by cases h with | _ => first | (exact absurd (by assumption) (Nat.not_lt_zero _)) | contradiction)
  | n + 1 => ok_L_is T (up_L_is T n) (len_L_isN (n + 1)) (pure_L_isN n)
theorem fin_L_is (T : Tx K mg) : Fd P w K mg base 3 "_law_is" ["_law_told", "_law_due"] (spC K R_L_is) := up_L_is T 2
theorem up_L_polynomial (T : Tx K mg) : ∀ n : Nat, Fd P w K mg base (n + 1) "_law_polynomial" ["_law_things", "_law_ties"] (spC K (R_L_polN n))
  | 0 => ok0_L_polynomial T (fun ds Q h => by cases h with | _ => first | (exact absurd (by assumption) (Nat.not_lt_zero _)) | contradiction)
  | n + 1 => ok_L_polynomial T (up_L_polynomial T n) (len_L_polN (n + 1)) (pure_L_polN n)
theorem fin_L_polynomial (T : Tx K mg) : Fd P w K mg base 15 "_law_polynomial" ["_law_things", "_law_ties"] (spC K R_L_polynomial) := up_L_polynomial T 14
theorem law_ok (T : Tx K mg) {fd : FuncData} (F : FunD K "law" "law" (defArgs (topS 39)) (defBody (topS 39)) (defScope (topS 39)) [] [] (He.ga K "law") fd) : FnOk P w K mg base CX0 17 (He.ga K "law") fd ["_law_script"] (spL K) := by
  have G_is_integer := ok_is_integer (P := P) (w := w) (base := base) T 
  have G_is_between := ok_is_between (P := P) (w := w) (base := base) T G_is_integer
  have G_is_index := ok_is_index (P := P) (w := w) (base := base) T G_is_between
  have G_check_number := ok_check_number (P := P) (w := w) (base := base) T G_is_between
  have G_is_tuple_of := ok_is_tuple_of (P := P) (w := w) (base := base) T 
  have G_is_pair := ok_is_pair (P := P) (w := w) (base := base) T G_is_index G_is_tuple_of
  have G_are_arrows := ok_are_arrows (P := P) (w := w) (base := base) T G_is_pair
  have G_next_things := ok_next_things (P := P) (w := w) (base := base) T 
  have G_shortest_way := ok_shortest_way (P := P) (w := w) (base := base) T G_next_things
  have G_shortest_ring := ok_shortest_ring (P := P) (w := w) (base := base) T G_shortest_way
  have G_Home := ok_Home___init__ (P := P) (w := w) (base := base) T G_are_arrows G_is_between G_shortest_ring
  have G_tied_bits := ok_tied_bits (P := P) (w := w) (base := base) T 
  have G_untied_lots := ok_untied_lots (P := P) (w := w) (base := base) T G_tied_bits
  have G_parts_of := ok_parts_of (P := P) (w := w) (base := base) T 
  have G_signs_of_lots := ok_signs_of_lots (P := P) (w := w) (base := base) T 
  have G_raw_many_standings := ok_raw_many_standings (P := P) (w := w) (base := base) T G_parts_of G_signs_of_lots G_untied_lots
  have G_many_standings := ok_many_standings (P := P) (w := w) (base := base) T G_raw_many_standings
  have G_ways_to_part := ok_ways_to_part (P := P) (w := w) (base := base) T G_parts_of G_untied_lots
  have G_colourings := ok_colourings (P := P) (w := w) (base := base) T G_check_number G_ways_to_part
  have G_L_hand := ok_L_hand (P := P) (w := w) (base := base) T 
  have G_L_draw := ok_L_draw (P := P) (w := w) (base := base) T 
  have G_L_any := ok_L_any (P := P) (w := w) (base := base) T G_L_draw
  have G_L_mixed := ok_L_mixed (P := P) (w := w) (base := base) T G_L_draw
  have G_L_arrows := ok_L_arrows (P := P) (w := w) (base := base) T G_L_any G_L_draw G_L_mixed
  have G_L_is := fin_L_is (P := P) (w := w) (base := base) T
  have G_L_polynomial := fin_L_polynomial (P := P) (w := w) (base := base) T
  have G_L_sum := ok_L_sum (P := P) (w := w) (base := base) T 
  have G_L_ways := ok_L_ways (P := P) (w := w) (base := base) T 
  have G_L_great_right := ok_L_great_right (P := P) (w := w) (base := base) T G_L_arrows G_L_draw G_L_is G_L_mixed G_L_polynomial G_L_sum G_colourings G_many_standings G_Home
  exact ok_law T F G_L_arrows G_L_draw G_L_great_right G_L_hand G_L_is G_L_mixed G_L_polynomial G_L_sum G_L_ways G_colourings G_many_standings G_Home
end
def d0 : He.DefD := ⟨("is_integer", none), "is_integer", "is_integer", defArgs (topS 5), defBody (topS 5), defScope (topS 5), [], []⟩
def d1 : He.DefD := ⟨("is_between", none), "is_between", "is_between", defArgs (topS 6), defBody (topS 6), defScope (topS 6), [], []⟩
def d2 : He.DefD := ⟨("is_index", none), "is_index", "is_index", defArgs (topS 7), defBody (topS 7), defScope (topS 7), [], []⟩
def d3 : He.DefD := ⟨("check_number", none), "check_number", "check_number", defArgs (topS 8), defBody (topS 8), defScope (topS 8), [], []⟩
def d4 : He.DefD := ⟨("is_tuple_of", none), "is_tuple_of", "is_tuple_of", defArgs (topS 9), defBody (topS 9), defScope (topS 9), [], []⟩
def d5 : He.DefD := ⟨("is_pair", none), "is_pair", "is_pair", defArgs (topS 10), defBody (topS 10), defScope (topS 10), [], []⟩
def d6 : He.DefD := ⟨("are_arrows", none), "are_arrows", "are_arrows", defArgs (topS 14), defBody (topS 14), defScope (topS 14), [], []⟩
def d7 : He.DefD := ⟨("next_things", none), "next_things", "next_things", defArgs (topS 15), defBody (topS 15), defScope (topS 15), [], []⟩
def d8 : He.DefD := ⟨("shortest_way", none), "shortest_way", "shortest_way", defArgs (topS 16), defBody (topS 16), defScope (topS 16), [], []⟩
def d9 : He.DefD := ⟨("shortest_ring", none), "shortest_ring", "shortest_ring", defArgs (topS 17), defBody (topS 17), defScope (topS 17), [], []⟩
def d10 : He.DefD := ⟨("Home", some "__init__"), "__init__", "Home.__init__", defArgs (inClass (topS 13) 0), defBody (inClass (topS 13) 0), defScope (inClass (topS 13) 0), [], []⟩
def d11 : He.DefD := ⟨("tied_bits", none), "tied_bits", "tied_bits", defArgs (topS 20), defBody (topS 20), defScope (topS 20), [], []⟩
def d12 : He.DefD := ⟨("untied_lots", none), "untied_lots", "untied_lots", defArgs (topS 21), defBody (topS 21), defScope (topS 21), [], []⟩
def d13 : He.DefD := ⟨("parts_of", none), "parts_of", "parts_of", defArgs (topS 22), defBody (topS 22), defScope (topS 22), [], []⟩
def d14 : He.DefD := ⟨("signs_of_lots", none), "signs_of_lots", "signs_of_lots", defArgs (topS 23), defBody (topS 23), defScope (topS 23), [], []⟩
def d15 : He.DefD := ⟨("raw_many_standings", none), "raw_many_standings", "raw_many_standings", defArgs (topS 24), defBody (topS 24), defScope (topS 24), [], []⟩
def d16 : He.DefD := ⟨("many_standings", none), "many_standings", "many_standings", defArgs (topS 25), defBody (topS 25), defScope (topS 25), [], []⟩
def d17 : He.DefD := ⟨("ways_to_part", none), "ways_to_part", "ways_to_part", defArgs (topS 26), defBody (topS 26), defScope (topS 26), [], []⟩
def d18 : He.DefD := ⟨("colourings", none), "colourings", "colourings", defArgs (topS 27), defBody (topS 27), defScope (topS 27), [], []⟩
def d19 : He.DefD := ⟨("_law_hand", none), "_law_hand", "_law_hand", defArgs (topS 29), defBody (topS 29), defScope (topS 29), [], []⟩
def d20 : He.DefD := ⟨("_law_draw", none), "_law_draw", "_law_draw", defArgs (topS 30), defBody (topS 30), defScope (topS 30), [], []⟩
def d21 : He.DefD := ⟨("_law_any", none), "_law_any", "_law_any", defArgs (topS 31), defBody (topS 31), defScope (topS 31), [], []⟩
def d22 : He.DefD := ⟨("_law_mixed", none), "_law_mixed", "_law_mixed", defArgs (topS 32), defBody (topS 32), defScope (topS 32), [], []⟩
def d23 : He.DefD := ⟨("_law_arrows", none), "_law_arrows", "_law_arrows", defArgs (topS 33), defBody (topS 33), defScope (topS 33), [], []⟩
def d24 : He.DefD := ⟨("_law_is", none), "_law_is", "_law_is", defArgs (topS 34), defBody (topS 34), defScope (topS 34), [], []⟩
def d25 : He.DefD := ⟨("_law_polynomial", none), "_law_polynomial", "_law_polynomial", defArgs (topS 35), defBody (topS 35), defScope (topS 35), [], []⟩
def d26 : He.DefD := ⟨("_law_sum", none), "_law_sum", "_law_sum", defArgs (topS 36), defBody (topS 36), defScope (topS 36), [], []⟩
def d27 : He.DefD := ⟨("_law_ways", none), "_law_ways", "_law_ways", defArgs (topS 37), defBody (topS 37), defScope (topS 37), [], []⟩
def d28 : He.DefD := ⟨("_law_great_right", none), "_law_great_right", "_law_great_right", defArgs (topS 38), defBody (topS 38), defScope (topS 38), [], []⟩
def d29 : He.DefD := ⟨("law", none), "law", "law", defArgs (topS 39), defBody (topS 39), defScope (topS 39), [], []⟩
def fn0 : List He.DefD := [d0, d1, d2, d3, d4, d5, d6, d7, d8, d9, d10, d11, d12, d13, d14]
def fn1 : List He.DefD := [d15, d16, d17, d18, d19, d20, d21, d22, d23, d24, d25, d26, d27, d28, d29]
def fn : List He.DefD := fn0 ++ fn1
def fa0 : List He.Fa := [.cls "Home", .int "MOST_COLOURS" 1000, .int "MOST_THINGS" 10, .free "abs", .free "all", .free "bool", .free "enumerate", .free "int", .free "isinstance", .free "len", .free "list", .free "range", .free "sorted", .free "sum", .free "tuple"]
def fa1 : List He.Fa := [.free "zip", .noat "Home" "arrows", .noat "Home" "many", .glo "is_integer", .glo "is_between", .glo "is_index", .glo "check_number", .glo "is_tuple_of", .glo "is_pair", .glo "are_arrows", .glo "next_things", .glo "shortest_way", .glo "shortest_ring", .glo "Home", .mkr "Home"]
def fa2 : List He.Fa := [.glo "tied_bits", .glo "untied_lots", .glo "parts_of", .glo "signs_of_lots", .glo "raw_many_standings", .glo "many_standings", .glo "ways_to_part", .glo "colourings", .glo "_law_hand", .glo "_law_draw", .glo "_law_any", .glo "_law_mixed", .glo "_law_arrows", .glo "_law_is", .glo "_law_polynomial"]
def fa3 : List He.Fa := [.glo "_law_sum", .glo "_law_ways", .glo "_law_great_right", .glo "law"]
def fa : List He.Fa := fa0 ++ fa1 ++ fa2 ++ fa3
theorem tx_ok {K : PySem.W.Frag} {h : Heap} {mg : Str → Option Value} (X : K.In h) (G : h.Ns mainGlobals mg) (c : He.SaysD fa fn K) : Tx K mg where
  c_Home := He.cls_ok (c.fact 0 (f := .cls "Home") rfl)
  k_MOST_COLOURS := He.int_ok X G (c.fact 1 (f := .int "MOST_COLOURS" 1000) rfl)
  k_MOST_THINGS := He.int_ok X G (c.fact 2 (f := .int "MOST_THINGS" 10) rfl)
  n_abs := He.free_ok X G (c.fact 3 (f := .free "abs") rfl)
  n_all := He.free_ok X G (c.fact 4 (f := .free "all") rfl)
  n_bool := He.free_ok X G (c.fact 5 (f := .free "bool") rfl)
  n_enumerate := He.free_ok X G (c.fact 6 (f := .free "enumerate") rfl)
  n_int := He.free_ok X G (c.fact 7 (f := .free "int") rfl)
  n_isinstance := He.free_ok X G (c.fact 8 (f := .free "isinstance") rfl)
  n_len := He.free_ok X G (c.fact 9 (f := .free "len") rfl)
  n_list := He.free_ok X G (c.fact 10 (f := .free "list") rfl)
  n_range := He.free_ok X G (c.fact 11 (f := .free "range") rfl)
  n_sorted := He.free_ok X G (c.fact 12 (f := .free "sorted") rfl)
  n_sum := He.free_ok X G (c.fact 13 (f := .free "sum") rfl)
  n_tuple := He.free_ok X G (c.fact 14 (f := .free "tuple") rfl)
  n_zip := He.free_ok X G (c.fact 15 (f := .free "zip") rfl)
  a_Home_arrows := He.noat_ok (c.fact 16 (f := .noat "Home" "arrows") rfl)
  a_Home_many := He.noat_ok (c.fact 17 (f := .noat "Home" "many") rfl)
  f_is_integer := c.def_ 0 (d := d0) rfl
  g_is_integer := He.glo_ok X G (c.fact 18 (f := .glo "is_integer") rfl)
  f_is_between := c.def_ 1 (d := d1) rfl
  g_is_between := He.glo_ok X G (c.fact 19 (f := .glo "is_between") rfl)
  f_is_index := c.def_ 2 (d := d2) rfl
  g_is_index := He.glo_ok X G (c.fact 20 (f := .glo "is_index") rfl)
  f_check_number := c.def_ 3 (d := d3) rfl
  g_check_number := He.glo_ok X G (c.fact 21 (f := .glo "check_number") rfl)
  f_is_tuple_of := c.def_ 4 (d := d4) rfl
  g_is_tuple_of := He.glo_ok X G (c.fact 22 (f := .glo "is_tuple_of") rfl)
  f_is_pair := c.def_ 5 (d := d5) rfl
  g_is_pair := He.glo_ok X G (c.fact 23 (f := .glo "is_pair") rfl)
  f_are_arrows := c.def_ 6 (d := d6) rfl
  g_are_arrows := He.glo_ok X G (c.fact 24 (f := .glo "are_arrows") rfl)
  f_next_things := c.def_ 7 (d := d7) rfl
  g_next_things := He.glo_ok X G (c.fact 25 (f := .glo "next_things") rfl)
  f_shortest_way := c.def_ 8 (d := d8) rfl
  g_shortest_way := He.glo_ok X G (c.fact 26 (f := .glo "shortest_way") rfl)
  f_shortest_ring := c.def_ 9 (d := d9) rfl
  g_shortest_ring := He.glo_ok X G (c.fact 27 (f := .glo "shortest_ring") rfl)
  f_Home___init__ := c.def_ 10 (d := d10) rfl
  g_Home := He.glo_ok X G (c.fact 28 (f := .glo "Home") rfl)
  m_Home := He.mkr_ok (c.fact 29 (f := .mkr "Home") rfl)
  f_tied_bits := c.def_ 11 (d := d11) rfl
  g_tied_bits := He.glo_ok X G (c.fact 30 (f := .glo "tied_bits") rfl)
  f_untied_lots := c.def_ 12 (d := d12) rfl
  g_untied_lots := He.glo_ok X G (c.fact 31 (f := .glo "untied_lots") rfl)
  f_parts_of := c.def_ 13 (d := d13) rfl
  g_parts_of := He.glo_ok X G (c.fact 32 (f := .glo "parts_of") rfl)
  f_signs_of_lots := c.def_ 14 (d := d14) rfl
  g_signs_of_lots := He.glo_ok X G (c.fact 33 (f := .glo "signs_of_lots") rfl)
  f_raw_many_standings := c.def_ 15 (d := d15) rfl
  g_raw_many_standings := He.glo_ok X G (c.fact 34 (f := .glo "raw_many_standings") rfl)
  f_many_standings := c.def_ 16 (d := d16) rfl
  g_many_standings := He.glo_ok X G (c.fact 35 (f := .glo "many_standings") rfl)
  f_ways_to_part := c.def_ 17 (d := d17) rfl
  g_ways_to_part := He.glo_ok X G (c.fact 36 (f := .glo "ways_to_part") rfl)
  f_colourings := c.def_ 18 (d := d18) rfl
  g_colourings := He.glo_ok X G (c.fact 37 (f := .glo "colourings") rfl)
  f_L_hand := c.def_ 19 (d := d19) rfl
  g_L_hand := He.glo_ok X G (c.fact 38 (f := .glo "_law_hand") rfl)
  f_L_draw := c.def_ 20 (d := d20) rfl
  g_L_draw := He.glo_ok X G (c.fact 39 (f := .glo "_law_draw") rfl)
  f_L_any := c.def_ 21 (d := d21) rfl
  g_L_any := He.glo_ok X G (c.fact 40 (f := .glo "_law_any") rfl)
  f_L_mixed := c.def_ 22 (d := d22) rfl
  g_L_mixed := He.glo_ok X G (c.fact 41 (f := .glo "_law_mixed") rfl)
  f_L_arrows := c.def_ 23 (d := d23) rfl
  g_L_arrows := He.glo_ok X G (c.fact 42 (f := .glo "_law_arrows") rfl)
  f_L_is := c.def_ 24 (d := d24) rfl
  g_L_is := He.glo_ok X G (c.fact 43 (f := .glo "_law_is") rfl)
  f_L_polynomial := c.def_ 25 (d := d25) rfl
  g_L_polynomial := He.glo_ok X G (c.fact 44 (f := .glo "_law_polynomial") rfl)
  f_L_sum := c.def_ 26 (d := d26) rfl
  g_L_sum := He.glo_ok X G (c.fact 45 (f := .glo "_law_sum") rfl)
  f_L_ways := c.def_ 27 (d := d27) rfl
  g_L_ways := He.glo_ok X G (c.fact 46 (f := .glo "_law_ways") rfl)
  f_L_great_right := c.def_ 28 (d := d28) rfl
  g_L_great_right := He.glo_ok X G (c.fact 47 (f := .glo "_law_great_right") rfl)
  f_law := c.def_ 29 (d := d29) rfl
  g_law := He.glo_ok X G (c.fact 48 (f := .glo "law") rfl)
def l0 : List Str := ["TurnError", "NoNumber", "BadHome", "is_integer", "is_between", "is_index", "check_number", "is_tuple_of", "is_pair", "MOST_THINGS", "Home", "are_arrows"]
def l1 : List Str := ["next_things", "shortest_way", "shortest_ring", "MOST_COLOURS", "tied_bits", "untied_lots", "parts_of", "signs_of_lots", "raw_many_standings", "many_standings", "ways_to_part", "colourings"]
def l2 : List Str := ["_law_hand", "_law_draw", "_law_any", "_law_mixed", "_law_arrows", "_law_is", "_law_polynomial", "_law_sum", "_law_ways", "_law_great_right"]
def loose : List Str := l0 ++ l1 ++ l2
abbrev Rw : PySem.W.OpenRow := PySem.W.OpenLaw.row PySem.Challenge.rw_turnedapart_k44_whole_colourings
abbrev hk : PySem.W.Hook := He.hookD 4 fa fn
def ob (s : PySem.W.SharedT) : He.AlD := He.obsDG 4 fa fn (HandSHeadRun.getT s)
theorem ob_eq (s : PySem.W.SharedT) : ob s = hk.obs s.abs := He.obsDG_eq (HandSHeadRun.getT_eq s)
theorem run (w : World) : HandSHeadRun.RunEq Rw (PySem.W.view Rw.prog [39]) hk ob 4000 loose w := by
  intro os
  kernel_rfl
theorem facts {P : Program} {w : World} {K : PySem.W.Frag} {h : Heap} {mg : Str → Option Value} {f : Addr} (X : K.In h) (G : h.Ns mainGlobals mg) (hfa : mg ("law" : Str) = some (.ref f)) (c : He.SaysD fa fn K) :
    ∃ fd : FuncData, (∀ (s : Shared) (v : Value), BindsTo s fd ⟨[v], []⟩ [("_law_script", v)]) ∧ ∀ base : Heap, K.In base → base.Ns mainGlobals mg → FnOk P w K mg base CX0 17 f fd ["_law_script"] (spL K) := by
  have T := tx_ok X G c
  obtain ⟨fd, F⟩ := T.f_law
  have e := hfa.symm.trans T.g_law
  cases e
  have b := FunD.bindsA (ps := ["_law_script"]) F fun _ _ _ _ _ _ us hl => match us, hl with | [_], _ => rfl
  exact ⟨fd, fun s v => b s [v] rfl, fun base _ _ => law_ok T F⟩
end TA
open PySem PySem.W PySem.Calls PyProof.Rows
set_option maxRecDepth 100000 in
set_option maxHeartbeats 0 in
theorem PySem.Challenge.cw_turnedapart_k44_whole_colourings_holds : PySem.Challenge.rw_turnedapart_k44_whole_colourings.Holds := by
  w_on; o_law
  refine HandSHeadRun.head_any (r := OpenLaw.row PySem.Challenge.rw_turnedapart_k44_whole_colourings) (q := view (OpenLaw.row PySem.Challenge.rw_turnedapart_k44_whole_colourings).prog [39]) (H := TA.hk) (ob := TA.ob) (M := 4000) (loose := TA.loose) (d := HandSHeadRun.topDef (OpenLaw.row PySem.Challenge.rw_turnedapart_k44_whole_colourings).prog 39) (kwd := []) TA.ob_eq
    (by kernel_rfl) (fun s => by kernel_rfl) TA.run (by kernel_rfl) (by kernel_rfl) (by kernel_rfl) (by rfl) (by first | assumption | decide +kernel) (by decide +kernel) ⟨rfl, rfl, rfl, rfl, rfl, by decide +kernel⟩ ?hw ?hc
  case hw => w_witness2
  case hc =>
    refine L2.walk_ofE (l := PySem.Challenge.rw_turnedapart_k44_whole_colourings) (n := 63) (k := 17) (x := "_law_script") (CX := L2.CX0) rfl (by decide) (by kernel_rfl) ⟨rfl, by decide, by decide⟩ ?F (fun _ _ _ _ z => z)
    intro w mg fa h Y G hmg0
    obtain ⟨K, KX, c⟩ := Y
    have hmg : mg ("law" : PySem.Str) = some (.ref fa) := by
      have e : (HandSHeadRun.topDef (OpenLaw.row PySem.Challenge.rw_turnedapart_k44_whole_colourings).prog 39).name = ("law" : PySem.Str) := by kernel_rfl
      rw [← e]
      exact hmg0
    obtain ⟨fd, hb, hF⟩ := TA.facts (P := (PySem.Challenge.rw_turnedapart_k44_whole_colourings).prog) (w := w) KX G hmg c
    exact ⟨K, fd, CL.spL K, KX, hb, fun H a ns hl _ hS => CL.spL_start hl hS fun _ => rfl, hF⟩
