import PyProof.Rows.All
import Wide.All
import OpenK.AllK
import Wide.FinOn
import HandS.ForMost
import HandS.Wide
import HandS.Gcd
import HandS.Flow
import HandS.WordsExc
import HandS.ExcOwn
import HandS.Conv
import HandS.Zip
import KE.KMathGC
import HandS.Deep
import HandS.IsInst
import HandS.Defaults
import HandS.HeadEnd
import HandS.EndBits
import HandS.HeadHook1
import HandS.HeadHook2
import KE.HD3
import PySem.Challenge.RW_whattwosettle_k88_stretches_that_share_a
set_option Elab.async false
set_option linter.all false
set_option maxRecDepth 100000
namespace Ev
open PySem PySem.Spec PyProof.Rows L2

/-! ### data as trees -/
inductive D where
  | non | bl (b : Bool) | int (i : Int) | str (s : Str)
  | tup (xs : List D) | lst (xs : List D)
  /-- a list that is read only (the script) -/
  | ro (xs : List D)
  | obj (C : Str) (ns : List Str) (vs : List D)
  deriving Inhabited

mutual
/-- v stands for d, by what is frozen in F -/
inductive Is (K : PySem.W.Frag) (mg : Str → Option Value) (F : Hp) : V → D → Prop
  | non : Is K mg F .non .non
  | bl (b : Bool) : Is K mg F (.bl b) (.bl b)
  | int (i : Int) : Is K mg F (.int i) (.int i)
  | str (x : Str) : Is K mg F (.str x) (.str x)
  | tup {a : Addr} {vs : List V} {ds : List D} : SqT K F a vs → IsAll K mg F vs ds → Is K mg F (.ref a) (.tup ds)
  | lst {a : Addr} {vs : List V} {ds : List D} : Rd F a (.lst vs) → IsAll K mg F vs ds → Is K mg F (.ref a) (.lst ds)
  | ro {a : Addr} {vs : List V} {ds : List D} : SqL K F a vs → IsAll K mg F vs ds → Is K mg F (.ref a) (.ro ds)
  | obj {a A dx : Addr} {C : Str} {ns : List Str} {vs : List V} {ds : List D} : mg C = some (.ref A) → F a = some (.ins A dx (ns.zip vs)) → F dx = some (.own a) → ns.length = vs.length →
      IsAll K mg F vs ds → Is K mg F (.ref a) (.obj C ns ds)
inductive IsAll (K : PySem.W.Frag) (mg : Str → Option Value) (F : Hp) : List V → List D → Prop
  | nil : IsAll K mg F [] []
  | cons {v : V} {vs : List V} {d : D} {ds : List D} : Is K mg F v d → IsAll K mg F vs ds → IsAll K mg F (v :: vs) (d :: ds)
end

section
variable {K : PySem.W.Frag} {mg : Str → Option Value} {F F' : Hp}
theorem Same.rd {H H' : Hp} {a : Addr} {o : HO} (e : Same H H') (h : Rd H a o) : Rd H' a o := by
  rcases h with h | ⟨o, h⟩
  · exact .inl (e _ _ h)
  · exact .inr ⟨o, e _ _ h⟩
theorem Same.seqT {H H' : Hp} {a : Addr} {xs : List V} (e : Same H H') (h : SqT K H a xs) : SqT K H' a xs := by
  rcases h with (h | ⟨o, h⟩) | h
  · exact .inl (.inl (e _ _ h))
  · exact .inl (.inr ⟨o, e _ _ h⟩)
  · exact .inr h
mutual
theorem Is.mono (s : Same F F') : ∀ {v : V} {d : D}, Is K mg F v d → Is K mg F' v d
  | _, _, .non => .non
  | _, _, .bl b => .bl b
  | _, _, .int i => .int i
  | _, _, .str x => .str x
  | _, _, .tup h r => .tup (Same.seqT s h) (IsAll.mono s r)
  | _, _, .lst h r => .lst (Same.rd s h) (IsAll.mono s r)
  | _, _, .ro h r => .ro (L2.Same.seq s h) (IsAll.mono s r)
  | _, _, .obj c h1 h2 l r => .obj c (s _ _ h1) (s _ _ h2) l (IsAll.mono s r)
theorem IsAll.mono (s : Same F F') : ∀ {vs : List V} {ds : List D}, IsAll K mg F vs ds → IsAll K mg F' vs ds
  | _, _, .nil => .nil
  | _, _, .cons h r => .cons (Is.mono s h) (IsAll.mono s r)
end
theorem IsAll.length : ∀ {vs : List V} {ds : List D}, IsAll K mg F vs ds → vs.length = ds.length
  | _, _, .nil => rfl
  | _, _, .cons _ r => congrArg (· + 1) (IsAll.length r)
theorem IsAll.get : ∀ {vs : List V} {ds : List D} {i : Nat} {d : D}, IsAll K mg F vs ds → ds[i]? = some d → ∃ v, vs[i]? = some v ∧ Is K mg F v d
  | _, _, _, _, .nil, e => by simp at e
  | _, _, 0, _, .cons h _, e => by simp at e; subst e; exact ⟨_, rfl, h⟩
  | _, _, i + 1, _, .cons _ r, e => by
    obtain ⟨v, h1, h2⟩ := IsAll.get (i := i) r (by simpa using e)
    exact ⟨v, by simpa using h1, h2⟩
theorem IsAll.getV : ∀ {vs : List V} {ds : List D} {i : Nat} {v : V}, IsAll K mg F vs ds → vs[i]? = some v → ∃ d, ds[i]? = some d ∧ Is K mg F v d
  | _, _, _, _, .nil, e => by simp at e
  | _, _, 0, _, .cons h _, e => by simp at e; subst e; exact ⟨_, rfl, h⟩
  | _, _, i + 1, _, .cons _ r, e => by
    obtain ⟨v, h1, h2⟩ := IsAll.getV (i := i) r (by simpa using e)
    exact ⟨v, by simpa using h1, h2⟩
theorem IsAll.append : ∀ {vs ws : List V} {ds es : List D}, IsAll K mg F vs ds → IsAll K mg F ws es → IsAll K mg F (vs ++ ws) (ds ++ es)
  | _, _, _, _, .nil, s => s
  | _, _, _, _, .cons h r, s => .cons h (IsAll.append r s)
theorem IsAll.take : ∀ {vs : List V} {ds : List D} (n : Nat), IsAll K mg F vs ds → IsAll K mg F (vs.take n) (ds.take n)
  | _, _, 0, _ => .nil
  | _, _, _ + 1, .nil => .nil
  | _, _, n + 1, .cons h r => .cons h (IsAll.take n r)
theorem IsAll.drop : ∀ {vs : List V} {ds : List D} (n : Nat), IsAll K mg F vs ds → IsAll K mg F (vs.drop n) (ds.drop n)
  | _, _, 0, r => r
  | _, _, _ + 1, .nil => .nil
  | _, _, n + 1, .cons _ r => IsAll.drop n r
theorem IsAll.set : ∀ {vs : List V} {ds : List D} {v : V} {d : D} (i : Nat), IsAll K mg F vs ds → Is K mg F v d → IsAll K mg F (vs.set i v) (ds.set i d)
  | _, _, _, _, _, .nil, _ => .nil
  | _, _, _, _, 0, .cons _ r, q => .cons q r
  | _, _, _, _, i + 1, .cons h r, q => .cons h (IsAll.set i r q)
theorem IsAll.ints : ∀ ns : List Int, IsAll K mg F (ns.map V.int) (ns.map D.int)
  | [] => .nil
  | n :: ns => .cons (.int n) (IsAll.ints ns)
theorem IsAll.dropLast : ∀ {vs : List V} {ds : List D}, IsAll K mg F vs ds → IsAll K mg F vs.dropLast ds.dropLast
  | _, _, .nil => .nil
  | _, _, .cons _ .nil => .nil
  | _, _, .cons h (.cons h2 r) => .cons h (IsAll.dropLast (.cons h2 r))
end

/-! ### equality -/
mutual
def D.py : D → PyData
  | .non => .none
  | .bl b => .bool b
  | .int i => .int i
  | .str s => .str s
  | .tup xs => .tuple (D.pyAll xs)
  | .lst xs => .list (D.pyAll xs)
  | .ro _ => .none
  | .obj _ _ _ => .none
def D.pyAll : List D → List PyData
  | [] => []
  | x :: xs => D.py x :: D.pyAll xs
end
mutual
/-- plain data of at most that depth -/
def D.plain : Nat → D → Bool
  | _, .non => true
  | _, .bl _ => true
  | _, .int _ => true
  | _, .str s => PyData.strOk s
  | 0, .tup _ => false
  | 0, .lst _ => false
  | n + 1, .tup xs => D.plainAll n xs
  | n + 1, .lst xs => D.plainAll n xs
  | _, .ro _ => false
  | _, .obj _ _ _ => false
def D.plainAll : Nat → List D → Bool
  | _, [] => true
  | n, x :: xs => D.plain n x && D.plainAll n xs
end
section
variable {K : PySem.W.Frag} {mg : Str → Option Value} {F F' : Hp}
mutual
theorem Is.dp : ∀ {n : Nat} {v : V} {d : D}, Is K mg F v d → d.plain n = true → Dp K F v d.py
  | _, _, _, .non, _ => .non
  | _, _, _, .bl b, _ => .bl b
  | _, _, _, .int i, _ => .int i
  | _, _, _, .str x, _ => .str x
  | 0, _, _, .tup _ _, h => by simp [D.plain] at h
  | n + 1, _, _, .tup h r, p => .tup h (IsAll.dp (n := n) r (by simpa [D.plain] using p))
  | 0, _, _, .lst _ _, h => by simp [D.plain] at h
  | n + 1, _, _, .lst h r, p => .lst (.inl h) (IsAll.dp (n := n) r (by simpa [D.plain] using p))
  | n, _, _, .ro _ _, p => by cases n <;> simp [D.plain] at p
  | n, _, _, .obj _ _ _ _ _, p => by cases n <;> simp [D.plain] at p
theorem IsAll.dp : ∀ {n : Nat} {vs : List V} {ds : List D}, IsAll K mg F vs ds → D.plainAll n ds = true → DpAll K F vs (D.pyAll ds)
  | _, _, _, .nil, _ => .nil
  | n, _, _, .cons h r, p => by
    simp only [D.plainAll, Bool.and_eq_true] at p
    exact .cons (Is.dp (n := n) h p.1) (IsAll.dp (n := n) r p.2)
end
end
mutual
theorem D.plain_lay : ∀ (n : Nat) (d : D), d.plain n = true → PyData.canLay0 d.py = true ∧ d.py.depth ≤ n
  | _, .non, _ => by simp [D.py, PyData.canLay0, PyData.depth]
  | _, .bl _, _ => by simp [D.py, PyData.canLay0, PyData.depth]
  | _, .int _, _ => by simp [D.py, PyData.canLay0, PyData.depth]
  | n, .str s, h => by
    have h' : PyData.strOk s = true := by cases n <;> simpa [D.plain] using h
    simp [D.py, PyData.canLay0, PyData.depth, h']
  | 0, .tup _, h => by simp [D.plain] at h
  | n + 1, .tup xs, h => by
    have := D.plainAll_lay n xs (by simpa [D.plain] using h)
    simp only [D.py, PyData.canLay0, PyData.depth]
    exact ⟨this.1, by have := this.2; omega⟩
  | 0, .lst _, h => by simp [D.plain] at h
  | n + 1, .lst xs, h => by
    have := D.plainAll_lay n xs (by simpa [D.plain] using h)
    simp only [D.py, PyData.canLay0, PyData.depth]
    exact ⟨this.1, by have := this.2; omega⟩
  | n, .ro _, h => by cases n <;> simp [D.plain] at h
  | n, .obj _ _ _, h => by cases n <;> simp [D.plain] at h
theorem D.plainAll_lay : ∀ (n : Nat) (ds : List D), D.plainAll n ds = true → PyData.canLayAll0 (D.pyAll ds) = true ∧ PyData.depthAll (D.pyAll ds) ≤ n
  | _, [], _ => by simp [D.pyAll, PyData.canLayAll0, PyData.depthAll]
  | n, x :: xs, h => by
    simp only [D.plainAll, Bool.and_eq_true] at h
    have h1 := D.plain_lay n x h.1
    have h2 := D.plainAll_lay n xs h.2
    simp only [D.pyAll, PyData.canLayAll0, PyData.depthAll, Bool.and_eq_true]
    exact ⟨⟨h1.1, h2.1⟩, by have := h1.2; have := h2.2; omega⟩
end
theorem D.plain_shaped {d : D} (h : d.plain 60 = true) : SeqAt.shaped d.py = true := by
  have := D.plain_lay 60 d h
  unfold SeqAt.shaped
  rw [this.1, decide_eq_true (by have := this.2; omega : d.py.depth ≤ 64)]
  rfl

/-! ### slots -/
inductive Sl where
  /-- frozen data -/
  | val (d : D)
  /-- a list of one's own -/
  | own (ds : List D)
  /-- a list of somebody else's, lent -/
  | bor (ds : List D)
  deriving Inhabited
abbrev En := List (Option Sl)
structure Exn where
  cls : Str
  args : List D
inductive R (α : Type) where
  | ok (a : α)
  | exc (x : Exn) (e : En)
  | bad
def R.bind {α β : Type} (x : R α) (f : α → R β) : R β := match x with
  | .ok a => f a
  | .exc x e => .exc x e
  | .bad => .bad
@[simp] theorem R.bind_ok {α β : Type} (a : α) (f : α → R β) : R.bind (.ok a) f = f a := rfl
@[simp] theorem R.bind_bad {α β : Type} (f : α → R β) : R.bind (.bad : R α) f = .bad := rfl
@[simp] theorem R.bind_exc {α β : Type} (x : Exn) (e : En) (f : α → R β) : R.bind (.exc x e : R α) f = .exc x e := rfl

def lk : En → Nat → Option Sl
  | [], _ => none
  | s :: _, 0 => s
  | _ :: r, i + 1 => lk r i
def sv : En → Nat → Option Sl → En
  | [], _, _ => []
  | _ :: r, 0, x => x :: r
  | s :: r, i + 1, x => s :: sv r i x
theorem lk_eq : ∀ (e : En) (i : Nat), lk e i = (e[i]?).join
  | [], i => by simp [lk]
  | s :: r, 0 => by simp [lk]
  | s :: r, i + 1 => by simp [lk, lk_eq r i]
theorem sv_eq : ∀ (e : En) (i : Nat) (x : Option Sl), sv e i x = e.set i x
  | [], i, _ => by simp [sv]
  | s :: r, 0, _ => by simp [sv]
  | s :: r, i + 1, _ => by simp [sv, sv_eq r i]
theorem sv_length (e : En) (i : Nat) (x : Option Sl) : (sv e i x).length = e.length := by rw [sv_eq, List.length_set]
theorem lk_sv {e : En} {i j : Nat} {x : Option Sl} (h : i < e.length) : lk (sv e i x) j = if j = i then x else lk e j := by
  rw [lk_eq, sv_eq, lk_eq]
  by_cases q : j = i
  · subst q; rw [List.getElem?_set_self h, if_pos rfl]; rfl
  · rw [List.getElem?_set_ne (Ne.symm q), if_neg q]
theorem lk_lt {e : En} {i : Nat} {s : Sl} (h : lk e i = some s) : i < e.length := by
  rw [lk_eq] at h
  by_cases q : i < e.length
  · exact q
  · rw [List.getElem?_eq_none (by omega)] at h; cases h

section
variable (K : PySem.W.Frag) (mg : Str → Option Value)
/-- what a slot's value is -/
def SlIs (H₀ F H : Hp) : Sl → V → Prop
  | .val d, v => Is K mg F v d
  | .own ds, v => ∃ p vs, v = .ref p ∧ H₀ p = none ∧ F p = none ∧ H p = some (.lst vs) ∧ IsAll K mg F vs ds
  | .bor ds, v => ∃ p vs, v = .ref p ∧ Rd H₀ p (.lst vs) ∧ IsAll K mg F vs ds
/-- the frame's slots and the heap: H₀ is what must stay, F what is frozen -/
structure Rep (H₀ F : Hp) (env : En) (σ : L2.St) (H : Hp) : Prop where
  h0 : Same H₀ H
  hf : Same F H
  len : env.length = σ.length
  sl : ∀ i s, lk env i = some s → ∃ v, σ[i]? = some (some v) ∧ SlIs K mg H₀ F H s v
  dis : ∀ i j ds es p, lk env i = some (.own ds) → lk env j = some (.own es) → σ[i]? = some (some (.ref p)) → σ[j]? = some (some (.ref p)) → i = j
/-- F' has more than F, but nothing of H₀ -/
def Grow (H₀ F F' : Hp) : Prop := Same F F' ∧ ∀ b, H₀ b ≠ none → F b = none → F' b = none
end
section
variable {K : PySem.W.Frag} {mg : Str → Option Value} {H₀ F F' F'' H H' : Hp} {env : En} {σ : L2.St}
theorem Grow.refl : Grow H₀ F F := ⟨Same.refl _, fun _ _ h => h⟩
theorem Grow.trans (a : Grow H₀ F F') (b : Grow H₀ F' F'') : Grow H₀ F F'' := ⟨a.1.trans b.1, fun c h n => b.2 c h (a.2 c h n)⟩
/-- a new object, frozen -/
theorem Rep.alloc (R : Rep K mg H₀ F env σ H) {p : Addr} {o : HO} (hp : H p = none) : Grow H₀ F (upd F p o) ∧ Rep K mg H₀ (upd F p o) env σ (upd H p o) := by
  have fp : F p = none := R.hf.free hp
  have zp : H₀ p = none := R.h0.free hp
  have sF : Same F (upd F p o) := fun b x e => by rw [upd_ne (ne_of_none e fp)]; exact e
  have sH : Same H (upd H p o) := fun b x e => by rw [upd_ne (ne_of_none e hp)]; exact e
  refine ⟨⟨sF, fun b h n => by rw [upd_ne (fun z => by subst z; exact h zp)]; exact n⟩, ⟨R.h0.trans sH, fun b x e => ?_, R.len, fun i s e => ?_, R.dis⟩⟩
  · by_cases q : b = p
    · subst q; rw [upd_same] at e ⊢; exact e
    · rw [upd_ne q] at e; rw [upd_ne q]; exact R.hf _ _ e
  · obtain ⟨v, h1, h2⟩ := R.sl i s e
    refine ⟨v, h1, ?_⟩
    cases s with
    | val d => exact Is.mono sF h2
    | own ds =>
      obtain ⟨q, vs, rfl, a, b, c, d⟩ := h2
      have qp : q ≠ p := fun z => by subst z; rw [hp] at c; cases c
      exact ⟨q, vs, rfl, a, by rw [upd_ne qp]; exact b, sH _ _ c, IsAll.mono sF d⟩
    | bor ds =>
      obtain ⟨q, vs, rfl, a, d⟩ := h2
      exact ⟨q, vs, rfl, a, IsAll.mono sF d⟩
/-- a new list of one's own, not in a slot yet -/
theorem Rep.allocOwn (R : Rep K mg H₀ F env σ H) {p : Addr} {o : HO} (hp : H p = none) : Rep K mg H₀ F env σ (upd H p o) := by
  have fp : F p = none := R.hf.free hp
  have sH : Same H (upd H p o) := fun b x e => by rw [upd_ne (ne_of_none e hp)]; exact e
  refine ⟨R.h0.trans sH, R.hf.trans sH, R.len, fun i s e => ?_, R.dis⟩
  obtain ⟨v, h1, h2⟩ := R.sl i s e
  refine ⟨v, h1, ?_⟩
  cases s with
  | val d => exact h2
  | own ds =>
    obtain ⟨q, vs, rfl, a, b, c, d⟩ := h2
    exact ⟨q, vs, rfl, a, b, sH _ _ c, d⟩
  | bor ds => exact h2
/-- a list of one's own is frozen in its slot -/
theorem Rep.freeze (R : Rep K mg H₀ F env σ H) {i : Nat} {ds : List D} (e : lk env i = some (.own ds)) :
    ∃ p vs, σ[i]? = some (some (.ref p)) ∧ Grow H₀ F (upd F p (.lst vs)) ∧ Rep K mg H₀ (upd F p (.lst vs)) (sv env i (some (.val (.lst ds)))) σ H ∧ Is K mg (upd F p (.lst vs)) (.ref p) (.lst ds) := by
  obtain ⟨v, h1, p, vs, rfl, zp, fp, hp, all⟩ := R.sl i _ e
  have sF : Same F (upd F p (.lst vs)) := fun b x e => by rw [upd_ne (ne_of_none e fp)]; exact e
  have hl := lk_lt e
  have isp : Is K mg (upd F p (.lst vs)) (.ref p) (.lst ds) := .lst (Rd.of upd_same) (IsAll.mono sF all)
  refine ⟨p, vs, h1, ⟨sF, fun b h n => by rw [upd_ne (fun z => by subst z; exact h zp)]; exact n⟩, ⟨R.h0, fun b x e => ?_, by rw [sv_length]; exact R.len, fun j s e' => ?_, fun j k ds' es q a b c d => ?_⟩, isp⟩
  · by_cases q : b = p
    · subst q; rw [upd_same] at e; cases e; exact hp
    · rw [upd_ne q] at e; exact R.hf _ _ e
  · rw [lk_sv hl] at e'
    split at e'
    · next z => subst z; cases e'; exact ⟨_, h1, isp⟩
    · next z =>
      obtain ⟨w, g1, g2⟩ := R.sl j s e'
      refine ⟨w, g1, ?_⟩
      cases s with
      | val d => exact Is.mono sF g2
      | own es =>
        obtain ⟨q, ws, rfl, a, b, c, d⟩ := g2
        have qp : q ≠ p := fun y => by subst y; exact z (R.dis j i _ _ q e' e g1 h1)
        exact ⟨q, ws, rfl, a, by rw [upd_ne qp]; exact b, c, IsAll.mono sF d⟩
      | bor es =>
        obtain ⟨q, ws, rfl, a, d⟩ := g2
        exact ⟨q, ws, rfl, a, IsAll.mono sF d⟩
  · rw [lk_sv hl] at a b
    split at a
    · cases a
    · split at b
      · cases b
      · exact R.dis j k _ _ q a b c d
/-- a slot is stored: frozen data -/
theorem Rep.setVal (R : Rep K mg H₀ F env σ H) {i : Nat} {v : V} {d : D} (h : Is K mg F v d) : Rep K mg H₀ F (sv env i (some (.val d))) (σ.set i (some v)) H := by
  refine ⟨R.h0, R.hf, by rw [sv_length, List.length_set]; exact R.len, fun j s e => ?_, fun j k ds es p a b c d' => ?_⟩
  · have hi : j < (sv env i (some (.val d))).length := lk_lt e
    rw [sv_length] at hi
    by_cases q : i < env.length
    · rw [lk_sv q] at e
      split at e
      · next z => subst z; cases e; exact ⟨v, by rw [List.getElem?_set_self (by rw [← R.len]; exact q)], h⟩
      · next z => rw [List.getElem?_set_ne (fun y => z y.symm)]; exact R.sl j s e
    · rw [sv_eq, List.set_eq_of_length_le (by omega)] at e
      rw [List.set_eq_of_length_le (by rw [← R.len]; omega)]
      exact R.sl j s e
  · by_cases q : i < env.length
    · rw [lk_sv q] at a b
      split at a
      · cases a
      · split at b
        · cases b
        · next z1 z2 =>
          rw [List.getElem?_set_ne (fun y => z1 y.symm)] at c
          rw [List.getElem?_set_ne (fun y => z2 y.symm)] at d'
          exact R.dis j k _ _ p a b c d'
    · rw [sv_eq, List.set_eq_of_length_le (by omega)] at a b
      rw [List.set_eq_of_length_le (by rw [← R.len]; omega)] at c d'
      exact R.dis j k _ _ p a b c d'
/-- .. a new list of one's own -/
theorem Rep.setOwn (R : Rep K mg H₀ F env σ H) {i : Nat} {p : Addr} {vs : List V} {ds : List D} (zp : H₀ p = none) (fp : F p = none) (hp : H p = some (.lst vs)) (all : IsAll K mg F vs ds)
    (new : ∀ j es, lk env j = some (.own es) → σ[j]? = some (some (.ref p)) → False) : Rep K mg H₀ F (sv env i (some (.own ds))) (σ.set i (some (.ref p))) H := by
  refine ⟨R.h0, R.hf, by rw [sv_length, List.length_set]; exact R.len, fun j s e => ?_, fun j k ds' es q a b c d' => ?_⟩
  · by_cases q : i < env.length
    · rw [lk_sv q] at e
      split at e
      · next z => subst z; cases e; exact ⟨.ref p, by rw [List.getElem?_set_self (by rw [← R.len]; exact q)], p, vs, rfl, zp, fp, hp, all⟩
      · next z => rw [List.getElem?_set_ne (fun y => z y.symm)]; exact R.sl j s e
    · rw [sv_eq, List.set_eq_of_length_le (by omega)] at e
      rw [List.set_eq_of_length_le (by rw [← R.len]; omega)]
      exact R.sl j s e
  · by_cases q' : i < env.length
    · have ql : i < σ.length := by rw [← R.len]; exact q'
      rw [lk_sv q'] at a b
      by_cases ji : j = i
      · by_cases ki : k = i
        · rw [ji, ki]
        · rw [if_neg ki] at b
          subst ji
          rw [List.getElem?_set_self ql] at c
          rw [List.getElem?_set_ne (fun y => ki y.symm)] at d'
          cases c
          exact (new k _ b d').elim
      · rw [if_neg ji] at a
        rw [List.getElem?_set_ne (fun y => ji y.symm)] at c
        by_cases ki : k = i
        · subst ki
          rw [List.getElem?_set_self ql] at d'
          cases d'
          exact (new j _ a c).elim
        · rw [if_neg ki] at b
          rw [List.getElem?_set_ne (fun y => ki y.symm)] at d'
          exact R.dis j k _ _ q a b c d'
    · rw [sv_eq, List.set_eq_of_length_le (by omega)] at a b
      rw [List.set_eq_of_length_le (by rw [← R.len]; omega)] at c d'
      exact R.dis j k _ _ q a b c d'
/-- a list of one's own is changed -/
theorem Rep.write (R : Rep K mg H₀ F env σ H) {i : Nat} {p : Addr} {ds ds' : List D} {vs' : List V} (e : lk env i = some (.own ds)) (hv : σ[i]? = some (some (.ref p))) (all : IsAll K mg F vs' ds') :
    Rep K mg H₀ F (sv env i (some (.own ds'))) σ (upd H p (.lst vs')) := by
  obtain ⟨v, h1, p', vs, rfl, zp, fp, hp, _⟩ := R.sl i _ e
  rw [hv] at h1; cases h1
  have hl := lk_lt e
  refine ⟨fun b x q => by rw [upd_ne (fun z => by subst z; rw [zp] at q; cases q)]; exact R.h0 _ _ q, fun b x q => by rw [upd_ne (fun z => by subst z; rw [fp] at q; cases q)]; exact R.hf _ _ q, by rw [sv_length]; exact R.len, fun j s e' => ?_, fun j k es es' q a b c d => ?_⟩
  · rw [lk_sv hl] at e'
    split at e'
    · next z => subst z; cases e'; exact ⟨_, hv, p, vs', rfl, zp, fp, upd_same, all⟩
    · next z =>
      obtain ⟨w, g1, g2⟩ := R.sl j s e'
      refine ⟨w, g1, ?_⟩
      cases s with
      | val d => exact g2
      | own es =>
        obtain ⟨q, ws, rfl, a, b, c, d⟩ := g2
        have qp : q ≠ p := fun y => by subst y; exact z (R.dis j i _ _ q e' e g1 hv)
        exact ⟨q, ws, rfl, a, b, by rw [upd_ne qp]; exact c, d⟩
      | bor es => exact g2
  · rw [lk_sv hl] at a b
    by_cases ji : j = i
    · by_cases ki : k = i
      · rw [ji, ki]
      · rw [if_neg ki] at b
        subst ji
        exact R.dis j k _ _ q e b c d
    · rw [if_neg ji] at a
      by_cases ki : k = i
      · subst ki; exact R.dis j k _ _ q a e c d
      · rw [if_neg ki] at b; exact R.dis j k _ _ q a b c d
/-- a slot is forgotten -/
theorem Rep.drop (R : Rep K mg H₀ F env σ H) (i : Nat) : Rep K mg H₀ F (sv env i none) σ H := by
  have key : ∀ j s, lk (sv env i none) j = some s → lk env j = some s := fun j s e => by
    by_cases q : i < env.length
    · rw [lk_sv q] at e
      split at e
      · cases e
      · exact e
    · rw [sv_eq, List.set_eq_of_length_le (by omega)] at e; exact e
  exact ⟨R.h0, R.hf, by rw [sv_length]; exact R.len, fun j s e => R.sl j s (key j s e), fun j k ds es p a b c d => R.dis j k _ _ p (key _ _ a) (key _ _ b) c d⟩
end
end Ev
set_option Elab.async false
set_option linter.all false
set_option maxRecDepth 100000
namespace Ev
open PySem PySem.Spec PyProof.Rows L2

/-! ### operations on data -/
inductive Prim where
  | add | sub | mul | fdiv | mod | pow | neg
  | eq | ne | lt | le | gt | ge | isN | notN | inn | notin
  | idx
  | tup | lst
  | len | abs | int | gcd | lcm | min2 | max2 | minl | maxl | suml | anyl | alll | tuple | list | sortI
  deriving DecidableEq

inductive Pr where
  | d (x : D) | l (xs : List D) | bad
def Sl.ls : Sl → Option (List D)
  | .val (.lst ds) => some ds
  | .own ds => some ds
  | .bor ds => some ds
  | _ => none
def Sl.rs : Sl → Option (List D)
  | .val (.lst ds) => some ds
  | .val (.ro ds) => some ds
  | .own ds => some ds
  | .bor ds => some ds
  | _ => none
def lim : Nat := 1000000
def mulOk (a b : Int) : Bool := decide (a.natAbs < 2 ^ 64) || decide (b.natAbs < 2 ^ 64) || decide (a.natAbs.log2 + b.natAbs.log2 < 100000000)
def atD (xs : List D) (i : Int) : Option D := atI xs i
def cutD (xs : List D) (lo hi : Option Int) : List D :=
  (xs.drop (HT.sIx xs.length 0 lo)).take (HT.sIx xs.length xs.length hi - HT.sIx xs.length 0 lo)
def intsOf : List D → Option (List Int)
  | [] => some []
  | .int i :: r => match intsOf r with
    | some l => some (i :: l)
    | none => none
  | _ :: _ => none
def boolsOf : List D → Option (List Bool)
  | [] => some []
  | .bl i :: r => match boolsOf r with
    | some l => some (i :: l)
    | none => none
  | _ :: _ => none
def maxOf : List Int → Int
  | [] => 0
  | [x] => x
  | x :: r => max x (maxOf r)
def minOf : List Int → Int
  | [] => 0
  | [x] => x
  | x :: r => min x (minOf r)
/-- the truth of a value -/
def truth : D → Option Bool
  | .non => some false
  | .bl b => some b
  | .int i => some (i != 0)
  | .tup xs => some (!xs.isEmpty)
  | .lst xs => some (!xs.isEmpty)
  | _ => none
def eqB (a b : D) : Option Bool := if a.plain 60 && b.plain 60 then some (PyData.eqv a.py b.py) else none
def inB (a : D) (xs : List D) : Option Bool := if a.plain 60 && D.plainAll 59 xs then some (xs.any fun z => PyData.eqv z.py a.py) else none
def asD : Sl → Option D
  | .val d => some d
  | .bor ds => some (.lst ds)
  | .own ds => some (.lst ds)
def ofB (b : Option Bool) : Pr := match b with
  | some b => .d (.bl b)
  | none => .bad
def notB (b : Option Bool) : Pr := match b with
  | some b => .d (.bl (!b))
  | none => .bad
def ofO (b : Option D) : Pr := match b with
  | some b => Pr.d b
  | none => .bad
def newL (xs : List D) : Pr := if xs.length ≤ lim then .l xs else .bad
def newT (xs : List D) : Pr := if xs.length ≤ lim then .d (.tup xs) else .bad
def allD : List Sl → Option (List D)
  | [] => some []
  | .val d :: r => match allD r with
    | some l => some (d :: l)
    | none => none
  | _ :: _ => none
def evEq (as : List Sl) : Option Bool := match as with
  | [a, b] => match asD a, asD b with
    | some x, some y => eqB x y
    | _, _ => none
  | _ => none
def evIn (as : List Sl) : Option Bool := match as with
  | [.val a, b] => match b.ls with
    | some xs => inB a xs
    | none => none
  | _ => none
def pAdd : List Sl → Pr
  | [.val (.int a), .val (.int b)] => .d (.int (a + b))
  | [.val (.tup a), .val (.tup b)] => if a.isEmpty || b.isEmpty then .bad else newT (a ++ b)
  | [a, b] => match a.ls, b.ls with
    | some x, some y => newL (x ++ y)
    | _, _ => .bad
  | _ => .bad
def pSub : List Sl → Pr
  | [.val (.int a), .val (.int b)] => .d (.int (a - b))
  | _ => .bad
def pMul : List Sl → Pr
  | [.val (.int a), .val (.int b)] => if mulOk a b then .d (.int (a * b)) else .bad
  | [.val (.lst x), .val (.int b)] => if decide (-(2 ^ 63) ≤ b) && decide (b < 2 ^ 63) && decide (x.length * b.toNat ≤ lim) then newL (List.replicate b.toNat x).flatten else .bad
  | _ => .bad
def pFdiv : List Sl → Pr
  | [.val (.int a), .val (.int b)] => if b = 0 then .bad else .d (.int (a.fdiv b))
  | _ => .bad
def pMod : List Sl → Pr
  | [.val (.int a), .val (.int b)] => if b = 0 then .bad else .d (.int (a.fmod b))
  | _ => .bad
def pPow : List Sl → Pr
  | [.val (.int a), .val (.int b)] => if decide (0 ≤ b) && decide (b ≤ 1000000) && decide (a.natAbs < 2 ^ 64) then .d (.int (a ^ b.toNat)) else .bad
  | _ => .bad
def pNeg : List Sl → Pr
  | [.val (.int a)] => .d (.int (-a))
  | _ => .bad
def pCmp (f : Int → Int → Bool) : List Sl → Pr
  | [.val (.int a), .val (.int b)] => .d (.bl (f a b))
  | _ => .bad
def D.isNon : D → Bool
  | .non => true
  | _ => false
def pIsN : List Sl → Pr
  | [.val a, .val .non] => .d (.bl a.isNon)
  | _ => .bad
def pNotN : List Sl → Pr
  | [.val a, .val .non] => .d (.bl (!a.isNon))
  | _ => .bad
def pIdx : List Sl → Pr
  | [.val (.tup x), .val (.int i)] => ofO (atD x i)
  | [a, .val (.int i)] => match a.rs with
    | some x => ofO (atD x i)
    | none => .bad
  | _ => .bad
def pCut (a : Sl) (lo hi : Option Int) : Pr := match a.rs with
  | some x => newL (cutD x lo hi)
  | none => .bad
def pTup (as : List Sl) : Pr := match allD as with
  | some xs => newT xs
  | none => .bad
def pLst (as : List Sl) : Pr := match allD as with
  | some xs => newL xs
  | none => .bad
def pLen : List Sl → Pr
  | [.val (.tup x)] => .d (.int x.length)
  | [a] => match a.rs with
    | some x => .d (.int x.length)
    | none => .bad
  | _ => .bad
def pAbs : List Sl → Pr
  | [.val (.int a)] => .d (.int (if a < 0 then -a else a))
  | _ => .bad
def pInt : List Sl → Pr
  | [.val (.int a)] => .d (.int a)
  | _ => .bad
def pGcd : List Sl → Pr
  | [.val (.int a), .val (.int b)] => .d (.int (Int.gcd a b))
  | _ => .bad
def pLcm : List Sl → Pr
  | [.val (.int a), .val (.int b)] => if mulOk a b then .d (.int (Int.lcm a b)) else .bad
  | _ => .bad
def pMin2 : List Sl → Pr
  | [.val (.int i), .val (.int j)] => .d (.int (if j < i then j else i))
  | _ => .bad
def pMax2 : List Sl → Pr
  | [.val (.int i), .val (.int j)] => .d (.int (if j > i then j else i))
  | _ => .bad
def onInts (f : List Int → Pr) : List Sl → Pr
  | [a] => match a.ls with
    | some x => match intsOf x with
      | some r => f r
      | none => .bad
    | none => .bad
  | _ => .bad
def onBools (f : List Bool → Pr) : List Sl → Pr
  | [a] => match a.ls with
    | some x => match boolsOf x with
      | some r => f r
      | none => .bad
    | none => .bad
  | _ => .bad
def pTuple : List Sl → Pr
  | [.val (.tup x)] => .d (.tup x)
  | [a] => match a.rs with
    | some x => newT x
    | none => .bad
  | _ => .bad
def pList : List Sl → Pr
  | [.val (.tup x)] => newL x
  | [a] => match a.rs with
    | some x => newL x
    | none => .bad
  | _ => .bad
def evPrim (p : Prim) (as : List Sl) : Pr := match p with
  | .add => pAdd as
  | .sub => pSub as
  | .mul => pMul as
  | .fdiv => pFdiv as
  | .mod => pMod as
  | .pow => pPow as
  | .neg => pNeg as
  | .eq => ofB (evEq as)
  | .ne => notB (evEq as)
  | .lt => pCmp (fun a b => decide (a < b)) as
  | .le => pCmp (fun a b => decide (a ≤ b)) as
  | .gt => pCmp (fun a b => decide (b < a)) as
  | .ge => pCmp (fun a b => decide (b ≤ a)) as
  | .isN => pIsN as
  | .notN => pNotN as
  | .inn => ofB (evIn as)
  | .notin => notB (evIn as)
  | .idx => pIdx as
  | .tup => pTup as
  | .lst => pLst as
  | .len => pLen as
  | .abs => pAbs as
  | .int => pInt as
  | .gcd => pGcd as
  | .lcm => pLcm as
  | .min2 => pMin2 as
  | .max2 => pMax2 as
  | .minl => onInts (fun r => match r with | [] => .bad | i :: r => .d (.int (minOf (i :: r)))) as
  | .maxl => onInts (fun r => match r with | [] => .bad | i :: r => .d (.int (maxOf (i :: r)))) as
  | .suml => onInts (fun r => .d (.int r.sum)) as
  | .anyl => onBools (fun r => .d (.bl (r.any id))) as
  | .alll => onBools (fun r => .d (.bl (r.all id))) as
  | .tuple => pTuple as
  | .list => pList as
  | .sortI => .bad
inductive Ty where
  | int | bool | tuple | list | str
  deriving DecidableEq
def isiD : Ty → Sl → Option Bool
  | .int, .val (.int _) => some true
  | .int, .val (.bl _) => some true
  | .bool, .val (.bl _) => some true
  | .tuple, .val (.tup _) => some true
  | .list, .val (.lst _) => some true
  | _, .val (.ro _) => none
  | .list, .own _ => some true
  | .list, .bor _ => some true
  | .str, .val (.str _) => some true
  | _, .val (.obj _ _ _) => none
  | _, _ => some false

/-! ### the terms -/
inductive Rf where
  | ok (s : Sl) | exc (x : Exn) | bad
mutual
inductive Tgt where
  | nm (i : Nat) (x : Str)
  | tup (ts : Tgts)
inductive Tgts where
  | nil | cons (t : Tgt) (ts : Tgts)
end
mutual
inductive Ex where
  | var (i : Nat) (x : Str)
  | rd (i : Nat) (x : Str)
  | con (c : Const)
  | glob (x : Str) (d : D)
  | prim (p : Prim) (as : Exs)
  | isi (t : Ty) (as : Exs)
  | call (f : Str) (den : List Sl → Rf) (dfl : List D) (as : Exs)
  | and (a b : Ex) | or (a b : Ex) | not (a : Ex) | ite (c a b : Ex)
  | chain (p q : Prim) (a b c : Ex)
  | slc (a : Ex) (lo hi : Oe)
  | comp (own : List (Str × Nat)) (tg : Tgt) (it : Itr) (elt : Ex)
  | compif (own : List (Str × Nat)) (tg : Tgt) (it : Itr) (c : Ex) (elt : Ex)
inductive Oe where
  | none | some (a : Ex)
inductive Exs where
  | nil | cons (a : Ex) (as : Exs)
inductive Itr where
  | seq (a : Ex)
  | rng (as : Exs)
  | enum (as : Exs) | zip (as : Exs)
end
mutual
inductive Stm where
  | asg (t : Tgt) (a : Ex)
  | setI (i : Nat) (x : Str) (k a : Ex)
  | par (i : Nat) (x : Str) (j : Nat) (y : Str) (a b : Ex)
  | ite (c : Ex) (a b : Stms)
  | while (c : Ex) (a : Stms)
  | for (t : Tgt) (it : Itr) (a : Stms)
  | ret (a : Ex) | retN
  | expr (a : Ex)
  | append (i : Nat) (x : Str) (a : Ex)
  | pop (i : Nat) (x : Str)
  | pass | brk | cont
  /-- not reached -/
  | never
inductive Stms where
  | nil | cons (a : Stm) (as : Stms)
end

/-! ### what they say -/
def rdIx : Ex → Option Nat
  | .rd i _ => some i
  | _ => none
def varIx : Ex → Option Nat
  | .var i _ => some i
  | _ => none
/-- an argument: a value, or a slot that is read at the end -/
inductive Pd where
  | d (x : D) | slot (i : Nat)
def Pd.sl (e : En) : Pd → Option Sl
  | .d x => some (.val x)
  | .slot i => match lk e i with
    | some (.val y) => some (.val y)
    | some (.own ds) => some (.bor ds)
    | some (.bor ds) => some (.bor ds)
    | none => none
def slotR (i : Nat) (e : En) : R (Pd × En) := match lk e i with
  | some _ => .ok (.slot i, e)
  | none => .bad
def pds (e : En) : List Pd → Option (List Sl)
  | [] => some []
  | p :: r => match p.sl e, pds e r with
    | some s, some l => some (s :: l)
    | _, _ => none
/-- a list of one's own, when it is handed on -/
def Sl.froz : Sl → Option D
  | .val d => some d
  | .own ds => some (.lst ds)
  | .bor _ => none
mutual
def setT : Tgt → D → En → Option En
  | .nm i _, d, e => some (sv e i (some (.val d)))
  | .tup ts, .tup ds, e => setTs ts ds e
  | .tup _, _, _ => none
def setTs : Tgts → List D → En → Option En
  | .nil, [], e => some e
  | .cons t ts, d :: ds, e => match setT t d e with
    | some e1 => setTs ts ds e1
    | none => none
  | _, _, _ => none
end
def Sl.lend : Sl → Sl
  | .own ds => .bor ds
  | s => s
def lend (e : En) : En := e.map (Option.map Sl.lend)
def wipeE (e : En) : List Nat → En
  | [] => e
  | i :: r => sv (wipeE e r) i none
def conD : Const → Option D
  | .none => some .non
  | .bool b => some (.bl b)
  | .int i => some (.int i)
  | .str s => some (.str s)
  | _ => none
/-- a comprehension's turns -/
def compD (turn : D → R (Option D)) : List D → R (List D)
  | [] => .ok []
  | x :: r => R.bind (turn x) fun o => R.bind (compD turn r) fun l => match o with
    | some d => .ok (d :: l)
    | none => .ok l
def okD (e : En) (p : Pr) : R (D × En) := match p with
  | .d d => .ok (d, e)
  | .l ds => .ok (.lst ds, e)
  | .bad => .bad
def okS (e : En) (p : Pr) : R (Sl × En) := match p with
  | .d d => .ok (.val d, e)
  | .l ds => .ok (.own ds, e)
  | .bad => .bad
def rfS (e : En) : Rf → R (Sl × En)
  | .ok (.bor _) => .bad
  | .ok s => .ok (s, e)
  | .exc x => .exc x e
  | .bad => .bad
def truthR (d : D) (e : En) : R (Bool × En) := match truth d with
  | some b => .ok (b, e)
  | none => .bad
def ofOpt {α : Type} : Option α → R α
  | some a => .ok a
  | none => .bad
def frozR (p : Sl × En) : R (D × En) := match p.1.froz with
  | some d => .ok (d, p.2)
  | none => .bad
def rngD (lo n : Int) : R (List D) := if decide (-(2 ^ 62) ≤ lo) && decide (lo < 2 ^ 62) && decide (-(2 ^ 62) ≤ n) && decide (n < 2 ^ 62) then .ok ((List.range (n - lo).toNat).map fun (k : Nat) => D.int (lo + (k : Int))) else .bad
def compEnd (r : R (List D)) (e : En) : R (D × En) := match r with
  | .ok l => if l.length ≤ lim then .ok (.lst l, e) else .bad
  | _ => .bad
def seqD : D → Option (List D)
  | .lst ds => some ds
  | .ro ds => some ds
  | .tup ds => some ds
  | _ => none
def enumD (ds : List D) : List D := ds.zipIdx.map fun p => .tup [.int (p.2 : Int), p.1]
def rngOf : List Sl → R (List D)
  | [.val (.int n)] => rngD 0 n
  | [.val (.int m), .val (.int n)] => rngD m n
  | _ => .bad
def enumOf : List Sl → R (List D)
  | [.val (.lst ds)] => .ok (enumD ds)
  | _ => .bad
def zipD (as bs : List D) : List D := (as.zip bs).map fun p => .tup [p.1, p.2]
def zipOf : List Sl → R (List D)
  | [.val (.lst as), .val (.lst bs)] => .ok (zipD as bs)
  | [.val (.tup as), .val (.tup bs)] => .ok (zipD as bs)
  | _ => .bad
mutual
/-- an expression: its value, lists frozen -/
def evE : Ex → En → R (D × En)
  | .var i _, e => match lk e i with
    | some (.val d) => .ok (d, e)
    | some (.own ds) => .ok (.lst ds, sv e i (some (.val (.lst ds))))
    | _ => .bad
  | .rd i _, e => match lk e i with
    | some (.val d) => .ok (d, e)
    | _ => .bad
  | .con c, e => match conD c with
    | some d => .ok (d, e)
    | none => .bad
  | .glob _ d, e => .ok (d, e)
  | .prim p as, e => R.bind (evA as e) fun q => match pds q.2 q.1 with
    | some l => okD q.2 (evPrim p l)
    | none => .bad
  | .isi t as, e => R.bind (evA as e) fun q => match pds q.2 q.1 with
    | some [s] => match isiD t s with
      | some b => .ok (.bl b, q.2)
      | none => .bad
    | _ => .bad
  | .call _ den dfl as, e => R.bind (evA as e) fun q => match pds q.2 q.1 with
    | some l => R.bind (rfS q.2 (den (l ++ dfl.map Sl.val))) frozR
    | none => .bad
  | .and a b, e => R.bind (evE a e) fun p => match truth p.1 with
    | some true => evE b p.2
    | some false => .ok p
    | none => .bad
  | .or a b, e => R.bind (evE a e) fun p => match truth p.1 with
    | some true => .ok p
    | some false => evE b p.2
    | none => .bad
  | .not a, e => R.bind (evE a e) fun p => match truth p.1 with
    | some b => .ok (.bl (!b), p.2)
    | none => .bad
  | .ite c a b, e => R.bind (evE c e) fun p => match truth p.1 with
    | some true => evE a p.2
    | some false => evE b p.2
    | none => .bad
  | .chain p q a b c, e => R.bind (evE a e) fun x => R.bind (evE b x.2) fun y => match evPrim p [.val x.1, .val y.1] with
    | .d (.bl true) => R.bind (evE c y.2) fun z => okD z.2 (evPrim q [.val y.1, .val z.1])
    | .d (.bl false) => .ok (.bl false, y.2)
    | _ => .bad
  | .slc a lo hi, e => R.bind (match rdIx a with
      | some i => slotR i e
      | none => R.bind (evE a e) fun p => .ok (.d p.1, p.2)) fun p => R.bind (evOI lo p.2) fun l => R.bind (evOI hi l.2) fun h => match p.1.sl h.2 with
    | some s => okD h.2 (pCut s l.1 h.1)
    | none => .bad
  | .comp own tg it elt, e => R.bind (evI it e) fun q =>
      compEnd (compD (fun x => match setT tg x (wipeE (lend q.2) (own.map (·.2))) with
        | some e1 => R.bind (evE elt e1) fun p => .ok (some p.1)
        | none => .bad) q.1) q.2
  | .compif own tg it c elt, e => R.bind (evI it e) fun q =>
      compEnd (compD (fun x => match setT tg x (wipeE (lend q.2) (own.map (·.2))) with
        | some e1 => R.bind (evE c e1) fun p => R.bind (truthR p.1 p.2) fun b => if b.1 then R.bind (evE elt b.2) fun p => .ok (some p.1) else .ok none
        | none => .bad) q.1) q.2
def evOI : Oe → En → R (Option Int × En)
  | .none, e => .ok (none, e)
  | .some a, e => R.bind (evE a e) fun p => match p.1 with
    | .int i => .ok (some i, p.2)
    | _ => .bad
def evA : Exs → En → R (List Pd × En)
  | .nil, e => .ok ([], e)
  | .cons a as, e => match rdIx a with
    | some i => R.bind (slotR i e) fun p => R.bind (evA as p.2) fun q => .ok (p.1 :: q.1, q.2)
    | none => R.bind (evE a e) fun p => R.bind (evA as p.2) fun q => .ok (.d p.1 :: q.1, q.2)
/-- what a for walks -/
def evI : Itr → En → R (List D × En)
  | .seq a, e => R.bind (evE a e) fun p => match seqD p.1 with
    | some l => .ok (l, p.2)
    | none => .bad
  | .rng as, e => R.bind (evA as e) fun q => match pds q.2 q.1 with
    | some l => R.bind (rngOf l) fun l => .ok (l, q.2)
    | none => .bad
  | .enum as, e => R.bind (evA as e) fun q => match pds q.2 q.1 with
    | some l => R.bind (enumOf l) fun l => .ok (l, q.2)
    | none => .bad
  | .zip as, e => R.bind (evA as e) fun q => match pds q.2 q.1 with
    | some l => R.bind (zipOf l) fun l => .ok (l, q.2)
    | none => .bad
end
/-- an expression whose value is stored or returned: a new list is one's own -/
def evO : Ex → En → R (Sl × En)
  | .prim p as, e => R.bind (evA as e) fun q => match pds q.2 q.1 with
    | some l => okS q.2 (evPrim p l)
    | none => .bad
  | .call _ den dfl as, e => R.bind (evA as e) fun q => match pds q.2 q.1 with
    | some l => rfS q.2 (den (l ++ dfl.map Sl.val))
    | none => .bad
  | .slc a lo hi, e => R.bind (match rdIx a with
      | some i => slotR i e
      | none => R.bind (evE a e) fun p => .ok (.d p.1, p.2)) fun p => R.bind (evOI lo p.2) fun l => R.bind (evOI hi l.2) fun h => match p.1.sl h.2 with
    | some s => okS h.2 (pCut s l.1 h.1)
    | none => .bad
  | a@(.comp own tg it elt), e => R.bind (evE a e) fun p => match p.1 with
    | .lst ds => .ok (.own ds, p.2)
    | _ => .bad
  | a@(.compif own tg it c elt), e => R.bind (evE a e) fun p => match p.1 with
    | .lst ds => .ok (.own ds, p.2)
    | _ => .bad
  | a, e => R.bind (evE a e) fun p => .ok (.val p.1, p.2)

inductive Fl where
  | nx (e : En) | rt (s : Sl) | bk (e : En) | ct (e : En)
def loopN (c : En → R (Bool × En)) (b : En → R Fl) : Nat → En → Option (R Fl)
  | 0, _ => none
  | n + 1, e => match c e with
    | .ok (true, e1) => match b e1 with
      | .ok (.nx e2) => loopN c b n e2
      | .ok (.ct e2) => loopN c b n e2
      | .ok (.bk e2) => some (.ok (.nx e2))
      | .ok (.rt s) => some (.ok (.rt s))
      | .exc x e2 => some (.exc x e2)
      | .bad => some .bad
    | .ok (false, e1) => some (.ok (.nx e1))
    | .exc x e2 => some (.exc x e2)
    | .bad => some .bad
open Classical in
noncomputable def whileD (c : En → R (Bool × En)) (b : En → R Fl) (e : En) : R Fl :=
  if h : ∃ n r, loopN c b n e = some r then h.choose_spec.choose else .bad
def forD (b : D → En → R Fl) : List D → En → R Fl
  | [], e => .ok (.nx e)
  | x :: r, e => match b x e with
    | .ok (.nx e2) => forD b r e2
    | .ok (.ct e2) => forD b r e2
    | .ok (.bk e2) => .ok (.nx e2)
    | .ok (.rt s) => .ok (.rt s)
    | .exc x e2 => .exc x e2
    | .bad => .bad
def setS : Nat → Sl × En → En := fun i p => sv p.2 i (some p.1)
def sqIx (n : Nat) (i : Int) : Option Nat := ixN n i
mutual
noncomputable def evS : Stm → En → R Fl
  | .asg (.nm i _) a, e => R.bind (evO a e) fun p => .ok (.nx (sv p.2 i (some p.1)))
  | .asg (.tup ts) a, e => R.bind (evE a e) fun p => match setT (.tup ts) p.1 p.2 with
    | some e2 => .ok (.nx e2)
    | none => .bad
  | .setI i _ k a, e => R.bind (evE a e) fun q => R.bind (slotR i q.2) fun s => R.bind (evE k s.2) fun p => match lk p.2 i, p.1 with
    | some (.own ds), .int j => match sqIx ds.length j with
      | some m => .ok (.nx (sv p.2 i (some (.own (ds.set m q.1)))))
      | none => .bad
    | _, _ => .bad
  | .par i _ j _ a b, e => R.bind (evE a e) fun p => R.bind (evE b p.2) fun q => .ok (.nx (sv (sv q.2 i (some (.val p.1))) j (some (.val q.1))))
  | .ite c a b, e => R.bind (R.bind (evE c e) fun p => truthR p.1 p.2) fun b1 => if b1.1 then evSs a b1.2 else evSs b b1.2
  | .while c a, e => whileD (fun e => R.bind (evE c e) fun p => truthR p.1 p.2) (fun e => evSs a e) e
  | .for t it a, e => R.bind (evI it e) fun q => forD (fun x e => match setT t x e with
      | some e1 => evSs a e1
      | none => .bad) q.1 q.2
  | .ret a, e => match varIx a with
    | some i => match lk e i with
      | some (.val d) => .ok (.rt (.val d))
      | some (.own ds) => .ok (.rt (.own ds))
      | _ => .bad
    | none => R.bind (evO a e) fun p => .ok (.rt p.1)
  | .retN, e => .ok (.rt (.val .non))
  | .expr a, e => R.bind (evE a e) fun p => .ok (.nx p.2)
  | .append i _ a, e => match lk e i with
    | some (.own _) => R.bind (evE a e) fun p => match lk p.2 i with
      | some (.own ds) => if ds.length < lim then .ok (.nx (sv p.2 i (some (.own (ds ++ [p.1]))))) else .bad
      | _ => .bad
    | _ => .bad
  | .pop i _, e => match lk e i with
    | some (.own ds) => if ds.length = 0 then .bad else .ok (.nx (sv e i (some (.own ds.dropLast))))
    | _ => .bad
  | .pass, e => .ok (.nx e)
  | .brk, e => .ok (.bk e)
  | .cont, e => .ok (.ct e)
  | .never, _ => .bad
noncomputable def evSs : Stms → En → R Fl
  | .nil, e => .ok (.nx e)
  | .cons a as, e => match evS a e with
    | .ok (.nx e2) => evSs as e2
    | r => r
end
structure Fn where
  /-- how many parameters, how many slots -/
  ps : Nat
  n : Nat
  body : Stms
/-- a def's meaning -/
noncomputable def Fn.den (f : Fn) (as : List Sl) : Rf :=
  if as.length = f.ps then
    match evSs f.body (as.map some ++ List.replicate (f.n - f.ps) none) with
    | .ok (.rt (.bor _)) => .bad
    | .ok (.rt s) => .ok s
    | .ok (.nx _) => .ok (.val .non)
    | .ok _ => .bad
    | .exc x _ => .exc x
    | .bad => .bad
  else .bad
end Ev
set_option Elab.async false
set_option linter.all false
set_option maxRecDepth 100000
set_option maxHeartbeats 1000000
namespace Ev
open PySem PySem.Spec PyProof.Rows L2

/-! ### arguments and results of an operation -/
section
variable (K : PySem.W.Frag) (mg : Str → Option Value)
def ArgIs (F H : Hp) (x : V) : Sl → Prop
  | .val d => Is K mg F x d
  | .bor ds => ∃ p vs, x = .ref p ∧ Rd H p (.lst vs) ∧ IsAll K mg F vs ds
  | .own _ => False
def PK (H₀ F : Hp) (env : En) (σ : L2.St) (Q : VK) : Pr → Prop
  | .d res => ∀ F' H' v, Grow H₀ F F' → Rep K mg H₀ F' env σ H' → Is K mg F' v res → Q v H'
  | .l res => ∀ F' H' p vs, Grow H₀ F F' → Rep K mg H₀ F' env σ H' → H₀ p = none → F' p = none → H' p = some (.lst vs) → IsAll K mg F' vs res →
      (∀ j es, lk env j = some (.own es) → σ[j]? = some (some (.ref p)) → False) → Q (.ref p) H'
  | .bad => False
end
section
variable {K : PySem.W.Frag} {mg : Str → Option Value} {H₀ F H : Hp} {env : En} {σ : L2.St} {Q : VK} {x : V} {s : Sl} {ds : List D} {d : D}
theorem Is.inv_int {i : Int} (h : Is K mg F x (.int i)) : x = .int i := by cases h; rfl
theorem Is.inv_bl {i : Bool} (h : Is K mg F x (.bl i)) : x = .bl i := by cases h; rfl
theorem Is.inv_str {i : Str} (h : Is K mg F x (.str i)) : x = .str i := by cases h; rfl
theorem Is.inv_tup (h : Is K mg F x (.tup ds)) : ∃ a vs, x = .ref a ∧ SqT K F a vs ∧ IsAll K mg F vs ds := by
  cases h with | tup h r => exact ⟨_, _, rfl, h, r⟩
theorem Is.inv_lst (h : Is K mg F x (.lst ds)) : ∃ a vs, x = .ref a ∧ Rd F a (.lst vs) ∧ IsAll K mg F vs ds := by
  cases h with | lst h r => exact ⟨_, _, rfl, h, r⟩
theorem ArgIs.ls (R : Rep K mg H₀ F env σ H) (a : ArgIs K mg F H x s) (e : s.ls = some ds) : ∃ p vs, x = .ref p ∧ Rd H p (.lst vs) ∧ IsAll K mg F vs ds := by
  cases s with
  | val d =>
    cases d <;> simp only [Sl.ls, Option.some.injEq, reduceCtorEq] at e
    subst e
    obtain ⟨p, vs, rfl, h, r⟩ := Is.inv_lst a
    exact ⟨p, vs, rfl, Same.rd R.hf h, r⟩
  | own _ => exact a.elim
  | bor _ => simp only [Sl.ls, Option.some.injEq] at e; subst e; exact a
theorem ArgIs.rs (R : Rep K mg H₀ F env σ H) (a : ArgIs K mg F H x s) (e : s.rs = some ds) : ∃ p vs, x = .ref p ∧ SqL K H p vs ∧ IsAll K mg F vs ds := by
  cases s with
  | val d =>
    cases d <;> simp only [Sl.rs, Option.some.injEq, reduceCtorEq] at e
    · subst e
      obtain ⟨p, vs, rfl, h, r⟩ := Is.inv_lst a
      exact ⟨p, vs, rfl, .inl (Same.rd R.hf h), r⟩
    · subst e
      cases a with | ro h r => exact ⟨_, _, rfl, L2.Same.seq R.hf h, r⟩
  | own _ => exact a.elim
  | bor _ =>
    simp only [Sl.rs, Option.some.injEq] at e; subst e
    obtain ⟨p, vs, rfl, h, r⟩ := a
    exact ⟨p, vs, rfl, .inl h, r⟩
theorem ArgIs.asH (R : Rep K mg H₀ F env σ H) (a : ArgIs K mg F H x s) (e : Ev.asD s = some d) : Is K mg H x d := by
  cases s with
  | val d' => simp only [Ev.asD, Option.some.injEq] at e; subst e; exact Is.mono R.hf a
  | own _ => exact a.elim
  | bor ds' =>
    simp only [Ev.asD, Option.some.injEq] at e; subst e
    obtain ⟨p, vs, rfl, h, r⟩ := a
    exact .lst h (IsAll.mono R.hf r)
theorem PK.now (R : Rep K mg H₀ F env σ H) (q : PK K mg H₀ F env σ Q (.d d)) {v : V} (h : Is K mg F v d) : Q v H := q F H v Grow.refl R h
theorem PK.newl {ws : List V} {p : Addr} (R : Rep K mg H₀ F env σ H) (q : PK K mg H₀ F env σ Q (newL ds)) (h : IsAll K mg F ws ds) (hp : H p = none) : Q (.ref p) (upd H p (.lst ws)) := by
  unfold newL at q
  split at q
  · refine q F _ p ws Grow.refl (R.allocOwn hp) (R.h0.free hp) (R.hf.free hp) upd_same h fun j es e hj => ?_
    obtain ⟨v, h1, p', vs, rfl, _, _, h3, _⟩ := R.sl j _ e
    rw [hj] at h1; cases h1
    rw [hp] at h3; cases h3
  · exact q.elim
theorem PK.newL_le (q : PK K mg H₀ F env σ Q (newL ds)) : ds.length ≤ lim := by
  unfold newL at q
  split at q
  · assumption
  · exact q.elim
theorem PK.newT_le (q : PK K mg H₀ F env σ Q (newT ds)) : ds.length ≤ lim := by
  unfold newT at q
  split at q
  · assumption
  · exact q.elim
theorem PK.newt {ws : List V} {p : Addr} (R : Rep K mg H₀ F env σ H) (q : PK K mg H₀ F env σ Q (newT ds)) (h : IsAll K mg F ws ds) (hp : H p = none) : Q (.ref p) (upd H p (.tup ws)) := by
  unfold newT at q
  split at q
  · have a := R.alloc (o := .tup ws) hp
    exact q _ _ _ a.1 a.2 (.tup (SqT.of upd_same) (IsAll.mono a.1.1 h))
  · exact q.elim
theorem lim_line {n : Nat} (h : n ≤ lim) : n ≤ sizeLine := Nat.le_trans h (by decide)
theorem lim_lt {n : Nat} (h : n ≤ lim) : n < sizeLine := Nat.lt_of_le_of_lt h (by decide)
end

/-! ### the operations of two -/
def rP (X : Cx) (p : Prim) : R2 := fun x y H Q => ∃ H₀ F env σ s1 s2, Rep X.K X.mg H₀ F env σ H ∧ ArgIs X.K X.mg F H x s1 ∧ ArgIs X.K X.mg F H y s2 ∧ PK X.K X.mg H₀ F env σ Q (evPrim p [s1, s2])
/-- what a call of // leans on -/
def DivOk (X : Cx) : Prop := ∀ (pins : List (Addr × Obj)) (σ : L2.St) (H : Hp) (s : Shared), Inv X pins σ H s → PySem.PylongRoom (model X.prog X.w) X.A s
section
variable {X : Cx}
theorem Inv.lstR {pins : List (Addr × Obj)} {σ : L2.St} {H : Hp} {s : Shared} {l : Addr} {xs : List V} (I : Inv X pins σ H s) (hH : Rd H l (.lst xs)) :
    ∃ (its : List Value) (n : Nat), Vals xs its ∧ xs.length = its.length ∧ s.heap.get? l = some { cls := .type "list", data := .seq its.toArray n } := by
  obtain ⟨z, its, n, r, e⟩ := hH.ok I.hok
  exact ⟨its, n, r, r.length, e⟩
theorem op_addS : OpR X (binaryOp .Add) (fun x y H Q => ∃ a b xs ys, x = .ref a ∧ y = .ref b ∧ Rd H a (.lst xs) ∧ Rd H b (.lst ys) ∧ xs.length + ys.length ≤ sizeLine ∧ ∀ p, H p = none → Q (.ref p) (upd H p (.lst (xs ++ ys)))) := by
  intro pins s σ H x y v u Q I rx ry h
  obtain ⟨l, b, xs, zs, rfl, rfl, hH, hB, hz, q⟩ := h
  cases rx
  cases ry
  obtain ⟨its, n, r, hl, e⟩ := Inv.lstR I hH
  obtain ⟨its2, n2, r2, hl2, e2⟩ := Inv.lstR I hB
  refine PySem.P.add_list e e2 ?_ (by rw [List.size_toArray, List.size_toArray]; omega)
  have ea : its.toArray ++ its2.toArray = (its ++ its2).toArray := by simp
  rw [ea]
  exact ⟨.ref _, _, I.lnew (t' := s.toks) (r.append r2) (by rw [List.length_append]; omega), rfl, q _ I.fresh⟩

theorem mulOk_ok {a b : Int} (h : mulOk a b = true) : IntMulOk a b := by
  unfold mulOk at h
  simp only [Bool.or_eq_true, decide_eq_true_eq] at h
  rcases h with (h | h) | h
  · exact .of_left (intBits_le_64 (by omega) (by omega))
  · exact .of_right (intBits_le_64 (by omega) (by omega))
  · have bb : ∀ x : Int, Builtin.Int.intBits x ≤ x.natAbs.log2 + 1 := fun x => by
      unfold Builtin.Int.intBits
      split <;> omega
    have h1 := bb a
    have h2 := bb b
    have e : bitsLine = 134217728 := by decide
    unfold IntMulOk
    intro z
    rw [Bool.and_eq_true] at z
    have z2 := z.2
    unfold Builtin.Int.intTooBig at z2
    have z3 := of_decide_eq_true z2
    rw [e] at z3
    omega
theorem op_mulX : OpR X (binaryOp .Mult) (rI (fun a b => mulOk a b = true) fun i j => .int (i * j)) := opI fun _ _ _ _ _ _ _ hc q => mul_int q (mulOk_ok hc)
theorem op_fdivX (dv : DivOk X) : OpR X (binaryOp .FloorDiv) (rI (fun _ j => j ≠ 0) fun i j => .int (i.fdiv j)) := by
  intro pins s σ H x y v u Q I rx ry h
  obtain ⟨i, j, rfl, rfl, hc, q⟩ := h
  obtain ⟨t, rfl⟩ := rx
  obtain ⟨t', rfl⟩ := ry
  exact floordiv_int hc ⟨.int _, H, I.tok _, ⟨_, rfl⟩, q⟩ (.inr (dv pins σ H s I))
theorem op_repR : OpR X (binaryOp .Mult) (fun x y H Q => ∃ l k xs, x = .ref l ∧ y = .int k ∧ Rd H l (.lst xs) ∧ -(2 ^ 63) ≤ k ∧ k < 2 ^ 63 ∧ xs.length * k.toNat ≤ sizeLine ∧
  ∀ p, H p = none → Q (.ref p) (upd H p (.lst (List.replicate k.toNat xs).flatten))) := by
  intro pins s σ H x y v u Q I rx ry h
  obtain ⟨l, k, xs, rfl, rfl, hH, h1, h2, hz, q⟩ := h
  cases rx
  obtain ⟨t, rfl⟩ := ry
  obtain ⟨its, n, r, hl, e⟩ := Inv.lstR I hH
  have hlen : its.toArray.size * k.toNat ≤ sizeLine := by rw [List.size_toArray, ← hl]; exact hz
  have hcap : ¬ its.toArray.size * k.toNat > (2 ^ 63 - 1) / 8 := by
    have : (sizeLine : Nat) ≤ (2 ^ 63 - 1) / 8 := by decide
    omega
  have hfit : ¬ (!Builtin.List.listFitsIndex k) = true := by
    rw [fitsIndex_both h1 h2]
    exact Bool.false_ne_true
  have hlong : ¬ Builtin.List.listTooLong (its.toArray.size * k.toNat) = true := by
    rw [notLongL hlen]
    exact Bool.false_ne_true
  have hnew : List.foldl (fun x1 x2 => x1 ++ x2) #[] (List.replicate (if its.toArray.isEmpty = true then 0 else k.toNat) its.toArray) = (List.replicate k.toNat its).flatten.toArray := by
    have f0 : ∀ m : Nat, List.foldl (fun x1 x2 => x1 ++ x2) #[] (List.replicate m its.toArray) = (List.replicate m its).flatten.toArray := fun m => by
      have := foldl_rep its m []
      rw [List.nil_append] at this
      exact this
    rw [f0]
    cases its with
    | nil => simp
    | cons a r' => rw [if_neg (by simp)]
  refine wpAny_binaryOp_repeat_ref (T := "list") (U := "int") (by decide) ⟨_, e, rfl⟩ (fun s' => typeIs_int s' k t) noFill_list_mul F.fills_int_mul F.slot_int_rmul repeat_list F.slot_int_index.lookup
    (call_meets F.slot_int_rmul (typeIs_int s k t) F.entry_int_rmul (F.args_int_rmul_2 _ _) (int___rmul___int_list k t l its.toArray n)
      ⟨e, rfl, ⟨_, e, rfl⟩, call_meets F.slot_list_mul ⟨_, e, rfl⟩ F.entry_list_mul (F.args_list_mul_2 _ _) (AutoListH.list___mul___list_int_3 l its.toArray n k t hfit hcap hlong) ⟨e, ?_⟩⟩)
  rw [hnew]
  exact ⟨.ref _, _, I.lnew (t' := s.toks) (r.rep k.toNat) (by rw [PyProof.Rows.lm_len_rep_flat, Nat.mul_comm]; exact hz), rfl, q _ I.fresh⟩
theorem IsAll.rep {K : PySem.W.Frag} {mg : Str → Option Value} {F : Hp} {vs : List V} {ds : List D} (h : IsAll K mg F vs ds) : ∀ n : Nat, IsAll K mg F (List.replicate n vs).flatten (List.replicate n ds).flatten
  | 0 => .nil
  | n + 1 => by
    rw [List.replicate_succ, List.replicate_succ, List.flatten_cons, List.flatten_cons]
    exact h.append (IsAll.rep h n)

/-! each operation does what evPrim says -/
theorem opP_add : OpR X (binaryOp .Add) (rP X .add) := by
  intro pins s σ H x y v u Q I rx ry h
  obtain ⟨H₀, F, env, σ', s1, s2, R, a1, a2, q⟩ := h
  replace q : PK X.K X.mg H₀ F env σ' Q (pAdd [s1, s2]) := q
  unfold pAdd at q
  split at q
  · next heq =>
    cases heq
    cases Is.inv_int a1; cases Is.inv_int a2
    exact op_add pins s σ H _ _ v u Q I rx ry ⟨_, _, rfl, rfl, q.now R (.int _)⟩
  · next heq =>
    cases heq
    obtain ⟨p1, v1, rfl, h1, r1⟩ := Is.inv_tup a1
    obtain ⟨p2, v2, rfl, h2, r2⟩ := Is.inv_tup a2
    split at q
    · exact q.elim
    · next ne =>
      simp only [Bool.or_eq_true, List.isEmpty_iff, not_or] at ne
      have l := q.newT_le
      rw [List.length_append] at l
      have e1 := r1.length
      have e2 := r2.length
      refine op_catT pins s σ H _ _ v u Q I rx ry ⟨p1, p2, v1, v2, rfl, rfl, Same.seqT R.hf h1, Same.seqT R.hf h2, fun z => ne.1 ?_, lim_line (by omega), fun z => (ne.2 ?_).elim, fun _ p hp => q.newt R (r1.append r2) hp⟩
      · subst z; exact List.length_eq_zero_iff.mp e1.symm
      · subst z; exact List.length_eq_zero_iff.mp e2.symm
  · next heq =>
    cases heq
    split at q
    · next h1 h2 =>
      obtain ⟨p1, v1, rfl, g1, r1⟩ := a1.ls R h1
      obtain ⟨p2, v2, rfl, g2, r2⟩ := a2.ls R h2
      have l := q.newL_le
      rw [List.length_append] at l
      have e1 := r1.length
      have e2 := r2.length
      exact op_addS pins s σ H _ _ v u Q I rx ry ⟨p1, p2, v1, v2, rfl, rfl, g1, g2, lim_line (by omega), fun p hp => q.newl R (r1.append r2) hp⟩
    · exact q.elim
  · exact q.elim
theorem opP_sub : OpR X (binaryOp .Sub) (rP X .sub) := by
  intro pins s σ H x y v u Q I rx ry h
  obtain ⟨H₀, F, env, σ', s1, s2, R, a1, a2, q⟩ := h
  replace q : PK X.K X.mg H₀ F env σ' Q (pSub [s1, s2]) := q
  unfold pSub at q
  split at q
  · next heq =>
    cases heq
    cases Is.inv_int a1; cases Is.inv_int a2
    exact op_sub pins s σ H _ _ v u Q I rx ry ⟨_, _, rfl, rfl, q.now R (.int _)⟩
  · exact q.elim
theorem opP_mul : OpR X (binaryOp .Mult) (rP X .mul) := by
  intro pins s σ H x y v u Q I rx ry h
  obtain ⟨H₀, F, env, σ', s1, s2, R, a1, a2, q⟩ := h
  replace q : PK X.K X.mg H₀ F env σ' Q (pMul [s1, s2]) := q
  unfold pMul at q
  split at q
  · next heq =>
    cases heq
    cases Is.inv_int a1; cases Is.inv_int a2
    split at q
    · next hm => exact op_mulX pins s σ H _ _ v u Q I rx ry ⟨_, _, rfl, rfl, hm, q.now R (.int _)⟩
    · exact q.elim
  · next heq =>
    cases heq
    cases Is.inv_int a2
    obtain ⟨p1, v1, rfl, g1, r1⟩ := Is.inv_lst a1
    split at q
    · next hm =>
      simp only [Bool.and_eq_true, decide_eq_true_eq] at hm
      exact op_repR pins s σ H _ _ v u Q I rx ry ⟨_, _, v1, rfl, rfl, Same.rd R.hf g1, hm.1.1, hm.1.2, by rw [r1.length]; exact lim_line hm.2, fun p hp => q.newl R (IsAll.rep r1 _) hp⟩
    · exact q.elim
  · exact q.elim
theorem opP_fdiv (dv : DivOk X) : OpR X (binaryOp .FloorDiv) (rP X .fdiv) := by
  intro pins s σ H x y v u Q I rx ry h
  obtain ⟨H₀, F, env, σ', s1, s2, R, a1, a2, q⟩ := h
  replace q : PK X.K X.mg H₀ F env σ' Q (pFdiv [s1, s2]) := q
  unfold pFdiv at q
  split at q
  · next heq =>
    cases heq
    cases Is.inv_int a1; cases Is.inv_int a2
    split at q
    · exact q.elim
    · next hm => exact op_fdivX dv pins s σ H _ _ v u Q I rx ry ⟨_, _, rfl, rfl, hm, q.now R (.int _)⟩
  · exact q.elim
theorem opP_mod : OpR X (binaryOp .Mod) (rP X .mod) := by
  intro pins s σ H x y v u Q I rx ry h
  obtain ⟨H₀, F, env, σ', s1, s2, R, a1, a2, q⟩ := h
  replace q : PK X.K X.mg H₀ F env σ' Q (pMod [s1, s2]) := q
  unfold pMod at q
  split at q
  · next heq =>
    cases heq
    cases Is.inv_int a1; cases Is.inv_int a2
    split at q
    · exact q.elim
    · next hm => exact op_modN pins s σ H _ _ v u Q I rx ry ⟨_, _, rfl, rfl, hm, q.now R (.int _)⟩
  · exact q.elim
theorem opP_pow : OpR X (binaryOp .Pow) (rP X .pow) := by
  intro pins s σ H x y v u Q I rx ry h
  obtain ⟨H₀, F, env, σ', s1, s2, R, a1, a2, q⟩ := h
  replace q : PK X.K X.mg H₀ F env σ' Q (pPow [s1, s2]) := q
  unfold pPow at q
  split at q
  · next heq =>
    cases heq
    cases Is.inv_int a1; cases Is.inv_int a2
    split at q
    · next hm =>
      simp only [Bool.and_eq_true, decide_eq_true_eq] at hm
      exact op_pow pins s σ H _ _ v u Q I rx ry ⟨_, _, rfl, rfl, ⟨hm.1.1, hm.1.2, hm.2⟩, q.now R (.int _)⟩
    · exact q.elim
  · exact q.elim
theorem opP_cmp {op : CmpOp} {p : Prim} {f : Int → Int → Bool} (ho : OpR X (compareOp op) (rI0 fun i j => .bl (f i j))) (hp : ∀ as, evPrim p as = pCmp f as) : OpR X (compareOp op) (rP X p) := by
  intro pins s σ H x y v u Q I rx ry h
  obtain ⟨H₀, F, env, σ', s1, s2, R, a1, a2, q⟩ := h
  rw [hp] at q
  unfold pCmp at q
  split at q
  · next heq =>
    cases heq
    cases Is.inv_int a1; cases Is.inv_int a2
    exact ho pins s σ H _ _ v u Q I rx ry ⟨_, _, rfl, rfl, q.now R (.bl _)⟩
  · exact q.elim
theorem isNon_iff {K : PySem.W.Frag} {mg : Str → Option Value} {F : Hp} {x : V} {d : D} (h : Is K mg F x d) : decide (x = .non) = d.isNon := by cases h <;> rfl
theorem opP_isN : OpR X (compareOp .Is) (rP X .isN) := by
  intro pins s σ H x y v u Q I rx ry h
  obtain ⟨H₀, F, env, σ', s1, s2, R, a1, a2, q⟩ := h
  replace q : PK X.K X.mg H₀ F env σ' Q (pIsN [s1, s2]) := q
  unfold pIsN at q
  split at q
  · next heq =>
    cases heq
    cases (show Is X.K X.mg F y .non from a2)
    exact op_isN pins s σ H _ _ v u Q I rx ry ⟨rfl, by rw [isNon_iff (show Is X.K X.mg F x _ from a1)]; exact q.now R (.bl _)⟩
  · exact q.elim
theorem opP_notN : OpR X (compareOp .IsNot) (rP X .notN) := by
  intro pins s σ H x y v u Q I rx ry h
  obtain ⟨H₀, F, env, σ', s1, s2, R, a1, a2, q⟩ := h
  replace q : PK X.K X.mg H₀ F env σ' Q (pNotN [s1, s2]) := q
  unfold pNotN at q
  split at q
  · next heq =>
    cases heq
    cases (show Is X.K X.mg F y .non from a2)
    exact op_notN pins s σ H _ _ v u Q I rx ry ⟨rfl, by rw [isNon_iff (show Is X.K X.mg F x _ from a1)]; exact q.now R (.bl _)⟩
  · exact q.elim
theorem evEq_eq {K : PySem.W.Frag} {mg : Str → Option Value} {H₀ F H : Hp} {env : En} {σ : L2.St} {x y : V} {s1 s2 : Sl} {b : Bool} (R : Rep K mg H₀ F env σ H) (a1 : ArgIs K mg F H x s1) (a2 : ArgIs K mg F H y s2) (e : evEq [s1, s2] = some b) :
    ∃ p q, Dp K H x p ∧ Dp K H y q ∧ SeqAt.shaped p = true ∧ SeqAt.shaped q = true ∧ b = PyData.eqv p q := by
  unfold evEq at e
  dsimp only at e
  split at e
  · next d1 d2 e1 e2 =>
    unfold eqB at e
    split at e
    · next hp =>
      rw [Bool.and_eq_true] at hp
      cases e
      exact ⟨_, _, Is.dp (a1.asH R e1) hp.1, Is.dp (a2.asH R e2) hp.2, D.plain_shaped hp.1, D.plain_shaped hp.2, rfl⟩
    · cases e
  · cases e
theorem opP_eq (hu : X.A.units + 64 < cLine) : OpR X (compareOp .Eq) (rP X .eq) := by
  intro pins s σ H x y v u Q I rx ry h
  obtain ⟨H₀, F, env, σ', s1, s2, R, a1, a2, q⟩ := h
  replace q : PK X.K X.mg H₀ F env σ' Q (ofB (evEq [s1, s2])) := q
  unfold ofB at q
  split at q
  · next b e =>
    obtain ⟨p1, p2, d1, d2, w1, w2, rfl⟩ := evEq_eq R a1 a2 e
    exact op_eqD hu pins s σ H _ _ v u Q I rx ry ⟨_, _, d1, d2, w1, w2, q.now R (.bl _)⟩
  · exact q.elim
theorem opP_ne (hu : X.A.units + 64 < cLine) : OpR X (compareOp .NotEq) (rP X .ne) := by
  intro pins s σ H x y v u Q I rx ry h
  obtain ⟨H₀, F, env, σ', s1, s2, R, a1, a2, q⟩ := h
  replace q : PK X.K X.mg H₀ F env σ' Q (notB (evEq [s1, s2])) := q
  unfold notB at q
  split at q
  · next b e =>
    obtain ⟨p1, p2, d1, d2, w1, w2, rfl⟩ := evEq_eq R a1 a2 e
    exact op_neD hu pins s σ H _ _ v u Q I rx ry ⟨_, _, d1, d2, w1, w2, q.now R (.bl _)⟩
  · exact q.elim
theorem pyAll_any (p : PyData) : ∀ xs : List D, (xs.any fun z => PyData.eqv z.py p) = ((D.pyAll xs).any fun z => PyData.eqv z p)
  | [] => rfl
  | x :: xs => by simp only [List.any_cons, D.pyAll, pyAll_any p xs]
theorem evIn_eq {K : PySem.W.Frag} {mg : Str → Option Value} {H₀ F H : Hp} {env : En} {σ : L2.St} {x y : V} {s1 s2 : Sl} {b : Bool} (R : Rep K mg H₀ F env σ H) (a1 : ArgIs K mg F H x s1) (a2 : ArgIs K mg F H y s2) (e : evIn [s1, s2] = some b) :
    ∃ d ds, Dp K H x d ∧ Dp K H y (.list ds) ∧ SeqAt.shaped d = true ∧ SeqAt.shaped (.list ds) = true ∧ b = ds.any fun z => PyData.eqv z d := by
  unfold evIn at e
  split at e
  · next a b' heq =>
    cases heq
    split at e
    · next xs e2 =>
      unfold inB at e
      split at e
      · next hp =>
        rw [Bool.and_eq_true] at hp
        cases e
        obtain ⟨p, vs, rfl, g, r⟩ := a2.ls R e2
        have pl : (D.lst xs).plain 60 = true := by simpa [D.plain] using hp.2
        have sh := D.plain_shaped pl
        exact ⟨_, D.pyAll xs, Is.dp (Is.mono R.hf a1) hp.1, .lst (.inl g) (IsAll.dp (n := 59) (IsAll.mono R.hf r) hp.2), D.plain_shaped hp.1, by simpa [D.py] using sh, pyAll_any _ _⟩
      · cases e
    · cases e
  · cases e
theorem opP_in (hu : X.A.units + 65 < cLine) : OpR X (compareOp .In) (rP X .inn) := by
  intro pins s σ H x y v u Q I rx ry h
  obtain ⟨H₀, F, env, σ', s1, s2, R, a1, a2, q⟩ := h
  replace q : PK X.K X.mg H₀ F env σ' Q (ofB (evIn [s1, s2])) := q
  unfold ofB at q
  split at q
  · next b e =>
    obtain ⟨p1, p2, d1, d2, w1, w2, rfl⟩ := evIn_eq R a1 a2 e
    exact op_inD hu pins s σ H _ _ v u Q I rx ry ⟨_, _, d1, d2, w1, w2, q.now R (.bl _)⟩
  · exact q.elim
theorem opP_notin (hu : X.A.units + 65 < cLine) : OpR X (compareOp .NotIn) (rP X .notin) := by
  intro pins s σ H x y v u Q I rx ry h
  obtain ⟨H₀, F, env, σ', s1, s2, R, a1, a2, q⟩ := h
  replace q : PK X.K X.mg H₀ F env σ' Q (notB (evIn [s1, s2])) := q
  unfold notB at q
  split at q
  · next b e =>
    obtain ⟨p1, p2, d1, d2, w1, w2, rfl⟩ := evIn_eq R a1 a2 e
    exact op_notInD hu pins s σ H _ _ v u Q I rx ry ⟨_, _, d1, d2, w1, w2, q.now R (.bl _)⟩
  · exact q.elim
/-! subscripts -/
theorem IsAll.atI {K : PySem.W.Frag} {mg : Str → Option Value} {F : Hp} {vs : List V} {ds : List D} {i : Int} {d : D} (h : IsAll K mg F vs ds) (e : atD ds i = some d) : ∃ v, L2.atI vs i = some v ∧ Is K mg F v d := by
  unfold atD L2.atI at e
  unfold L2.atI
  rw [h.length]
  cases q : ixN ds.length i with
  | none => rw [q] at e; cases e
  | some j =>
    rw [q] at e
    exact h.get (i := j) e
theorem ixP : IxR X (rP X .idx) := by
  intro value slice pins s σ H x y v u Q I rx ry h hs
  obtain ⟨H₀, F, env, σ', s1, s2, R, a1, a2, q⟩ := h
  replace q : PK X.K X.mg H₀ F env σ' Q (pIdx [s1, s2]) := q
  unfold pIdx at q
  split at q
  · next heq =>
    cases heq
    cases Is.inv_int a2
    obtain ⟨p1, v1, rfl, g1, r1⟩ := Is.inv_tup a1
    unfold ofO at q
    split at q
    · next d e =>
      obtain ⟨w, e1, e2⟩ := IsAll.atI r1 e
      exact ix_tup value slice pins s σ H _ _ v u Q I rx ry ⟨p1, v1, _, w, rfl, rfl, Same.seqT R.hf g1, e1, q.now R e2⟩ hs
    · exact q.elim
  · next heq =>
    cases heq
    cases Is.inv_int a2
    split at q
    · next e0 =>
      obtain ⟨p1, v1, rfl, g1, r1⟩ := a1.rs R e0
      unfold ofO at q
      split at q
      · next d e =>
        obtain ⟨w, e1, e2⟩ := IsAll.atI r1 e
        exact ix_list value slice pins s σ H _ _ v u Q I rx ry ⟨p1, v1, _, w, rfl, rfl, g1, e1, q.now R e2⟩ hs
      · exact q.elim
    · exact q.elim
  · exact q.elim
end
end Ev
set_option Elab.async false
set_option linter.all false
set_option maxRecDepth 100000
set_option maxHeartbeats 1000000
namespace Ev
open PySem PySem.Spec PyProof.Rows L2

section
variable (K : PySem.W.Frag) (mg : Str → Option Value)
inductive ArgsIs (F H : Hp) : List V → List Sl → Prop
  | nil : ArgsIs F H [] []
  | cons {x : V} {xs : List V} {s : Sl} {ss : List Sl} : ArgIs K mg F H x s → ArgsIs F H xs ss → ArgsIs F H (x :: xs) (s :: ss)
end
section
variable {K : PySem.W.Frag} {mg : Str → Option Value} {F H : Hp}
theorem ArgsIs.one {xs : List V} {s : Sl} (h : ArgsIs K mg F H xs [s]) : ∃ x, xs = [x] ∧ ArgIs K mg F H x s := by
  cases h with | cons a r => cases r; exact ⟨_, rfl, a⟩
theorem ArgsIs.two {xs : List V} {s t : Sl} (h : ArgsIs K mg F H xs [s, t]) : ∃ x y, xs = [x, y] ∧ ArgIs K mg F H x s ∧ ArgIs K mg F H y t := by
  cases h with | cons a r => cases r with | cons b r => cases r; exact ⟨_, _, rfl, a, b⟩
theorem ArgsIs.length : ∀ {xs : List V} {ss : List Sl}, ArgsIs K mg F H xs ss → xs.length = ss.length
  | _, _, .nil => rfl
  | _, _, .cons _ r => congrArg (· + 1) (ArgsIs.length r)
theorem ArgsIs.allD : ∀ {xs : List V} {ss : List Sl} {ds : List D}, ArgsIs K mg F H xs ss → Ev.allD ss = some ds → IsAll K mg F xs ds
  | _, _, _, .nil, e => by simp only [Ev.allD, Option.some.injEq] at e; subst e; exact .nil
  | _, s :: ss, _, .cons a r, e => by
    cases s with
    | val d =>
      simp only [Ev.allD] at e
      split at e
      · next l q => cases e; exact .cons a (ArgsIs.allD r q)
      · cases e
    | own _ => simp [Ev.allD] at e
    | bor _ => simp [Ev.allD] at e
theorem intsOf_is : ∀ {xs : List V} {ds : List D} {ns : List Int}, IsAll K mg F xs ds → intsOf ds = some ns → xs = ns.map V.int
  | _, _, _, .nil, e => by simp only [intsOf, Option.some.injEq] at e; subst e; rfl
  | _, d :: ds, _, .cons a r, e => by
    cases d <;> simp only [intsOf, reduceCtorEq] at e
    split at e
    · next l q => cases e; cases Is.inv_int a; rw [intsOf_is r q]; rfl
    · cases e
theorem boolsOf_is : ∀ {xs : List V} {ds : List D} {ns : List Bool}, IsAll K mg F xs ds → boolsOf ds = some ns → xs = ns.map V.bl
  | _, _, _, .nil, e => by simp only [boolsOf, Option.some.injEq] at e; subst e; rfl
  | _, d :: ds, _, .cons a r, e => by
    cases d <;> simp only [boolsOf, reduceCtorEq] at e
    split at e
    · next l q => cases e; cases Is.inv_bl a; rw [boolsOf_is r q]; rfl
    · cases e
end
theorem maxOf_mem : ∀ (i : Int) (r : List Int), maxOf (i :: r) ∈ i :: r ∧ ∀ y ∈ i :: r, y ≤ maxOf (i :: r)
  | i, [] => by simp [maxOf]
  | i, j :: r => by
    have h := maxOf_mem j r
    have e : maxOf (i :: j :: r) = max i (maxOf (j :: r)) := rfl
    rw [e]
    refine ⟨?_, fun y hy => ?_⟩
    · by_cases q : i ≤ maxOf (j :: r)
      · rw [Int.max_eq_right q]; exact List.mem_cons_of_mem _ h.1
      · rw [Int.max_eq_left (by omega)]; exact List.mem_cons_self
    · rcases List.mem_cons.mp hy with rfl | hy
      · omega
      · have := h.2 y hy; omega
theorem minOf_mem : ∀ (i : Int) (r : List Int), minOf (i :: r) ∈ i :: r ∧ ∀ y ∈ i :: r, minOf (i :: r) ≤ y
  | i, [] => by simp [minOf]
  | i, j :: r => by
    have h := minOf_mem j r
    have e : minOf (i :: j :: r) = min i (minOf (j :: r)) := rfl
    rw [e]
    refine ⟨?_, fun y hy => ?_⟩
    · by_cases q : i ≤ minOf (j :: r)
      · rw [Int.min_eq_left q]; exact List.mem_cons_self
      · rw [Int.min_eq_right (by omega)]; exact List.mem_cons_of_mem _ h.1
    · rcases List.mem_cons.mp hy with rfl | hy
      · omega
      · have := h.2 y hy; omega

def rPs (X : Cx) (p : Prim) : List V → Hp → VK → Prop := fun xs H Q => ∃ H₀ F env σ ss, Rep X.K X.mg H₀ F env σ H ∧ ArgsIs X.K X.mg F H xs ss ∧ PK X.K X.mg H₀ F env σ Q (evPrim p ss)
section
variable {X : Cx}
theorem cP_len : CallR X (.builtin "len") (rPs X .len) := by
  intro pins s σ H xs us Q I r h
  obtain ⟨H₀, F, env, σ', ss, R, a, q⟩ := h
  replace q : PK X.K X.mg H₀ F env σ' Q (pLen ss) := q
  unfold pLen at q
  split at q
  · obtain ⟨x, rfl, a1⟩ := a.one
    obtain ⟨p1, v1, rfl, g1, r1⟩ := Is.inv_tup a1
    refine call_len pins s σ H _ us Q I r ⟨_, v1.length, rfl, .inr ⟨v1, Same.seqT R.hf g1, rfl⟩, ?_⟩
    rw [r1.length]
    exact q.now R (.int _)
  · obtain ⟨x, rfl, a1⟩ := a.one
    split at q
    · next e =>
      obtain ⟨p1, v1, rfl, g1, r1⟩ := a1.rs R e
      refine call_len pins s σ H _ us Q I r ⟨_, v1.length, rfl, .inl ⟨v1, g1, rfl⟩, ?_⟩
      rw [r1.length]
      exact q.now R (.int _)
    · exact q.elim
  · exact q.elim
theorem cP_abs : CallR X (.builtin "abs") (rPs X .abs) := by
  intro pins s σ H xs us Q I r h
  obtain ⟨H₀, F, env, σ', ss, R, a, q⟩ := h
  replace q : PK X.K X.mg H₀ F env σ' Q (pAbs ss) := q
  unfold pAbs at q
  split at q
  · obtain ⟨x, rfl, a1⟩ := a.one
    cases Is.inv_int a1
    exact call_abs pins s σ H _ us Q I r ⟨_, rfl, q.now R (.int _)⟩
  · exact q.elim
theorem cP_int : CallR X (.type "int") (rPs X .int) := by
  intro pins s σ H xs us Q I r h
  obtain ⟨H₀, F, env, σ', ss, R, a, q⟩ := h
  replace q : PK X.K X.mg H₀ F env σ' Q (pInt ss) := q
  unfold pInt at q
  split at q
  · obtain ⟨x, rfl, a1⟩ := a.one
    cases Is.inv_int a1
    exact call_int1 pins s σ H _ us Q I r (.inl ⟨_, rfl, q.now R (.int _)⟩)
  · exact q.elim
theorem cP_gcd : CallR X (.builtin "math.gcd") (rPs X .gcd) := by
  intro pins s σ H xs us Q I r h
  obtain ⟨H₀, F, env, σ', ss, R, a, q⟩ := h
  replace q : PK X.K X.mg H₀ F env σ' Q (pGcd ss) := q
  unfold pGcd at q
  split at q
  · obtain ⟨x, y, rfl, a1, a2⟩ := a.two
    cases Is.inv_int a1; cases Is.inv_int a2
    exact cr_gcd pins s σ H _ us Q I r ⟨_, _, rfl, q.now R (.int _)⟩
  · exact q.elim
theorem cP_min2 (hc : X.calm = true) : CallR X (.builtin "min") (rPs X .min2) := by
  intro pins s σ H xs us Q I r h
  obtain ⟨H₀, F, env, σ', ss, R, a, q⟩ := h
  replace q : PK X.K X.mg H₀ F env σ' Q (pMin2 ss) := q
  unfold pMin2 at q
  split at q
  · obtain ⟨x, y, rfl, a1, a2⟩ := a.two
    cases Is.inv_int a1; cases Is.inv_int a2
    exact call_min2 hc pins s σ H _ us Q I r ⟨_, _, rfl, q.now R (.int _)⟩
  · exact q.elim
theorem cP_max2 (hc : X.calm = true) : CallR X (.builtin "max") (rPs X .max2) := by
  intro pins s σ H xs us Q I r h
  obtain ⟨H₀, F, env, σ', ss, R, a, q⟩ := h
  replace q : PK X.K X.mg H₀ F env σ' Q (pMax2 ss) := q
  unfold pMax2 at q
  split at q
  · obtain ⟨x, y, rfl, a1, a2⟩ := a.two
    cases Is.inv_int a1; cases Is.inv_int a2
    exact call_max2 hc pins s σ H _ us Q I r ⟨_, _, rfl, q.now R (.int _)⟩
  · exact q.elim
theorem onInts_is {H₀ F H : Hp} {env : En} {σ : L2.St} {Q : VK} {f : List Int → Pr} {xs : List V} {ss : List Sl} (R : Rep X.K X.mg H₀ F env σ H) (a : ArgsIs X.K X.mg F H xs ss) (q : PK X.K X.mg H₀ F env σ Q (onInts f ss)) :
    ∃ p ns, xs = [.ref p] ∧ SqL X.K H p (ns.map V.int) ∧ PK X.K X.mg H₀ F env σ Q (f ns) := by
  unfold onInts at q
  split at q
  · obtain ⟨x, rfl, a1⟩ := a.one
    split at q
    · next e =>
      split at q
      · next e2 =>
        obtain ⟨p1, v1, rfl, g1, r1⟩ := a1.ls R e
        have := intsOf_is r1 e2
        subst this
        exact ⟨p1, _, rfl, .inl g1, q⟩
      · exact q.elim
    · exact q.elim
  · exact q.elim
theorem onBools_is {H₀ F H : Hp} {env : En} {σ : L2.St} {Q : VK} {f : List Bool → Pr} {xs : List V} {ss : List Sl} (R : Rep X.K X.mg H₀ F env σ H) (a : ArgsIs X.K X.mg F H xs ss) (q : PK X.K X.mg H₀ F env σ Q (onBools f ss)) :
    ∃ p ns, xs = [.ref p] ∧ SqL X.K H p (ns.map V.bl) ∧ PK X.K X.mg H₀ F env σ Q (f ns) := by
  unfold onBools at q
  split at q
  · obtain ⟨x, rfl, a1⟩ := a.one
    split at q
    · next e =>
      split at q
      · next e2 =>
        obtain ⟨p1, v1, rfl, g1, r1⟩ := a1.ls R e
        have := boolsOf_is r1 e2
        subst this
        exact ⟨p1, _, rfl, .inl g1, q⟩
      · exact q.elim
    · exact q.elim
  · exact q.elim
theorem cP_sum (hc : X.calm = true) : CallR X (.builtin "sum") (rPs X .suml) := by
  intro pins s σ H xs us Q I r h
  obtain ⟨H₀, F, env, σ', ss, R, a, q⟩ := h
  obtain ⟨p, ns, rfl, g, q⟩ := onInts_is R a q
  exact cr_sum hc pins s σ H _ us Q I r ⟨p, ns, rfl, g, q.now R (.int _)⟩
theorem cP_any (hc : X.calm = true) : CallR X (.builtin "any") (rPs X .anyl) := by
  intro pins s σ H xs us Q I r h
  obtain ⟨H₀, F, env, σ', ss, R, a, q⟩ := h
  obtain ⟨p, ns, rfl, g, q⟩ := onBools_is R a q
  exact cr_any hc pins s σ H _ us Q I r ⟨p, ns, rfl, g, q.now R (.bl _)⟩
theorem cP_all (hc : X.calm = true) : CallR X (.builtin "all") (rPs X .alll) := by
  intro pins s σ H xs us Q I r h
  obtain ⟨H₀, F, env, σ', ss, R, a, q⟩ := h
  obtain ⟨p, ns, rfl, g, q⟩ := onBools_is R a q
  exact cr_all hc pins s σ H _ us Q I r ⟨p, ns, rfl, g, q.now R (.bl _)⟩
theorem cP_max (hc : X.calm = true) : CallR X (.builtin "max") (rPs X .maxl) := by
  intro pins s σ H xs us Q I r h
  obtain ⟨H₀, F, env, σ', ss, R, a, q⟩ := h
  obtain ⟨p, ns, rfl, g, q⟩ := onInts_is R a q
  cases ns with
  | nil => exact q.elim
  | cons i r' =>
    refine cr_max hc pins s σ H _ us Q I r ⟨p, _, rfl, g, by simp, fun m h1 h2 => ?_⟩
    have h := maxOf_mem i r'
    have e : m = maxOf (i :: r') := Int.le_antisymm (h.2 m h1) (h2 _ h.1)
    rw [e]
    exact q.now R (.int _)
theorem cP_min (hc : X.calm = true) : CallR X (.builtin "min") (rPs X .minl) := by
  intro pins s σ H xs us Q I r h
  obtain ⟨H₀, F, env, σ', ss, R, a, q⟩ := h
  obtain ⟨p, ns, rfl, g, q⟩ := onInts_is R a q
  cases ns with
  | nil => exact q.elim
  | cons i r' =>
    refine cr_min hc pins s σ H _ us Q I r ⟨p, _, rfl, g, by simp, fun m h1 h2 => ?_⟩
    have h := minOf_mem i r'
    have e : m = minOf (i :: r') := Int.le_antisymm (h2 _ h.1) (h.2 m h1)
    rw [e]
    exact q.now R (.int _)
theorem cP_tuple : CallR X (.type "tuple") (rPs X .tuple) := by
  intro pins s σ H xs us Q I r h
  obtain ⟨H₀, F, env, σ', ss, R, a, q⟩ := h
  replace q : PK X.K X.mg H₀ F env σ' Q (pTuple ss) := q
  unfold pTuple at q
  split at q
  · obtain ⟨x, rfl, a1⟩ := a.one
    obtain ⟨p1, v1, rfl, g1, r1⟩ := Is.inv_tup a1
    exact call_tuple_of pins s σ H _ us Q I r ⟨_, v1, rfl, .inr ⟨Same.seqT R.hf g1, q.now R a1⟩⟩
  · obtain ⟨x, rfl, a1⟩ := a.one
    split at q
    · next e =>
      obtain ⟨p1, v1, rfl, g1, r1⟩ := a1.rs R e
      exact call_tuple_of pins s σ H _ us Q I r ⟨_, v1, rfl, .inl ⟨g1, fun l hl => q.newt R r1 hl⟩⟩
    · exact q.elim
  · exact q.elim
theorem cP_list : CallR X (.type "list") (rPs X .list) := by
  intro pins s σ H xs us Q I r h
  obtain ⟨H₀, F, env, σ', ss, R, a, q⟩ := h
  replace q : PK X.K X.mg H₀ F env σ' Q (pList ss) := q
  unfold pList at q
  split at q
  · obtain ⟨x, rfl, a1⟩ := a.one
    obtain ⟨p1, v1, rfl, g1, r1⟩ := Is.inv_tup a1
    exact call_list_of pins s σ H _ us Q I r ⟨_, v1, rfl, .inr (Same.seqT R.hf g1), fun l hl => q.newl R r1 hl⟩
  · obtain ⟨x, rfl, a1⟩ := a.one
    split at q
    · next e =>
      obtain ⟨p1, v1, rfl, g1, r1⟩ := a1.rs R e
      exact call_list_of pins s σ H _ us Q I r ⟨_, v1, rfl, .inl g1, fun l hl => q.newl R r1 hl⟩
    · exact q.elim
  · exact q.elim

/-! isinstance -/
def Ty.nm : Ty → String
  | .int => "int" | .bool => "bool" | .tuple => "tuple" | .list => "list" | .str => "str"
theorem tyLst {K : PySem.W.Frag} {H : Hp} {a : Addr} {vs : List V} (h : Rd H a (.lst vs)) : TyX K H (.ref a) (.type "list") := by
  rcases h with h | ⟨o, h⟩
  · exact .base (.lst h)
  · exact .base (.frz h)
theorem tyTup {K : PySem.W.Frag} {H : Hp} {a : Addr} {vs : List V} (h : SqT K H a vs) : TyX K H (.ref a) (.type "tuple") := by
  rcases h with (h | ⟨o, h⟩) | ⟨o, its, n, h, c, _⟩
  · exact .base (.tup h)
  · exact .fTuple h
  · exact .kTuple h c
def Sl.ty : Sl → Option String
  | .val .non => some "NoneType"
  | .val (.bl _) => some "bool"
  | .val (.int _) => some "int"
  | .val (.str _) => some "str"
  | .val (.tup _) => some "tuple"
  | .val (.lst _) => some "list"
  | .own _ => some "list"
  | .bor _ => some "list"
  | _ => none
theorem tyX {H₀ F H : Hp} {env : En} {σ : L2.St} {x : V} {s : Sl} {t : String} (R : Rep X.K X.mg H₀ F env σ H) (a : ArgIs X.K X.mg F H x s) (e : s.ty = some t) : TyX X.K H x (.type t) := by
  cases s with
  | own _ => exact a.elim
  | bor ds =>
    cases e
    obtain ⟨p, vs, rfl, h, _⟩ := a
    exact tyLst h
  | val d =>
    cases d <;> simp only [Sl.ty, Option.some.injEq, reduceCtorEq] at e <;> subst e
    · cases (show Is _ _ _ x .non from a); exact .base .non
    · cases Is.inv_bl a; exact .base (.bl _)
    · cases Is.inv_int a; exact .base (.int _)
    · cases Is.inv_str a; exact .base (.str _)
    · obtain ⟨p, vs, rfl, h, _⟩ := Is.inv_tup a; exact tyTup (Same.seqT R.hf h)
    · obtain ⟨p, vs, rfl, h, _⟩ := Is.inv_lst a; exact tyLst (Same.rd R.hf h)
theorem kit_isi {K : PySem.W.Frag} (t : Ty) (s : Sl) (b : Bool) (h : isiD t s = some b) : ∃ n, s.ty = some n ∧ PySem.W.kitOne K (.type n) (.type t.nm) = some b := by
  have fin : ∀ n, s.ty = some n → kitB n t.nm = some b → ∃ n, s.ty = some n ∧ PySem.W.kitOne K (.type n) (.type t.nm) = some b := fun n e k => ⟨n, e, kit_ty k⟩
  cases s with
  | own _ => cases t <;> simp only [isiD, Option.some.injEq] at h <;> subst h <;> exact fin _ rfl (by decide +kernel)
  | bor _ => cases t <;> simp only [isiD, Option.some.injEq] at h <;> subst h <;> exact fin _ rfl (by decide +kernel)
  | val d => cases d <;> cases t <;> simp only [isiD, Option.some.injEq, reduceCtorEq] at h <;> subst h <;> exact fin _ rfl (by decide +kernel)
def rIs (X : Cx) (t : Ty) : List V → Hp → VK → Prop := fun xs H Q => ∃ H₀ F env σ x s b, xs = [x, .ty t.nm] ∧ Rep X.K X.mg H₀ F env σ H ∧ ArgIs X.K X.mg F H x s ∧ isiD t s = some b ∧ PK X.K X.mg H₀ F env σ Q (.d (.bl b))
theorem cP_isi (t : Ty) : CallR X (.builtin "isinstance") (rIs X t) := by
  intro pins s σ H xs us Q I r h
  obtain ⟨H₀, F, env, σ', x, sl, b, rfl, R, a, e, q⟩ := h
  obtain ⟨n, e1, e2⟩ := kit_isi (K := X.K) t sl b e
  exact call_isi pins s σ H _ us Q I r ⟨x, _, _, _, b, rfl, .ty _, tyX R a e1, e2, q.now R (.bl b)⟩
end
end Ev
set_option Elab.async false
set_option linter.all false
set_option maxRecDepth 100000
set_option maxHeartbeats 1000000
namespace Ev
open PySem PySem.Spec PyProof.Rows L2

/-! ### context -/
def DivOkB (X : Cx) : Prop := ∀ s : Shared, X.A.frames = some X.stack → (∀ b o, X.base.get? b = some o → s.heap.get? b = some o) → PySem.PylongRoom (model X.prog X.w) X.A s
theorem DivOkB.div {X : Cx} (d : DivOkB X) : DivOk X := fun _ _ _ s I => d s I.ok.frames I.bk
def bltFree : List Str := ["len", "abs", "int", "bool", "tuple", "list", "str", "min", "max", "sum", "any", "all", "range", "enumerate", "zip", "isinstance", "sorted", "reversed"]
structure Xt (X : Cx) (n : Nat) (W : WX) : Prop where
  calm : X.calm = true
  nd : X.N.Nodup
  tk : Takes X W
  pass : PassesOwn (model X.prog X.w) X.A X.env X.xe
  room : Room n X.A
  dv : DivOkB X
  free : ∀ x ∈ bltFree, X.mg x = none
section
variable (K : PySem.W.Frag) (mg : Str → Option Value)
/-- an exception's class and fields -/
def XIs (F H : Hp) (x : Exn) (cls : Value) (dd : Option Addr) : Prop := ∃ C, mg x.cls = some (.ref C) ∧ cls = .ref C ∧ (x.args = [] → dd = none)
def spOf (den : List Sl → Rf) : Sp := fun vs H Q E => ∃ F ss, Same F H ∧ ArgsIs K mg F H vs ss ∧ match den ss with
  | .ok (.val d) => ∀ F' H' v, Grow H F F' → Same H H' → Same F' H' → Is K mg F' v d → Q v H'
  | .ok (.own ds) => ∀ F' H' p vs, Grow H F F' → Same H H' → Same F' H' → H p = none → F' p = none → H' p = some (.lst vs) → IsAll K mg F' vs ds → Q (.ref p) H'
  | .ok (.bor _) => False
  | .exc x => ∀ F' H' cls dd, Grow H F F' → Same H H' → Same F' H' → XIs mg F' H' x cls dd → E cls dd H'
  | .bad => False
end
structure Gd where
  P : Program
  w : World
  K : PySem.W.Frag
  mg : Str → Option Value
  base : Heap
  n : Nat
abbrev gd (X : Cx) (n : Nat) : Gd := ⟨X.prog, X.w, X.K, X.mg, X.base, n⟩
/-- a def of the module means den; dfl: the defaults at the end -/
def FnG (G : Gd) (f : Str) (den : List Sl → Rf) (dfl : List D) : Prop := ∃ fa fd ps ds dvs, G.mg f = some (.ref fa) ∧ PySem.W.keepIn G.K (.ref fa) = true ∧
  FnOk G.P G.w G.K G.mg G.base (L2.CX G.P G.w) G.n fa fd ps (spOf G.K G.mg den) ∧ Binds G.K fd ps ds ∧ Vals dvs ds ∧ ∀ F, IsAll G.K G.mg F dvs dfl
def goodP (G : Gd) : Prim → Prop
  | .gcd => G.mg "gcd" = some (.builtin "math.gcd")
  | _ => True
mutual
def Ex.good (G : Gd) : Ex → Prop
  | .var _ _ => True
  | .rd _ _ => True
  | .con _ => True
  | .glob x d => ∃ u v, G.mg x = some u ∧ RelV v u ∧ ∀ F, Is G.K G.mg F v d
  | .prim p as => goodP G p ∧ as.good G
  | .isi _ as => as.good G
  | .call f den dfl as => FnG G f den dfl ∧ as.good G
  | .and a b => a.good G ∧ b.good G
  | .or a b => a.good G ∧ b.good G
  | .not a => a.good G
  | .ite c a b => c.good G ∧ a.good G ∧ b.good G
  | .chain _ _ a b c => a.good G ∧ b.good G ∧ c.good G
  | .slc a lo hi => a.good G ∧ lo.good G ∧ hi.good G
  | .comp _ _ it e => it.good G ∧ e.good G
  | .compif _ _ it c e => it.good G ∧ c.good G ∧ e.good G
def Oe.good (G : Gd) : Oe → Prop
  | .none => True
  | .some a => a.good G
def Exs.good (G : Gd) : Exs → Prop
  | .nil => True
  | .cons a as => a.good G ∧ as.good G
def Itr.good (G : Gd) : Itr → Prop
  | .seq a => a.good G
  | .rng as => as.good G
  | .enum as => as.good G
  | .zip as => as.good G
end

/-! ### the syntax that a term stands for -/
def visB (N : List Str) (sc : Scope) (i : Nat) (x : Str) : Bool := decide (N[i]? = some x) && (decide (sc.names.lookup x = some .local) || decide (sc.names.lookup x = some .cell) || decide (sc.names.lookup x = some .free)) && !(x == ("__debug__" : Str)) && !(x == ("__classdict__" : Str))
def locB (N : List Str) (sc : Scope) (i : Nat) (x : Str) : Bool := decide (N[i]? = some x) && (decide (sc.names.lookup x = some .local) || decide (sc.names.lookup x = some .cell))
def glB (sc : Scope) (x : Str) : Bool := decide (sc.names.lookup x = some .globalImplicit) && !(x == ("__debug__" : Str))
def notStar : Expr → Bool
  | .Starred _ _ => false
  | _ => true
def plainIx : Expr → Bool
  | .Slice _ _ _ _ => false
  | .Tuple _ _ _ => false
  | _ => true
def plainT : Expr → Bool
  | .BoolOp _ _ _ => false
  | .UnaryOp .Not _ _ => false
  | .Compare _ _ _ _ => false
  | .NamedExpr _ _ _ => false
  | .IfExp _ _ _ _ => false
  | _ => true
def binP : Operator → Option Prim
  | .Add => some .add | .Sub => some .sub | .Mult => some .mul | .FloorDiv => some .fdiv | .Mod => some .mod | .Pow => some .pow
  | _ => none
def cmpP : CmpOp → Option Prim
  | .Eq => some .eq | .NotEq => some .ne | .Lt => some .lt | .LtE => some .le | .Gt => some .gt | .GtE => some .ge | .Is => some .isN | .IsNot => some .notN | .In => some .inn | .NotIn => some .notin
def bltP (n : Nat) (x : Str) : Option Prim :=
  if x = "len" then some .len else if x = "abs" then some .abs else if x = "int" then some .int else if x = "gcd" then some .gcd
  else if x = "min" then (if n = 2 then some .min2 else some .minl) else if x = "max" then (if n = 2 then some .max2 else some .maxl)
  else if x = "sum" then some .suml else if x = "any" then some .anyl else if x = "all" then some .alll else if x = "tuple" then some .tuple else if x = "list" then some .list else none
def tyOf (t : Ty) (x : Str) : Bool := decide (x = (t.nm : Str))
mutual
def okT (N : List Str) (sc : Scope) : Tgt → Expr → Bool
  | .nm i x, .Name y _ => decide (x = y) && locB N sc i x
  | .tup ts, .Tuple es _ _ => okTs N sc ts es
  | _, _ => false
def okTs (N : List Str) (sc : Scope) : Tgts → List Expr → Bool
  | .nil, [] => true
  | .cons t ts, e :: es => okT N sc t e && okTs N sc ts es
  | _, _ => false
end
/-- the scope of a comprehension's block -/
def reSc (sc scope : Scope) : Scope := { scope with names := scope.names.map fun (n, k) => if (k == NameKind.free && sc.kind == .function && sc.names.lookup n == some .cell) then (n, NameKind.cell) else (n, k) }
/-- may stand as a test -/
def tst : Ex → Bool
  | .ite _ _ _ => false
  | .and a b => tst a && tst b
  | .or a b => tst a && tst b
  | .not a => tst a
  | _ => true
mutual
def inT (vs : List Nat) : Tgt → Bool
  | .nm i _ => decide (i ∈ vs)
  | .tup ts => inTs vs ts
def inTs (vs : List Nat) : Tgts → Bool
  | .nil => true
  | .cons t ts => inT vs t && inTs vs ts
end
mutual
def okE (N : List Str) (sc : Scope) : Ex → Expr → Bool
  | .var i x, .Name y _ => decide (x = y) && visB N sc i x
  | .rd i x, .Name y _ => decide (x = y) && visB N sc i x
  | .con c, .Constant c' _ _ => decide (c = c') && (conD c).isSome
  | .glob x _, .Name y _ => decide (x = y) && glB sc x
  | .prim p as, e => match e with
    | .BinOp a op b _ => decide (binP op = some p) && okA N sc as [a, b]
    | .UnaryOp .USub a _ => decide (p = .neg) && okA N sc as [a]
    | .Compare a [op] [b] _ => decide (cmpP op = some p) && !behindInMarks op b && okA N sc as [a, b]
    | .Subscript a b _ => decide (p = .idx) && plainIx b && okA N sc as [a, b]
    | .Tuple es _ _ => decide (p = .tup) && okA N sc as es
    | .List es _ => decide (p = .lst) && okA N sc as es
    | .Call (.Name f _) (a :: es) [] _ => decide (bltP (es.length + 1) f = some p) && glB sc f && okA N sc as (a :: es)
    | _ => false
  | .isi t as, .Call (.Name f _) [a, .Name g _] [] _ => decide (f = "isinstance") && glB sc f && tyOf t g && glB sc g && okA N sc as [a]
  | .call f _ _ as, .Call (.Name g _) es [] _ => decide (f = g) && glB sc f && okA N sc as es
  | .and a b, e => match e with
    | .BoolOp .And [x, y] _ => okE N sc a x && okE N sc b y
    | .BoolOp .And (x :: y :: z :: r) p => okE N sc a x && okE N sc b (.BoolOp .And (y :: z :: r) p)
    | _ => false
  | .or a b, e => match e with
    | .BoolOp .Or [x, y] _ => okE N sc a x && okE N sc b y
    | .BoolOp .Or (x :: y :: z :: r) p => okE N sc a x && okE N sc b (.BoolOp .Or (y :: z :: r) p)
    | _ => false
  | .not a, .UnaryOp .Not x _ => okE N sc a x
  | .ite c a b, .IfExp x y z _ => tst c && okE N sc c x && okE N sc a y && okE N sc b z
  | .chain p q a b c, .Compare x [op, op'] [y, z] _ => decide (cmpP op = some p) && decide (cmpP op' = some q) && !lastMarks [op, op'] [y, z] && okE N sc a x && okE N sc b y && okE N sc c z
  | .slc a lo hi, .Subscript x (.Slice l h none _) _ => okE N sc a x && okO N sc lo l && okO N sc hi h
  | .comp own tg it e, .ListComp x [⟨t, i, [], 0⟩] scope _ => blkC N sc scope own && inT (own.map (·.2)) tg && okT N scope tg t && okI N sc it t i && okE N (reSc sc scope) e x
  | .compif own tg it c e, .ListComp x [⟨t, i, [y], 0⟩] scope _ => blkC N sc scope own && inT (own.map (·.2)) tg && okT N scope tg t && okI N sc it t i && tst c && okE N (reSc sc scope) c y && okE N (reSc sc scope) e x
  | _, _ => false
def okO (N : List Str) (sc : Scope) : Oe → Option Expr → Bool
  | .none, none => true
  | .some a, some x => okE N sc a x
  | _, _ => false
def okA (N : List Str) (sc : Scope) : Exs → List Expr → Bool
  | .nil, [] => true
  | .cons a as, e :: es => notStar e && okE N sc a e && okA N sc as es
  | _, _ => false
def okI (N : List Str) (sc : Scope) : Itr → Expr → Expr → Bool
  | .seq a, _, e => okE N sc a e
  | .rng as, _, .Call (.Name f _) es [] _ => decide (f = "range") && glB sc f && (decide (es.length = 1) || decide (es.length = 2)) && okA N sc as es
  | .enum as, .Tuple _ _ _, .Call (.Name f _) es [] _ => decide (f = "enumerate") && glB sc f && decide (es.length = 1) && okA N sc as es
  | .zip as, .Tuple _ _ _, .Call (.Name f _) es [] _ => decide (f = "zip") && glB sc f && decide (es.length = 2) && okA N sc as es
  | _, _, _ => false
end
end Ev
set_option Elab.async false
set_option linter.all false
set_option maxRecDepth 100000
set_option maxHeartbeats 1000000
namespace Ev
open PySem PySem.Spec PyProof.Rows L2

/-! ### what is wanted behind a term -/
def RP (X : Cx) (W : WX) (H₀ F : Hp) (σ : L2.St) {α : Type} (r : R α) (ok : α → Prop) : Prop := match r with
  | .ok a => ok a
  | .exc x e => ∀ F' H' cls dd, Grow H₀ F F' → Rep X.K X.mg H₀ F' e σ H' → XIs X.mg F' H' x cls dd → W cls dd σ H'
  | .bad => False
section
variable {X : Cx} {W : WX} {H₀ F F' H : Hp} {σ : L2.St} {env : En} {α β : Type}
theorem RP.bind {r : R α} {f : α → R β} {ok : β → Prop} (h : RP X W H₀ F σ (R.bind r f) ok) : RP X W H₀ F σ r fun a => RP X W H₀ F σ (f a) ok := by
  cases r with
  | ok a => exact h
  | exc x e => exact h
  | bad => exact h
theorem RP.mono {r : R α} {ok ok' : α → Prop} (h : RP X W H₀ F σ r ok) (hi : ∀ a, ok a → ok' a) : RP X W H₀ F σ r ok' := by
  cases r with
  | ok a => exact hi _ h
  | exc x e => exact h
  | bad => exact h
theorem RP.grow {r : R α} {ok : α → Prop} (h : RP X W H₀ F σ r ok) (g : Grow H₀ F F') : RP X W H₀ F' σ r ok := by
  cases r with
  | ok a => exact h
  | exc x e => exact fun F2 H' cls dd g2 => h F2 H' cls dd (g.trans g2)
  | bad => exact h
theorem RP.of_ok {r : R α} {a : α} {ok : α → Prop} (e : r = .ok a) (h : RP X W H₀ F σ r ok) : ok a := by subst e; exact h
end
def PdIs (K : PySem.W.Frag) (mg : Str → Option Value) (F : Hp) (σ : L2.St) (v : V) : Pd → Prop
  | .d x => Is K mg F v x
  | .slot i => σ[i]? = some (some v)
inductive PdsIs (K : PySem.W.Frag) (mg : Str → Option Value) (F : Hp) (σ : L2.St) : List V → List Pd → Prop
  | nil : PdsIs K mg F σ [] []
  | cons {x : V} {xs : List V} {s : Pd} {ss : List Pd} : PdIs K mg F σ x s → PdsIs K mg F σ xs ss → PdsIs K mg F σ (x :: xs) (s :: ss)
section
variable {K : PySem.W.Frag} {mg : Str → Option Value} {H₀ F F' H : Hp} {σ : L2.St} {env : En}
theorem PdIs.mono {v : V} {p : Pd} (s : Same F F') (h : PdIs K mg F σ v p) : PdIs K mg F' σ v p := by
  cases p with
  | d x => exact Is.mono s h
  | slot i => exact h
theorem PdIs.arg {v : V} {p : Pd} {s : Sl} (R : Rep K mg H₀ F env σ H) (h : PdIs K mg F σ v p) (e : p.sl env = some s) : ArgIs K mg F H v s := by
  cases p with
  | d x => cases e; exact h
  | slot i =>
    unfold Pd.sl at e
    dsimp only at e
    split at e
    · next y q =>
      cases e
      obtain ⟨w, h1, h2⟩ := R.sl i _ q
      have : w = v := by have := h.symm.trans h1; simp at this; exact this.symm
      subst this
      exact h2
    · next ds q =>
      cases e
      obtain ⟨w, h1, p, vs, rfl, _, _, h2, h3⟩ := R.sl i _ q
      have : V.ref p = v := by have := h.symm.trans h1; simp at this; exact this.symm
      exact ⟨p, vs, this.symm, Rd.of h2, h3⟩
    · next ds q =>
      cases e
      obtain ⟨w, h1, p, vs, rfl, h2, h3⟩ := R.sl i _ q
      have : V.ref p = v := by have := h.symm.trans h1; simp at this; exact this.symm
      exact ⟨p, vs, this.symm, Same.rd R.h0 h2, h3⟩
    · cases e
theorem PdsIs.args (R : Rep K mg H₀ F env σ H) : ∀ {vs : List V} {ps : List Pd} {ss : List Sl}, PdsIs K mg F σ vs ps → pds env ps = some ss → ArgsIs K mg F H vs ss
  | _, _, _, .nil, e => by simp only [pds, Option.some.injEq] at e; subst e; exact .nil
  | _, _, _, .cons a r, e => by
    simp only [pds] at e
    split at e
    · next q1 q2 => cases e; exact .cons (a.arg R q1) (PdsIs.args R r q2)
    · cases e
theorem Rep.freezeNew {p : Addr} {vs : List V} {ds : List D} (R : Rep K mg H₀ F env σ H) (zp : H₀ p = none) (fp : F p = none) (hp : H p = some (.lst vs)) (all : IsAll K mg F vs ds)
    (new : ∀ j es, lk env j = some (.own es) → σ[j]? = some (some (.ref p)) → False) : Grow H₀ F (upd F p (.lst vs)) ∧ Rep K mg H₀ (upd F p (.lst vs)) env σ H ∧ Is K mg (upd F p (.lst vs)) (.ref p) (.lst ds) := by
  have sF : Same F (upd F p (.lst vs)) := fun b x e => by rw [upd_ne (ne_of_none e fp)]; exact e
  refine ⟨⟨sF, fun b h n => by rw [upd_ne (fun z => by subst z; exact h zp)]; exact n⟩, ⟨R.h0, fun b x e => ?_, R.len, fun j s e' => ?_, R.dis⟩, .lst (Rd.of upd_same) (IsAll.mono sF all)⟩
  · by_cases q : b = p
    · subst q; rw [upd_same] at e; cases e; exact hp
    · rw [upd_ne q] at e; exact R.hf _ _ e
  · obtain ⟨w, g1, g2⟩ := R.sl j s e'
    refine ⟨w, g1, ?_⟩
    cases s with
    | val d => exact Is.mono sF g2
    | own es =>
      obtain ⟨q, ws, rfl, a, b, c, d⟩ := g2
      have qp : q ≠ p := fun y => by subst y; exact new j _ e' g1
      exact ⟨q, ws, rfl, a, by rw [upd_ne qp]; exact b, c, IsAll.mono sF d⟩
    | bor es =>
      obtain ⟨q, ws, rfl, a, d⟩ := g2
      exact ⟨q, ws, rfl, a, IsAll.mono sF d⟩
end
/-- behind an expression: its value -/
def VPost (X : Cx) (H₀ F : Hp) (σ : L2.St) (Q : VK) (p : D × En) : Prop := ∀ F' H' v, Grow H₀ F F' → Rep X.K X.mg H₀ F' p.2 σ H' → Is X.K X.mg F' v p.1 → Q v H'
/-- behind an expression that is stored: its value, a new list one's own -/
def SPost (X : Cx) (H₀ F : Hp) (σ : L2.St) (Q : VK) (p : Sl × En) : Prop := match p.1 with
  | .val d => ∀ F' H' v, Grow H₀ F F' → Rep X.K X.mg H₀ F' p.2 σ H' → Is X.K X.mg F' v d → Q v H'
  | .own ds => ∀ F' H' a vs, Grow H₀ F F' → Rep X.K X.mg H₀ F' p.2 σ H' → H₀ a = none → F' a = none → H' a = some (.lst vs) → IsAll X.K X.mg F' vs ds →
      (∀ j es, lk p.2 j = some (.own es) → σ[j]? = some (some (.ref a)) → False) → Q (.ref a) H'
  | .bor _ => False
abbrev Po (β : Type) := Hp → Hp → L2.St → VK → β → Prop
def tG (X : Cx) (W : WX) {β : Type} (post : Po β) (f : En → R β) : TE := fun σ H Q => ∃ H₀ F env, Rep X.K X.mg H₀ F env σ H ∧ RP X W H₀ F σ (f env) (post H₀ F σ Q)
abbrev tE (X : Cx) (W : WX) (f : En → R (D × En)) : TE := tG X W (VPost X) f
abbrev tS (X : Cx) (W : WX) (f : En → R (Sl × En)) : TE := tG X W (SPost X) f
/-- a way to end an operation -/
structure KOk (X : Cx) (W : WX) {β : Type} (k : En → Pr → R β) (post : Po β) : Prop where
  pk : ∀ {H₀ F : Hp} {env : En} {σ : L2.St} {Q : VK} {r : Pr}, RP X W H₀ F σ (k env r) (post H₀ F σ Q) → PK X.K X.mg H₀ F env σ Q r
  gr : ∀ {H₀ F F' : Hp} {σ : L2.St} {Q : VK} {b : β}, post H₀ F σ Q b → Grow H₀ F F' → post H₀ F' σ Q b
def primF {β : Type} (k : En → Pr → R β) (p : Prim) (as : Exs) (e : En) : R β := R.bind (evA as e) fun q => match pds q.2 q.1 with
  | some l => k q.2 (evPrim p l)
  | none => .bad
theorem evE_prim (p : Prim) (as : Exs) : evE (.prim p as) = primF okD p as := rfl
theorem evO_prim (p : Prim) (as : Exs) : evO (.prim p as) = primF okS p as := rfl
def OPost (X : Cx) (H₀ F : Hp) (σ : L2.St) (Q : VK) (p : Pd × En) : Prop := ∀ F' H' v, Grow H₀ F F' → Rep X.K X.mg H₀ F' p.2 σ H' → PdIs X.K X.mg F' σ v p.1 → Q v H'
def tO (X : Cx) (W : WX) (f : En → R (Pd × En)) : TE := fun σ H Q => ∃ H₀ F env, Rep X.K X.mg H₀ F env σ H ∧ RP X W H₀ F σ (f env) (OPost X H₀ F σ Q)
def APost (X : Cx) (H₀ F : Hp) (σ : L2.St) (Q : List V → Hp → Prop) (p : List Pd × En) : Prop := ∀ F' H' vs, Grow H₀ F F' → Rep X.K X.mg H₀ F' p.2 σ H' → PdsIs X.K X.mg F' σ vs p.1 → Q vs H'
def tA (X : Cx) (W : WX) (f : En → R (List Pd × En)) : TA := fun σ H Q => ∃ H₀ F env, Rep X.K X.mg H₀ F env σ H ∧ RP X W H₀ F σ (f env) (APost X H₀ F σ Q)
def evOp (a : Ex) (e : En) : R (Pd × En) := match rdIx a with
  | some i => slotR i e
  | none => R.bind (evE a e) fun p => .ok (.d p.1, p.2)
theorem evA_nil (e : En) : evA .nil e = .ok ([], e) := rfl
theorem evA_cons (a : Ex) (as : Exs) (e : En) : evA (.cons a as) e = R.bind (evOp a e) fun p => R.bind (evA as p.2) fun q => .ok (p.1 :: q.1, q.2) := by
  show (match rdIx a with | some i => _ | none => _) = _
  unfold evOp
  cases rdIx a with
  | some i => rfl
  | none =>
    dsimp only
    cases evE a e with
    | ok p => rfl
    | exc x e => rfl
    | bad => rfl
section
variable {X : Cx} {W : WX} {H₀ F H : Hp} {σ : L2.St} {env : En}
theorem PE.imp {e : Expr} {t t' : TE} (h : PE X e t) (hi : ∀ σ H Q, t' σ H Q → t σ H Q) : PE X e t' := ⟨fun pins s σ H Q I q => h.run pins s σ H Q I (hi _ _ _ q)⟩
theorem PT.imp {e : Expr} {t t' : TT} (h : PT X e t) (hi : ∀ σ H Q, t' σ H Q → t σ H Q) : PT X e t' := ⟨fun pins s σ H Q I q => h.run pins s σ H Q I (hi _ _ _ q)⟩
theorem PA.imp {e : List Expr} {t t' : TA} (h : PA X e t) (hi : ∀ σ H Q, t' σ H Q → t σ H Q) : PA X e t' := ⟨fun pos pins s σ H Q I q => h.run pos pins s σ H Q I (hi _ _ _ q)⟩
/-- an operation's result, lists frozen -/
theorem okD_PK {Q : VK} {r : Pr} (h : RP X W H₀ F σ (okD env r) (VPost X H₀ F σ Q)) : PK X.K X.mg H₀ F env σ Q r := by
  cases r with
  | d x => exact h
  | l xs =>
    intro F' H' p vs g R zp fp hp all new
    obtain ⟨g2, R2, is⟩ := R.freezeNew zp fp hp all new
    exact h _ _ _ (g.trans g2) R2 is
  | bad => exact h.elim
theorem PK.grow {Q : VK} {r : Pr} {F' : Hp} (h : PK X.K X.mg H₀ F env σ Q r) (g : Grow H₀ F F') : PK X.K X.mg H₀ F' env σ Q r := by
  cases r with
  | d x => exact fun F2 H' v g2 => h F2 H' v (g.trans g2)
  | l xs => exact fun F2 H' p vs g2 => h F2 H' p vs (g.trans g2)
  | bad => exact h
theorem VPost.grow {Q : VK} {p : D × En} {F' : Hp} (h : VPost X H₀ F σ Q p) (g : Grow H₀ F F') : VPost X H₀ F' σ Q p := fun F2 H' v g2 => h F2 H' v (g.trans g2)
theorem OPost.grow {Q : VK} {p : Pd × En} {F' : Hp} (h : OPost X H₀ F σ Q p) (g : Grow H₀ F F') : OPost X H₀ F' σ Q p := fun F2 H' v g2 => h F2 H' v (g.trans g2)
theorem APost.grow {Q : List V → Hp → Prop} {p : List Pd × En} {F' : Hp} (h : APost X H₀ F σ Q p) (g : Grow H₀ F F') : APost X H₀ F' σ Q p := fun F2 H' v g2 => h F2 H' v (g.trans g2)
theorem RP.vgrow {Q : VK} {r : R (D × En)} {F' : Hp} (h : RP X W H₀ F σ r (VPost X H₀ F σ Q)) (g : Grow H₀ F F') : RP X W H₀ F' σ r (VPost X H₀ F' σ Q) := (h.grow g).mono fun _ q => q.grow g
/-- an expression as an operand -/
theorem tO_of {a : Ex} {e : Expr} (hn : rdIx a = none) (h : PE X e (tE X W (evE a))) : PE X e (tO X W (evOp a)) := PE.imp h fun σ H Q ⟨H₀, F, env, R, q⟩ => by
  unfold evOp at q
  rw [hn] at q
  exact ⟨H₀, F, env, R, (RP.bind q).mono fun p hp F' H' v g R' is => hp F' H' v g R' is⟩
theorem RP.kgrow {β : Type} {k : En → Pr → R β} {post : Po β} (kk : KOk X W k post) {Q : VK} {r : R β} {F' : Hp} (h : RP X W H₀ F σ r (post H₀ F σ Q)) (g : Grow H₀ F F') : RP X W H₀ F' σ r (post H₀ F' σ Q) := (h.grow g).mono fun _ q => kk.gr q g
theorem kD : KOk X W okD (VPost X) := ⟨okD_PK, VPost.grow⟩
theorem okS_PK {Q : VK} {r : Pr} (h : RP X W H₀ F σ (okS env r) (SPost X H₀ F σ Q)) : PK X.K X.mg H₀ F env σ Q r := by
  cases r with
  | d x => exact h
  | l xs => exact h
  | bad => exact h.elim
theorem SPost.grow {Q : VK} {p : Sl × En} {F' : Hp} (h : SPost X H₀ F σ Q p) (g : Grow H₀ F F') : SPost X H₀ F' σ Q p := by
  obtain ⟨s, e⟩ := p
  cases s with
  | val d => exact fun F2 H' v g2 => h F2 H' v (g.trans g2)
  | own ds => exact fun F2 H' a vs g2 => h F2 H' a vs (g.trans g2)
  | bor ds => exact h.elim
theorem kS : KOk X W okS (SPost X) := ⟨okS_PK, SPost.grow⟩
/-- two operands -/
theorem two {β : Type} {k : En → Pr → R β} {post : Po β} (kk : KOk X W k post) {p : Prim} {a b : Ex} : ∀ σ H Q, tG X W post (primF k p (.cons a (.cons b .nil))) σ H Q → tOp (rP X p) (tO X W (evOp a)) (tO X W (evOp b)) σ H Q := by
  intro σ H Q ⟨H₀, F, env, R0, h⟩
  unfold primF at h
  rw [evA_cons] at h
  refine ⟨H₀, F, env, R0, (RP.bind (RP.bind h)).mono fun q1 h1 F1 H1 x g1 R1 is1 => ?_⟩
  rw [evA_cons] at h1
  refine ⟨H₀, F1, q1.2, R1, ((RP.bind (RP.bind h1)).grow g1).mono fun q2 h2 F2 H2 y g2 R2 is2 => ?_⟩
  rw [evA_nil] at h2
  simp only [R.bind_ok] at h2
  replace h2 : RP X W H₀ F σ (match pds q2.2 [q1.1, q2.1] with | some l => k q2.2 (evPrim p l) | none => .bad) (post H₀ F σ Q) := h2
  split at h2
  · next l e =>
    have as := PdsIs.args R2 (.cons (is1.mono g2.1) (.cons is2 .nil)) e
    have hk := kk.pk (RP.kgrow kk h2 (g1.trans g2))
    cases as with
    | cons a1 r =>
      cases r with
      | cons a2 r => cases r; exact ⟨H₀, F2, q2.2, σ, _, _, R2, a1, a2, hk⟩
  · exact h2.elim
/-- one operand, by what stands behind it -/
theorem one {a : Ex} {g : List Pd × En → R (D × En)} {Q : VK} (h : RP X W H₀ F σ (R.bind (evA (.cons a .nil) env) g) (VPost X H₀ F σ Q)) :
    RP X W H₀ F σ (evOp a env) fun q => RP X W H₀ F σ (g ([q.1], q.2)) (VPost X H₀ F σ Q) := by
  rw [evA_cons] at h
  exact (RP.bind (RP.bind h)).mono fun q hq => hq
end
end Ev
set_option Elab.async false
set_option linter.all false
set_option maxRecDepth 100000
set_option maxHeartbeats 1000000
namespace Ev
open PySem PySem.Spec PyProof.Rows L2

def evB (a : Ex) (e : En) : R (Bool × En) := R.bind (evE a e) fun p => truthR p.1 p.2
def TPost (X : Cx) (H₀ F : Hp) (σ : L2.St) (Q : Bool → Hp → Prop) (p : Bool × En) : Prop := ∀ F' H', Grow H₀ F F' → Rep X.K X.mg H₀ F' p.2 σ H' → Q p.1 H'
def tB' (X : Cx) (W : WX) (f : En → R (Bool × En)) : TT := fun σ H Q => ∃ H₀ F env, Rep X.K X.mg H₀ F env σ H ∧ RP X W H₀ F σ (f env) (TPost X H₀ F σ Q)
section
variable {X : Cx} {W : WX} {n : Nat}
theorem vis_of {N : List Str} {sc : Scope} {i : Nat} {x : Str} (h : visB N sc i x = true) : N[i]? = some x ∧ Vis sc x ∧ (x == ("__debug__" : Str)) = false ∧ (x == ("__classdict__" : Str)) = false := by
  unfold visB at h
  simp only [Bool.and_eq_true, Bool.or_eq_true, decide_eq_true_eq, Bool.not_eq_true'] at h
  obtain ⟨⟨⟨h1, h2⟩, h3⟩, h4⟩ := h
  refine ⟨h1, ?_, h3, h4⟩
  rcases h2 with (h | h) | h
  · exact .inl h
  · exact .inr (.inl h)
  · exact .inr (.inr h)
theorem gl_of {sc : Scope} {x : Str} (h : glB sc x = true) (hs : sc = X.env.scope) : Gl X x ∧ (x == ("__debug__" : Str)) = false := by
  unfold glB at h
  simp only [Bool.and_eq_true, decide_eq_true_eq, Bool.not_eq_true'] at h
  subst hs
  exact h
theorem l_var {i : Nat} {x : Str} {pos : Pos} (h : visB X.N X.env.scope i x = true) : PE X (.Name x pos) (tE X W (evE (.var i x))) := by
  obtain ⟨h1, h2, h3, h4⟩ := vis_of h
  refine PE.imp (pe_var h1 h2 h3 h4) fun σ H Q ⟨H₀, F, env, Rp, q⟩ => ?_
  unfold evE at q
  split at q
  · next d e =>
    obtain ⟨v, g1, g2⟩ := Rp.sl i _ e
    exact ⟨v, g1, q F H v Grow.refl Rp g2⟩
  · next ds e =>
    obtain ⟨p, vs, g1, g2, R2, is⟩ := Rp.freeze e
    exact ⟨_, g1, q _ H _ g2 R2 is⟩
  · exact q.elim
theorem l_rd {i : Nat} {x : Str} {pos : Pos} (h : visB X.N X.env.scope i x = true) : PE X (.Name x pos) (tE X W (evE (.rd i x))) := by
  obtain ⟨h1, h2, h3, h4⟩ := vis_of h
  refine PE.imp (pe_var h1 h2 h3 h4) fun σ H Q ⟨H₀, F, env, Rp, q⟩ => ?_
  unfold evE at q
  split at q
  · next d e =>
    obtain ⟨v, g1, g2⟩ := Rp.sl i _ e
    exact ⟨v, g1, q F H v Grow.refl Rp g2⟩
  · exact q.elim
theorem l_rdO {i : Nat} {x : Str} {pos : Pos} (h : visB X.N X.env.scope i x = true) : PE X (.Name x pos) (tO X W (evOp (.rd i x))) := by
  obtain ⟨h1, h2, h3, h4⟩ := vis_of h
  refine PE.imp (pe_var h1 h2 h3 h4) fun σ H Q ⟨H₀, F, env, Rp, q⟩ => ?_
  replace q : RP X W H₀ F σ (slotR i env) (OPost X H₀ F σ Q) := q
  unfold slotR at q
  split at q
  · next s e =>
    obtain ⟨v, g1, g2⟩ := Rp.sl i _ e
    exact ⟨v, g1, q F H v Grow.refl Rp g1⟩
  · exact q.elim
theorem l_con {c : Const} {k : Nat} {pos : Pos} (h : (conD c).isSome = true) : PE X (.Constant c k pos) (tE X W (evE (.con c))) := by
  cases c <;> simp only [conD, Option.isSome_some, Option.isSome_none, reduceCtorEq] at h
  · exact PE.imp pe_non fun σ H Q ⟨H₀, F, env, Rp, q⟩ => q F H _ Grow.refl Rp .non
  · exact PE.imp pe_bl fun σ H Q ⟨H₀, F, env, Rp, q⟩ => q F H _ Grow.refl Rp (.bl _)
  · exact PE.imp pe_int fun σ H Q ⟨H₀, F, env, Rp, q⟩ => q F H _ Grow.refl Rp (.int _)
  · exact PE.imp pe_str fun σ H Q ⟨H₀, F, env, Rp, q⟩ => q F H _ Grow.refl Rp (.str _)
theorem l_glob {x : Str} {d : D} {pos : Pos} (h : glB X.env.scope x = true) (g : (Ex.glob x d).good (gd X n)) : PE X (.Name x pos) (tE X W (evE (.glob x d))) := by
  obtain ⟨h1, h2⟩ := gl_of h rfl
  obtain ⟨u, v, hm, r, is⟩ := g
  exact PE.imp (pe_glob h1 hm r h2) fun σ H Q ⟨H₀, F, env, Rp, q⟩ => q F H _ Grow.refl Rp (is F)

/-! ### operations -/
theorem pe_bin {β : Type} {k : En → Pr → R β} {post : Po β} (kk : KOk X W k post) (t : Xt X n W) {a b : Ex} {x y : Expr} {op : Operator} {p : Prim} {pos : Pos} (hp : binP op = some p) (ha : PE X x (tO X W (evOp a))) (hb : PE X y (tO X W (evOp b))) :
    PE X (.BinOp x op y pos) (tG X W post (primF k p (.cons a (.cons b .nil)))) := by
  have fin : OpR X (binaryOp op) (rP X p) → PE X (.BinOp x op y pos) (tG X W post (primF k p (.cons a (.cons b .nil)))) := fun ho => PE.imp (pe_op ho ha hb) (two kk)
  cases op <;> simp only [binP, Option.some.injEq, reduceCtorEq] at hp <;> subst hp
  · exact fin opP_add
  · exact fin opP_sub
  · exact fin opP_mul
  · exact fin opP_mod
  · exact fin opP_pow
  · exact fin (opP_fdiv t.dv.div)
theorem cmp_ok (t : Xt X n W) {op : CmpOp} {p : Prim} (hp : cmpP op = some p) : OpR X (compareOp op) (rP X p) := by
  have h64 : X.A.units + 64 < cLine := t.room.units
  have h65 : X.A.units + 65 < cLine := by have := t.room.un; omega
  cases op <;> simp only [cmpP, Option.some.injEq] at hp <;> subst hp
  · exact opP_eq h64
  · exact opP_ne h64
  · exact opP_cmp op_lt fun _ => rfl
  · exact opP_cmp op_le fun _ => rfl
  · exact opP_cmp op_gt fun _ => rfl
  · exact opP_cmp op_ge fun _ => rfl
  · exact opP_isN
  · exact opP_notN
  · exact opP_in h65
  · exact opP_notin h65
theorem ofB_bl {b : Option Bool} {d : D} (h : ofB b = .d d) : ∃ k, d = .bl k := by
  cases b with
  | none => cases h
  | some k => cases h; exact ⟨k, rfl⟩
theorem notB_bl {b : Option Bool} {d : D} (h : notB b = .d d) : ∃ k, d = .bl k := by
  cases b with
  | none => cases h
  | some k => cases h; exact ⟨_, rfl⟩
theorem pCmp_bl {f : Int → Int → Bool} {l : List Sl} {r : Pr} (h : pCmp f l = r) : r = .bad ∨ ∃ k, r = .d (.bl k) := by
  subst h
  unfold pCmp
  split
  · exact .inr ⟨_, rfl⟩
  · exact .inl rfl
theorem cmp_bl {op : CmpOp} {p : Prim} (hp : cmpP op = some p) (l : List Sl) : evPrim p l = .bad ∨ ∃ k, evPrim p l = .d (.bl k) := by
  have h1 : ∀ b, ofB b = .bad ∨ ∃ k, ofB b = .d (.bl k) := fun b => by cases b with | none => exact .inl rfl | some k => exact .inr ⟨k, rfl⟩
  have h2 : ∀ b, notB b = .bad ∨ ∃ k, notB b = .d (.bl k) := fun b => by cases b with | none => exact .inl rfl | some k => exact .inr ⟨_, rfl⟩
  cases op <;> simp only [cmpP, Option.some.injEq] at hp <;> subst hp
  · exact h1 _
  · exact h2 _
  · exact pCmp_bl rfl
  · exact pCmp_bl rfl
  · exact pCmp_bl rfl
  · exact pCmp_bl rfl
  · show pIsN l = _ ∨ ∃ k, pIsN l = _
    unfold pIsN; split
    · exact .inr ⟨_, rfl⟩
    · exact .inl rfl
  · show pNotN l = _ ∨ ∃ k, pNotN l = _
    unfold pNotN; split
    · exact .inr ⟨_, rfl⟩
    · exact .inl rfl
  · exact h1 _
  · exact h2 _
theorem pe_comp {β : Type} {k : En → Pr → R β} {post : Po β} (kk : KOk X W k post) (t : Xt X n W) {a b : Ex} {x y : Expr} {op : CmpOp} {p : Prim} {pos : Pos} (hp : cmpP op = some p) (hm : behindInMarks op y = false) (ha : PE X x (tO X W (evOp a))) (hb : PE X y (tO X W (evOp b))) :
    PE X (.Compare x [op] [y] pos) (tG X W post (primF k p (.cons a (.cons b .nil)))) := PE.imp (pe_cmpR (cmp_ok t hp) ha hb hm) (two kk)
theorem tB_bool {a : Ex} (hb : ∀ env d e', evE a env = .ok (d, e') → ∃ k, d = .bl k) {σ : L2.St} {H : Hp} {Q : Bool → Hp → Prop} (h : tB' X W (evB a) σ H Q) : tE X W (evE a) σ H fun x H' => ∃ k, x = .bl k ∧ Q k H' := by
  obtain ⟨H₀, F, env, Rp, q⟩ := h
  refine ⟨H₀, F, env, Rp, ?_⟩
  have q1 := RP.bind q
  cases e : evE a env with
  | ok p =>
    obtain ⟨d, e'⟩ := p
    obtain ⟨k, rfl⟩ := hb _ _ _ e
    rw [e] at q1
    intro F' H' v g R' is
    cases Is.inv_bl is
    exact ⟨k, rfl, q1 F' H' g R'⟩
  | exc x e2 => rw [e] at q1; exact q1
  | bad => rw [e] at q1; exact q1
theorem evPrim_bool {p : Prim} {as : Exs} (hp : ∀ l, evPrim p l = .bad ∨ ∃ k, evPrim p l = .d (.bl k)) : ∀ env d e', evE (.prim p as) env = .ok (d, e') → ∃ k, d = .bl k := by
  intro env d e' h
  unfold evE at h
  cases ea : evA as env with
  | ok q =>
    rw [ea] at h
    simp only [R.bind_ok] at h
    split at h
    · next l e =>
      rcases hp l with z | ⟨k, z⟩
      · rw [z] at h; cases h
      · rw [z] at h; cases h; exact ⟨k, rfl⟩
    · cases h
  | exc x e2 => rw [ea] at h; cases h
  | bad => rw [ea] at h; cases h
theorem pt_comp (t : Xt X n W) {a b : Ex} {x y : Expr} {op : CmpOp} {p : Prim} {pos : Pos} (hp : cmpP op = some p) (hm : behindInMarks op y = false) (ha : PE X x (tO X W (evOp a))) (hb : PE X y (tO X W (evOp b))) :
    PT X (.Compare x [op] [y] pos) (tB' X W (evB (.prim p (.cons a (.cons b .nil))))) :=
  PT.imp (pt_cmpR (cmp_ok t hp) ha hb hm) fun σ H Q q => two kD _ _ _ (tB_bool (evPrim_bool (cmp_bl hp)) q)
theorem plainIx_of {b : Expr} (h : plainIx b = true) : PlainIx b := by
  intro o i
  cases b <;> first | rfl | (simp [plainIx] at h)
theorem pe_sub' {β : Type} {k : En → Pr → R β} {post : Po β} (kk : KOk X W k post) {a b : Ex} {x y : Expr} {pos : Pos} (hp : plainIx y = true) (ha : PE X x (tO X W (evOp a))) (hb : PE X y (tO X W (evOp b))) :
    PE X (.Subscript x y pos) (tG X W post (primF k .idx (.cons a (.cons b .nil)))) := PE.imp (pe_ix ixP ha hb (plainIx_of hp)) (two kk)
/-- a value's truth -/
theorem emp_of {K : PySem.W.Frag} {mg : Str → Option Value} {F : Hp} {vs : List V} {ds : List D} (r : IsAll K mg F vs ds) : (!ds.isEmpty) = !vs.isEmpty := by cases r <;> rfl
theorem truV_of {H₀ F H : Hp} {env : En} {σ : L2.St} {v : V} {d : D} {b : Bool} (Rp : Rep X.K X.mg H₀ F env σ H) (is : Is X.K X.mg F v d) (h : truth d = some b) : TruV X.K v H b := by
  cases is with
  | non => cases h; rfl
  | bl b => cases h; rfl
  | int i => cases h; rfl
  | str x => cases h
  | tup q r => cases h; exact .inr (.inl ⟨_, Same.seqT Rp.hf q, emp_of r⟩)
  | lst q r => cases h; exact .inl ⟨_, .inl (Same.rd Rp.hf q), emp_of r⟩
  | ro q r => cases h
  | obj _ _ _ _ _ => cases h
theorem l_not {a : Ex} {x : Expr} {pos : Pos} (ha : PE X x (tE X W (evE a))) : PE X (.UnaryOp .Not x pos) (tE X W (evE (.not a))) := by
  refine PE.imp (pe_notT ha) fun σ H Q ⟨H₀, F, env, Rp, q⟩ => ?_
  unfold evE at q
  refine ⟨H₀, F, env, Rp, (RP.bind q).mono fun p hp F' H' v g R' is => ?_⟩
  split at hp
  · next b e => exact ⟨b, truV_of R' is e, hp F' H' _ g R' (.bl _)⟩
  · exact hp.elim
theorem l_and {a b : Ex} {x y : Expr} {r : List Expr} {pos : Pos} (ha : PE X x (tE X W (evE a))) (hb : PE X (.BoolOp .And (y :: r) pos) (tE X W (evE b))) : PE X (.BoolOp .And (x :: y :: r) pos) (tE X W (evE (.and a b))) := by
  refine PE.imp (pe_andT ha hb) fun σ H Q ⟨H₀, F, env, Rp, q⟩ => ?_
  unfold evE at q
  refine ⟨H₀, F, env, Rp, (RP.bind q).mono fun p hp F' H' v g R' is => ?_⟩
  split at hp
  · next e => exact ⟨true, truV_of R' is e, by rw [if_pos rfl]; exact ⟨H₀, F', p.2, R', hp.vgrow g⟩⟩
  · next e => exact ⟨false, truV_of R' is e, by rw [if_neg Bool.false_ne_true]; exact hp F' H' v g R' is⟩
  · exact hp.elim
theorem l_or {a b : Ex} {x y : Expr} {r : List Expr} {pos : Pos} (ha : PE X x (tE X W (evE a))) (hb : PE X (.BoolOp .Or (y :: r) pos) (tE X W (evE b))) : PE X (.BoolOp .Or (x :: y :: r) pos) (tE X W (evE (.or a b))) := by
  refine PE.imp (pe_orT ha hb) fun σ H Q ⟨H₀, F, env, Rp, q⟩ => ?_
  unfold evE at q
  refine ⟨H₀, F, env, Rp, (RP.bind q).mono fun p hp F' H' v g R' is => ?_⟩
  split at hp
  · next e => exact ⟨true, truV_of R' is e, by rw [if_pos rfl]; exact hp F' H' v g R' is⟩
  · next e => exact ⟨false, truV_of R' is e, by rw [if_neg Bool.false_ne_true]; exact ⟨H₀, F', p.2, R', hp.vgrow g⟩⟩
  · exact hp.elim
/-! ### tests -/
theorem truthR_ok {d : D} {e : En} {H₀ F : Hp} {σ : L2.St} {ok : Bool × En → Prop} (h : RP X W H₀ F σ (truthR d e) ok) : ∃ b, truth d = some b ∧ ok (b, e) := by
  unfold truthR at h
  split at h
  · next b q => exact ⟨b, q, h⟩
  · exact h.elim
theorem TPost.grow {H₀ F F' : Hp} {σ : L2.St} {Q : Bool → Hp → Prop} {p : Bool × En} (h : TPost X H₀ F σ Q p) (g : Grow H₀ F F') : TPost X H₀ F' σ Q p := fun F2 H' g2 => h F2 H' (g.trans g2)
theorem RP.tgrow {H₀ F F' : Hp} {σ : L2.St} {Q : Bool → Hp → Prop} {r : R (Bool × En)} (h : RP X W H₀ F σ r (TPost X H₀ F σ Q)) (g : Grow H₀ F F') : RP X W H₀ F' σ r (TPost X H₀ F' σ Q) := (h.grow g).mono fun _ q => q.grow g
theorem t_plain {a : Ex} {x : Expr} (ha : PE X x (tE X W (evE a))) (he : ∀ whole, isTrue x X.env whole = (do let v ← whole; standAt x.pos; holding [v] (truthy v))) : PT X x (tB' X W (evB a)) := by
  refine PT.imp (pt_truth ha he) fun σ H Q ⟨H₀, F, env, Rp, q⟩ => ?_
  refine ⟨H₀, F, env, Rp, (RP.bind q).mono fun p hp F' H' v g R' is => ?_⟩
  obtain ⟨b, e, q⟩ := truthR_ok hp
  exact ⟨b, truV_of R' is e, q F' H' g R'⟩
theorem t_not {a : Ex} {x : Expr} {pos : Pos} (ha : PT X x (tB' X W (evB a))) : PT X (.UnaryOp .Not x pos) (tB' X W (evB (.not a))) := by
  refine PT.imp (pt_not ha) fun σ H Q ⟨H₀, F, env, Rp, q⟩ => ?_
  refine ⟨H₀, F, env, Rp, ?_⟩
  unfold evB at q ⊢
  unfold evE at q
  cases e : evE a env with
  | ok p =>
    rw [e] at q
    simp only [R.bind_ok] at q ⊢
    unfold truthR
    cases e2 : truth p.1 with
    | some b => rw [e2] at q; exact fun F' H' g R' => q F' H' g R'
    | none => rw [e2] at q; exact q
  | exc x e2 => rw [e] at q; exact q
  | bad => rw [e] at q; exact q
theorem w_and {a b : Ex} {x y : Expr} {r : List Expr} {pos : Pos} (ha : PT X x (tB' X W (evB a))) (hb : PW X (.BoolOp .And (y :: r) pos) (tB' X W (evB b))) : PW X (.BoolOp .And (x :: y :: r) pos) (tB' X W (evB (.and a b))) := by
  refine ⟨fun wh pins s σ H Q I q => (pw_and ha hb).run wh pins s σ H Q I ?_⟩
  obtain ⟨H₀, F, env, Rp, q⟩ := q
  refine ⟨H₀, F, env, Rp, ?_⟩
  unfold evB at q ⊢
  unfold evE at q
  cases e : evE a env with
  | ok p =>
    rw [e] at q
    simp only [R.bind_ok] at q ⊢
    unfold truthR
    cases e2 : truth p.1 with
    | some k =>
      rw [e2] at q
      intro F' H' g R'
      cases k with
      | true => rw [if_pos rfl]; exact ⟨H₀, F', p.2, R', RP.tgrow q g⟩
      | false =>
        rw [if_neg Bool.false_ne_true]
        simp only [R.bind_ok] at q
        obtain ⟨b, e3, q⟩ := truthR_ok q
        have : b = false := Option.some.inj (e3.symm.trans e2)
        subst this
        exact q F' H' g R'
    | none => rw [e2] at q; exact q
  | exc x e2 => rw [e] at q; exact q
  | bad => rw [e] at q; exact q
theorem w_or {a b : Ex} {x y : Expr} {r : List Expr} {pos : Pos} (ha : PT X x (tB' X W (evB a))) (hb : PW X (.BoolOp .Or (y :: r) pos) (tB' X W (evB b))) : PW X (.BoolOp .Or (x :: y :: r) pos) (tB' X W (evB (.or a b))) := by
  refine ⟨fun wh pins s σ H Q I q => (pw_or ha hb).run wh pins s σ H Q I ?_⟩
  obtain ⟨H₀, F, env, Rp, q⟩ := q
  refine ⟨H₀, F, env, Rp, ?_⟩
  unfold evB at q ⊢
  unfold evE at q
  cases e : evE a env with
  | ok p =>
    rw [e] at q
    simp only [R.bind_ok] at q ⊢
    unfold truthR
    cases e2 : truth p.1 with
    | some k =>
      rw [e2] at q
      intro F' H' g R'
      cases k with
      | false => rw [if_neg Bool.false_ne_true]; exact ⟨H₀, F', p.2, R', RP.tgrow q g⟩
      | true =>
        rw [if_pos rfl]
        simp only [R.bind_ok] at q
        obtain ⟨b, e3, q⟩ := truthR_ok q
        have : b = true := Option.some.inj (e3.symm.trans e2)
        subst this
        exact q F' H' g R'
    | none => rw [e2] at q; exact q
  | exc x e2 => rw [e] at q; exact q
  | bad => rw [e] at q; exact q
theorem l_ite {a b c : Ex} {x y z : Expr} {pos : Pos} (hc : PT X x (tB' X W (evB c))) (ha : PE X y (tE X W (evE a))) (hb : PE X z (tE X W (evE b))) : PE X (.IfExp x y z pos) (tE X W (evE (.ite c a b))) := by
  refine PE.imp (pe_ifExp hc ha hb) fun σ H Q ⟨H₀, F, env, Rp, q⟩ => ?_
  unfold evE at q
  refine ⟨H₀, F, env, Rp, ?_⟩
  unfold evB
  cases e : evE c env with
  | ok p =>
    rw [e] at q
    simp only [R.bind_ok] at q ⊢
    unfold truthR
    cases e2 : truth p.1 with
    | some k =>
      rw [e2] at q
      intro F' H' g R'
      cases k with
      | false => rw [if_neg Bool.false_ne_true]; exact ⟨H₀, F', p.2, R', RP.vgrow q g⟩
      | true => rw [if_pos rfl]; exact ⟨H₀, F', p.2, R', RP.vgrow q g⟩
    | none => rw [e2] at q; exact q
  | exc x e2 => rw [e] at q; exact q
  | bad => rw [e] at q; exact q
theorem isTrue_plainT {x : Expr} (h : plainT x = true) : ∀ whole, isTrue x X.env whole = (do let v ← whole; standAt x.pos; holding [v] (truthy v)) := by
  intro whole
  cases x
  case UnaryOp op _ _ => cases op <;> first | rfl | (simp [plainT] at h)
  all_goals first | rfl | (simp [plainT] at h)
/-! ### chains -/
theorem chain_red {p q : Prim} {a b c : Ex} {op op' : CmpOp} (hp : cmpP op = some p) (hq : cmpP op' = some q) {σ : L2.St} {H : Hp} {Q : VK} (h : tE X W (evE (.chain p q a b c)) σ H Q) :
    tChain (rP X p) (rP X q) (tE X W (evE a)) (tE X W (evE b)) (tE X W (evE c)) σ H Q := by
  obtain ⟨H₀, F, env, Rp, h⟩ := h
  unfold evE at h
  refine ⟨H₀, F, env, Rp, (RP.bind h).mono fun x hx F1 H1 v1 g1 R1 is1 => ?_⟩
  refine ⟨H₀, F1, x.2, R1, ((RP.bind hx).grow g1).mono fun y hy F2 H2 v2 g2 R2 is2 => ?_⟩
  refine ⟨H₀, F2, y.2, σ, .val x.1, .val y.1, R2, Is.mono g2.1 is1, is2, ?_⟩
  split at hy
  · next e =>
    rw [e]
    intro F3 H3 v3 g3 R3 is3
    cases Is.inv_bl is3
    refine ⟨true, rfl, ?_⟩
    rw [if_pos rfl]
    have g := (g1.trans g2).trans g3
    refine ⟨H₀, F3, y.2, R3, ((RP.bind hy).grow g).mono fun z hz F4 H4 v4 g4 R4 is4 => ?_⟩
    exact ⟨H₀, F4, z.2, σ, .val y.1, .val z.1, R4, Is.mono (g3.trans g4).1 is2, is4, okD_PK (hz.vgrow (g.trans g4))⟩
  · next e =>
    rw [e]
    intro F3 H3 v3 g3 R3 is3
    cases Is.inv_bl is3
    refine ⟨false, rfl, ?_⟩
    rw [if_neg Bool.false_ne_true]
    exact hy F3 H3 _ ((g1.trans g2).trans g3) R3 (.bl _)
  · exact hy.elim
theorem l_chain (t : Xt X n W) {p q : Prim} {a b c : Ex} {x y z : Expr} {op op' : CmpOp} {pos : Pos} (hp : cmpP op = some p) (hq : cmpP op' = some q) (hm : lastMarks [op, op'] [y, z] = false) (ha : PE X x (tE X W (evE a))) (hb : PE X y (tE X W (evE b)))
    (hc : PE X z (tE X W (evE c))) : PE X (.Compare x [op, op'] [y, z] pos) (tE X W (evE (.chain p q a b c))) :=
  PE.imp (pe_chain (cmp_ok t hp) (cmp_ok t hq) ha hb hc hm) fun _ _ _ => chain_red hp hq
theorem chain_bool {p q : Prim} {a b c : Ex} {op' : CmpOp} (hq : cmpP op' = some q) : ∀ env d e', evE (.chain p q a b c) env = .ok (d, e') → ∃ k, d = .bl k := by
  intro env d e' h
  unfold evE at h
  cases ea : evE a env with
  | ok x =>
    rw [ea] at h
    simp only [R.bind_ok] at h
    cases eb : evE b x.2 with
    | ok y =>
      rw [eb] at h
      simp only [R.bind_ok] at h
      split at h
      · cases ec : evE c y.2 with
        | ok z =>
          rw [ec] at h
          simp only [R.bind_ok] at h
          rcases cmp_bl hq [.val y.1, .val z.1] with w | ⟨k, w⟩
          · rw [w] at h; cases h
          · rw [w] at h; cases h; exact ⟨k, rfl⟩
        | exc x e2 => rw [ec] at h; cases h
        | bad => rw [ec] at h; cases h
      · cases h; exact ⟨_, rfl⟩
      · cases h
    | exc x e2 => rw [eb] at h; cases h
    | bad => rw [eb] at h; cases h
  | exc x e2 => rw [ea] at h; cases h
  | bad => rw [ea] at h; cases h
theorem t_chain (t : Xt X n W) {p q : Prim} {a b c : Ex} {x y z : Expr} {op op' : CmpOp} {pos : Pos} (hp : cmpP op = some p) (hq : cmpP op' = some q) (hm : lastMarks [op, op'] [y, z] = false) (ha : PE X x (tE X W (evE a))) (hb : PE X y (tE X W (evE b)))
    (hc : PE X z (tE X W (evE c))) : PT X (.Compare x [op, op'] [y, z] pos) (tB' X W (evB (.chain p q a b c))) :=
  PT.imp (pt_chain (cmp_ok t hp) (cmp_ok t hq) ha hb hc hm) fun _ _ _ w => chain_red hp hq (tB_bool (chain_bool hq) w)
end
end Ev
set_option Elab.async false
set_option linter.all false
set_option maxRecDepth 100000
set_option maxHeartbeats 1000000
namespace Ev
open PySem PySem.Spec PyProof.Rows L2

theorem star_cons {e : Expr} {es : List Expr} {env : Env} (h : notStar e = true) : starEach (e :: es) env = (false, eval e env) :: starEach es env := by
  cases e <;> first | rfl | (simp [notStar] at h)
def noStars : List Expr → Bool
  | [] => true
  | e :: es => notStar e && noStars es
theorem stars_plain {pos : Pos} {env : Env} : ∀ {es : List Expr}, noStars es = true → (backTo pos (starEach es env)).any (·.1) = false
  | [], _ => rfl
  | e :: es, h => by
    simp only [noStars, Bool.and_eq_true] at h
    rw [star_cons h.1]
    show (false || (backTo pos (starEach es env)).any (·.1)) = false
    rw [stars_plain h.2]
    rfl
theorem okA_stars {N : List Str} {sc : Scope} : ∀ {as : Exs} {es : List Expr}, okA N sc as es = true → noStars es = true
  | .nil, [], _ => rfl
  | .nil, _ :: _, h => by simp [okA] at h
  | .cons _ _, [], h => by simp [okA] at h
  | .cons a as, e :: es, h => by
    simp only [okA, Bool.and_eq_true] at h
    simp only [noStars, Bool.and_eq_true]
    exact ⟨h.1.1, okA_stars h.2⟩
section
variable {X : Cx} {W : WX} {n : Nat}
theorem a_nil : PA X [] (tA X W (evA .nil)) := PA.imp pa_nil fun σ H Q ⟨H₀, F, env, Rp, q⟩ => q F H [] Grow.refl Rp .nil
theorem a_cons {a : Ex} {as : Exs} {e : Expr} {es : List Expr} (hs : notStar e = true) (ha : PE X e (tO X W (evOp a))) (hr : PA X es (tA X W (evA as))) : PA X (e :: es) (tA X W (evA (.cons a as))) := by
  refine PA.imp (pa_cons ha hr (star_cons hs)) fun σ H Q ⟨H₀, F, env, Rp, q⟩ => ?_
  rw [evA_cons] at q
  refine ⟨H₀, F, env, Rp, (RP.bind q).mono fun p hp F1 H1 x g1 R1 is1 => ?_⟩
  refine ⟨H₀, F1, p.2, R1, ((RP.bind hp).grow g1).mono fun q2 h2 F2 H2 xs g2 R2 is2 => ?_⟩
  exact h2 F2 H2 (x :: xs) (g1.trans g2) R2 (.cons (is1.mono g2.1) is2)
/-- the arguments of an operation -/
theorem prim_args {β : Type} {k : En → Pr → R β} {post : Po β} (kk : KOk X W k post) {p : Prim} {as : Exs} : ∀ σ H Q, tG X W post (primF k p as) σ H Q → tA X W (evA as) σ H fun xs H' => rPs X p xs H' Q := by
  intro σ H Q ⟨H₀, F, env, Rp, q⟩
  unfold primF at q
  refine ⟨H₀, F, env, Rp, (RP.bind q).mono fun q1 h1 F1 H1 xs g1 R1 is1 => ?_⟩
  split at h1
  · next l e => exact ⟨H₀, F1, q1.2, σ, l, R1, PdsIs.args R1 is1 e, kk.pk (RP.kgrow kk h1 g1)⟩
  · exact h1.elim
theorem l_tup {β : Type} {k : En → Pr → R β} {post : Po β} (kk : KOk X W k post) {as : Exs} {es : List Expr} {kn : Nat} {pos : Pos} (ha : PA X es (tA X W (evA as))) : PE X (.Tuple es kn pos) (tG X W post (primF k .tup as)) := by
  refine PE.imp (pe_tup ha) fun σ H Q q => ?_
  obtain ⟨H₀, F, env, Rp, q⟩ := prim_args kk σ H Q q
  refine ⟨H₀, F, env, Rp, q.mono fun p hp F' H' xs g R' is => ?_⟩
  obtain ⟨H₁, F1, env1, σ1, ss, R1, a, q1⟩ := hp F' H' xs g R' is
  replace q1 : PK X.K X.mg H₁ F1 env1 σ1 Q (pTup ss) := q1
  unfold pTup at q1
  split at q1
  · next ds e =>
    have r := a.allD e
    exact ⟨by rw [r.length]; exact lim_line q1.newT_le, fun p hp => q1.newt R1 r hp⟩
  · exact q1.elim
theorem l_lst {β : Type} {k : En → Pr → R β} {post : Po β} (kk : KOk X W k post) {as : Exs} {es : List Expr} {pos : Pos} (ha : PA X es (tA X W (evA as))) : PE X (.List es pos) (tG X W post (primF k .lst as)) := by
  refine PE.imp (pe_lst ha) fun σ H Q q => ?_
  obtain ⟨H₀, F, env, Rp, q⟩ := prim_args kk σ H Q q
  refine ⟨H₀, F, env, Rp, q.mono fun p hp F' H' xs g R' is => ?_⟩
  obtain ⟨H₁, F1, env1, σ1, ss, R1, a, q1⟩ := hp F' H' xs g R' is
  replace q1 : PK X.K X.mg H₁ F1 env1 σ1 Q (pLst ss) := q1
  unfold pLst at q1
  split at q1
  · next ds e =>
    have r := a.allD e
    exact ⟨by rw [r.length]; exact lim_line q1.newL_le, fun p hp => q1.newl R1 r hp⟩
  · exact q1.elim
theorem l_neg {β : Type} {k : En → Pr → R β} {post : Po β} (kk : KOk X W k post) {as : Exs} {a : Ex} {x : Expr} {pos : Pos} (has : as = .cons a .nil) (ha : PE X x (tO X W (evOp a))) : PE X (.UnaryOp .USub x pos) (tG X W post (primF k .neg as)) := by
  subst has
  refine PE.imp (pe_un un_neg ha) fun σ H Q q => ?_
  obtain ⟨H₀, F, env, Rp, q⟩ := prim_args kk σ H Q q
  rw [evA_cons] at q
  refine ⟨H₀, F, env, Rp, (RP.bind q).mono fun p hp F' H' x g R' is => ?_⟩
  replace hp := hp F' H' [x] g R' (.cons is .nil)
  obtain ⟨H₁, F1, env1, σ1, ss, R1, a, q1⟩ := hp
  replace q1 : PK X.K X.mg H₁ F1 env1 σ1 Q (pNeg ss) := q1
  unfold pNeg at q1
  split at q1
  · obtain ⟨y, e, a1⟩ := a.one
    cases e
    cases Is.inv_int a1
    exact ⟨_, rfl, q1.now R1 (.int _)⟩
  · exact q1.elim
theorem bltP_some {m : Nat} {x : Str} {p : Prim} (h : bltP m x = some p) :
    (x = "len" ∧ p = .len) ∨ (x = "abs" ∧ p = .abs) ∨ (x = "int" ∧ p = .int) ∨ (x = "gcd" ∧ p = .gcd) ∨ (x = "min" ∧ (p = .min2 ∨ p = .minl)) ∨ (x = "max" ∧ (p = .max2 ∨ p = .maxl)) ∨ (x = "sum" ∧ p = .suml) ∨ (x = "any" ∧ p = .anyl) ∨ (x = "all" ∧ p = .alll) ∨
      (x = "tuple" ∧ p = .tuple) ∨ (x = "list" ∧ p = .list) := by
  unfold bltP at h
  split at h
  · next e => cases h; exact .inl ⟨e, rfl⟩
  split at h
  · next e => cases h; exact .inr (.inl ⟨e, rfl⟩)
  split at h
  · next e => cases h; exact .inr (.inr (.inl ⟨e, rfl⟩))
  split at h
  · next e => cases h; exact .inr (.inr (.inr (.inl ⟨e, rfl⟩)))
  split at h
  · next e => split at h <;> cases h <;> exact .inr (.inr (.inr (.inr (.inl ⟨e, by simp⟩))))
  split at h
  · next e => split at h <;> cases h <;> exact .inr (.inr (.inr (.inr (.inr (.inl ⟨e, by simp⟩)))))
  split at h
  · next e => cases h; exact .inr (.inr (.inr (.inr (.inr (.inr (.inl ⟨e, rfl⟩))))))
  split at h
  · next e => cases h; exact .inr (.inr (.inr (.inr (.inr (.inr (.inr (.inl ⟨e, rfl⟩)))))))
  split at h
  · next e => cases h; exact .inr (.inr (.inr (.inr (.inr (.inr (.inr (.inr (.inl ⟨e, rfl⟩))))))))
  split at h
  · next e => cases h; exact .inr (.inr (.inr (.inr (.inr (.inr (.inr (.inr (.inr (.inl ⟨e, rfl⟩)))))))))
  split at h
  · next e => cases h; exact .inr (.inr (.inr (.inr (.inr (.inr (.inr (.inr (.inr (.inr ⟨e, rfl⟩)))))))))
  · cases h
/-- a built-in function's call -/
theorem l_blt {β : Type} {k : En → Pr → R β} {post : Po β} (kk : KOk X W k post) (t : Xt X n W) {as : Exs} {e : Expr} {es : List Expr} {f : Str} {m : Nat} {p : Prim} {pos p1 : Pos} (hp : bltP m f = some p) (hg : glB X.env.scope f = true) (gp : goodP (gd X n) p) (hs : noStars (e :: es) = true) (ha : PA X (e :: es) (tA X W (evA as))) :
    PE X (.Call (.Name f p1) (e :: es) [] pos) (tG X W post (primF k p as)) := by
  obtain ⟨g1, g2⟩ := gl_of hg rfl
  simp only [noStars, Bool.and_eq_true] at hs
  have he := star_cons (es := es) (env := X.env) hs.1
  have hpl := stars_plain (pos := pos) (env := X.env) hs.2
  have fr : ∀ x ∈ bltFree, X.mg x = none := t.free
  have B : ∀ {id : String} (hv : bootBuiltins f = some (.builtin id)) (hf : f ∈ bltFree) (hn : f ≠ "__name__"), CallR X (.builtin id) (rPs X p) → PE X (.Call (.Name f p1) (e :: es) [] pos) (tG X W post (primF k p as)) :=
    fun hv hf hn hc => PE.imp (pe_callB hc g1 (fr _ hf) hv ha hn g2 he hpl) (prim_args kk)
  have T : ∀ {T : String} (hv : bootBuiltins f = some (.type T)) (hf : f ∈ bltFree) (hn : f ≠ "__name__"), CallR X (.type T) (rPs X p) → PE X (.Call (.Name f p1) (e :: es) [] pos) (tG X W post (primF k p as)) :=
    fun hv hf hn hc => PE.imp (pe_callTy hc g1 (fr _ hf) hv ha hn g2 he hpl) (prim_args kk)
  have hc : X.calm = true := t.calm
  rcases bltP_some hp with ⟨rfl, rfl⟩ | ⟨rfl, rfl⟩ | ⟨rfl, rfl⟩ | ⟨rfl, rfl⟩ | ⟨rfl, rfl | rfl⟩ | ⟨rfl, rfl | rfl⟩ | ⟨rfl, rfl⟩ | ⟨rfl, rfl⟩ | ⟨rfl, rfl⟩ | ⟨rfl, rfl⟩ | ⟨rfl, rfl⟩
  · exact B (by decide +kernel) (by decide) (by decide) cP_len
  · exact B (by decide +kernel) (by decide) (by decide) cP_abs
  · exact T (by decide +kernel) (by decide) (by decide) cP_int
  · exact PE.imp (pe_callBfun cP_gcd g1 gp ha g2 he hpl) (prim_args kk)
  · exact B (by decide +kernel) (by decide) (by decide) (cP_min2 hc)
  · exact B (by decide +kernel) (by decide) (by decide) (cP_min hc)
  · exact B (by decide +kernel) (by decide) (by decide) (cP_max2 hc)
  · exact B (by decide +kernel) (by decide) (by decide) (cP_max hc)
  · exact B (by decide +kernel) (by decide) (by decide) (cP_sum hc)
  · exact B (by decide +kernel) (by decide) (by decide) (cP_any hc)
  · exact B (by decide +kernel) (by decide) (by decide) (cP_all hc)
  · exact T (by decide +kernel) (by decide) (by decide) cP_tuple
  · exact T (by decide +kernel) (by decide) (by decide) cP_list
/-- isinstance -/
theorem ty_boot (t : Ty) : bootBuiltins (t.nm : Str) = some (.type t.nm) := by cases t <;> decide +kernel
theorem ty_free (t : Ty) : (t.nm : Str) ∈ bltFree ∧ (t.nm : Str) ≠ "__name__" := by cases t <;> decide
theorem l_isi (t : Xt X n W) {ty : Ty} {a : Ex} {e : Expr} {f g : Str} {pos p1 p2 : Pos} (hf : f = "isinstance") (hg : glB X.env.scope f = true) (ht : tyOf ty g = true) (hg2 : glB X.env.scope g = true) (hs : notStar e = true) (ha : PE X e (tO X W (evOp a))) :
    PE X (.Call (.Name f p1) [e, .Name g p2] [] pos) (tE X W (evE (.isi ty (.cons a .nil)))) := by
  obtain ⟨g1, g2⟩ := gl_of hg rfl
  obtain ⟨g3, g4⟩ := gl_of hg2 rfl
  have e2 : g = (ty.nm : Str) := of_decide_eq_true ht
  subst hf
  subst e2
  have P2 : PE X (.Name (ty.nm : Str) p2) (tC (.ty ty.nm)) := pe_bltn g3 (t.free _ (ty_free ty).1) (ty_boot ty) rfl (ty_free ty).2 g4
  refine PE.imp (pe_callB (cP_isi ty) g1 (t.free _ (by decide)) (by decide +kernel) (pa_cons ha (pa_cons P2 pa_nil rfl) (star_cons hs)) (by decide) g2 (star_cons hs) rfl) fun σ H Q ⟨H₀, F, env, Rp, q⟩ => ?_
  unfold evE at q
  rw [evA_cons] at q
  refine ⟨H₀, F, env, Rp, (RP.bind (RP.bind q)).mono fun p hp F' H' x g R' is => ?_⟩
  replace hp : RP X W H₀ F σ (match pds p.2 [p.1] with | some [s] => (match isiD ty s with | some b => .ok (.bl b, p.2) | none => .bad) | _ => .bad) (VPost X H₀ F σ Q) := hp
  split at hp
  · next s e =>
    split at hp
    · next b e2 =>
      have as := PdsIs.args R' (.cons is .nil) e
      obtain ⟨y, e3, a1⟩ := as.one
      cases e3
      refine ⟨H₀, F', p.2, σ, _, s, b, rfl, R', a1, e2, ?_⟩
      exact fun F2 H2 v g2 R2 is2 => hp F2 H2 v (g.trans g2) R2 is2
    · exact hp.elim
  · exact hp.elim
/-! ### calls of the module's defs -/
theorem run_fnD {CX : CXT} {k : Nat} {f : Addr} {fd : FuncData} {ps : List Str} {sp : Sp} {E : XK} {ds : List Value} {dvs : List V} {pins : List (Addr × Obj)} {σ : L2.St} {H : Hp} {s : Shared} {Q : VK} {us : List Value} {vs : List V}
    (F : FnOk X.prog X.w X.K X.mg X.base CX k f fd ps sp) (hr : Room k X.A) (hb : Binds X.K fd ps ds) (hd : Vals dvs ds) (hx : PassesAt CX X σ E)
    (I : Inv X pins σ H s) (r : Vals vs us) (h : sp (vs ++ dvs) H Q E) : wpAny (model X.prog X.w) X.A (call (.ref f) us) (EP X pins σ Q) X.xe s := by
  have r2 : Vals (vs ++ dvs) (us ++ ds) := r.append hd
  have hl : (us ++ ds).length = ps.length := by rw [← r2.length]; exact F.len _ _ _ _ h
  refine wpAny_call (codeAny_mono (F.run X.A X.stack s H ⟨us, []⟩ (us ++ ds) (vs ++ dvs) Q E hr I.env0 (hb s us I.kIn hl) r2 h) fun r s' hq => ?_)
  cases r with
  | error e => exact hx pins H s e s' I hq
  | ok fl =>
    cases fl with
    | ret u => exact I.after hq
    | next => exact False.elim hq
    | brk => exact False.elim hq
    | cont => exact False.elim hq
theorem pe_callD {k : Nat} {f : Addr} {fd : FuncData} {ps : List Str} {sp : Sp} {ds : List Value} {dvs : List V} {x : Str} {p pos : Pos} {es : List Expr} {ta : TA}
    (F : FnOk X.prog X.w X.K X.mg X.base (L2.CX X.prog X.w) k f fd ps sp) (hr : Room k X.A) (hg : Gl X x) (hm : X.mg x = some (.ref f)) (hk : PySem.W.keepIn X.K (.ref f) = true) (hb : Binds X.K fd ps ds) (hd : Vals dvs ds) (tk : Takes X W)
    (ha : PA X es ta) (hdb : (x == ("__debug__" : Str)) = false) (hs : noStars es = true) :
    PE X (.Call (.Name x p) es [] pos) (fun σ H Q => ta σ H fun vs H1 => sp (vs ++ dvs) H1 Q (WE W σ)) := by
  refine ⟨fun pins s σ H Q I h => ?_⟩
  refine wpAny_Call_Name_kw (ld_glob I hg hm ?_ hdb)
  have fin := ha.run pos pins s σ H _ I h
  cases es with
  | nil =>
    refine PySem.W.callWith_K0 I.kIn hk ?_
    have fin' : wpAny (model X.prog X.w) X.A (spliced (backTo pos (starEach [] X.env))) (fun us s' => wpAny (model X.prog X.w) X.A (call (.ref f) us) (EP X pins σ Q) X.xe s') X.xe s :=
      thn fin fun us s1 ⟨vs, H1, I1, r, q⟩ => run_fnD F hr hb hd (passAt tk σ) I1 r q
    exact fun Γ p hΓ => fin' Γ p hΓ Γ p hΓ
  | cons e es =>
    simp only [noStars, Bool.and_eq_true] at hs
    refine PySem.W.callWith_K (h₀ := X.base) I.ok.mod.kin hk (thn fin fun us s1 ⟨vs, H1, I1, r, q⟩ => ⟨I1.kIn, ?_⟩) (star_cons hs.1) (stars_plain hs.2)
    exact run_fnD F hr hb hd (passAt tk σ) I1 r q
end
end Ev
set_option Elab.async false
set_option linter.all false
set_option maxRecDepth 100000
set_option maxHeartbeats 1000000
namespace Ev
open PySem PySem.Spec PyProof.Rows L2

section
variable {K : PySem.W.Frag} {mg : Str → Option Value} {H₀ F F' H H' : Hp} {σ : L2.St} {env : En}
theorem Grow.up (s : Same H₀ H) (g : Grow H F F') : Grow H₀ F F' := ⟨g.1, fun b h n => g.2 b (fun z => by cases q : H₀ b with | none => exact h q | some o => rw [s b o q] at z; cases z) n⟩
/-- behind a call: what was there is there -/
theorem Rep.later (R : Rep K mg H₀ F env σ H) (g : Grow H F F') (s : Same H H') (f : Same F' H') : Rep K mg H₀ F' env σ H' := by
  refine ⟨R.h0.trans s, f, R.len, fun i sl e => ?_, R.dis⟩
  obtain ⟨v, h1, h2⟩ := R.sl i sl e
  refine ⟨v, h1, ?_⟩
  cases sl with
  | val d => exact Is.mono g.1 h2
  | own ds =>
    obtain ⟨q, vs, rfl, a, b, c, d⟩ := h2
    exact ⟨q, vs, rfl, a, g.2 q (by rw [c]; simp) b, s _ _ c, IsAll.mono g.1 d⟩
  | bor ds =>
    obtain ⟨q, vs, rfl, a, d⟩ := h2
    exact ⟨q, vs, rfl, a, IsAll.mono g.1 d⟩
theorem ArgsIs.append : ∀ {xs : List V} {ss : List Sl} {ys : List V} {ts : List Sl}, ArgsIs K mg F H xs ss → ArgsIs K mg F H ys ts → ArgsIs K mg F H (xs ++ ys) (ss ++ ts)
  | _, _, _, _, .nil, s => s
  | _, _, _, _, .cons a r, s => .cons a (ArgsIs.append r s)
theorem ArgsIs.vals : ∀ {vs : List V} {ds : List D}, IsAll K mg F vs ds → ArgsIs K mg F H vs (ds.map Sl.val)
  | _, _, .nil => .nil
  | _, _, .cons a r => .cons a (ArgsIs.vals r)
end
section
variable {X : Cx} {W : WX} {n : Nat}
/-- a call's end -/
theorem rf_sp {H₀ F H : Hp} {σ : L2.St} {env : En} {Q : VK} {vs : List V} {ss : List Sl} {den : List Sl → Rf} (Rp : Rep X.K X.mg H₀ F env σ H) (a : ArgsIs X.K X.mg F H vs ss) (h : RP X W H₀ F σ (rfS env (den ss)) (SPost X H₀ F σ Q)) :
    spOf X.K X.mg den vs H Q (WE W σ) := by
  refine ⟨F, ss, Rp.hf, a, ?_⟩
  cases e : den ss with
  | ok s =>
    rw [e] at h
    cases s with
    | val d => exact fun F' H' v g s1 s2 is => h F' H' v (g.up Rp.h0) (Rp.later g s1 s2) is
    | own ds =>
      intro F' H' p vs g s1 s2 n1 n2 l all
      refine h F' H' p vs (g.up Rp.h0) (Rp.later g s1 s2) (Rp.h0.free n1) n2 l all fun j es ej hj => ?_
      obtain ⟨v, h1, q, ws, rfl, _, _, c, _⟩ := Rp.sl j _ ej
      rw [hj] at h1; cases h1
      rw [n1] at c; cases c
    | bor _ => exact h
  | exc x =>
    rw [e] at h
    exact fun F' H' cls dd g s1 s2 xi => h F' H' cls dd (g.up Rp.h0) (Rp.later g s1 s2) xi
  | bad => rw [e] at h; exact h
/-- lists frozen at the end -/
theorem froz_post {H₀ F : Hp} {σ : L2.St} {Q : VK} {r : R (Sl × En)} (h : RP X W H₀ F σ (R.bind r frozR) (VPost X H₀ F σ Q)) : RP X W H₀ F σ r (SPost X H₀ F σ Q) := by
  refine (RP.bind h).mono fun p hp => ?_
  obtain ⟨s, e⟩ := p
  cases s with
  | val d => exact hp
  | own ds =>
    intro F' H' a vs g Rp z f l all new
    obtain ⟨g2, R2, is⟩ := Rp.freezeNew z f l all new
    exact hp _ _ _ (g.trans g2) R2 is
  | bor ds => exact hp.elim
theorem tS_of_tE {e : Expr} {f : En → R (Sl × En)} {g : En → R (D × En)} (hg : ∀ env, g env = R.bind (f env) frozR) (h : PE X e (tS X W f)) : PE X e (tE X W g) := by
  refine PE.imp h fun σ H Q ⟨H₀, F, env, Rp, q⟩ => ⟨H₀, F, env, Rp, ?_⟩
  rw [hg] at q
  exact froz_post q
def callF (den : List Sl → Rf) (dfl : List D) (as : Exs) (e : En) : R (Sl × En) := R.bind (evA as e) fun q => match pds q.2 q.1 with
  | some l => rfS q.2 (den (l ++ dfl.map Sl.val))
  | none => .bad
theorem evO_call {f : Str} {den : List Sl → Rf} {dfl : List D} {as : Exs} : evO (.call f den dfl as) = callF den dfl as := rfl
theorem evE_call {f : Str} {den : List Sl → Rf} {dfl : List D} {as : Exs} (env : En) : evE (.call f den dfl as) env = R.bind (callF den dfl as env) frozR := by
  show R.bind (evA as env) _ = R.bind (R.bind (evA as env) _) _
  cases evA as env with
  | ok q =>
    simp only [R.bind_ok]
    cases pds q.2 q.1 with
    | some l => rfl
    | none => rfl
  | exc x e => rfl
  | bad => rfl
theorem l_callS (t : Xt X n W) {f : Str} {den : List Sl → Rf} {dfl : List D} {as : Exs} {es : List Expr} {p pos : Pos} (hg : glB X.env.scope f = true) (g : FnG (gd X n) f den dfl) (hs : noStars es = true) (ha : PA X es (tA X W (evA as))) :
    PE X (.Call (.Name f p) es [] pos) (tS X W (evO (.call f den dfl as))) := by
  obtain ⟨g1, g2⟩ := gl_of hg rfl
  obtain ⟨fa, fd, ps, ds, dvs, hm, hk, hF, hb, hd, his⟩ := g
  refine PE.imp (pe_callD hF t.room g1 hm hk hb hd t.tk ha g2 hs) fun σ H Q ⟨H₀, F, env, Rp, q⟩ => ?_
  rw [evO_call] at q
  refine ⟨H₀, F, env, Rp, (RP.bind q).mono fun p hp F1 H1 vs g1 R1 is1 => ?_⟩
  split at hp
  · next l e =>
    have a := (PdsIs.args R1 is1 e).append (ArgsIs.vals (H := H1) (his F1))
    exact rf_sp R1 a ((hp.grow g1).mono fun _ q => SPost.grow q g1)
  · exact hp.elim
/-! ### slices -/
def slcF {β : Type} (k : En → Pr → R β) (a : Ex) (lo hi : Oe) (e : En) : R β := R.bind (evOp a e) fun p => R.bind (evOI lo p.2) fun l => R.bind (evOI hi l.2) fun h => match p.1.sl h.2 with
  | some s => k h.2 (pCut s l.1 h.1)
  | none => .bad
theorem evE_slc (a : Ex) (lo hi : Oe) : evE (.slc a lo hi) = slcF okD a lo hi := rfl
theorem evO_slc (a : Ex) (lo hi : Oe) : evO (.slc a lo hi) = slcF okS a lo hi := rfl
def IPost (X : Cx) (H₀ F : Hp) (σ : L2.St) (Q : Option Int → Hp → Prop) (p : Option Int × En) : Prop := ∀ F' H', Grow H₀ F F' → Rep X.K X.mg H₀ F' p.2 σ H' → Q p.1 H'
def tI' (X : Cx) (W : WX) (f : En → R (Option Int × En)) : TO := fun σ H Q => ∃ H₀ F env, Rep X.K X.mg H₀ F env σ H ∧ RP X W H₀ F σ (f env) (IPost X H₀ F σ Q)
theorem PO.imp {e : Option Expr} {t t' : TO} (h : PO X e t) (hi : ∀ σ H Q, t' σ H Q → t σ H Q) : PO X e t' := ⟨fun pins s σ H Q I q => h.run pins s σ H Q I (hi _ _ _ q)⟩
theorem o_none : PO X none (tI' X W (evOI .none)) := PO.imp po_none fun σ H Q ⟨H₀, F, env, Rp, q⟩ => q F H Grow.refl Rp
theorem o_some {a : Ex} {x : Expr} (ha : PE X x (tE X W (evE a))) : PO X (some x) (tI' X W (evOI (.some a))) := by
  refine PO.imp (po_some ha) fun σ H Q ⟨H₀, F, env, Rp, q⟩ => ?_
  unfold evOI at q
  refine ⟨H₀, F, env, Rp, (RP.bind q).mono fun p hp F' H' v g R' is => ?_⟩
  obtain ⟨d, e⟩ := p
  cases d <;> first | exact hp.elim | skip
  cases Is.inv_int is
  exact ⟨_, rfl, hp F' H' g R'⟩
theorem l_slc {β : Type} {k : En → Pr → R β} {post : Po β} (kk : KOk X W k post) {a : Ex} {lo hi : Oe} {x : Expr} {l h : Option Expr} {p2 pos : Pos} (ha : PE X x (tO X W (evOp a))) (hl : PO X l (tI' X W (evOI lo))) (hh : PO X h (tI' X W (evOI hi))) :
    PE X (.Subscript x (.Slice l h none p2) pos) (tG X W post (slcF k a lo hi)) := by
  refine PE.imp (pe_slice sl_list ha hl hh) fun σ H Q ⟨H₀, F, env, Rp, q⟩ => ?_
  unfold slcF at q
  refine ⟨H₀, F, env, Rp, (RP.bind q).mono fun p hp F1 H1 v g1 R1 is1 => ?_⟩
  refine ⟨H₀, F1, p.2, R1, ((RP.bind hp).grow g1).mono fun i hi F2 H2 g2 R2 => ?_⟩
  refine ⟨H₀, F2, i.2, R2, ((RP.bind hi).grow (g1.trans g2)).mono fun j hj F3 H3 g3 R3 => ?_⟩
  split at hj
  · next s e =>
    have ar := (is1.mono (g2.trans g3).1).arg R3 e
    have pk := kk.pk (RP.kgrow kk hj ((g1.trans g2).trans g3))
    unfold pCut at pk
    split at pk
    · next ds e2 =>
      obtain ⟨pa, vs, rfl, g, r⟩ := ar.rs R3 e2
      refine ⟨pa, vs, rfl, g, fun q hq => pk.newl R3 ?_ hq⟩
      unfold cutD cutV
      rw [r.length]
      exact (r.drop _).take _
    · exact pk.elim
  · exact hj.elim
/-! ### what a for walks -/
def Feeds (K : PySem.W.Frag) (mg : Str → Option Value) (J : It) (F0 : Hp) (items : List D) : Prop := ∀ i F H, Same F0 F → Same F H →
  (∀ d, items[i]? = some d → J.go i H ∧ ∀ x H', J.yld i H x H' → (H' = H ∧ Is K mg F x d) ∨ ∃ p vs ds, H p = none ∧ H' = upd H p (.tup vs) ∧ x = .ref p ∧ d = .tup ds ∧ IsAll K mg F vs ds) ∧ (items.length ≤ i → J.stop i H)
def JPost (X : Cx) (H₀ F : Hp) (σ : L2.St) (Rj : It → Hp → Prop) (p : List D × En) : Prop := ∀ F' H' J, Grow H₀ F F' → Rep X.K X.mg H₀ F' p.2 σ H' → Feeds X.K X.mg J F' p.1 → Rj J H'
def tJ (X : Cx) (W : WX) (f : En → R (List D × En)) : TI := fun σ H Rj => ∃ H₀ F env, Rep X.K X.mg H₀ F env σ H ∧ RP X W H₀ F σ (f env) (JPost X H₀ F σ Rj)
theorem feeds_l {a : Addr} {F : Hp} {vs : List V} {ds : List D} (h : SqL X.K F a vs) (r : IsAll X.K X.mg F vs ds) : Feeds X.K X.mg (Itl X.K a) F ds := by
  intro i F' H s1 s2
  have h2 : SqL X.K H a vs := L2.Same.seq (s1.trans s2) h
  refine ⟨fun d e => ?_, fun e => ⟨vs, h2, by rw [r.length]; exact e⟩⟩
  obtain ⟨v, e1, e2⟩ := r.get e
  refine ⟨⟨vs, v, h2, e1⟩, fun x H' y => .inl ⟨y.1, ?_⟩⟩
  have := y.2 vs h2
  rw [e1] at this; cases this
  exact Is.mono s1 e2
theorem feeds_t {a : Addr} {F : Hp} {vs : List V} {ds : List D} (h : SqT X.K F a vs) (r : IsAll X.K X.mg F vs ds) : Feeds X.K X.mg (Itt X.K a) F ds := by
  intro i F' H s1 s2
  have h2 : SqT X.K H a vs := Same.seqT (s1.trans s2) h
  refine ⟨fun d e => ?_, fun e => ⟨vs, h2, by rw [r.length]; exact e⟩⟩
  obtain ⟨v, e1, e2⟩ := r.get e
  refine ⟨⟨vs, v, h2, e1⟩, fun x H' y => .inl ⟨y.1, ?_⟩⟩
  have := y.2 vs h2
  rw [e1] at this; cases this
  exact Is.mono s1 e2
theorem feeds_r {lo : Int} {m : Nat} {F : Hp} : Feeds X.K X.mg (L2.Itr lo m) F ((List.range m).map fun (k : Nat) => D.int (lo + (k : Int))) := by
  intro i F' H s1 s2
  refine ⟨fun d e => ?_, fun e => (show m ≤ i by simpa using e)⟩
  rw [List.getElem?_map] at e
  by_cases q : i < m
  · rw [List.getElem?_range q] at e
    cases e
    refine ⟨q, fun x H' y => .inl ⟨y.1, ?_⟩⟩
    rw [y.2]
    exact .int _
  · rw [List.getElem?_eq_none (by simpa using q)] at e; cases e
theorem feeds_e {a : Addr} {F : Hp} {vs : List V} {ds : List D} (h : SqL X.K F a vs) (r : IsAll X.K X.mg F vs ds) : Feeds X.K X.mg (Ite X.K a) F (enumD ds) := by
  intro i F' H s1 s2
  have h2 : SqL X.K H a vs := L2.Same.seq (s1.trans s2) h
  refine ⟨fun d e => ?_, fun e => ⟨vs, h2, by rw [r.length]; simpa [enumD] using e⟩⟩
  unfold enumD at e
  rw [List.getElem?_map, List.getElem?_zipIdx] at e
  cases q : ds[i]? with
  | none => rw [q] at e; cases e
  | some d0 =>
    rw [q] at e
    cases e
    obtain ⟨v, e1, e2⟩ := r.get q
    refine ⟨⟨vs, v, h2, e1⟩, fun x H' y => .inr ?_⟩
    obtain ⟨T, z, rfl, n, rfl, y2⟩ := y
    have := y2 vs h2
    rw [e1] at this; cases this
    exact ⟨T, _, _, n, rfl, rfl, rfl, .cons (by simpa using Is.int _) (.cons (Is.mono s1 e2) .nil)⟩
theorem zipD_get {as bs : List D} {i : Nat} {d : D} (e : (zipD as bs)[i]? = some d) : ∃ x y, as[i]? = some x ∧ bs[i]? = some y ∧ d = .tup [x, y] := by
  unfold zipD at e
  rw [List.getElem?_map] at e
  cases q : (as.zip bs)[i]? with
  | none => rw [q] at e; cases e
  | some p =>
    rw [q] at e
    cases e
    rw [List.getElem?_zip_eq_some] at q
    exact ⟨_, _, q.1, q.2, rfl⟩
theorem feeds_z {a b : Addr} {F : Hp} {vs ws : List V} {ds es : List D} (h : SqL X.K F a vs) (h' : SqL X.K F b ws) (r : IsAll X.K X.mg F vs ds) (r' : IsAll X.K X.mg F ws es) : Feeds X.K X.mg (Itz X.K a b) F (zipD ds es) := by
  intro i F' H s1 s2
  have h2 : SqL X.K H a vs := L2.Same.seq (s1.trans s2) h
  have h3 : SqL X.K H b ws := L2.Same.seq (s1.trans s2) h'
  refine ⟨fun d e => ?_, fun e => ⟨vs, ws, h2, h3, by rw [r.length, r'.length]; simp [zipD] at e; omega⟩⟩
  obtain ⟨x, y, e1, e2, rfl⟩ := zipD_get e
  obtain ⟨v, f1, f2⟩ := r.get e1
  obtain ⟨w, f3, f4⟩ := r'.get e2
  refine ⟨⟨vs, ws, v, w, h2, h3, f1, f3⟩, fun x H' y => .inr ?_⟩
  obtain ⟨T, z1, z2, rfl, n, rfl, y1, y2⟩ := y
  have k1 := y1 vs h2
  rw [f1] at k1; cases k1
  have k2 := y2 ws h3
  rw [f3] at k2; cases k2
  exact ⟨T, _, _, n, rfl, rfl, rfl, .cons (Is.mono s1 f2) (.cons (Is.mono s1 f4) .nil)⟩
theorem feeds_zT {a b : Addr} {F : Hp} {vs ws : List V} {ds es : List D} (h : SqT X.K F a vs) (h' : SqT X.K F b ws) (r : IsAll X.K X.mg F vs ds) (r' : IsAll X.K X.mg F ws es) : Feeds X.K X.mg (RZ.ItzT X.K a b) F (zipD ds es) := by
  intro i F' H s1 s2
  have h2 : SqT X.K H a vs := Same.seqT (s1.trans s2) h
  have h3 : SqT X.K H b ws := Same.seqT (s1.trans s2) h'
  refine ⟨fun d e => ?_, fun e => ⟨vs, ws, h2, h3, by rw [r.length, r'.length]; simp [zipD] at e; omega⟩⟩
  obtain ⟨x, y, e1, e2, rfl⟩ := zipD_get e
  obtain ⟨v, f1, f2⟩ := r.get e1
  obtain ⟨w, f3, f4⟩ := r'.get e2
  refine ⟨⟨vs, ws, v, w, h2, h3, f1, f3⟩, fun x H' y => .inr ?_⟩
  obtain ⟨T, z1, z2, rfl, n, rfl, y1, y2⟩ := y
  have k1 := y1 vs h2
  rw [f1] at k1; cases k1
  have k2 := y2 ws h3
  rw [f3] at k2; cases k2
  exact ⟨T, _, _, n, rfl, rfl, rfl, .cons (Is.mono s1 f2) (.cons (Is.mono s1 f4) .nil)⟩
theorem j_seq {tg e : Expr} {a : Ex} (ha : PE X e (tE X W (evE a))) : PI X tg e (tJ X W (evI (.seq a))) := by
  refine ⟨fun pins s σ H Rj I ⟨H₀, F, env, Rp, q⟩ => ?_⟩
  unfold evI at q
  cases e1 : evE a env with
  | ok p =>
    obtain ⟨d, e2⟩ := p
    rw [e1] at q
    simp only [R.bind_ok] at q
    have bad : RP X W H₀ F σ (match seqD d with | some l => R.ok (l, e2) | none => .bad) (JPost X H₀ F σ Rj) → seqD d ≠ none := fun z w => by rw [w] at z; exact z
    cases d <;> first | exact (bad q rfl).elim | skip
    · refine (pi_tup ha).run pins s σ H Rj I ⟨H₀, F, env, Rp, ?_⟩
      rw [e1]
      intro F' H' v g R' is
      obtain ⟨p, vs, rfl, h, r⟩ := Is.inv_tup is
      exact ⟨p, rfl, ⟨vs, Same.seqT R'.hf h⟩, q F' H' _ g R' (feeds_t h r)⟩
    · refine (pi_list ha).run pins s σ H Rj I ⟨H₀, F, env, Rp, ?_⟩
      rw [e1]
      intro F' H' v g R' is
      obtain ⟨p, vs, rfl, h, r⟩ := Is.inv_lst is
      exact ⟨p, rfl, ⟨vs, .inl (Same.rd R'.hf h)⟩, q F' H' _ g R' (feeds_l (.inl h) r)⟩
    · refine (pi_list ha).run pins s σ H Rj I ⟨H₀, F, env, Rp, ?_⟩
      rw [e1]
      intro F' H' v g R' is
      cases is with
      | ro h r => exact ⟨_, rfl, ⟨_, L2.Same.seq R'.hf h⟩, q F' H' _ g R' (feeds_l h r)⟩
  | exc x e2 => rw [e1] at q; exact (pi_list ha).run pins s σ H Rj I ⟨H₀, F, env, Rp, by rw [e1]; exact q⟩
  | bad => rw [e1] at q; exact q.elim
theorem one_of {es : List Expr} {m : Nat} (h : decide (es.length = 1) = true) : ∃ e, es = [e] := by
  match es, of_decide_eq_true h with
  | [e], _ => exact ⟨e, rfl⟩
theorem two_of {es : List Expr} (h : decide (es.length = 2) = true) : ∃ e e2, es = [e, e2] := by
  match es, of_decide_eq_true h with
  | [e, e2], _ => exact ⟨e, e2, rfl⟩
theorem rng_ok {lo m : Int} {H₀ F : Hp} {σ : L2.St} {ok : List D → Prop} (h : RP X W H₀ F σ (rngD lo m) ok) : (-(2 ^ 62) ≤ lo ∧ lo < 2 ^ 62 ∧ -(2 ^ 62) ≤ m ∧ m < 2 ^ 62) ∧ ok ((List.range (m - lo).toNat).map fun (k : Nat) => D.int (lo + (k : Int))) := by
  unfold rngD at h
  split at h
  · next c =>
    simp only [Bool.and_eq_true, decide_eq_true_eq] at c
    exact ⟨⟨c.1.1.1, c.1.1.2, c.1.2, c.2⟩, h⟩
  · exact h.elim
theorem rngOf_one {s : Sl} {H₀ F : Hp} {σ : L2.St} {ok : List D → Prop} (h : RP X W H₀ F σ (rngOf [s]) ok) : ∃ m, s = .val (.int m) ∧ RP X W H₀ F σ (rngD 0 m) ok := by
  unfold rngOf at h
  split at h
  · next e => cases e; exact ⟨_, rfl, h⟩
  · next e => cases e
  · exact h.elim
theorem rngOf_two {s u : Sl} {H₀ F : Hp} {σ : L2.St} {ok : List D → Prop} (h : RP X W H₀ F σ (rngOf [s, u]) ok) : ∃ l m, s = .val (.int l) ∧ u = .val (.int m) ∧ RP X W H₀ F σ (rngD l m) ok := by
  unfold rngOf at h
  split at h
  · next e => cases e
  · next e => cases e; exact ⟨_, _, rfl, rfl, h⟩
  · exact h.elim
theorem pds_one {env : En} {p : Pd} {l : List Sl} (h : pds env [p] = some l) : ∃ s, l = [s] ∧ p.sl env = some s := by
  simp only [pds] at h
  split at h
  · next s l' a b => cases h; cases b; exact ⟨s, rfl, a⟩
  · cases h
theorem pds_two {env : En} {p p' : Pd} {l : List Sl} (h : pds env [p, p'] = some l) : ∃ s s', l = [s, s'] ∧ p.sl env = some s ∧ p'.sl env = some s' := by
  rw [pds] at h
  split at h
  · next s l' a b =>
    cases h
    obtain ⟨s', rfl, e⟩ := pds_one b
    exact ⟨s, s', rfl, a, e⟩
  · cases h
theorem j_rng1 (t : Xt X n W) {tg e : Expr} {a : Ex} {f : Str} {p pos : Pos} (hf : f = "range") (hg : glB X.env.scope f = true) (hs : notStar e = true) (ha : PE X e (tO X W (evOp a))) :
    PI X tg (.Call (.Name f p) [e] [] pos) (tJ X W (evI (.rng (.cons a .nil)))) := by
  obtain ⟨g1, g2⟩ := gl_of hg rfl
  subst hf
  refine ⟨fun pins s σ H Rj I ⟨H₀, F, env, Rp, q⟩ => ?_⟩
  unfold evI at q
  rw [evA_cons] at q
  refine (pi_range1 g1 (t.free _ (by decide)) (pa_cons ha pa_nil (star_cons hs)) (star_cons hs)).run pins s σ H Rj I ⟨H₀, F, env, Rp, (RP.bind (RP.bind q)).mono fun p hp F' H' v g R' is => ?_⟩
  replace hp : RP X W H₀ F σ (match pds p.2 [p.1] with | some l => R.bind (rngOf l) fun l => R.ok (l, p.2) | none => .bad) (JPost X H₀ F σ Rj) := hp
  split at hp
  · next l e2 =>
    obtain ⟨s1, rfl, e3⟩ := pds_one e2
    obtain ⟨m, rfl, h⟩ := rngOf_one (RP.bind hp)
    cases Is.inv_int (is.arg R' e3)
    obtain ⟨b, h⟩ := rng_ok h
    refine ⟨_, rfl, b.2.2.1, b.2.2.2, ?_⟩
    have h' := h F' H' _ g R' (feeds_r (X := X))
    simpa using h'
  · exact hp.elim
theorem j_rng2 (t : Xt X n W) {tg e e' : Expr} {a a' : Ex} {f : Str} {p pos : Pos} (hf : f = "range") (hg : glB X.env.scope f = true) (hs : notStar e = true) (hs' : notStar e' = true) (ha : PE X e (tO X W (evOp a))) (ha' : PE X e' (tO X W (evOp a'))) :
    PI X tg (.Call (.Name f p) [e, e'] [] pos) (tJ X W (evI (.rng (.cons a (.cons a' .nil))))) := by
  obtain ⟨g1, g2⟩ := gl_of hg rfl
  subst hf
  refine ⟨fun pins s σ H Rj I ⟨H₀, F, env, Rp, q⟩ => ?_⟩
  unfold evI at q
  rw [evA_cons] at q
  have st2 : starEach [e'] X.env = [(false, eval e' X.env)] := star_cons hs'
  refine (pi_range2 g1 (t.free _ (by decide)) (pa_cons ha (pa_cons ha' pa_nil st2) (star_cons hs)) (by rw [star_cons hs, st2]) st2).run pins s σ H Rj I ⟨H₀, F, env, Rp, (RP.bind (RP.bind q)).mono fun p hp F1 H1 v g1 R1 is1 => ?_⟩
  rw [evA_cons] at hp
  refine ⟨H₀, F1, p.2, R1, ((RP.bind (RP.bind hp)).grow g1).mono fun p' hp' F2 H2 v' g2 R2 is2 => ?_⟩
  replace hp' : RP X W H₀ F σ (match pds p'.2 [p.1, p'.1] with | some l => R.bind (rngOf l) fun l => R.ok (l, p'.2) | none => .bad) (JPost X H₀ F σ Rj) := hp'
  split at hp'
  · next l e2 =>
    obtain ⟨s1, s2, rfl, e3, e4⟩ := pds_two e2
    obtain ⟨l, m, rfl, rfl, h⟩ := rngOf_two (RP.bind hp')
    cases Is.inv_int ((is1.mono g2.1).arg R2 e3)
    cases Is.inv_int (is2.arg R2 e4)
    obtain ⟨b, h⟩ := rng_ok h
    exact ⟨_, _, rfl, b, h F2 H2 _ (g1.trans g2) R2 (feeds_r (X := X))⟩
  · exact hp'.elim
theorem j_enum (t : Xt X n W) {e : Expr} {a : Ex} {f : Str} {elts : List Expr} {kk : Nat} {tpos p pos : Pos} (hf : f = "enumerate") (hg : glB X.env.scope f = true) (hs : notStar e = true) (ha : PE X e (tO X W (evOp a))) :
    PI X (.Tuple elts kk tpos) (.Call (.Name f p) [e] [] pos) (tJ X W (evI (.enum (.cons a .nil)))) := by
  obtain ⟨g1, g2⟩ := gl_of hg rfl
  subst hf
  refine ⟨fun pins s σ H Rj I ⟨H₀, F, env, Rp, q⟩ => ?_⟩
  unfold evI at q
  rw [evA_cons] at q
  refine (pi_enum g1 (t.free _ (by decide)) (pa_cons ha pa_nil (star_cons hs)) (star_cons hs)).run pins s σ H Rj I ⟨H₀, F, env, Rp, (RP.bind (RP.bind q)).mono fun p hp F' H' v g R' is => ?_⟩
  replace hp : RP X W H₀ F σ (match pds p.2 [p.1] with | some l => R.bind (enumOf l) fun l => R.ok (l, p.2) | none => .bad) (JPost X H₀ F σ Rj) := hp
  split at hp
  · next l e2 =>
    obtain ⟨s1, rfl, e3⟩ := pds_one e2
    have h := RP.bind hp
    unfold enumOf at h
    split at h
    · next q1 =>
      cases q1
      obtain ⟨pa, vs, rfl, h1, r⟩ := Is.inv_lst (is.arg R' e3)
      exact ⟨pa, vs, rfl, .inl (Same.rd R'.hf h1), h F' H' _ g R' (feeds_e (.inl h1) r)⟩
    · exact h.elim
  · exact hp.elim
theorem j_zip (t : Xt X n W) {e e' : Expr} {a a' : Ex} {f : Str} {elts : List Expr} {kk : Nat} {tpos p pos : Pos} (hf : f = "zip") (hg : glB X.env.scope f = true) (hs : notStar e = true) (hs' : notStar e' = true) (ha : PE X e (tO X W (evOp a))) (ha' : PE X e' (tO X W (evOp a'))) :
    PI X (.Tuple elts kk tpos) (.Call (.Name f p) [e, e'] [] pos) (tJ X W (evI (.zip (.cons a (.cons a' .nil))))) := by
  obtain ⟨g1, g2⟩ := gl_of hg rfl
  subst hf
  refine ⟨fun pins s σ H Rj I ⟨H₀, F, env, Rp, q⟩ => ?_⟩
  unfold evI at q
  rw [evA_cons] at q
  have st2 : starEach [e'] X.env = [(false, eval e' X.env)] := star_cons hs'
  refine (RZ.pi_zipA g1 (t.free _ (by decide)) (pa_cons ha (pa_cons ha' pa_nil st2) (star_cons hs)) (star_cons hs) (stars_plain (es := [e']) (by simp [noStars, hs']))).run pins s σ H Rj I ⟨H₀, F, env, Rp, (RP.bind (RP.bind q)).mono fun p hp F1 H1 v g1 R1 is1 => ?_⟩
  rw [evA_cons] at hp
  refine ⟨H₀, F1, p.2, R1, ((RP.bind (RP.bind hp)).grow g1).mono fun p' hp' F2 H2 v' g2 R2 is2 => ?_⟩
  replace hp' : RP X W H₀ F σ (match pds p'.2 [p.1, p'.1] with | some l => R.bind (zipOf l) fun l => R.ok (l, p'.2) | none => .bad) (JPost X H₀ F σ Rj) := hp'
  split at hp'
  · next l e2 =>
    obtain ⟨s1, s2, rfl, e3, e4⟩ := pds_two e2
    have h := RP.bind hp'
    have i1 := (is1.mono g2.1).arg R2 e3
    have i2 := is2.arg R2 e4
    unfold zipOf at h
    split at h
    · next q1 =>
      cases q1
      obtain ⟨pa, vs, rfl, h1, r⟩ := Is.inv_lst i1
      obtain ⟨pb, ws, rfl, h2, r2⟩ := Is.inv_lst i2
      exact ⟨pa, pb, vs, ws, rfl, .inl ⟨.inl (Same.rd R2.hf h1), .inl (Same.rd R2.hf h2), h F2 H2 _ (g1.trans g2) R2 (feeds_z (.inl h1) (.inl h2) r r2)⟩⟩
    · next q1 =>
      cases q1
      obtain ⟨pa, vs, rfl, h1, r⟩ := Is.inv_tup i1
      obtain ⟨pb, ws, rfl, h2, r2⟩ := Is.inv_tup i2
      exact ⟨pa, pb, vs, ws, rfl, .inr ⟨Same.seqT R2.hf h1, Same.seqT R2.hf h2, h F2 H2 _ (g1.trans g2) R2 (feeds_zT h1 h2 r r2)⟩⟩
    · exact h.elim
  · exact hp'.elim
end
end Ev
set_option Elab.async false
set_option linter.all false
set_option maxRecDepth 100000
set_option maxHeartbeats 1000000
namespace Ev
open PySem PySem.Spec PyProof.Rows L2

/-! ### targets -/
theorem wipe_set {σ : L2.St} {i : Nat} {x : Option V} : ∀ {vs : List Nat}, i ∈ vs → wipe (σ.set i x) vs = wipe σ vs
  | [], h => by simp at h
  | v :: vs, h => by
    unfold wipe
    by_cases q : i ∈ vs
    · rw [wipe_set q]
    · have : i = v := by
        rcases List.mem_cons.mp h with e | e
        · exact e
        · exact absurd e q
      subst this
      have key : ∀ (vs : List Nat) (σ : L2.St), i ∉ vs → (wipe (σ.set i x) vs).set i none = (wipe σ vs).set i none := by
        intro vs
        induction vs with
        | nil => intro σ _; simp [wipe]
        | cons w ws ih =>
          intro σ hw
          rw [List.mem_cons, not_or] at hw
          unfold wipe
          rw [List.set_comm _ _ (Ne.symm hw.1), ih σ hw.2, List.set_comm _ _ hw.1]
      exact key vs σ q
def tTg (X : Cx) (tg : Tgt) : TG := fun v σ H Q => ∃ H₀ F env d env', Rep X.K X.mg H₀ F env σ H ∧ Is X.K X.mg F v d ∧ setT tg d env = some env' ∧
  ∀ σ', Rep X.K X.mg H₀ F env' σ' H → (∀ vs, inT vs tg = true → wipe σ' vs = wipe σ vs) → Q σ' H
def tTgs (X : Cx) (ts : Tgts) : TGs := fun us σ H Q => ∃ H₀ F env ds env', Rep X.K X.mg H₀ F env σ H ∧ IsAll X.K X.mg F us ds ∧ setTs ts ds env = some env' ∧
  ∀ σ', Rep X.K X.mg H₀ F env' σ' H → (∀ vs, inTs vs ts = true → wipe σ' vs = wipe σ vs) → Q σ' H
theorem PG.imp {X : Cx} {e : Expr} {t t' : TG} (h : PG X e t) (hi : ∀ v σ H Q, t' v σ H Q → t v σ H Q) : PG X e t' := ⟨fun pins s σ H v u Q I r q => h.run pins s σ H v u Q I r (hi _ _ _ _ q)⟩
theorem PGs.imp {X : Cx} {e : List Expr} {t t' : TGs} (h : PGs X e t) (hi : ∀ v σ H Q, t' v σ H Q → t v σ H Q) : PGs X e t' := ⟨fun pins s σ H v u Q I r q => h.run pins s σ H v u Q I r (hi _ _ _ _ q)⟩
theorem loc_of {N : List Str} {sc : Scope} {i : Nat} {x : Str} (h : locB N sc i x = true) : N[i]? = some x ∧ Loc sc x := by
  unfold locB at h
  simp only [Bool.and_eq_true, Bool.or_eq_true, decide_eq_true_eq] at h
  exact h
/-- the names that may be stored -/
def LocOk (X : Cx) (sc : Scope) : Prop := ∀ x, Loc sc x → Loc X.env.scope x ∧ (X.fn x = true ∨ X.env.scope.names.lookup x = some .local)
def noTS : List Expr → Bool
  | [] => true
  | .Starred _ _ :: _ => false
  | _ :: es => noTS es
theorem okTs_ns {N : List Str} {sc : Scope} : ∀ {ts : Tgts} {es : List Expr}, okTs N sc ts es = true → noTS es = true
  | .nil, [], _ => rfl
  | .nil, _ :: _, h => by simp [okTs] at h
  | .cons _ _, [], h => by simp [okTs] at h
  | .cons t ts, e :: es, h => by
    simp only [okTs, Bool.and_eq_true] at h
    have r := okTs_ns h.2
    cases e <;> first | exact r | (cases t <;> simp [okT] at h)
theorem assign_cons {env : Env} {e : Expr} {es : List Expr} (h : noTS (e :: es) = true) : assignEach (e :: es) env = (false, assign e env) :: assignEach es env := by
  cases e <;> first | rfl | (simp [noTS] at h)
theorem assign_plain {env : Env} : ∀ {es : List Expr}, noTS es = true → (assignEach es env).length = es.length ∧ (assignEach es env).findIdx? (·.1) = none
  | [], _ => ⟨rfl, rfl⟩
  | e :: es, h => by
    have h' : noTS es = true := by cases e <;> first | exact h | (simp [noTS] at h)
    have r := assign_plain (env := env) h'
    have e1 : assignEach (e :: es) env = (false, assign e env) :: assignEach es env := by cases e <;> first | rfl | (simp [noTS] at h)
    rw [e1]
    refine ⟨by rw [List.length_cons, List.length_cons, r.1], ?_⟩
    rw [List.findIdx?_cons, r.2]
    rfl
def Tgts.len : Tgts → Nat
  | .nil => 0
  | .cons _ ts => ts.len + 1
theorem okTs_len {N : List Str} {sc : Scope} : ∀ {ts : Tgts} {es : List Expr}, okTs N sc ts es = true → es.length = ts.len
  | .nil, [], _ => rfl
  | .nil, _ :: _, h => by simp [okTs] at h
  | .cons _ _, [], h => by simp [okTs] at h
  | .cons t ts, e :: es, h => by
    simp only [okTs, Bool.and_eq_true] at h
    rw [List.length_cons, okTs_len h.2, Tgts.len]
theorem setTs_len : ∀ {ts : Tgts} {ds : List D} {e e' : En}, setTs ts ds e = some e' → ds.length = ts.len
  | .nil, [], _, _, _ => rfl
  | .nil, _ :: _, _, _, h => by simp [setTs] at h
  | .cons _ _, [], _, _, h => by simp [setTs] at h
  | .cons t ts, d :: ds, e, e', h => by
    simp only [setTs] at h
    split at h
    · rw [List.length_cons, setTs_len h, Tgts.len]
    · cases h
mutual
theorem sndT {X : Cx} {W : WX} {n : Nat} (t : Xt X n W) {sc : Scope} (hl : LocOk X sc) : ∀ (tg : Tgt) (e : Expr), okT X.N sc tg e = true → PG X e (tTg X tg)
  | .nm i x, .Name y pos, h => by
    simp only [okT, Bool.and_eq_true, decide_eq_true_eq] at h
    obtain ⟨rfl, h2⟩ := h
    obtain ⟨h3, h4⟩ := loc_of h2
    refine PG.imp (pg_name t.nd h3 (hl x h4).1 (hl x h4).2) fun v σ H Q ⟨H₀, F, env, d, env', Rp, is, e, q⟩ => ?_
    simp only [setT, Option.some.injEq] at e
    subst e
    exact q _ (Rp.setVal is) fun vs hv => wipe_set (of_decide_eq_true hv)
  | .tup ts, .Tuple es k pos, h => by
    have h' : okTs X.N sc ts es = true := by simpa [okT] using h
    have ap := assign_plain (env := X.env) (okTs_ns h')
    refine PG.imp (pg_tup t.calm (sndTs t hl ts es h') ap.1 ap.2) fun v σ H Q ⟨H₀, F, env, d, env', Rp, is, e, q⟩ => ?_
    cases d <;> simp only [setT, reduceCtorEq] at e
    obtain ⟨a, vs, rfl, g, r⟩ := Is.inv_tup is
    exact ⟨a, vs, rfl, Same.seqT Rp.hf g, by rw [r.length, setTs_len e, okTs_len h'], H₀, F, env, _, env', Rp, r, e, fun σ' R' w => q σ' R' fun vs hv => w vs hv⟩
  | .nm _ _, .BoolOp .., h | .nm _ _, .NamedExpr .., h | .nm _ _, .BinOp .., h | .nm _ _, .UnaryOp .., h | .nm _ _, .Lambda .., h | .nm _ _, .IfExp .., h | .nm _ _, .Dict .., h | .nm _ _, .Set .., h | .nm _ _, .ListComp .., h
  | .nm _ _, .SetComp .., h | .nm _ _, .DictComp .., h | .nm _ _, .GeneratorExp .., h | .nm _ _, .Await .., h | .nm _ _, .Yield .., h | .nm _ _, .YieldFrom .., h | .nm _ _, .Compare .., h | .nm _ _, .Call .., h | .nm _ _, .FormattedValue .., h
  | .nm _ _, .JoinedStr .., h | .nm _ _, .Constant .., h | .nm _ _, .Attribute .., h | .nm _ _, .Subscript .., h | .nm _ _, .Starred .., h | .nm _ _, .List .., h | .nm _ _, .Tuple .., h | .nm _ _, .Slice .., h => by simp [okT] at h
  | .tup _, .BoolOp .., h | .tup _, .NamedExpr .., h | .tup _, .BinOp .., h | .tup _, .UnaryOp .., h | .tup _, .Lambda .., h | .tup _, .IfExp .., h | .tup _, .Dict .., h | .tup _, .Set .., h | .tup _, .ListComp .., h
  | .tup _, .SetComp .., h | .tup _, .DictComp .., h | .tup _, .GeneratorExp .., h | .tup _, .Await .., h | .tup _, .Yield .., h | .tup _, .YieldFrom .., h | .tup _, .Compare .., h | .tup _, .Call .., h | .tup _, .FormattedValue .., h
  | .tup _, .JoinedStr .., h | .tup _, .Constant .., h | .tup _, .Attribute .., h | .tup _, .Subscript .., h | .tup _, .Starred .., h | .tup _, .Name .., h | .tup _, .List .., h | .tup _, .Slice .., h => by simp [okT] at h
theorem sndTs {X : Cx} {W : WX} {n : Nat} (t : Xt X n W) {sc : Scope} (hl : LocOk X sc) : ∀ (ts : Tgts) (es : List Expr), okTs X.N sc ts es = true → PGs X es (tTgs X ts)
  | .nil, [], _ => PGs.imp pgs_nil fun vs σ H Q ⟨H₀, F, env, ds, env', Rp, is, e, q⟩ => by
    cases ds <;> simp only [setTs, Option.some.injEq, reduceCtorEq] at e
    subst e
    cases is
    exact ⟨rfl, q σ Rp fun _ _ => rfl⟩
  | .nil, _ :: _, h => by simp [okTs] at h
  | .cons _ _, [], h => by simp [okTs] at h
  | .cons tg ts, e :: es, h => by
    have hns := okTs_ns h
    simp only [okTs, Bool.and_eq_true] at h
    refine PGs.imp (pgs_cons (sndT t hl tg e h.1) (sndTs t hl ts es h.2) (by rw [assign_cons hns]; rfl)) fun vs σ H Q ⟨H₀, F, env, ds, env', Rp, is, eq, q⟩ => ?_
    cases ds with
    | nil => simp [setTs] at eq
    | cons d ds =>
      simp only [setTs] at eq
      split at eq
      · next e1 q1 =>
        cases is with
        | cons i r =>
          refine ⟨_, _, rfl, H₀, F, env, d, e1, Rp, i, q1, fun σ1 R1 w1 => ⟨H₀, F, e1, ds, env', R1, r, eq, fun σ2 R2 w2 => q σ2 R2 fun vs hv => ?_⟩⟩
          simp only [inTs, Bool.and_eq_true] at hv
          rw [w2 vs hv.2, w1 vs hv.1]
      · cases eq
end
end Ev
set_option Elab.async false
set_option linter.all false
set_option maxRecDepth 100000
set_option maxHeartbeats 1000000
namespace Ev
open PySem PySem.Spec PyProof.Rows L2

section
variable {K : PySem.W.Frag} {mg : Str → Option Value} {H₀ F F' H H' : Hp} {σ : L2.St} {env : En}
theorem lk_lend (env : En) (i : Nat) : lk (lend env) i = (lk env i).map Sl.lend := by
  rw [lk_eq, lk_eq]
  unfold lend
  rw [List.getElem?_map]
  cases env[i]? with
  | none => rfl
  | some o => rfl
open Classical in
/-- what must stay while lists of one's own are lent -/
noncomputable def hold (H₀ H : Hp) (env : En) (σ : L2.St) : Hp := fun b => match H₀ b with
  | some o => some o
  | none => if ∃ i ds, lk env i = some (.own ds) ∧ σ[i]? = some (some (.ref b)) then H b else none
theorem hold_same : Same H₀ (hold H₀ H env σ) := fun b o e => by unfold hold; rw [e]
theorem hold_own (R : Rep K mg H₀ F env σ H) {i : Nat} {ds : List D} {p : Addr} (e : lk env i = some (.own ds)) (h : σ[i]? = some (some (.ref p))) : hold H₀ H env σ p = H p := by
  obtain ⟨v, h1, p', vs, rfl, z, _, _, _⟩ := R.sl i _ e
  rw [h] at h1; cases h1
  unfold hold
  rw [z]
  dsimp only
  split
  · rfl
  · next q => exact (q ⟨i, ds, e, h⟩).elim
theorem hold_none (R : Rep K mg H₀ F env σ H) {b : Addr} (n : H b = none) : hold H₀ H env σ b = none := by
  unfold hold
  rw [R.h0.free n]
  dsimp only
  split
  · exact n
  · rfl
theorem Rep.lent (R : Rep K mg H₀ F env σ H) : Rep K mg (hold H₀ H env σ) F (lend env) σ H := by
  refine ⟨fun b o e => ?_, R.hf, by unfold lend; rw [List.length_map]; exact R.len, fun i s e => ?_, fun i j ds es p a b c d => ?_⟩
  · unfold hold at e
    split at e
    · next o' q => cases e; exact R.h0 _ _ q
    · split at e
      · exact e
      · cases e
  · rw [lk_lend] at e
    cases q : lk env i with
    | none => rw [q] at e; cases e
    | some s0 =>
      rw [q] at e
      cases e
      obtain ⟨v, h1, h2⟩ := R.sl i _ q
      refine ⟨v, h1, ?_⟩
      cases s0 with
      | val d => exact h2
      | own ds =>
        obtain ⟨p, vs, rfl, a, b, c, d⟩ := h2
        exact ⟨p, vs, rfl, Rd.of (by rw [hold_own R q h1]; exact c), d⟩
      | bor ds =>
        obtain ⟨p, vs, rfl, a, d⟩ := h2
        exact ⟨p, vs, rfl, Same.rd hold_same a, d⟩
  · rw [lk_lend] at a
    cases q : lk env i with
    | none => rw [q] at a; cases a
    | some s0 =>
      rw [q] at a
      cases s0 <;> cases a
/-- no list of one's own -/
def NoOwn (env : En) : Prop := ∀ i ds, lk env i ≠ some (.own ds)
theorem noOwn_lend (env : En) : NoOwn (lend env) := fun i ds e => by
  rw [lk_lend] at e
  cases q : lk env i with
  | none => rw [q] at e; cases e
  | some s0 => rw [q] at e; cases s0 <;> cases e
theorem lk_wipe : ∀ (vs : List Nat) (env : En) (i : Nat) (s : Sl), lk (wipeE env vs) i = some s → lk env i = some s
  | [], _, _, _, h => h
  | v :: vs, env, i, s, h => by
    unfold wipeE at h
    by_cases q : v < (wipeE env vs).length
    · rw [lk_sv q] at h
      split at h
      · cases h
      · exact lk_wipe vs env i s h
    · rw [sv_eq, List.set_eq_of_length_le (by omega)] at h
      exact lk_wipe vs env i s h
theorem noOwn_wipe {env : En} (h : NoOwn env) (vs : List Nat) : NoOwn (wipeE env vs) := fun i ds e => h i ds (lk_wipe vs env i _ e)
theorem wipeE_length (e : En) : ∀ vs : List Nat, (wipeE e vs).length = e.length
  | [] => rfl
  | v :: vs => by unfold wipeE; rw [sv_length, wipeE_length e vs]
theorem lk_wipe_not : ∀ (vs : List Nat) (env : En) (i : Nat) (s : Sl), lk (wipeE env vs) i = some s → i ∉ vs
  | [], _, _, _, _ => by simp
  | v :: vs, env, i, s, h => by
    have hlt := lk_lt h
    rw [wipeE_length] at hlt
    unfold wipeE at h
    by_cases q : v < (wipeE env vs).length
    · rw [lk_sv q] at h
      split at h
      · cases h
      · next z => rw [List.mem_cons, not_or]; exact ⟨z, lk_wipe_not vs env i s h⟩
    · rw [wipeE_length] at q
      rw [sv_eq, List.set_eq_of_length_le (by rw [wipeE_length]; omega)] at h
      rw [List.mem_cons, not_or]
      exact ⟨fun z => q (z ▸ hlt), lk_wipe_not vs env i s h⟩
theorem wipe_get : ∀ (vs : List Nat) (σ : L2.St) (i : Nat), i ∉ vs → (wipe σ vs)[i]? = σ[i]?
  | [], _, _, _ => rfl
  | v :: vs, σ, i, h => by
    rw [List.mem_cons, not_or] at h
    unfold wipe
    rw [List.getElem?_set_ne (Ne.symm h.1)]
    exact wipe_get vs σ i h.2
theorem Rep.wiped (R : Rep K mg H₀ F env σ H) (vs : List Nat) : Rep K mg H₀ F (wipeE env vs) (wipe σ vs) H := by
  refine ⟨R.h0, R.hf, by rw [wipeE_length, wipe_length]; exact R.len, fun i s e => ?_, fun i j ds es p a b c d => ?_⟩
  · rw [wipe_get vs σ i (lk_wipe_not vs env i s e)]
    exact R.sl i s (lk_wipe vs env i s e)
  · rw [wipe_get vs σ i (lk_wipe_not vs env i _ a)] at c
    rw [wipe_get vs σ j (lk_wipe_not vs env j _ b)] at d
    exact R.dis i j _ _ p (lk_wipe vs env i _ a) (lk_wipe vs env j _ b) c d
/-- without lists of one's own: any later state will do -/
theorem Rep.any {H₁ : Hp} (R : Rep K mg H₀ F env σ H) (no : NoOwn env) (s : Same F F') (f : Same F' H') (h : Same H₁ H') (u : Same H₀ H₁) : Rep K mg H₁ F' env σ H' := by
  refine ⟨h, f, R.len, fun i sl e => ?_, fun i j ds es p a b c d => (no i ds a).elim⟩
  obtain ⟨v, h1, h2⟩ := R.sl i sl e
  refine ⟨v, h1, ?_⟩
  cases sl with
  | val d => exact Is.mono s h2
  | own ds => exact (no i ds e).elim
  | bor ds =>
    obtain ⟨q, vs, rfl, a, d⟩ := h2
    exact ⟨q, vs, rfl, Same.rd u a, IsAll.mono s d⟩
/-- the lists come back -/
theorem Rep.back (R : Rep K mg H₀ F env σ H) (g : Grow (hold H₀ H env σ) F F') (f : Same F' H') (h : Same (hold H₀ H env σ) H') : Rep K mg H₀ F' env σ H' := by
  refine ⟨hold_same.trans h, f, R.len, fun i sl e => ?_, R.dis⟩
  obtain ⟨v, h1, h2⟩ := R.sl i sl e
  refine ⟨v, h1, ?_⟩
  cases sl with
  | val d => exact Is.mono g.1 h2
  | own ds =>
    obtain ⟨q, vs, rfl, a, b, c, d⟩ := h2
    have hq := hold_own R e h1
    rw [c] at hq
    exact ⟨q, vs, rfl, a, g.2 q (by rw [hq]; simp) b, h _ _ hq, IsAll.mono g.1 d⟩
  | bor ds =>
    obtain ⟨q, vs, rfl, a, d⟩ := h2
    exact ⟨q, vs, rfl, a, IsAll.mono g.1 d⟩
end
theorem compD_cons {turn : D → R (Option D)} {x : D} {r : List D} {l : List D} (h : compD turn (x :: r) = .ok l) :
    ∃ o l', turn x = .ok o ∧ compD turn r = .ok l' ∧ l = (match o with | some d => d :: l' | none => l') := by
  unfold compD at h
  cases e : turn x with
  | ok o =>
    rw [e] at h
    simp only [R.bind_ok] at h
    cases e2 : compD turn r with
    | ok l' =>
      rw [e2] at h
      simp only [R.bind_ok] at h
      refine ⟨o, l', rfl, rfl, ?_⟩
      cases o with
      | some d => cases h; rfl
      | none => cases h; rfl
    | exc x e => rw [e2] at h; cases h
    | bad => rw [e2] at h; cases h
  | exc x e => rw [e] at h; cases h
  | bad => rw [e] at h; cases h
abbrev blkX (X : Cx) (s : Shared) (H : Hp) (scope : Scope) (C : Addr) (cl : List (Str × Addr)) (fp : List Addr) : Cx := X.blk s H scope (compEnvC scope cl C X.env) fp
def W0 : WX := fun _ _ _ _ => False
section
variable {X : Cx} {W : WX} {n : Nat}
theorem xt_blk (t : Xt X n W) (s : Shared) (H : Hp) (scope : Scope) (C : Addr) (cl : List (Str × Addr)) (fp : List Addr) : Xt (blkX X s H scope C cl fp) n W0 :=
  ⟨t.calm, t.nd, takes0, PassesOwn.never, t.room, t.dv, t.free⟩
theorem relabel_cell {env : Env} : ∀ {names : List (Str × NameKind)} {x : Str}, names.lookup x = some .cell →
    (names.map fun (n, k) => if (k == NameKind.free && env.scope.kind == .function && env.kindOf n == some .cell) then (n, NameKind.cell) else (n, k)).lookup x = some .cell
  | [], _, h => by simp at h
  | (m, k) :: r, x, h => by
    have ih := @relabel_cell env r x
    show List.lookup x ((if (k == NameKind.free && env.scope.kind == .function && env.kindOf m == some .cell) = true then (m, NameKind.cell) else (m, k)) :: _) = _
    rw [List.lookup_cons] at h
    by_cases q : (x == m) = true
    · rw [q] at h
      have hk : k = .cell := by simpa using h
      subst hk
      rw [if_neg (by simp), List.lookup_cons, q]
    · have q' : (x == m) = false := by simpa using q
      rw [q'] at h
      split
      · rw [List.lookup_cons, q']; exact ih h
      · rw [List.lookup_cons, q']; exact ih h
theorem locOk_blk (s : Shared) (H : Hp) (scope : Scope) (C : Addr) (cl : List (Str × Addr)) (fp : List Addr) : LocOk (blkX X s H scope C cl fp) scope := fun x h => by
  rcases h with h | h
  · have e := lookup_relabel_local (env := X.env) h
    exact ⟨.inl e, .inr e⟩
  · have e := relabel_cell (env := X.env) h
    exact ⟨.inr e, .inl (beq_iff_eq.mpr h)⟩
/-- a comprehension's test and element, as a turn -/
def turnF (tg : Tgt) (e0 : En) (tst : En → R (Bool × En)) (elt : Ex) (x : D) : R (Option D) := match setT tg x e0 with
  | some e1 => R.bind (tst e1) fun b => if b.1 then R.bind (evE elt b.2) fun p => .ok (some p.1) else .ok none
  | none => .bad
def compF (own : List (Str × Nat)) (tg : Tgt) (it : Itr) (tst : En → R (Bool × En)) (elt : Ex) (e : En) : R (Sl × En) := R.bind (evI it e) fun q =>
  match compD (turnF tg (wipeE (lend q.2) (own.map (·.2))) tst elt) q.1 with
  | .ok l => if l.length ≤ lim then .ok (.own l, q.2) else .bad
  | _ => .bad
/-- the reading of a list comprehension -/
theorem comp_red {own : List (Str × Nat)} {tg : Tgt} {it : Itr} {tst : En → R (Bool × En)} {elt : Ex} {tt : TT} (hin : inT (own.map (·.2)) tg = true)
    (htt : ∀ σ H Q, (∃ H₀ F env, Rep X.K X.mg H₀ F env σ H ∧ RP X W0 H₀ F σ (tst env) (TPost X H₀ F σ Q)) → tt σ H Q) {σ : L2.St} {H : Hp} {Q : VK} (h : tS X W (compF own tg it tst elt) σ H Q) :
    tLc (tJ X W (evI it)) (tTg X tg) tt (tE X W0 (evE elt)) (own.map (·.2)) σ H Q := by
  obtain ⟨H₀, F, env, Rp, h⟩ := h
  unfold compF at h
  refine ⟨H₀, F, env, Rp, (RP.bind h).mono fun q hq F1 H1 J g1 R1 fd => ?_⟩
  intro D nD
  generalize hvs : own.map (·.2) = vs at *
  cases ec : compD (turnF tg (wipeE (lend q.2) vs) tst elt) q.1 with
  | exc x e => rw [ec] at hq; exact hq.elim
  | bad => rw [ec] at hq; exact hq.elim
  | ok total =>
    rw [ec] at hq
    replace hq : RP X W H₀ F σ (if total.length ≤ lim then R.ok (Sl.own total, q.2) else R.bad) (SPost X H₀ F σ Q) := hq
    split at hq
    case isFalse => exact hq.elim
    case isTrue hlim =>
    -- what stays through the walk
    have Rl : Rep X.K X.mg (hold H₀ H1 q.2 σ) F1 (wipeE (lend q.2) vs) (wipe σ vs) H1 := R1.lent.wiped vs
    have no : NoOwn (wipeE (lend q.2) vs) := noOwn_wipe (noOwn_lend _) vs
    have zD : hold H₀ H1 q.2 σ D = none := hold_none R1 nD
    have fD : F1 D = none := R1.hf.free nD
    refine ⟨fun i m Hi => m = q.1.length - i ∧ i ≤ q.1.length ∧ ∃ Fi accV accD rest, Grow (hold H₀ H1 q.2 σ) F1 Fi ∧ Same (hold H₀ H1 q.2 σ) Hi ∧ Same Fi Hi ∧ Fi D = none ∧ Hi D = some (.lst accV) ∧ IsAll X.K X.mg Fi accV accD ∧
        compD (turnF tg (wipeE (lend q.2) vs) tst elt) (q.1.drop i) = .ok rest ∧ accD ++ rest = total,
      ⟨q.1.length, by simp, Nat.zero_le _, F1, [], [], total, Grow.refl, fun b o e => ?_, fun b o e => ?_, fD, upd_same, .nil, by rw [List.drop_zero]; exact ec, rfl⟩, ?_⟩
    · rw [upd_ne (fun z => by subst z; rw [zD] at e; cases e)]; exact Rl.h0 _ _ e
    · rw [upd_ne (fun z => by subst z; rw [fD] at e; cases e)]; exact Rl.hf _ _ e
    · rintro i m Hi ⟨rfl, hi, Fi, accV, accD, rest, gi, h0, hf, fiD, hD, acc, hrest, htot⟩
      have fdi := fd i Fi Hi gi.1 hf
      by_cases hlt : i < q.1.length
      · right
        have hget : q.1[i]? = some q.1[i] := List.getElem?_eq_getElem hlt
        obtain ⟨go, yl⟩ := fdi.1 _ hget
        rw [List.drop_eq_getElem_cons hlt] at hrest
        obtain ⟨o, l', ht, hr', hl⟩ := compD_cons hrest
        refine ⟨go, fun H' => i + 1 ≤ q.1.length ∧ ∃ Fi accV accD rest, Grow (hold H₀ H1 q.2 σ) F1 Fi ∧ Same (hold H₀ H1 q.2 σ) H' ∧ Same Fi H' ∧ Fi D = none ∧ H' D = some (.lst accV) ∧ IsAll X.K X.mg Fi accV accD ∧
            compD (turnF tg (wipeE (lend q.2) vs) tst elt) (q.1.drop (i + 1)) = .ok rest ∧ accD ++ rest = total, fun H' p => ⟨q.1.length - (i + 1), by omega, rfl, p⟩, fun x H' y => ?_⟩
        -- the item
        have item : ∃ F', Grow (upd (hold H₀ H1 q.2 σ) D (.lst accV)) Fi F' ∧ Same F' H' ∧ Same (upd (hold H₀ H1 q.2 σ) D (.lst accV)) H' ∧ Is X.K X.mg F' x q.1[i] := by
          have h0D : Same (upd (hold H₀ H1 q.2 σ) D (.lst accV)) Hi := fun b ob e => by
            by_cases z : b = D
            · subst z; rw [upd_same] at e; cases e; exact hD
            · rw [upd_ne z] at e; exact h0 _ _ e
          rcases yl x H' y with ⟨rfl, is⟩ | ⟨p, ws, ds, np, rfl, rfl, ed, is⟩
          · exact ⟨Fi, Grow.refl, hf, h0D, is⟩
          · have fp : Fi p = none := hf.free np
            have zp := h0D.free np
            have sF : Same Fi (upd Fi p (.tup ws)) := fun b ob e => by rw [upd_ne (ne_of_none e fp)]; exact e
            refine ⟨upd Fi p (.tup ws), ⟨sF, fun b hb n => by rw [upd_ne (fun z => by subst z; exact hb zp)]; exact n⟩, fun b ob e => ?_, fun b ob e => by rw [upd_ne (ne_of_none (h0D _ _ e) np)]; exact h0D _ _ e, by rw [ed]; exact .tup (SqT.of upd_same) (IsAll.mono sF is)⟩
            by_cases z : b = p
            · subst z; rw [upd_same] at e ⊢; exact e
            · rw [upd_ne z] at e; rw [upd_ne z]; exact hf _ _ e
        obtain ⟨F', gF, sF, sH, isx⟩ := item
        have up1 : Same (hold H₀ H1 q.2 σ) (upd (hold H₀ H1 q.2 σ) D (.lst accV)) := fun b ob e => by rw [upd_ne (fun z => by subst z; rw [zD] at e; cases e)]; exact e
        have Rt : Rep X.K X.mg (upd (hold H₀ H1 q.2 σ) D (.lst accV)) F' (wipeE (lend q.2) vs) (wipe σ vs) H' := Rl.any no (gi.1.trans gF.1) sF sH up1
        have f'D : F' D = none := gF.2 D (by rw [upd_same]; simp) fiD
        unfold turnF at ht
        split at ht
        case h_2 => cases ht
        next e1 est =>
        refine ⟨_, F', _, _, e1, Rt, isx, est, fun σ2 R2 w2 => ⟨?_, ?_⟩⟩
        · have ww : ∀ (l : List Nat) (ρ : L2.St), wipe (wipe ρ l) l = wipe ρ l := by
            have step : ∀ (l l' : List Nat) (ρ : L2.St), (∀ v ∈ l', v ∈ l) → wipe (wipe ρ l') l = wipe ρ l := by
              intro l l'
              induction l' with
              | nil => intro ρ _; rfl
              | cons v r ih =>
                intro ρ hv
                show wipe ((wipe ρ r).set v none) l = wipe ρ l
                rw [wipe_set (hv v List.mem_cons_self)]
                exact ih ρ fun u hu => hv u (List.mem_cons_of_mem _ hu)
            exact fun l ρ => step l l ρ fun _ h => h
          rw [w2 vs hin, ww]
        · refine htt σ2 H' _ ⟨_, F', e1, R2, ?_⟩
          cases et : tst e1 with
          | exc x e => rw [et] at ht; cases ht
          | bad => rw [et] at ht; cases ht
          | ok b =>
            rw [et] at ht
            simp only [R.bind_ok] at ht
            intro F3 H3 g3 R3
            obtain ⟨bb, be⟩ := b
            have gall : Grow (hold H₀ H1 q.2 σ) F1 F3 := gi.trans ((gF.trans g3).up up1)
            have f3D : F3 D = none := g3.2 D (by rw [upd_same]; simp) f'D
            have h3D : H3 D = some (.lst accV) := R3.h0 _ _ upd_same
            cases bb with
            | false =>
              rw [if_neg Bool.false_ne_true]
              rw [if_neg Bool.false_ne_true] at ht
              cases ht
              replace hl : rest = l' := hl
              rw [hl] at htot
              exact ⟨by omega, F3, accV, accD, l', gall, up1.trans R3.h0, R3.hf, f3D, h3D, IsAll.mono (gF.trans g3).1 acc, hr', htot⟩
            | true =>
              rw [if_pos rfl]
              rw [if_pos rfl] at ht
              refine ⟨_, F3, be, R3, ?_⟩
              cases ee : evE elt be with
              | exc x e => rw [ee] at ht; cases ht
              | bad => rw [ee] at ht; cases ht
              | ok p =>
                rw [ee] at ht
                cases ht
                intro F4 H4 y g4 R4 is4
                have h4D : H4 D = some (.lst accV) := R4.h0 _ _ upd_same
                have f4D : F4 D = none := g4.2 D (by rw [upd_same]; simp) f3D
                have accLen : accV.length < sizeLine := by
                  have e1 := acc.length
                  have e2 : accD.length + l'.length + 1 ≤ lim := by
                    have := congrArg List.length htot
                    rw [List.length_append, hl, List.length_cons] at this
                    omega
                  have : lim < sizeLine := by decide
                  omega
                refine ⟨accV, h4D, accLen, by omega, F4, accV ++ [y], accD ++ [p.1], l', gall.trans (g4.up up1), fun b ob e => ?_, fun b ob e => ?_, f4D, upd_same, (IsAll.mono ((gF.trans g3).trans g4).1 acc).append (.cons is4 .nil), hr', by rw [List.append_assoc, ← htot, hl]; rfl⟩
                · rw [upd_ne (fun z => by subst z; rw [zD] at e; cases e)]; exact R4.h0 _ _ (up1 _ _ e)
                · rw [upd_ne (fun z => by subst z; rw [f4D] at e; cases e)]; exact R4.hf _ _ e
      · left
        have hge : q.1.length ≤ i := by omega
        refine ⟨fdi.2 hge, ?_⟩
        rw [List.drop_eq_nil_of_le hge] at hrest
        cases hrest
        rw [List.append_nil] at htot
        subst htot
        refine hq Fi Hi D accV (g1.trans (gi.up hold_same)) (R1.back gi hf h0) (R1.h0.free nD) fiD hD acc fun j es ej hj => ?_
        obtain ⟨v, h1, p, ws, rfl, _, _, c, _⟩ := R1.sl j _ ej
        rw [hj] at h1; cases h1
        rw [nD] at c; cases c
end
end Ev
set_option Elab.async false
set_option linter.all false
set_option maxRecDepth 100000
set_option maxHeartbeats 2000000
namespace Ev
open PySem PySem.Spec PyProof.Rows L2

structure Both (X : Cx) (W : WX) (a : Ex) (e : Expr) : Prop where
  pe : PE X e (tE X W (evE a))
  ps : PE X e (tS X W (evO a))
  pt : tst a = true → PT X e (tB' X W (evB a))
  pw : tst a = true → ∀ op vs p, e = .BoolOp op vs p → PW X e (tB' X W (evB a))
section
variable {X : Cx} {W : WX} {n : Nat}
theorem evO_val {a : Ex} (h : ∀ env, evO a env = R.bind (evE a env) fun p => .ok (.val p.1, p.2)) {e : Expr} (pe : PE X e (tE X W (evE a))) : PE X e (tS X W (evO a)) := by
  refine PE.imp pe fun σ H Q ⟨H₀, F, env, Rp, q⟩ => ⟨H₀, F, env, Rp, ?_⟩
  rw [h] at q
  exact (RP.bind q).mono fun p hp => hp
theorem Both.leaf {a : Ex} {e : Expr} (hp : plainT e = true) (pe : PE X e (tE X W (evE a))) (ps : PE X e (tS X W (evO a))) : Both X W a e :=
  ⟨pe, ps, fun _ => t_plain pe (isTrue_plainT hp), fun _ op vs p z => by subst z; cases hp⟩
theorem op_of {a : Ex} {e : Expr} (hv : ∀ i x, a = .rd i x → ∃ pos, e = .Name x pos ∧ visB X.N X.env.scope i x = true) (pe : PE X e (tE X W (evE a))) : PE X e (tO X W (evOp a)) := by
  cases q : rdIx a with
  | none => exact tO_of q pe
  | some i =>
    cases a <;> simp only [rdIx, reduceCtorEq, Option.some.injEq] at q
    next j x =>
    obtain ⟨pos, rfl, hx⟩ := hv j x rfl
    exact l_rdO hx
theorem rd_shape {N : List Str} {sc : Scope} {a : Ex} {e : Expr} (h : okE N sc a e = true) : ∀ i x, a = .rd i x → ∃ pos, e = .Name x pos ∧ visB N sc i x = true := by
  intro i x z
  subst z
  cases e <;> simp only [okE, Bool.false_eq_true] at h
  simp only [Bool.and_eq_true, decide_eq_true_eq] at h
  obtain ⟨rfl, h⟩ := h
  exact ⟨_, rfl, h⟩
theorem Both.op {a : Ex} {e : Expr} (h : okE X.N X.env.scope a e = true) (b : Both X W a e) : PE X e (tO X W (evOp a)) := op_of (rd_shape h) b.pe
theorem okA_cons {N : List Str} {sc : Scope} {as : Exs} {e : Expr} {es : List Expr} (h : okA N sc as (e :: es) = true) : ∃ a as', as = .cons a as' ∧ notStar e = true ∧ okE N sc a e = true ∧ okA N sc as' es = true := by
  cases as with
  | nil => simp [okA] at h
  | cons a as' =>
    simp only [okA, Bool.and_eq_true] at h
    exact ⟨a, as', rfl, h.1.1, h.1.2, h.2⟩
theorem okA_nil {N : List Str} {sc : Scope} {as : Exs} (h : okA N sc as [] = true) : as = .nil := by
  cases as with
  | nil => rfl
  | cons a as' => simp [okA] at h
/-- the operands of an argument list -/
inductive Ops (X : Cx) (W : WX) : Exs → List Expr → Prop
  | nil : Ops X W .nil []
  | cons {a : Ex} {as : Exs} {e : Expr} {es : List Expr} : notStar e = true → PE X e (tO X W (evOp a)) → Ops X W as es → Ops X W (.cons a as) (e :: es)
theorem Ops.pa : ∀ {as : Exs} {es : List Expr}, Ops X W as es → PA X es (tA X W (evA as))
  | _, _, .nil => a_nil
  | _, _, .cons s p r => a_cons s p (Ops.pa r)
theorem Ops.one {as : Exs} {e : Expr} (h : Ops X W as [e]) : ∃ a, as = .cons a .nil ∧ notStar e = true ∧ PE X e (tO X W (evOp a)) := by
  cases h with | cons s p r => cases r; exact ⟨_, rfl, s, p⟩
theorem Ops.two {as : Exs} {e e' : Expr} (h : Ops X W as [e, e']) : ∃ a a', as = .cons a (.cons a' .nil) ∧ notStar e = true ∧ notStar e' = true ∧ PE X e (tO X W (evOp a)) ∧ PE X e' (tO X W (evOp a')) := by
  cases h with | cons s p r => cases r with | cons s' p' r => cases r; exact ⟨_, _, rfl, s, s', p, p'⟩
/-- operations -/
theorem b_prim (t : Xt X n W) {p : Prim} {as : Exs} {e : Expr} (g : goodP (gd X n) p) (h : okE X.N X.env.scope (.prim p as) e = true) (ops : ∀ es, okA X.N X.env.scope as es = true → Ops X W as es) : Both X W (.prim p as) e := by
  unfold okE at h
  split at h
  · next a op b pos =>
    simp only [Bool.and_eq_true, decide_eq_true_eq] at h
    obtain ⟨x, y, rfl, _, _, px, py⟩ := (ops _ h.2).two
    exact .leaf rfl (pe_bin kD t h.1 px py) (pe_bin kS t h.1 px py)
  · next a pos =>
    simp only [Bool.and_eq_true, decide_eq_true_eq] at h
    obtain ⟨rfl, h2⟩ := h
    obtain ⟨x, rfl, _, px⟩ := (ops _ h2).one
    exact .leaf rfl (l_neg kD rfl px) (l_neg kS rfl px)
  · next a op b pos =>
    simp only [Bool.and_eq_true, decide_eq_true_eq, Bool.not_eq_true'] at h
    obtain ⟨x, y, rfl, _, _, px, py⟩ := (ops _ h.2).two
    exact ⟨pe_comp kD t h.1.1 h.1.2 px py, pe_comp kS t h.1.1 h.1.2 px py, fun _ => pt_comp t h.1.1 h.1.2 px py, fun _ _ _ _ z => nomatch z⟩
  · next a b pos =>
    simp only [Bool.and_eq_true, decide_eq_true_eq] at h
    obtain ⟨⟨rfl, h2⟩, h3⟩ := h
    obtain ⟨x, y, rfl, _, _, px, py⟩ := (ops _ h3).two
    exact .leaf rfl (pe_sub' kD h2 px py) (pe_sub' kS h2 px py)
  · next es k pos =>
    simp only [Bool.and_eq_true, decide_eq_true_eq] at h
    obtain ⟨rfl, h2⟩ := h
    exact .leaf rfl (l_tup kD (ops _ h2).pa) (l_tup kS (ops _ h2).pa)
  · next es pos =>
    simp only [Bool.and_eq_true, decide_eq_true_eq] at h
    obtain ⟨rfl, h2⟩ := h
    exact .leaf rfl (l_lst kD (ops _ h2).pa) (l_lst kS (ops _ h2).pa)
  · next f p1 a es pos =>
    simp only [Bool.and_eq_true, decide_eq_true_eq] at h
    have st := okA_stars h.2
    exact .leaf rfl (l_blt kD t h.1.1 h.1.2 g st (ops _ h.2).pa) (l_blt kS t h.1.1 h.1.2 g st (ops _ h.2).pa)
  · cases h
/-- comprehensions -/
theorem bind_ok2 (e : En) : (fun p : D × En => R.ok ((Sl.val p.1, p.2) : Sl × En)) = (fun p => R.ok (Sl.val p.1, p.2)) := rfl
theorem compEnd_froz (r : R (List D)) (e : En) : compEnd r e = R.bind (match r with | .ok l => if l.length ≤ lim then .ok ((.own l, e) : Sl × En) else .bad | _ => .bad) frozR := by
  unfold compEnd
  cases r with
  | ok l => dsimp only; split <;> rfl
  | exc x e => rfl
  | bad => rfl
theorem compEnd_own (r : R (List D)) (e : En) : R.bind (compEnd r e) (fun p => match p.1 with | .lst ds => .ok ((.own ds, p.2) : Sl × En) | _ => .bad) = (match r with | .ok l => if l.length ≤ lim then .ok (.own l, e) else .bad | _ => .bad) := by
  unfold compEnd
  cases r with
  | ok l => dsimp only; split <;> rfl
  | exc x e => rfl
  | bad => rfl
def noTst (e : En) : R (Bool × En) := .ok (true, e)
theorem turn_no {tg : Tgt} {e0 : En} {elt : Ex} : turnF tg e0 noTst elt = fun x => match setT tg x e0 with
    | some e1 => R.bind (evE elt e1) fun p => .ok (some p.1)
    | none => .bad := by
  funext x
  unfold turnF noTst
  cases setT tg x e0 <;> rfl
theorem turn_if {tg : Tgt} {e0 : En} {c elt : Ex} : turnF tg e0 (evB c) elt = fun x => match setT tg x e0 with
    | some e1 => R.bind (evE c e1) fun p => R.bind (truthR p.1 p.2) fun b => if b.1 then R.bind (evE elt b.2) fun p => .ok (some p.1) else .ok none
    | none => .bad := by
  funext x
  unfold turnF evB
  cases setT tg x e0 with
  | none => rfl
  | some e1 =>
    dsimp only
    cases evE c e1 <;> rfl
theorem evO_comp {own : List (Str × Nat)} {tg : Tgt} {it : Itr} {elt : Ex} (env : En) : evO (.comp own tg it elt) env = compF own tg it noTst elt env := by
  unfold compF
  simp only [turn_no]
  show R.bind (R.bind (evI it env) _) _ = _
  cases evI it env with
  | ok q => exact compEnd_own _ _
  | exc x e => rfl
  | bad => rfl
theorem evE_comp {own : List (Str × Nat)} {tg : Tgt} {it : Itr} {elt : Ex} (env : En) : evE (.comp own tg it elt) env = R.bind (compF own tg it noTst elt env) frozR := by
  unfold compF
  simp only [turn_no]
  show R.bind (evI it env) _ = _
  cases evI it env with
  | ok q => exact compEnd_froz _ _
  | exc x e => rfl
  | bad => rfl
theorem evO_compif {own : List (Str × Nat)} {tg : Tgt} {it : Itr} {c elt : Ex} (env : En) : evO (.compif own tg it c elt) env = compF own tg it (evB c) elt env := by
  unfold compF
  simp only [turn_if]
  show R.bind (R.bind (evI it env) _) _ = _
  cases evI it env with
  | ok q => exact compEnd_own _ _
  | exc x e => rfl
  | bad => rfl
theorem evE_compif {own : List (Str × Nat)} {tg : Tgt} {it : Itr} {c elt : Ex} (env : En) : evE (.compif own tg it c elt) env = R.bind (compF own tg it (evB c) elt env) frozR := by
  unfold compF
  simp only [turn_if]
  show R.bind (evI it env) _ = _
  cases evI it env with
  | ok q => exact compEnd_froz _ _
  | exc x e => rfl
  | bad => rfl
theorem tS_congr {e : Expr} {f g : En → R (Sl × En)} (h : ∀ env, f env = g env) (p : PE X e (tS X W g)) : PE X e (tS X W f) := by
  have : f = g := funext h
  rw [this]; exact p
theorem folded_seq {N : List Str} {sc : Scope} {it : Itr} {tg i : Expr} (h : okI N sc it tg i = true) {env : Env} : ∀ x, foldedSetIterable i env x = pure x := by
  intro x
  cases it with
  | seq a => cases a <;> cases i <;> first | rfl | (simp [okI, okE] at h)
  | rng as => cases i <;> first | rfl | (simp [okI] at h)
  | enum as => cases tg <;> cases i <;> first | rfl | (simp [okI] at h)
  | zip as => cases tg <;> cases i <;> first | rfl | (simp [okI] at h)
end
end Ev
set_option Elab.async false
set_option linter.all false
set_option maxRecDepth 100000
set_option maxHeartbeats 4000000
namespace Ev
open PySem PySem.Spec PyProof.Rows L2

theorem b_comp {X : Cx} {W : WX} {n : Nat} (t : Xt X n W) {own : List (Str × Nat)} {tg : Tgt} {it : Itr} {elt : Ex} {x tge i : Expr} {scope : Scope} {pos : Pos} (hb : blkC X.N X.env.scope scope own = true) (hin : inT (own.map (·.2)) tg = true)
    (hT : okT X.N scope tg tge = true) (hI : okI X.N X.env.scope it tge i = true) (pi : PI X tge i (tJ X W (evI it))) (he : ∀ s H C cl fp, PE (blkX X s H scope C cl fp) x (tE X W0 (evE elt))) :
    Both X W (.comp own tg it elt) (.ListComp x [⟨tge, i, [], 0⟩] scope pos) := by
  have ps : PE X (.ListComp x [⟨tge, i, [], 0⟩] scope pos) (tS X W (compF own tg it noTst elt)) :=
    PE.imp (pe_lc t.calm t.nd pi (blkOk_by hb) (fun s H C cl fp => sndT (xt_blk t s H scope C cl fp) (locOk_blk s H scope C cl fp) tg tge hT) (fun s H C cl fp => pts_nil) he (folded_seq hI)) fun σ H Q q =>
      comp_red hin (fun σ H Q ⟨H₀, F, env, Rp, q⟩ => q F H Grow.refl Rp) q
  exact .leaf rfl (tS_of_tE (fun env => evE_comp env) ps) (tS_congr (fun env => evO_comp env) ps)
theorem b_compif {X : Cx} {W : WX} {n : Nat} (t : Xt X n W) {own : List (Str × Nat)} {tg : Tgt} {it : Itr} {c elt : Ex} {x y tge i : Expr} {scope : Scope} {pos : Pos} (hb : blkC X.N X.env.scope scope own = true) (hin : inT (own.map (·.2)) tg = true)
    (hT : okT X.N scope tg tge = true) (hI : okI X.N X.env.scope it tge i = true) (pi : PI X tge i (tJ X W (evI it))) (he : ∀ s H C cl fp, PE (blkX X s H scope C cl fp) x (tE X W0 (evE elt)))
    (hc : ∀ s H C cl fp, PT (blkX X s H scope C cl fp) y (tB' X W0 (evB c))) :
    Both X W (.compif own tg it c elt) (.ListComp x [⟨tge, i, [y], 0⟩] scope pos) := by
  have ps : PE X (.ListComp x [⟨tge, i, [y], 0⟩] scope pos) (tS X W (compF own tg it (evB c) elt)) :=
    PE.imp (pe_lc t.calm t.nd pi (blkOk_by hb) (fun s H C cl fp => sndT (xt_blk t s H scope C cl fp) (locOk_blk s H scope C cl fp) tg tge hT) (fun s H C cl fp => pts_one (hc s H C cl fp)) he (folded_seq hI)) fun σ H Q q =>
      comp_red hin (fun σ H Q q => q) q
  exact .leaf rfl (tS_of_tE (fun env => evE_compif env) ps) (tS_congr (fun env => evO_compif env) ps)

mutual
theorem sndE : ∀ (a : Ex) (X : Cx) (W : WX) (n : Nat), Xt X n W → a.good (gd X n) → ∀ e : Expr, okE X.N X.env.scope a e = true → Both X W a e
  | .var i x, X, W, n, t, g, e, h => by
    cases e <;> simp only [okE, Bool.false_eq_true] at h
    simp only [Bool.and_eq_true, decide_eq_true_eq] at h
    obtain ⟨rfl, h⟩ := h
    exact .leaf rfl (l_var h) (evO_val (fun _ => rfl) (l_var h))
  | .rd i x, X, W, n, t, g, e, h => by
    cases e <;> simp only [okE, Bool.false_eq_true] at h
    simp only [Bool.and_eq_true, decide_eq_true_eq] at h
    obtain ⟨rfl, h⟩ := h
    exact .leaf rfl (l_rd h) (evO_val (fun _ => rfl) (l_rd h))
  | .con c, X, W, n, t, g, e, h => by
    cases e <;> simp only [okE, Bool.false_eq_true] at h
    simp only [Bool.and_eq_true, decide_eq_true_eq] at h
    obtain ⟨rfl, h⟩ := h
    exact .leaf rfl (l_con h) (evO_val (fun _ => rfl) (l_con h))
  | .glob x d, X, W, n, t, g, e, h => by
    cases e <;> simp only [okE, Bool.false_eq_true] at h
    simp only [Bool.and_eq_true, decide_eq_true_eq] at h
    obtain ⟨rfl, h⟩ := h
    exact .leaf rfl (l_glob h g) (evO_val (fun _ => rfl) (l_glob h g))
  | .prim p as, X, W, n, t, g, e, h => b_prim t g.1 h fun es => sndA as X W n t g.2 es
  | .isi ty as, X, W, n, t, g, e, h => by
    unfold okE at h
    split at h
    all_goals first | (cases h; done) | (next heq => (cases heq; done)) | skip
    next heq =>
      cases heq
      simp only [Bool.and_eq_true, decide_eq_true_eq] at h
      obtain ⟨a, rfl, st, px⟩ := (sndA as X W n t g _ h.2).one
      have pe := l_isi t (p1 := by assumption) (p2 := by assumption) (pos := by assumption) h.1.1.1.1 h.1.1.1.2 h.1.1.2 h.1.2 st px
      exact .leaf rfl (l_isi t h.1.1.1.1 h.1.1.1.2 h.1.1.2 h.1.2 st px) (evO_val (fun _ => rfl) (l_isi t h.1.1.1.1 h.1.1.1.2 h.1.1.2 h.1.2 st px))
  | .call f den dfl as, X, W, n, t, g, e, h => by
    unfold okE at h
    split at h
    all_goals first | (cases h; done) | (next heq => (cases heq; done)) | skip
    next heq =>
      cases heq
      simp only [Bool.and_eq_true, decide_eq_true_eq] at h
      obtain ⟨⟨rfl, h1⟩, h2⟩ := h
      have ps := fun p pos => l_callS (p := p) (pos := pos) t h1 g.1 (okA_stars h2) (sndA as X W n t g.2 _ h2).pa
      exact .leaf rfl (tS_of_tE (fun env => evE_call env) (ps _ _)) (ps _ _)
  | .and a b, X, W, n, t, g, e, h => by
    unfold okE at h
    split at h
    · next x y pos =>
      simp only [Bool.and_eq_true] at h
      have A := sndE a X W n t g.1 _ h.1
      have B := sndE b X W n t g.2 _ h.2
      have w : tst (.and a b) = true → PW X (.BoolOp .And [x, y] pos) (tB' X W (evB (.and a b))) := fun ht => by
        simp only [tst, Bool.and_eq_true] at ht
        exact w_and (A.pt ht.1) (pw_and1 (B.pt ht.2))
      exact ⟨l_and A.pe (pe_one B.pe), evO_val (fun _ => rfl) (l_and A.pe (pe_one B.pe)), fun ht => (w ht).pt, fun ht op vs p z => z ▸ w ht⟩
    · next x y z r pos =>
      simp only [Bool.and_eq_true] at h
      have A := sndE a X W n t g.1 _ h.1
      have B := sndE b X W n t g.2 _ h.2
      have w : tst (.and a b) = true → PW X (.BoolOp .And (x :: y :: z :: r) pos) (tB' X W (evB (.and a b))) := fun ht => by
        simp only [tst, Bool.and_eq_true] at ht
        exact w_and (A.pt ht.1) (B.pw ht.2 _ _ _ rfl)
      exact ⟨l_and A.pe B.pe, evO_val (fun _ => rfl) (l_and A.pe B.pe), fun ht => (w ht).pt, fun ht op vs p z => z ▸ w ht⟩
    · cases h
  | .or a b, X, W, n, t, g, e, h => by
    unfold okE at h
    split at h
    · next x y pos =>
      simp only [Bool.and_eq_true] at h
      have A := sndE a X W n t g.1 _ h.1
      have B := sndE b X W n t g.2 _ h.2
      have w : tst (.or a b) = true → PW X (.BoolOp .Or [x, y] pos) (tB' X W (evB (.or a b))) := fun ht => by
        simp only [tst, Bool.and_eq_true] at ht
        exact w_or (A.pt ht.1) (pw_or1 (B.pt ht.2))
      exact ⟨l_or A.pe (pe_one B.pe), evO_val (fun _ => rfl) (l_or A.pe (pe_one B.pe)), fun ht => (w ht).pt, fun ht op vs p z => z ▸ w ht⟩
    · next x y z r pos =>
      simp only [Bool.and_eq_true] at h
      have A := sndE a X W n t g.1 _ h.1
      have B := sndE b X W n t g.2 _ h.2
      have w : tst (.or a b) = true → PW X (.BoolOp .Or (x :: y :: z :: r) pos) (tB' X W (evB (.or a b))) := fun ht => by
        simp only [tst, Bool.and_eq_true] at ht
        exact w_or (A.pt ht.1) (B.pw ht.2 _ _ _ rfl)
      exact ⟨l_or A.pe B.pe, evO_val (fun _ => rfl) (l_or A.pe B.pe), fun ht => (w ht).pt, fun ht op vs p z => z ▸ w ht⟩
    · cases h
  | .not a, X, W, n, t, g, e, h => by
    unfold okE at h
    split at h
    all_goals first | (cases h; done) | (next heq => (cases heq; done)) | skip
    next heq =>
      cases heq
      have A := sndE a X W n t g _ h
      exact ⟨l_not A.pe, evO_val (fun _ => rfl) (l_not A.pe), fun ht => t_not (A.pt ht), fun _ _ _ _ z => nomatch z⟩
  | .ite c a b, X, W, n, t, g, e, h => by
    unfold okE at h
    split at h
    all_goals first | (cases h; done) | (next heq => (cases heq; done)) | skip
    next heq =>
      cases heq
      simp only [Bool.and_eq_true] at h
      have C := sndE c X W n t g.1 _ h.1.1.2
      have A := sndE a X W n t g.2.1 _ h.1.2
      have B := sndE b X W n t g.2.2 _ h.2
      exact ⟨l_ite (C.pt h.1.1.1) A.pe B.pe, evO_val (fun _ => rfl) (l_ite (C.pt h.1.1.1) A.pe B.pe), fun ht => (nomatch ht), fun ht => (nomatch ht)⟩
  | .chain p q a b c, X, W, n, t, g, e, h => by
    unfold okE at h
    split at h
    all_goals first | (cases h; done) | (next heq => (cases heq; done)) | skip
    next heq =>
      cases heq
      simp only [Bool.and_eq_true, decide_eq_true_eq, Bool.not_eq_true'] at h
      have A := sndE a X W n t g.1 _ h.1.1.2
      have B := sndE b X W n t g.2.1 _ h.1.2
      have C := sndE c X W n t g.2.2 _ h.2
      have h1 := h.1.1.1
      exact ⟨l_chain t h1.1.1 h1.1.2 h1.2 A.pe B.pe C.pe, evO_val (fun _ => rfl) (l_chain t h1.1.1 h1.1.2 h1.2 A.pe B.pe C.pe), fun _ => t_chain t h1.1.1 h1.1.2 h1.2 A.pe B.pe C.pe, fun _ _ _ _ z => nomatch z⟩
  | .slc a lo hi, X, W, n, t, g, e, h => by
    unfold okE at h
    split at h
    all_goals first | (cases h; done) | (next heq => (cases heq; done)) | skip
    next heq =>
      cases heq
      simp only [Bool.and_eq_true] at h
      have A := (sndE a X W n t g.1 _ h.1.1).op h.1.1
      have L := sndOe lo X W n t g.2.1 _ h.1.2
      have Hh := sndOe hi X W n t g.2.2 _ h.2
      exact .leaf rfl (l_slc kD A L Hh) (l_slc kS A L Hh)
  | .comp own tg it elt, X, W, n, t, g, e, h => by
    unfold okE at h
    split at h
    all_goals first | (cases h; done) | (next heq => (cases heq; done)) | skip
    next heq =>
      cases heq
      simp only [Bool.and_eq_true] at h
      exact b_comp t h.1.1.1.1 h.1.1.1.2 h.1.1.2 h.1.2 (sndI it X W n t g.1 _ _ h.1.2) fun s H C cl fp => (sndE elt (blkX X s H _ C cl fp) W0 n (xt_blk t s H _ C cl fp) g.2 _ h.2).pe
  | .compif own tg it c elt, X, W, n, t, g, e, h => by
    unfold okE at h
    split at h
    all_goals first | (cases h; done) | (next heq => (cases heq; done)) | skip
    next heq =>
      cases heq
      simp only [Bool.and_eq_true] at h
      obtain ⟨⟨⟨⟨⟨⟨h1, h2⟩, h3⟩, h4⟩, h5⟩, h6⟩, h7⟩ := h
      exact b_compif t h1 h2 h3 h4 (sndI it X W n t g.1 _ _ h4) (fun s H C cl fp => (sndE elt (blkX X s H _ C cl fp) W0 n (xt_blk t s H _ C cl fp) g.2.2 _ h7).pe)
        fun s H C cl fp => (sndE c (blkX X s H _ C cl fp) W0 n (xt_blk t s H _ C cl fp) g.2.1 _ h6).pt h5
theorem sndOe : ∀ (a : Oe) (X : Cx) (W : WX) (n : Nat), Xt X n W → a.good (gd X n) → ∀ e : Option Expr, okO X.N X.env.scope a e = true → PO X e (tI' X W (evOI a))
  | .none, X, W, n, t, g, e, h => by
    cases e with
    | none => exact o_none
    | some x => simp [okO] at h
  | .some a, X, W, n, t, g, e, h => by
    cases e with
    | none => simp [okO] at h
    | some x => exact o_some (sndE a X W n t g x (by simpa [okO] using h)).pe
theorem sndA : ∀ (as : Exs) (X : Cx) (W : WX) (n : Nat), Xt X n W → as.good (gd X n) → ∀ es : List Expr, okA X.N X.env.scope as es = true → Ops X W as es
  | .nil, X, W, n, t, g, es, h => by
    cases es with
    | nil => exact .nil
    | cons e es => simp [okA] at h
  | .cons a as, X, W, n, t, g, es, h => by
    cases es with
    | nil => simp [okA] at h
    | cons e es =>
      simp only [okA, Bool.and_eq_true] at h
      exact .cons h.1.1 ((sndE a X W n t g.1 e h.1.2).op h.1.2) (sndA as X W n t g.2 es h.2)
theorem sndI : ∀ (it : Itr) (X : Cx) (W : WX) (n : Nat), Xt X n W → it.good (gd X n) → ∀ tg e : Expr, okI X.N X.env.scope it tg e = true → PI X tg e (tJ X W (evI it))
  | .seq a, X, W, n, t, g, tg, e, h => j_seq (sndE a X W n t g e (by simpa [okI] using h)).pe
  | .rng as, X, W, n, t, g, tg, e, h => by
    unfold okI at h
    split at h
    all_goals first | (cases h; done) | (next heq => (cases heq; done)) | skip
    all_goals next heq =>
      cases heq
      simp only [Bool.and_eq_true, decide_eq_true_eq, Bool.or_eq_true] at h
      rcases h.1.2 with hl | hl
      · obtain ⟨e1, rfl⟩ := one_of (m := 0) (decide_eq_true hl)
        obtain ⟨a, rfl, st, px⟩ := (sndA as X W n t g _ h.2).one
        exact j_rng1 t h.1.1.1 h.1.1.2 st px
      · obtain ⟨e1, e2, rfl⟩ := two_of (decide_eq_true hl)
        obtain ⟨a, a', rfl, st, st', px, py⟩ := (sndA as X W n t g _ h.2).two
        exact j_rng2 t h.1.1.1 h.1.1.2 st st' px py
  | .enum as, X, W, n, t, g, tg, e, h => by
    unfold okI at h
    split at h
    all_goals first | (cases h; done) | (next heq => (cases heq; done)) | skip
    all_goals next heq =>
      cases heq
      simp only [Bool.and_eq_true, decide_eq_true_eq] at h
      obtain ⟨e1, rfl⟩ := one_of (m := 0) (decide_eq_true h.1.2)
      obtain ⟨a, rfl, st, px⟩ := (sndA as X W n t g _ h.2).one
      exact j_enum t h.1.1.1 h.1.1.2 st px
  | .zip as, X, W, n, t, g, tg, e, h => by
    unfold okI at h
    split at h
    all_goals first | (cases h; done) | (next heq => (cases heq; done)) | skip
    all_goals next heq =>
      cases heq
      simp only [Bool.and_eq_true, decide_eq_true_eq] at h
      obtain ⟨e1, e2, rfl⟩ := two_of (decide_eq_true h.1.2)
      obtain ⟨a, a', rfl, st, st', px, py⟩ := (sndA as X W n t g _ h.2).two
      exact j_zip t h.1.1.1 h.1.1.2 st st' px py
end
end Ev
set_option Elab.async false
set_option linter.all false
set_option maxRecDepth 100000
set_option maxHeartbeats 2000000
namespace Ev
open PySem PySem.Spec PyProof.Rows L2

mutual
def Stm.good (G : Gd) : Stm → Prop
  | .asg _ a => a.good G
  | .setI _ _ k a => k.good G ∧ a.good G
  | .par _ _ _ _ a b => a.good G ∧ b.good G
  | .ite c a b => c.good G ∧ a.good G ∧ b.good G
  | .while c a => c.good G ∧ a.good G
  | .for _ it a => it.good G ∧ a.good G
  | .ret a => a.good G
  | .expr a => a.good G
  | .append _ _ a => a.good G
  | _ => True
def Stms.good (G : Gd) : Stms → Prop
  | .nil => True
  | .cons a as => a.good G ∧ as.good G
end
/-! ### the syntax -/
def noComp : Expr → Bool
  | .ListComp _ _ _ _ => false
  | .SetComp _ _ _ _ => false
  | .DictComp _ _ _ _ _ => false
  | _ => true
def notTup : Expr → Bool
  | .Tuple _ _ _ => false
  | _ => true
/-- a comprehension stored in a name on one line -/
def swapB (sc : Scope) (y : Str) (py : Pos) : Expr → Bool
  | .ListComp _ _ s pos => (if sc.kind.isAnnotationScope then ScopeKind.function else sc.kind) == .function && sc.names.lookup y == some .local && py.line == pos.line && !(s.names.any fun (n, k) => n == y && (k == .local || k == .cell))
  | _ => false
/-- two names stored at once -/
def parB (sc : Scope) (t1 t2 a b : Expr) : Bool := match t1, t2 with
  | .Name x px, .Name y py => (if sc.kind.isAnnotationScope then ScopeKind.function else sc.kind) == .function && sc.names.lookup x == some .local && sc.names.lookup y == some .local && py.line == px.line && !(x == y)
      && notStar a && notStar b && !([a, b].all (foldedForSure 8)) && !([a, b].all (constantsAlone 8))
  | _, _ => false
mutual
def okSt (N : List Str) (sc : Scope) : Stm → Stmt → Bool
  | .asg (.nm i x) a, .Assign [.Name y _] e _ => decide (x = y) && locB N sc i x && okE N sc a e
  | .asg (.tup ts) a, .Assign [.Tuple es _ _] e _ => okTs N sc ts es && notTup e && noComp e && okE N sc a e
  | .par i x j y a b, .Assign [.Tuple [.Name x' px, .Name y' py] _ _] (.Tuple [e1, e2] _ _) _ => decide (x = x') && decide (y = y') && decide (N[i]? = some x) && decide (N[j]? = some y) && decide (i ≠ j) && parB sc (.Name x' px) (.Name y' py) e1 e2 && okE N sc a e1 && okE N sc b e2
  | .setI i x k a, .Assign [.Subscript (.Name y _) e2 _] e _ => decide (x = y) && visB N sc i x && plainIx e2 && notTup e && noComp e && okE N sc k e2 && okE N sc a e
  | .ite c a b, .If e s1 s2 _ => tst c && okE N sc c e && okSts N sc a s1 && okSts N sc b s2
  | .while c a, .While e s1 [] _ => tst c && okE N sc c e && okSts N sc a s1
  | .for t it a, .For tg e s1 [] _ => okT N sc t tg && okI N sc it tg e && okSts N sc a s1
  | .ret a, .Return (some e) _ => okE N sc a e
  | .retN, .Return none _ => true
  | .expr a, .Expr e _ => noComp e && okE N sc a e
  | .append i x a, .Expr (.Call (.Attribute (.Name y _) m apos) [e] [] cpos) _ => decide (x = y) && visB N sc i x && decide (m = "append") && (apos.endLine == cpos.line) && notStar e && okE N sc a e
  | .pop i x, .Expr (.Call (.Attribute (.Name y _) m apos) [] [] cpos) _ => decide (x = y) && visB N sc i x && decide (m = "pop") && (apos.endLine == cpos.line)
  | .pass, .Pass _ => true
  | .brk, .Break _ => true
  | .cont, .Continue _ => true
  | .never, _ => true
  | _, _ => false
def okSts (N : List Str) (sc : Scope) : Stms → List Stmt → Bool
  | .nil, [] => true
  | .cons a as, s :: ss => okSt N sc a s && okSts N sc as ss
  | _, _ => false
end

/-! ### what is wanted behind a statement -/
def ResIs (K : PySem.W.Frag) (mg : Str → Option Value) (H₀ F H : Hp) (v : V) : Sl → Prop
  | .val d => Is K mg F v d
  | .own ds => ∃ p vs, v = .ref p ∧ H₀ p = none ∧ F p = none ∧ H p = some (.lst vs) ∧ IsAll K mg F vs ds
  | .bor _ => False
def FPost (X : Cx) (H₀ F : Hp) (D : Ends) : Fl → Prop
  | .nx e => ∀ F' σ' H', Grow H₀ F F' → Rep X.K X.mg H₀ F' e σ' H' → D.nx σ' H'
  | .bk e => ∀ F' σ' H', Grow H₀ F F' → Rep X.K X.mg H₀ F' e σ' H' → D.bk σ' H'
  | .ct e => ∀ F' σ' H', Grow H₀ F F' → Rep X.K X.mg H₀ F' e σ' H' → D.ct σ' H'
  | .rt s => ∀ F' H' v, Grow H₀ F F' → Same H₀ H' → Same F' H' → ResIs X.K X.mg H₀ F' H' v s → D.rt v H'
/-- the slots may have changed -/
def RS (X : Cx) (W : WX) (H₀ F : Hp) {α : Type} (r : R α) (ok : α → Prop) : Prop := match r with
  | .ok a => ok a
  | .exc x e => ∀ F' σ' H' cls dd, Grow H₀ F F' → Rep X.K X.mg H₀ F' e σ' H' → XIs X.mg F' H' x cls dd → W cls dd σ' H'
  | .bad => False
def tF (X : Cx) (W : WX) (f : En → R Fl) : TS := fun D σ H => ∃ H₀ F env, Rep X.K X.mg H₀ F env σ H ∧ RS X W H₀ F (f env) (FPost X H₀ F D)
section
variable {X : Cx} {W : WX} {H₀ F F' H : Hp} {σ : L2.St} {env : En} {α β : Type}
theorem RS.bind {r : R α} {f : α → R β} {ok : β → Prop} (h : RS X W H₀ F (R.bind r f) ok) : RS X W H₀ F r fun a => RS X W H₀ F (f a) ok := by
  cases r with
  | ok a => exact h
  | exc x e => exact h
  | bad => exact h
theorem RS.mono {r : R α} {ok ok' : α → Prop} (h : RS X W H₀ F r ok) (hi : ∀ a, ok a → ok' a) : RS X W H₀ F r ok' := by
  cases r with
  | ok a => exact hi _ h
  | exc x e => exact h
  | bad => exact h
theorem RS.grow {r : R α} {ok : α → Prop} (h : RS X W H₀ F r ok) (g : Grow H₀ F F') : RS X W H₀ F' r ok := by
  cases r with
  | ok a => exact h
  | exc x e => exact fun F2 σ' H' cls dd g2 => h F2 σ' H' cls dd (g.trans g2)
  | bad => exact h
theorem RS.rp {r : R α} {ok : α → Prop} (h : RS X W H₀ F r ok) : RP X W H₀ F σ r ok := by
  cases r with
  | ok a => exact h
  | exc x e => exact fun F2 H' cls dd g => h F2 σ H' cls dd g
  | bad => exact h
theorem FPost.grow {D : Ends} {fl : Fl} (h : FPost X H₀ F D fl) (g : Grow H₀ F F') : FPost X H₀ F' D fl := by
  cases fl with
  | nx e => exact fun F2 σ' H' g2 => h F2 σ' H' (g.trans g2)
  | bk e => exact fun F2 σ' H' g2 => h F2 σ' H' (g.trans g2)
  | ct e => exact fun F2 σ' H' g2 => h F2 σ' H' (g.trans g2)
  | rt s => exact fun F2 H' v g2 => h F2 H' v (g.trans g2)
theorem RS.fgrow {D : Ends} {r : R Fl} (h : RS X W H₀ F r (FPost X H₀ F D)) (g : Grow H₀ F F') : RS X W H₀ F' r (FPost X H₀ F' D) := (h.grow g).mono fun _ q => q.grow g
theorem PS.imp {st : Stmt} {t t' : TS} (h : PS X st t) (hi : ∀ D σ H, t' D σ H → t D σ H) : PS X st t' := ⟨fun pins s σ H D I q => h.run pins s σ H D I (hi _ _ _ q)⟩
theorem PSs.imp {st : List Stmt} {t t' : TS} (h : PSs X st t) (hi : ∀ D σ H, t' D σ H → t D σ H) : PSs X st t' := ⟨fun pins s σ H D I q => h.run pins s σ H D I (hi _ _ _ q)⟩
variable {n : Nat}
theorem okS_solid {env e' : En} {p : Pr} {ds : List D} (h : okS env p = .ok (.bor ds, e')) : False := by
  cases p <;> cases h
theorem evO_solid {a : Ex} {env e' : En} {ds : List D} (h : evO a env = .ok (.bor ds, e')) : False := by
  have leaf : ∀ (r : R (D × En)), (R.bind r fun p => R.ok ((Sl.val p.1, p.2) : Sl × En)) = .ok (.bor ds, e') → False := fun r q => by
    cases r <;> cases q
  cases a with
  | prim p as =>
    rw [evO_prim] at h
    unfold primF at h
    cases q : evA as env with
    | ok q1 =>
      rw [q] at h
      simp only [R.bind_ok] at h
      split at h
      · exact okS_solid h
      · cases h
    | exc x e => rw [q] at h; cases h
    | bad => rw [q] at h; cases h
  | call f den dfl as =>
    rw [evO_call] at h
    unfold callF at h
    cases q : evA as env with
    | ok q1 =>
      rw [q] at h
      simp only [R.bind_ok] at h
      split at h
      · next l _ =>
        cases w : den (l ++ dfl.map Sl.val) with
        | ok s => rw [w] at h; cases s <;> cases h
        | exc x => rw [w] at h; cases h
        | bad => rw [w] at h; cases h
      · cases h
    | exc x e => rw [q] at h; cases h
    | bad => rw [q] at h; cases h
  | slc a lo hi =>
    rw [evO_slc] at h
    unfold slcF at h
    cases q : evOp a env with
    | ok q1 =>
      rw [q] at h
      simp only [R.bind_ok] at h
      cases q2 : evOI lo q1.2 with
      | ok l =>
        rw [q2] at h
        simp only [R.bind_ok] at h
        cases q3 : evOI hi l.2 with
        | ok l2 =>
          rw [q3] at h
          simp only [R.bind_ok] at h
          split at h
          · exact okS_solid h
          · cases h
        | exc x e => rw [q3] at h; cases h
        | bad => rw [q3] at h; cases h
      | exc x e => rw [q2] at h; cases h
      | bad => rw [q2] at h; cases h
    | exc x e => rw [q] at h; cases h
    | bad => rw [q] at h; cases h
  | comp own tg it elt =>
    rw [evO_comp] at h
    unfold compF at h
    cases q : evI it env with
    | ok q1 =>
      rw [q] at h
      simp only [R.bind_ok] at h
      split at h
      · split at h <;> cases h
      · cases h
    | exc x e => rw [q] at h; cases h
    | bad => rw [q] at h; cases h
  | compif own tg it c elt =>
    rw [evO_compif] at h
    unfold compF at h
    cases q : evI it env with
    | ok q1 =>
      rw [q] at h
      simp only [R.bind_ok] at h
      split at h
      · split at h <;> cases h
      · cases h
    | exc x e => rw [q] at h; cases h
    | bad => rw [q] at h; cases h
  | var i x => exact leaf (evE _ env) h
  | rd i x => exact leaf (evE _ env) h
  | con c => exact leaf (evE _ env) h
  | glob x d => exact leaf (evE (.glob x d) env) h
  | isi t as => exact leaf (evE _ env) h
  | and a b => exact leaf (evE _ env) h
  | or a b => exact leaf (evE _ env) h
  | not a => exact leaf (evE _ env) h
  | ite c a b => exact leaf (evE _ env) h
  | chain p q a b c => exact leaf (evE _ env) h
/-- the post of a stored expression, from a condition on each outcome -/
theorem evO_post {a : Ex} {Q : VK} {ok : Sl × En → Prop} (h : RP X W H₀ F σ (evO a env) ok) (hv : ∀ d e, ok (.val d, e) → SPost X H₀ F σ Q (.val d, e)) (ho : ∀ ds e, ok (.own ds, e) → SPost X H₀ F σ Q (.own ds, e)) :
    RP X W H₀ F σ (evO a env) (SPost X H₀ F σ Q) := by
  cases q : evO a env with
  | ok p =>
    rw [q] at h
    obtain ⟨s, e'⟩ := p
    cases s with
    | val d => exact hv d e' h
    | own ds => exact ho ds e' h
    | bor ds => exact (evO_solid q).elim
  | exc x e => rw [q] at h; exact h
  | bad => rw [q] at h; exact h
/-! ### small statements -/
theorem s_expr {a : Ex} {e : Expr} {pos : Pos} (hn : noComp e = true) (pe : PE X e (tE X W (evE a))) : PS X (.Expr e pos) (tF X W (evS (.expr a))) := by
  refine PS.imp (ps_expr pe (by cases e <;> first | rfl | (simp [noComp] at hn))) fun D σ H ⟨H₀, F, env, Rp, q⟩ => ?_
  unfold evS at q
  exact ⟨H₀, F, env, Rp, (RS.rp (RS.bind q)).mono fun p hp F' H' v g R' _ => hp F' σ H' g R'⟩
theorem s_pass {pos : Pos} : PS X (.Pass pos) (tF X W (evS .pass)) := PS.imp ps_pass fun D σ H ⟨H₀, F, env, Rp, q⟩ => q F σ H Grow.refl Rp
theorem s_brk {pos : Pos} : PS X (.Break pos) (tF X W (evS .brk)) := PS.imp ps_break fun D σ H ⟨H₀, F, env, Rp, q⟩ => q F σ H Grow.refl Rp
theorem s_cont {pos : Pos} : PS X (.Continue pos) (tF X W (evS .cont)) := PS.imp ps_continue fun D σ H ⟨H₀, F, env, Rp, q⟩ => q F σ H Grow.refl Rp
theorem s_never {st : Stmt} : PS X st (tF X W (evS .never)) := ⟨fun _ _ _ _ _ _ q => by obtain ⟨_, _, _, _, q⟩ := q; exact q.elim⟩
theorem s_retN {pos : Pos} : PS X (.Return none pos) (tF X W (evS .retN)) := PS.imp ps_retN fun D σ H ⟨H₀, F, env, Rp, q⟩ => q F H _ Grow.refl Rp.h0 Rp.hf .non
theorem s_ret {a : Ex} {e : Expr} {pos : Pos} (hv : ∀ i x, a = .var i x → ∃ p, e = .Name x p ∧ visB X.N X.env.scope i x = true) (ps : PE X e (tS X W (evO a))) : PS X (.Return (some e) pos) (tF X W (evS (.ret a))) := by
  cases q : varIx a with
  | some i =>
    cases a <;> simp only [varIx, reduceCtorEq, Option.some.injEq] at q
    next j x =>
    obtain ⟨p, rfl, hx⟩ := hv j x rfl
    obtain ⟨h1, h2, h3, h4⟩ := vis_of hx
    refine PS.imp (ps_ret (pe_var h1 h2 h3 h4)) fun D σ H ⟨H₀, F, env, Rp, q⟩ => ?_
    replace q : RS X W H₀ F (match lk env j with | some (.val d) => .ok (.rt (.val d)) | some (.own ds) => .ok (.rt (.own ds)) | _ => .bad) (FPost X H₀ F D) := q
    split at q
    · next d e =>
      obtain ⟨v, g1, g2⟩ := Rp.sl j _ e
      exact ⟨v, g1, q F H v Grow.refl Rp.h0 Rp.hf g2⟩
    · next ds e =>
      obtain ⟨v, g1, g2⟩ := Rp.sl j _ e
      exact ⟨v, g1, q F H v Grow.refl Rp.h0 Rp.hf g2⟩
    · exact q.elim
  | none =>
    refine PS.imp (ps_ret ps) fun D σ H ⟨H₀, F, env, Rp, w⟩ => ?_
    unfold evS at w
    rw [q] at w
    exact ⟨H₀, F, env, Rp, evO_post (RS.rp (RS.bind w)) (fun d e hp F' H' v g R' is => hp F' H' v g R'.h0 R'.hf is) fun ds e hp F' H' a vs g R' z f l all _ => hp F' H' _ g R'.h0 R'.hf ⟨a, vs, rfl, z, f, l, all⟩⟩
theorem s_ite {c : Ex} {a b : Stms} {e : Expr} {s1 s2 : List Stmt} {pos : Pos} (hc : PT X e (tB' X W (evB c))) (ha : PSs X s1 (tF X W (evSs a))) (hb : PSs X s2 (tF X W (evSs b))) : PS X (.If e s1 s2 pos) (tF X W (evS (.ite c a b))) := by
  refine PS.imp (ps_if hc ha hb) fun D σ H ⟨H₀, F, env, Rp, q⟩ => ?_
  unfold evS at q
  refine ⟨H₀, F, env, Rp, (RS.rp (RS.bind q)).mono fun p hp F' H' g R' => ?_⟩
  obtain ⟨b', e'⟩ := p
  cases b' with
  | true => rw [if_pos rfl]; exact ⟨H₀, F', e', R', RS.fgrow hp g⟩
  | false => rw [if_neg Bool.false_ne_true]; exact ⟨H₀, F', e', R', RS.fgrow hp g⟩
/-! ### stores -/
theorem swap_none {e : Expr} {t : Option Expr} {l : Nat} {env : Env} (h : noComp e = true) : swapsWith e t l env = pure false := by
  cases e <;> first | rfl | (simp [noComp] at h)
theorem swap_is {y : Str} {py : Pos} {e : Expr} {l : Nat} (hno : ∀ a b c d, e ≠ .SetComp a b c d) (hno2 : ∀ a b c d f, e ≠ .DictComp a b c d f) : swapsWith e (some (.Name y py)) l X.env = pure (swapB X.env.scope y py e) := by
  cases e <;> first | rfl | exact (hno _ _ _ _ rfl).elim | exact (hno2 _ _ _ _ _ rfl).elim
theorem s_asgN (t : Xt X n W) (hl : LocOk X X.env.scope) {i : Nat} {x : Str} {a : Ex} {e : Expr} {py pos : Pos} (hx : locB X.N X.env.scope i x = true) (ps : PE X e (tS X W (evO a)))
    (asg : ∀ te, PE X e te → PS X (.Assign [.Name x py] e pos) (tAsg te (gName i))) : PS X (.Assign [.Name x py] e pos) (tF X W (evS (.asg (.nm i x) a))) := by
  refine PS.imp (asg _ ps) fun D σ H ⟨H₀, F, env, Rp, w⟩ => ?_
  unfold evS at w
  exact ⟨H₀, F, env, Rp, evO_post (RS.rp (RS.bind w)) (fun d e hp F' H' v g R' is => hp F' _ H' g (R'.setVal is)) fun ds e hp F' H' a vs g R' z f l all new => hp F' _ H' g (R'.setOwn z f l all new)⟩
end
end Ev
set_option Elab.async false
set_option linter.all false
set_option maxRecDepth 100000
set_option maxHeartbeats 2000000
namespace Ev
open PySem PySem.Spec PyProof.Rows L2
section
variable {X : Cx} {W : WX} {H₀ F F' H : Hp} {σ : L2.St} {env : En} {n : Nat}
/-! ### stores -/
theorem s_asg1 (t : Xt X n W) (hl : LocOk X X.env.scope) (B : ∀ te : TE, True) {i : Nat} {x : Str} {a : Ex} {e : Expr} {py pos : Pos} (hx : locB X.N X.env.scope i x = true) (hn : noComp e = true) (ps : PE X e (tS X W (evO a))) :
    PS X (.Assign [.Name x py] e pos) (tF X W (evS (.asg (.nm i x) a))) := by
  obtain ⟨h1, h2⟩ := loc_of hx
  exact s_asgN t hl hx ps fun te pe => ps_set t.nd h1 h2 pe (swap_none hn) (hl x h2).2
/-- a comprehension stored in a name -/
theorem s_asgC (t : Xt X n W) (hl : LocOk X X.env.scope) {i : Nat} {x : Str} {a : Ex} {elt : Expr} {gs : List Comprehension} {scope : Scope} {p2 py pos : Pos} (hx : locB X.N X.env.scope i x = true)
    (ps : PE X (.ListComp elt gs scope p2) (tS X W (evO a)))
    (lc : X.env.scope.names.lookup x = some .local → swapsWith (.ListComp elt gs scope p2) (some (.Name x py)) pos.line X.env = pure true → PS X (.Assign [.Name x py] (.ListComp elt gs scope p2) pos) (tAsg (tS X W (evO a)) (gName i))) :
    PS X (.Assign [.Name x py] (.ListComp elt gs scope p2) pos) (tF X W (evS (.asg (.nm i x) a))) := by
  obtain ⟨h1, h2⟩ := loc_of hx
  have sw : swapsWith (.ListComp elt gs scope p2) (some (.Name x py)) pos.line X.env = pure (swapB X.env.scope x py (.ListComp elt gs scope p2)) := swap_is (by intros; intro z; cases z) (by intros; intro z; cases z)
  have main : PS X (.Assign [.Name x py] (.ListComp elt gs scope p2) pos) (tAsg (tS X W (evO a)) (gName i)) := by
    cases q : swapB X.env.scope x py (.ListComp elt gs scope p2) with
    | false => rw [q] at sw; exact ps_set t.nd h1 h2 ps sw (hl x h2).2
    | true =>
      rw [q] at sw
      refine lc ?_ sw
      unfold swapB at q
      simp only [Bool.and_eq_true] at q
      exact beq_iff_eq.mp q.1.1.2
  refine PS.imp main fun D σ H ⟨H₀, F, env, Rp, w⟩ => ?_
  unfold evS at w
  exact ⟨H₀, F, env, Rp, evO_post (RS.rp (RS.bind w)) (fun d e hp F' H' v g R' is => hp F' _ H' g (R'.setVal is)) fun ds e hp F' H' a vs g R' z f l all new => hp F' _ H' g (R'.setOwn z f l all new)⟩
theorem swapped_none {tg e : Expr} {env : Env} (h : notTup e = true) : swappedStores [tg] e env = pure none := by
  cases e <;> first | (simp [notTup] at h; done) | (cases tg <;> rfl)
theorem s_asgT (t : Xt X n W) (hl : LocOk X X.env.scope) {ts : Tgts} {es : List Expr} {a : Ex} {e : Expr} {k : Nat} {p2 pos : Pos} (ht : okTs X.N X.env.scope ts es = true) (hn : noComp e = true) (hu : notTup e = true) (pe : PE X e (tE X W (evE a))) :
    PS X (.Assign [.Tuple es k p2] e pos) (tF X W (evS (.asg (.tup ts) a))) := by
  have pg := sndT t hl (.tup ts) (.Tuple es k p2) (by simpa [okT] using ht)
  refine PS.imp (ps_asg pe pg (swap_none (l := pos.line) (t := some (.Tuple es k p2)) (env := X.env) hn) (swapped_none hu)) fun D σ H ⟨H₀, F, env, Rp, w⟩ => ?_
  unfold evS at w
  refine ⟨H₀, F, env, Rp, (RS.rp (RS.bind w)).mono fun p hp F' H' v g R' is => ?_⟩
  split at hp
  · next e2 q => exact ⟨H₀, F', p.2, p.1, e2, R', is, q, fun σ' R2 _ => hp F' σ' H' g R2⟩
  · exact hp.elim
theorem s_setI (t : Xt X n W) {i : Nat} {x : Str} {k a : Ex} {e2 e : Expr} {p1 p2 pos : Pos} (hx : visB X.N X.env.scope i x = true) (hp2 : plainIx e2 = true) (hn : noComp e = true) (hu : notTup e = true) (pk : PE X e2 (tE X W (evE k))) (pe : PE X e (tE X W (evE a))) :
    PS X (.Assign [.Subscript (.Name x p1) e2 p2] e pos) (tF X W (evS (.setI i x k a))) := by
  have pg := pg_sub (pos := p2) (l_rdO (W := W) (pos := p1) hx) pk set_list (by intro v; cases e2 <;> first | rfl | (simp [plainIx] at hp2))
  refine PS.imp (ps_asg pe pg (swap_none (l := pos.line) (t := some (.Subscript (.Name x p1) e2 p2)) (env := X.env) hn) (swapped_none hu)) fun D σ H ⟨H₀, F, env, Rp, w⟩ => ?_
  unfold evS at w
  refine ⟨H₀, F, env, Rp, (RS.rp (RS.bind w)).mono fun q hq F1 H1 v g1 R1 is1 => ?_⟩
  unfold slotR at hq
  cases lq : lk q.2 i with
  | none => rw [lq] at hq; exact hq.elim
  | some s0 =>
    rw [lq] at hq
    simp only [R.bind_ok] at hq
    refine ⟨H₀, F1, q.2, R1, ?_⟩
    show RP X W H₀ F1 σ (slotR i q.2) _
    unfold slotR
    rw [lq]
    intro F2 H2 vo g2 R2 is2
    replace is2 : σ[i]? = some (some vo) := is2
    refine ⟨H₀, F2, q.2, R2, (RS.rp ((RS.bind hq).grow (g1.trans g2))).mono fun p hp F3 H3 vk g3 R3 is3 => ?_⟩
    split at hp
    · next ds j e1 e2 =>
      rw [e2] at is3
      cases Is.inv_int is3
      split at hp
      · next m em =>
        obtain ⟨w, k1, pa, vs, rfl, z, f, l, all⟩ := R3.sl i _ e1
        have : vo = .ref pa := by have := is2.symm.trans k1; simpa using this
        subst this
        refine ⟨pa, vs, j, m, rfl, rfl, l, by rw [all.length]; exact em, ?_⟩
        exact hp F3 σ _ ((g1.trans g2).trans g3) (R3.write e1 k1 (all.set m (Is.mono (g2.trans g3).1 is1)))
      · exact hp.elim
    · exact hp.elim
theorem base_name {x m : Str} {p : Pos} : attributeBase (.Name x p) m X.env (eval (.Name x p) X.env) = eval (.Name x p) X.env := rfl
theorem s_append (t : Xt X n W) {i : Nat} {x m : Str} {a : Ex} {e : Expr} {p1 apos cpos pos : Pos} (hx : visB X.N X.env.scope i x = true) (hm : m = "append") (hline : (apos.endLine == cpos.line) = true) (hs : notStar e = true) (pe : PE X e (tE X W (evE a))) :
    PS X (.Expr (.Call (.Attribute (.Name x p1) m apos) [e] [] cpos) pos) (tF X W (evS (.append i x a))) := by
  subst hm
  obtain ⟨h1, h2, h3, h4⟩ := vis_of hx
  have st := star_cons (es := []) (env := X.env) hs
  have few : ((backTo cpos (starEach (e :: []) X.env)).all (fun x => !x.1) && (backToKw cpos (keywordEach [] X.env)).all (fun x => x.1.isSome)
      && decide ((e :: ([] : List Expr)).length + ([] : List Keyword).length + (if ([] : List Keyword).isEmpty then 0 else 1) < 30)) = true := by rw [st]; rfl
  refine PS.imp (ps_expr (pe_bm PySem.F.plainAttrs_list PySem.F.slot_list_append PySem.F.type_list_append mt_append (pe_var (pos := p1) h1 h2 h3 h4) (pa_cons pe pa_nil st) base_name few hline st rfl)) fun D σ H ⟨H₀, F, env, Rp, w⟩ => ?_
  unfold evS at w
  split at w
  · next ds0 e0 =>
    obtain ⟨v, k1, pa, vs, rfl, z, f, l, all⟩ := Rp.sl i _ e0
    refine ⟨_, k1, .inl ⟨rfl, vs, SqL.of l⟩, H₀, F, env, Rp, (RS.rp (RS.bind w)).mono fun p hp F1 H1 y g R1 is => ?_⟩
    split at hp
    · next ds e1 =>
      split at hp
      · next hlen =>
        obtain ⟨v2, k2, pa2, vs2, rfl, z2, f2, l2, all2⟩ := R1.sl i _ e1
        have : pa2 = pa := by have := k2.symm.trans k1; simpa using this
        subst this
        refine ⟨_, vs2, y, rfl, rfl, l2, by rw [all2.length]; exact Nat.lt_trans hlen (by decide), ?_⟩
        exact hp F1 σ _ g (R1.write e1 k2 (all2.append (.cons is .nil)))
      · exact hp.elim
    · exact hp.elim
  · exact w.elim
theorem s_pop (t : Xt X n W) {i : Nat} {x m : Str} {p1 apos cpos pos : Pos} (hx : visB X.N X.env.scope i x = true) (hm : m = "pop") (hline : (apos.endLine == cpos.line) = true) :
    PS X (.Expr (.Call (.Attribute (.Name x p1) m apos) [] [] cpos) pos) (tF X W (evS (.pop i x))) := by
  subst hm
  obtain ⟨h1, h2, h3, h4⟩ := vis_of hx
  refine PS.imp (ps_expr (pe_bm0 PySem.F.plainAttrs_list PySem.F.slot_list_pop PySem.F.type_list_pop mt_pop (pe_var (pos := p1) h1 h2 h3 h4) base_name hline)) fun D σ H ⟨H₀, F, env, Rp, w⟩ => ?_
  unfold evS at w
  split at w
  · next ds e0 =>
    split at w
    · exact w.elim
    · next hne =>
      obtain ⟨v, k1, pa, vs, rfl, z, f, l, all⟩ := Rp.sl i _ e0
      have hl := all.length
      have hlt : vs.length - 1 < vs.length := by omega
      refine ⟨_, k1, .inl ⟨rfl, vs, SqL.of l⟩, pa, vs, _, rfl, rfl, l, List.getElem?_eq_getElem hlt, ?_⟩
      exact w F σ _ Grow.refl (Rp.write e0 k1 all.dropLast)
  · exact w.elim
/-! ### loops -/
theorem s_while (t : Xt X n W) {c : Ex} {a : Stms} {e : Expr} {s1 : List Stmt} {pos : Pos} (hc : PT X e (tB' X W (evB c))) (ha : PSs X s1 (tF X W (evSs a))) : PS X (.While e s1 [] pos) (tF X W (evS (.while c a))) := by
  refine PS.imp (ps_while t.pass hc ha) fun D σ H ⟨H₀, F, env, Rp, w⟩ => ?_
  unfold evS at w
  replace w : RS X W H₀ F (whileD (evB c) (fun e => evSs a e) env) (FPost X H₀ F D) := w
  unfold whileD at w
  split at w
  case isFalse => exact w.elim
  case isTrue hex =>
  generalize hr : hex.choose_spec.choose = r at w
  have hn := hex.choose_spec.choose_spec
  rw [hr] at hn
  refine ⟨fun m σ' H' => ∃ F' env', Grow H₀ F F' ∧ Rep X.K X.mg H₀ F' env' σ' H' ∧ loopN (evB c) (fun e => evSs a e) m env' = some r, ⟨_, F, env, Grow.refl, Rp, hn⟩, ?_⟩
  rintro m σ1 H1 ⟨F1, env1, g1, R1, h1⟩
  cases m with
  | zero => simp [loopN] at h1
  | succ m =>
    unfold loopN at h1
    refine ⟨H₀, F1, env1, R1, ?_⟩
    cases ec : evB c env1 with
    | bad => rw [ec] at h1; simp only [Option.some.injEq] at h1; subst h1; exact w.elim
    | exc x e2 => rw [ec] at h1; simp only [Option.some.injEq] at h1; subst h1; exact RS.rp (w.grow g1)
    | ok p =>
      rw [ec] at h1
      obtain ⟨b, e1⟩ := p
      intro F2 H2 g2 R2
      have g12 := g1.trans g2
      cases b with
      | false =>
        simp only [Option.some.injEq] at h1
        subst h1
        rw [if_neg Bool.false_ne_true]
        exact w F2 _ H2 g12 R2
      | true =>
        rw [if_pos rfl]
        dsimp only at h1
        refine ⟨fun σ' H' => ∃ m', m' < m + 1 ∧ ∃ F' env', Grow H₀ F F' ∧ Rep X.K X.mg H₀ F' env' σ' H' ∧ loopN (evB c) (fun e => evSs a e) m' env' = some r, fun σ' H' h => h, H₀, F2, e1, R2, ?_⟩
        cases eb : evSs a e1 with
        | bad => rw [eb] at h1; simp only [Option.some.injEq] at h1; subst h1; exact w.elim
        | exc x e2 => rw [eb] at h1; simp only [Option.some.injEq] at h1; subst h1; exact w.grow g12
        | ok fl =>
          rw [eb] at h1
          cases fl with
          | nx e2 => exact fun F3 σ3 H3 g3 R3 => ⟨m, Nat.lt_succ_self m, F3, e2, g12.trans g3, R3, h1⟩
          | ct e2 => exact fun F3 σ3 H3 g3 R3 => ⟨m, Nat.lt_succ_self m, F3, e2, g12.trans g3, R3, h1⟩
          | bk e2 => simp only [Option.some.injEq] at h1; subst h1; exact fun F3 σ3 H3 g3 R3 => w F3 σ3 H3 (g12.trans g3) R3
          | rt s => simp only [Option.some.injEq] at h1; subst h1; exact fun F3 H3 v g3 h0 hf is => w F3 H3 v (g12.trans g3) h0 hf is
def turnS (tg : Tgt) (a : En → R Fl) (x : Ev.D) (e : En) : R Fl := match setT tg x e with | some e1 => a e1 | none => .bad
theorem forD_cons (b : Ev.D → En → R Fl) (x : Ev.D) (r : List Ev.D) (e : En) : forD b (x :: r) e = (match b x e with
      | .ok (.nx e2) => forD b r e2
      | .ok (.ct e2) => forD b r e2
      | .ok (.bk e2) => .ok (.nx e2)
      | .ok (.rt s) => .ok (.rt s)
      | .exc x e2 => .exc x e2
      | .bad => .bad) := rfl
theorem s_for (t : Xt X n W) {tg : Tgt} {it : Itr} {a : Stms} {tge e : Expr} {s1 : List Stmt} {pos : Pos} (hI : okI X.N X.env.scope it tge e = true) (pi : PI X tge e (tJ X W (evI it))) (pg : PG X tge (tTg X tg)) (ha : PSs X s1 (tF X W (evSs a))) :
    PS X (.For tge e s1 [] pos) (tF X W (evS (.for tg it a))) := by
  refine PS.imp (ps_for t.pass t.calm pi pg ha (folded_seq hI)) fun D σ H ⟨H₀, F, env, Rp, w⟩ => ?_
  unfold evS at w
  refine ⟨H₀, F, env, Rp, (RS.rp (RS.bind w)).mono fun q hq F1 H1 J g1 R1 fd => ?_⟩
  refine ⟨fun i m σ' H' => m = q.1.length - i ∧ i ≤ q.1.length ∧ ∃ F' env', Grow H₀ F1 F' ∧ Rep X.K X.mg H₀ F' env' σ' H' ∧
      RS X W H₀ F (forD (turnS tg fun e => evSs a e) (q.1.drop i) env') (FPost X H₀ F D),
    ⟨q.1.length, by simp, Nat.zero_le _, F1, q.2, Grow.refl, R1, by rw [List.drop_zero]; exact hq⟩, ?_⟩
  rintro i m σ2 H2 ⟨rfl, hi, F2, env2, g2, R2, h2⟩
  have fdi := fd i F2 H2 g2.1 R2.hf
  by_cases hlt : i < q.1.length
  · right
    obtain ⟨go, yl⟩ := fdi.1 _ (List.getElem?_eq_getElem hlt)
    rw [List.drop_eq_getElem_cons hlt] at h2
    rw [forD_cons] at h2
    refine ⟨go, fun σ' H' => i + 1 ≤ q.1.length ∧ ∃ F' env', Grow H₀ F1 F' ∧ Rep X.K X.mg H₀ F' env' σ' H' ∧
      RS X W H₀ F (forD (turnS tg fun e => evSs a e) (q.1.drop (i + 1)) env') (FPost X H₀ F D), fun σ' H' p => ⟨q.1.length - (i + 1), by omega, rfl, p⟩, fun x H' y => ?_⟩
    have item : ∃ F', Grow H₀ F2 F' ∧ Rep X.K X.mg H₀ F' env2 σ2 H' ∧ Is X.K X.mg F' x q.1[i] := by
      rcases yl x H' y with ⟨rfl, is⟩ | ⟨p, ws, ds, np, rfl, rfl, ed, is⟩
      · exact ⟨F2, Grow.refl, R2, is⟩
      · have al := R2.alloc (o := .tup ws) np
        exact ⟨_, al.1, al.2, by rw [ed]; exact .tup (SqT.of upd_same) (IsAll.mono al.1.1 is)⟩
    obtain ⟨F3, g3, R3, is3⟩ := item
    cases es : setT tg q.1[i] env2 with
    | none =>
      have tb : turnS tg (fun e => evSs a e) q.1[i] env2 = .bad := by unfold turnS; rw [es]
      rw [tb] at h2; exact h2.elim
    | some e1 =>
      have tb : turnS tg (fun e => evSs a e) q.1[i] env2 = evSs a e1 := by unfold turnS; rw [es]
      rw [tb] at h2
      refine ⟨H₀, F3, env2, _, e1, R3, is3, es, fun σ3 R4 _ => ⟨H₀, F3, e1, R4, ?_⟩⟩
      have gg := (g1.trans g2).trans g3
      cases eb : evSs a e1 with
      | bad => rw [eb] at h2; exact h2.elim
      | exc x e2 => rw [eb] at h2; exact h2.grow gg
      | ok fl =>
        rw [eb] at h2
        cases fl with
        | nx e2 => exact fun F4 σ4 H4 g4 R5 => ⟨by omega, F4, e2, (g2.trans g3).trans g4, R5, h2⟩
        | ct e2 => exact fun F4 σ4 H4 g4 R5 => ⟨by omega, F4, e2, (g2.trans g3).trans g4, R5, h2⟩
        | bk e2 => exact fun F4 σ4 H4 g4 R5 => h2 F4 σ4 H4 (gg.trans g4) R5
        | rt s => exact fun F4 H4 v g4 h0 hf is => h2 F4 H4 v (gg.trans g4) h0 hf is
  · left
    have hge : q.1.length ≤ i := by omega
    rw [List.drop_eq_nil_of_le hge] at h2
    exact ⟨fdi.2 hge, h2 F2 σ2 H2 (g1.trans g2) R2⟩
/-! ### two names at once -/
theorem par_swap {x y : Str} {px py pt pt2 : Pos} {kt k2 : Nat} {a b : Expr} (h : parB X.env.scope (.Name x px) (.Name y py) a b = true) :
    swappedStores [.Tuple [.Name x px, .Name y py] kt pt] (.Tuple [a, b] k2 pt2) X.env = pure (some [x, y]) := by
  unfold parB at h
  simp only [Bool.and_eq_true, Bool.not_eq_true'] at h
  obtain ⟨⟨⟨⟨⟨⟨⟨⟨h1, h2⟩, h3⟩, h4⟩, h5⟩, h6⟩, h7⟩, h8⟩, h9⟩ := h
  have stb : ∀ e : Expr, notStar e = true → (match e with | .Starred .. => true | _ => false) = false := fun e he => by cases e <;> first | rfl | (simp [notStar] at he)
  have sa := stb a h6
  have sb := stb b h7
  have bk : X.env.blockKind = .function := by unfold Env.blockKind; exact beq_iff_eq.mp h1
  have kx : X.env.kindOf x = some .local := beq_iff_eq.mp h2
  have ky : X.env.kindOf y = some .local := beq_iff_eq.mp h3
  have xy : ([x, y] : List Str).eraseDups = [x, y] := by
    have : (y == x) = false := by rw [Bool.eq_false_iff]; intro z; rw [beq_iff_eq] at z; subst z; simp at h5
    simp [List.eraseDups, List.eraseDupsBy, List.eraseDupsBy.loop, this]
  have fm : ([Expr.Name x px, Expr.Name y py] : List Expr).filterMap (fun x_1 => match x_1 with
      | .Name id pos => if (X.env.kindOf id == some .local && pos.line == (Option.map (fun x => x.pos.line) [Expr.Name x px, Expr.Name y py].head?).getD 0) = true then some id else none
      | _ => none) = [x, y] := by
    have e : (Option.map (fun x => x.pos.line) [Expr.Name x px, Expr.Name y py].head?).getD 0 = px.line := rfl
    rw [e]
    simp [kx, ky, beq_iff_eq.mp h4]
  unfold swappedStores
  dsimp only
  generalize hL : List.filterMap _ [Expr.Name x px, Expr.Name y py] = L
  have hL2 : L = [x, y] := hL.symm.trans fm
  subst hL2
  refine (if_neg (by rw [bk]; simp)).trans ?_
  refine (if_neg ?_).trans ?_
  · simp only [List.any_cons, List.any_nil, Bool.or_false]
    intro z
    rw [Bool.or_eq_true] at z
    rcases z with z | z
    · exact Bool.noConfusion (sa.symm.trans z)
    · exact Bool.noConfusion (sb.symm.trans z)
  rw [xy, h8, h9, if_neg (by simp), if_neg (by simp), if_neg (by simp)]
theorem s_par (t : Xt X n W) {i j : Nat} {x y : Str} {a b : Ex} {e1 e2 : Expr} {px py p1 p2 pos : Pos} {k1 k2 : Nat} (hi : X.N[i]? = some x) (hj : X.N[j]? = some y) (hij : i ≠ j) (hp : parB X.env.scope (.Name x px) (.Name y py) e1 e2 = true)
    (pa : PE X e1 (tE X W (evE a))) (pb : PE X e2 (tE X W (evE b))) : PS X (.Assign [.Tuple [.Name x px, .Name y py] k1 p1] (.Tuple [e1, e2] k2 p2) pos) (tF X W (evS (.par i x j y a b))) := by
  have hp' := hp
  unfold parB at hp'
  simp only [Bool.and_eq_true, Bool.not_eq_true'] at hp'
  obtain ⟨⟨⟨⟨⟨⟨⟨⟨_, h2⟩, h3⟩, _⟩, _⟩, h6⟩, h7⟩, _⟩, _⟩ := hp'
  refine PS.imp (ps_par t.calm t.nd hi hj hij (beq_iff_eq.mp h2) (beq_iff_eq.mp h3) (pa_cons pa (pa_cons pb pa_nil (star_cons h7)) (star_cons h6)) (par_swap hp)) fun D σ H ⟨H₀, F, env, Rp, w⟩ => ?_
  unfold evS at w
  refine ⟨H₀, F, env, Rp, (RS.rp (RS.bind w)).mono fun p hp F1 H1 v1 g1 R1 is1 => ?_⟩
  refine ⟨H₀, F1, p.2, R1, (RS.rp ((RS.bind hp).grow g1)).mono fun q hq F2 H2 v2 g2 R2 is2 => ?_⟩
  refine ⟨v1, v2, rfl, ?_⟩
  exact hq F2 _ H2 (g1.trans g2) ((R2.setVal (Is.mono g2.1 is1)).setVal is2)
end
end Ev
set_option Elab.async false
set_option linter.all false
set_option maxRecDepth 100000
set_option maxHeartbeats 4000000
namespace Ev
open PySem PySem.Spec PyProof.Rows L2
theorem okE_comp_inv {N : List Str} {sc : Scope} {own : List (Str × Nat)} {tg : Tgt} {it : Itr} {elt : Ex} {e : Expr} (h : okE N sc (.comp own tg it elt) e = true) :
    ∃ x t i scope pos, e = .ListComp x [⟨t, i, [], 0⟩] scope pos ∧ blkC N sc scope own = true ∧ inT (own.map (·.2)) tg = true ∧ okT N scope tg t = true ∧ okI N sc it t i = true ∧ okE N (reSc sc scope) elt x = true := by
  unfold okE at h
  split at h
  all_goals first | (cases h; done) | (next heq => (cases heq; done)) | skip
  next heq =>
    cases heq
    simp only [Bool.and_eq_true] at h
    exact ⟨_, _, _, _, _, rfl, h.1.1.1.1, h.1.1.1.2, h.1.1.2, h.1.2, h.2⟩
theorem okE_compif_inv {N : List Str} {sc : Scope} {own : List (Str × Nat)} {tg : Tgt} {it : Itr} {c elt : Ex} {e : Expr} (h : okE N sc (.compif own tg it c elt) e = true) :
    ∃ x y t i scope pos, e = .ListComp x [⟨t, i, [y], 0⟩] scope pos ∧ blkC N sc scope own = true ∧ inT (own.map (·.2)) tg = true ∧ okT N scope tg t = true ∧ okI N sc it t i = true ∧ tst c = true ∧ okE N (reSc sc scope) c y = true ∧ okE N (reSc sc scope) elt x = true := by
  unfold okE at h
  split at h
  all_goals first | (cases h; done) | (next heq => (cases heq; done)) | skip
  next heq =>
    cases heq
    simp only [Bool.and_eq_true] at h
    obtain ⟨⟨⟨⟨⟨⟨k1, k2⟩, k3⟩, k4⟩, k5⟩, k6⟩, k7⟩ := h
    exact ⟨_, _, _, _, _, _, rfl, k1, k2, k3, k4, k5, k6, k7⟩
theorem okE_noComp {N : List Str} {sc : Scope} {a : Ex} {e : Expr} (h : okE N sc a e = true) (q : noComp e = false) : (∃ own tg it elt, a = .comp own tg it elt) ∨ ∃ own tg it c elt, a = .compif own tg it c elt := by
  cases a with
  | comp own tg it elt => exact .inl ⟨_, _, _, _, rfl⟩
  | compif own tg it c elt => exact .inr ⟨_, _, _, _, _, rfl⟩
  | prim p as => cases e <;> first | (cases q; done) | (simp [okE] at h)
  | and x y => cases e <;> first | (cases q; done) | (simp [okE] at h)
  | or x y => cases e <;> first | (cases q; done) | (simp [okE] at h)
  | _ => cases e <;> first | (cases q; done) | (simp [okE] at h)
section
variable {X : Cx} {W : WX} {n : Nat}
theorem s_asgE (t : Xt X n W) (hl : LocOk X X.env.scope) {i : Nat} {x : Str} {a : Ex} {e : Expr} {py pos : Pos} (g : a.good (gd X n)) (hx : locB X.N X.env.scope i x = true) (h : okE X.N X.env.scope a e = true) :
    PS X (.Assign [.Name x py] e pos) (tF X W (evS (.asg (.nm i x) a))) := by
  have ps := (sndE a X W n t g e h).ps
  obtain ⟨h1, h2⟩ := loc_of hx
  cases q : noComp e with
  | true => exact s_asg1 t hl (fun _ => trivial) hx q ps
  | false =>
    rcases okE_noComp h q with ⟨own, tg, it, elt, rfl⟩ | ⟨own, tg, it, c, elt, rfl⟩
    · obtain ⟨x', tge, it', scope, pos', rfl, k1, k2, k3, k4, k5⟩ := okE_comp_inv h
      refine s_asgC t hl hx ps fun hyl hsw => ?_
      refine PS.imp (ps_setLc t.calm t.nd h1 hyl hsw (sndI it X W n t g.1 _ _ k4) (blkOk_by k1) (fun s H C cl fp => (show PG (blkX X s H scope C cl fp) tge (tTg X tg) from sndT (xt_blk t s H _ C cl fp) (locOk_blk s H _ C cl fp) _ _ k3)) (fun s H C cl fp => pts_nil)
        (fun s H C cl fp => (show PE (blkX X s H scope C cl fp) x' (tE X W0 (evE elt)) from (sndE elt (blkX X s H _ C cl fp) W0 n (xt_blk t s H _ C cl fp) g.2 _ k5).pe)) (folded_seq k4)) fun D σ H q => ?_
      obtain ⟨H₀, F, env, Rp, q⟩ := q
      rw [evO_comp] at q
      exact comp_red k2 (fun σ H Q ⟨H₀, F, env, Rp, q⟩ => q F H Grow.refl Rp) ⟨H₀, F, env, Rp, q⟩
    · obtain ⟨x', y', tge, it', scope, pos', rfl, k1, k2, k3, k4, k5, k6, k7⟩ := okE_compif_inv h
      refine s_asgC t hl hx ps fun hyl hsw => ?_
      refine PS.imp (ps_setLc t.calm t.nd h1 hyl hsw (sndI it X W n t g.1 _ _ k4) (blkOk_by k1) (fun s H C cl fp => (show PG (blkX X s H scope C cl fp) tge (tTg X tg) from sndT (xt_blk t s H _ C cl fp) (locOk_blk s H _ C cl fp) _ _ k3))
        (fun s H C cl fp => pts_one (show PT (blkX X s H scope C cl fp) y' (tB' X W0 (evB c)) from (sndE c (blkX X s H _ C cl fp) W0 n (xt_blk t s H _ C cl fp) g.2.1 _ k6).pt k5))
        (fun s H C cl fp => (show PE (blkX X s H scope C cl fp) x' (tE X W0 (evE elt)) from (sndE elt (blkX X s H _ C cl fp) W0 n (xt_blk t s H _ C cl fp) g.2.2 _ k7).pe)) (folded_seq k4)) fun D σ H q => ?_
      obtain ⟨H₀, F, env, Rp, q⟩ := q
      rw [evO_compif] at q
      exact comp_red k2 (fun σ H Q q => q) ⟨H₀, F, env, Rp, q⟩
end
theorem var_shape {N : List Str} {sc : Scope} {a : Ex} {e : Expr} (h : okE N sc a e = true) : ∀ i x, a = .var i x → ∃ p, e = .Name x p ∧ visB N sc i x = true := by
  intro i x z
  subst z
  cases e <;> simp only [okE, Bool.false_eq_true] at h
  simp only [Bool.and_eq_true, decide_eq_true_eq] at h
  obtain ⟨rfl, h⟩ := h
  exact ⟨_, rfl, h⟩
mutual
theorem sndS : ∀ (s : Stm) (X : Cx) (W : WX) (n : Nat), Xt X n W → LocOk X X.env.scope → s.good (gd X n) → ∀ st : Stmt, okSt X.N X.env.scope s st = true → PS X st (tF X W (evS s))
  | .asg tg a, X, W, n, t, hl, g, st, h => by
    unfold okSt at h
    split at h
    all_goals first | (cases h; done) | (next heq => (cases heq; done)) | skip
    · next heq =>
      cases heq
      simp only [Bool.and_eq_true, decide_eq_true_eq] at h
      obtain ⟨⟨rfl, h1⟩, h2⟩ := h
      exact s_asgE t hl g h1 h2
    · next heq =>
      cases heq
      simp only [Bool.and_eq_true] at h
      exact s_asgT t hl h.1.1.1 h.1.2 h.1.1.2 (sndE a X W n t g _ h.2).pe
  | .par i x j y a b, X, W, n, t, hl, g, st, h => by
    unfold okSt at h
    split at h
    all_goals first | (cases h; done) | (next heq => (cases heq; done)) | skip
    next heq =>
      cases heq
      simp only [Bool.and_eq_true, decide_eq_true_eq] at h
      obtain ⟨⟨⟨⟨⟨⟨⟨rfl, rfl⟩, h1⟩, h2⟩, h3⟩, h4⟩, h5⟩, h6⟩ := h
      exact s_par t h1 h2 h3 h4 (sndE a X W n t g.1 _ h5).pe (sndE b X W n t g.2 _ h6).pe
  | .setI i x k a, X, W, n, t, hl, g, st, h => by
    unfold okSt at h
    split at h
    all_goals first | (cases h; done) | (next heq => (cases heq; done)) | skip
    next heq =>
      cases heq
      simp only [Bool.and_eq_true, decide_eq_true_eq] at h
      obtain ⟨⟨⟨⟨⟨⟨rfl, h1⟩, h2⟩, h3⟩, h4⟩, h5⟩, h6⟩ := h
      exact s_setI t h1 h2 h4 h3 (sndE k X W n t g.1 _ h5).pe (sndE a X W n t g.2 _ h6).pe
  | .ite c a b, X, W, n, t, hl, g, st, h => by
    unfold okSt at h
    split at h
    all_goals first | (cases h; done) | (next heq => (cases heq; done)) | skip
    next heq =>
      cases heq
      simp only [Bool.and_eq_true] at h
      exact s_ite ((sndE c X W n t g.1 _ h.1.1.2).pt h.1.1.1) (sndSs a X W n t hl g.2.1 _ h.1.2) (sndSs b X W n t hl g.2.2 _ h.2)
  | .while c a, X, W, n, t, hl, g, st, h => by
    unfold okSt at h
    split at h
    all_goals first | (cases h; done) | (next heq => (cases heq; done)) | skip
    next heq =>
      cases heq
      simp only [Bool.and_eq_true] at h
      exact s_while t ((sndE c X W n t g.1 _ h.1.2).pt h.1.1) (sndSs a X W n t hl g.2 _ h.2)
  | .for tg it a, X, W, n, t, hl, g, st, h => by
    unfold okSt at h
    split at h
    all_goals first | (cases h; done) | (next heq => (cases heq; done)) | skip
    next heq =>
      cases heq
      simp only [Bool.and_eq_true] at h
      exact s_for t h.1.2 (sndI it X W n t g.1 _ _ h.1.2) (sndT t hl tg _ h.1.1) (sndSs a X W n t hl g.2 _ h.2)
  | .ret a, X, W, n, t, hl, g, st, h => by
    unfold okSt at h
    split at h
    all_goals first | (cases h; done) | (next heq => (cases heq; done)) | skip
    next heq =>
      cases heq
      exact s_ret (var_shape h) (sndE a X W n t g _ h).ps
  | .retN, X, W, n, t, hl, g, st, h => by
    unfold okSt at h
    split at h
    all_goals first | (cases h; done) | (next heq => (cases heq; done)) | skip
    exact s_retN
  | .expr a, X, W, n, t, hl, g, st, h => by
    unfold okSt at h
    split at h
    all_goals first | (cases h; done) | (next heq => (cases heq; done)) | skip
    next heq =>
      cases heq
      simp only [Bool.and_eq_true] at h
      exact s_expr h.1 (sndE a X W n t g _ h.2).pe
  | .append i x a, X, W, n, t, hl, g, st, h => by
    unfold okSt at h
    split at h
    all_goals first | (cases h; done) | (next heq => (cases heq; done)) | skip
    next heq =>
      cases heq
      simp only [Bool.and_eq_true, decide_eq_true_eq] at h
      obtain ⟨⟨⟨⟨⟨rfl, h1⟩, h2⟩, h3⟩, h4⟩, h5⟩ := h
      exact s_append t h1 h2 h3 h4 (sndE a X W n t g _ h5).pe
  | .pop i x, X, W, n, t, hl, g, st, h => by
    unfold okSt at h
    split at h
    all_goals first | (cases h; done) | (next heq => (cases heq; done)) | skip
    next heq =>
      cases heq
      simp only [Bool.and_eq_true, decide_eq_true_eq] at h
      obtain ⟨⟨⟨rfl, h1⟩, h2⟩, h3⟩ := h
      exact s_pop t h1 h2 h3
  | .pass, X, W, n, t, hl, g, st, h => by
    unfold okSt at h
    split at h
    all_goals first | (cases h; done) | (next heq => (cases heq; done)) | skip
    exact s_pass
  | .brk, X, W, n, t, hl, g, st, h => by
    unfold okSt at h
    split at h
    all_goals first | (cases h; done) | (next heq => (cases heq; done)) | skip
    exact s_brk
  | .cont, X, W, n, t, hl, g, st, h => by
    unfold okSt at h
    split at h
    all_goals first | (cases h; done) | (next heq => (cases heq; done)) | skip
    exact s_cont
  | .never, X, W, n, t, hl, g, st, h => s_never
theorem sndSs : ∀ (ss : Stms) (X : Cx) (W : WX) (n : Nat), Xt X n W → LocOk X X.env.scope → ss.good (gd X n) → ∀ sts : List Stmt, okSts X.N X.env.scope ss sts = true → PSs X sts (tF X W (evSs ss))
  | .nil, X, W, n, t, hl, g, sts, h => by
    cases sts with
    | nil => exact PSs.imp pss_nil fun D σ H ⟨H₀, F, env, Rp, q⟩ => q F σ H Grow.refl Rp
    | cons s ss => simp [okSts] at h
  | .cons s ss, X, W, n, t, hl, g, sts, h => by
    cases sts with
    | nil => simp [okSts] at h
    | cons st sts =>
      simp only [okSts, Bool.and_eq_true] at h
      refine PSs.imp (pss_cons (sndS s X W n t hl g.1 st h.1) (sndSs ss X W n t hl g.2 sts h.2)) fun D σ H ⟨H₀, F, env, Rp, q⟩ => ⟨H₀, F, env, Rp, ?_⟩
      unfold evSs at q
      cases es : evS s env with
      | bad => rw [es] at q; exact q
      | exc x e2 => rw [es] at q; exact q
      | ok fl =>
        rw [es] at q
        cases fl with
        | nx e2 => exact fun F' σ' H' g R' => ⟨H₀, F', e2, R', RS.fgrow q g⟩
        | rt s => exact q
        | bk e2 => exact q
        | ct e2 => exact q
end
end Ev
set_option Elab.async false
set_option linter.all false
set_option maxRecDepth 100000
set_option maxHeartbeats 1000000
namespace Ev
open PySem PySem.Spec PyProof.Rows L2

section
variable {P : Program} {w : World} {K : PySem.W.Frag} {mg : Str → Option Value} {base : Heap}
/-- what the module gives to every def -/
structure Ground (P : Program) (mg : Str → Option Value) (base : Heap) : Prop where
  seer : base.NoSeer
  lim : base.NoLimit
  tree : P.given.tree = none
  free : ∀ x ∈ bltFree, mg x = none
theorem dv_of {CX : CXT} {N ps : List Str} {qual : Str} {scope : Scope} {f : Addr} {cdv : Value} {A : Around} {outer : List Env} {s : Shared} {H : Hp} {E : XK} {n : Nat}
    (G : Ground P mg base) (S : FnScope N ps scope) (hr : Room n (A.deeper (envOfC qual scope s.heap.objs.size f cdv))) (hn : 32 ≤ n) : DivOkB (cxOf CX P w K mg base N qual scope f cdv A outer s H E) := by
  intro s' hf hk
  refine PylongRoom.of (G.lim.keeps hk) ?_ (SeerAt.of (G.seer.keeps hk) G.tree hf S.gen S.co rfl rfl)
  have := hr.dp
  show (A.deeper (envOfC qual scope s.heap.objs.size f cdv)).depth + 100 < 1000
  have e : recursionLimit = 1000 := rfl
  omega
theorem xt_of {N ps : List Str} {qual : Str} {scope : Scope} {f : Addr} {cdv : Value} {A : Around} {outer : List Env} {s : Shared} {H : Hp} {E : XK} {n : Nat}
    (G : Ground P mg base) (S : FnScope N ps scope) (hr : Room n (A.deeper (envOfC qual scope s.heap.objs.size f cdv))) (hn : 32 ≤ n) :
    Xt (cxOf (L2.CX P w) P w K mg base N qual scope f cdv A outer s H E) n (fun cls d _ H => E cls d H) :=
  ⟨rfl, S.nd, takes_of rfl rfl rfl rfl, passes_of rfl, hr, dv_of G S hr hn, G.free⟩
theorem lk_app : ∀ (ss : List Sl) (k i : Nat) (x : Sl), lk (ss.map some ++ List.replicate k none) i = some x → ss[i]? = some x
  | [], 0, i, x, h => by simp [lk] at h
  | [], k + 1, 0, x, h => by simp [List.replicate, lk] at h
  | [], k + 1, i + 1, x, h => by
    have := lk_app [] k i x (by simpa [List.replicate, lk] using h)
    simp at this
  | s :: ss, k, 0, x, h => by simpa [lk] using h
  | s :: ss, k, i + 1, x, h => by
    have := lk_app ss k i x (by simpa [lk] using h)
    simpa using this
theorem ArgsIs.get {F H : Hp} : ∀ {vs : List V} {ss : List Sl} {i : Nat} {x : Sl}, ArgsIs K mg F H vs ss → ss[i]? = some x → ∃ v, vs[i]? = some v ∧ ArgIs K mg F H v x
  | _, _, _, _, .nil, e => by simp at e
  | _, _, 0, _, .cons h _, e => by simp at e; subst e; exact ⟨_, rfl, h⟩
  | _, _, i + 1, _, .cons _ r, e => by
    obtain ⟨v, h1, h2⟩ := ArgsIs.get (i := i) r (by simpa using e)
    exact ⟨v, by simpa using h1, h2⟩
/-- the slots at the entry -/
theorem rep_start {F H : Hp} {vs : List V} {ss : List Sl} {N : List Str} {k : Nat} (hf : Same F H) (a : ArgsIs K mg F H vs ss) (hk : k = N.length - vs.length) :
    Rep K mg H F (ss.map some ++ List.replicate k none) (L2.start N vs) H := by
  subst hk
  have st : ∀ {i : Nat} {v : V}, vs[i]? = some v → (L2.start N vs)[i]? = some (some v) := fun {i v} e => by
    unfold L2.start
    have hi : i < vs.length := by
      by_cases q : i < vs.length
      · exact q
      · rw [List.getElem?_eq_none (by omega)] at e; cases e
    rw [List.getElem?_append_left (by simpa using hi), List.getElem?_map, e]
    rfl
  refine ⟨Same.refl _, hf, ?_, fun i s e => ?_, fun i j ds es p e1 e2 _ _ => ?_⟩
  · unfold L2.start
    simp only [List.length_append, List.length_map, List.length_replicate]
    rw [a.length]
  · obtain ⟨v, h1, h2⟩ := a.get (lk_app _ _ _ _ e)
    refine ⟨v, st h1, ?_⟩
    cases s with
    | val d => exact h2
    | own ds => exact h2.elim
    | bor ds => exact h2
  · obtain ⟨v, _, h2⟩ := a.get (lk_app _ _ _ _ e1)
    exact h2.elim
/-- A DEF KEEPS WHAT ITS TERM SAYS -/
theorem fn_sound {x qual : Str} {params : Arguments} {body : List Stmt} {scope : Scope} {dvs : List V} {kws : List (Str × V)} {f : Addr} {fd : FuncData} {N ps : List Str} {n : Nat} (fn : Fn)
    (F : FunD K x qual params body scope dvs kws f fd) (S : FnScope N ps scope) (hN : fn.n = N.length) (hp : fn.ps = ps.length) (G : Ground P mg base) (hn : 32 ≤ n)
    (hg : fn.body.good ⟨P, w, K, mg, base, n⟩) (hok : okSts N scope fn.body body = true) : FnOk P w K mg base (L2.CX P w) (n + 1) f fd ps (spOf K mg fn.den) := by
  have len : ∀ vs H Q E, spOf K mg fn.den vs H Q E → vs.length = ps.length := by
    rintro vs H Q E ⟨F', ss, _, a, q⟩
    rw [a.length, ← hp]
    unfold Fn.den at q
    split at q
    all_goals (split at * <;> first | assumption | (exact q.elim) | simp_all)
  refine F.ok S len fun cdv A outer s H vs Q E hr h => ?_
  refine ⟨tF _ (fun cls d _ H => E cls d H) (evSs fn.body), sndSs fn.body _ _ n (xt_of G S hr hn) (fun y hy => ⟨hy, .inl rfl⟩) hg body hok, ?_⟩
  obtain ⟨F', ss, hs, a, q⟩ := h
  have hl : ss.length = fn.ps := by
    rw [← a.length, hp]
    exact len vs H Q E ⟨F', ss, hs, a, q⟩
  unfold Fn.den at q
  rw [if_pos hl] at q
  refine ⟨H, F', _, rep_start hs a (show fn.n - fn.ps = N.length - vs.length by rw [hN, a.length, hl]), ?_⟩
  cases e : evSs fn.body (ss.map some ++ List.replicate (fn.n - fn.ps) none) with
  | bad => rw [e] at q; exact q
  | exc y e2 => rw [e] at q; exact fun F2 σ' H' cls dd g R hx => q F2 H' cls dd g R.h0 R.hf hx
  | ok fl =>
    rw [e] at q
    cases fl with
    | nx e2 => exact fun F2 σ' H' g R => q F2 H' _ g R.h0 R.hf .non
    | bk e2 => exact q.elim
    | ct e2 => exact q.elim
    | rt r =>
      cases r with
      | val d => exact fun F2 H' v g h1 h2 i => q F2 H' v g h1 h2 i
      | own ds => exact fun F2 H' v g h1 h2 ⟨p, ws, hv, z, fz, hp', all⟩ => by subst hv; exact q F2 H' p ws g h1 h2 z fz hp' all
      | bor ds => exact q.elim
end
end Ev
set_option Elab.async false
set_option linter.all false
set_option maxRecDepth 100000
set_option maxHeartbeats 1000000
namespace Ev
open PySem PySem.Spec PyProof.Rows L2

/-! ### the heap with the script hidden -/
section
variable {P : Program} {w : World} {K : PySem.W.Frag} {mg mb : Str → Option Value} {h : Heap} {H : Hp} {a b : Addr} {o₀ o : Obj} {m : Str → Option Value}
/-- H knows at most the script o₀ at a -/
structure Lone (h : Heap) (H : Hp) (a : Addr) (o₀ : Obj) : Prop where
  here : h.get? a = some o₀
  list : o₀.cls = .type "list"
  seq : ∀ es n, o₀.data ≠ .dict es n
  only : ∀ b, H b ≠ none → b = a
theorem Lone.keep (L : Lone h H a o₀) (e : h.get? b = some o) (ne : o ≠ o₀) : (hidT h H).get? b = some o := by
  refine hidT_get e (Classical.byContradiction fun q => ?_)
  have z := L.only b q
  subst z
  rw [L.here] at e
  exact ne (Option.some.inj e).symm
theorem Lone.ns (L : Lone h H a o₀) (x : h.Ns b m) : (hidT h H).Ns b m := by
  obtain ⟨o, es, ep, e, d, r⟩ := x
  exact ⟨o, es, ep, L.keep e fun z => L.seq es ep (z ▸ d), d, r⟩
theorem Lone.seer (L : Lone h H a o₀) (x : h.NoSeer) : (hidT h H).NoSeer := by
  obtain ⟨⟨mc, c1, c2⟩, ⟨mm, m1, m2⟩, ⟨mb, b1, b2⟩, ⟨mg, bm, ob, g1, g2, g3, g4, g5⟩⟩ := x
  refine ⟨⟨mc, L.ns c1, c2⟩, ⟨mm, L.ns m1, m2⟩, ⟨mb, L.ns b1, b2⟩, ⟨mg, bm, ob, L.ns g1, g2, L.keep g3 fun z => ?_, g4, g5⟩⟩
  rw [z, L.list] at g4
  exact absurd (Value.type.inj g4) (by decide)
theorem Lone.lim (L : Lone h H a o₀) (x : h.NoLimit) : (hidT h H).NoLimit := by
  obtain ⟨mc, h1, h2⟩ := x
  exact ⟨mc, L.ns h1, h2⟩
/-- the law's call, from what its def says of the script -/
theorem end_call {k : Nat} {fa : Addr} {fd : FuncData} {x : Str} {den : List Sl → Rf} {s₁ : Shared} {vs : List Value} {ns : List Int}
    (KX : K.In s₁.heap) (g1 : s₁.heap.Ns mainGlobals mg) (g2 : s₁.heap.Ns builtinsNs mb) (g3 : ∀ x : Str, x ≠ "__name__" → mb x = bootBuiltins x) (g4 : s₁.heap.NoLimit) (g5 : s₁.heap.NoSeer) (g6 : s₁.gens = #[])
    (ht : P.given.tree = none) (hfree : ∀ x ∈ bltFree, mg x = none)
    (ha : s₁.heap.get? a = some { cls := .type "list", data := .seq vs.toArray }) (hi : IntsAre vs ns) (hl : ns.length ≤ sizeLine) (hr : Room k callerA)
    (F : ∀ base : Heap, K.In base → base.Ns mainGlobals mg → Ground P mg base → FnOk P w K mg base (L2.CX P w) k fa fd [x] (spOf K mg den)) (hb : ∀ (s : Shared) (u : Value), BindsTo s fd ⟨[u], []⟩ [(x, u)])
    (hd : den [.val (.ro (ns.map D.int))] = .ok (.val (.bl true))) :
    codeAny (model P w) callerA (.call (.ref fa) ⟨[.ref a], []⟩) (fun r s' => r = .ok (.ret (.bool true)) ∧ OldK s₁.heap s'.heap ∧ s'.os = s₁.os ∧ AllBare s'.gens) s₁ := by
  have rv := vals_ints hi
  have main : ∀ H : Hp, Only H → SqL K H a (ns.map V.int) → HOk P w H s₁.heap → Lone s₁.heap H a { cls := .type "list", data := .seq vs.toArray } → (H a ≠ none → K.lookup a = none) →
      codeAny (model P w) callerA (.call (.ref fa) ⟨[.ref a], []⟩) (fun r s' => r = .ok (.ret (.bool true)) ∧ OldK s₁.heap s'.heap ∧ s'.os = s₁.os ∧ AllBare s'.gens) s₁ := by
    intro H hO hS hok L hK
    have kin : K.In (hidT s₁.heap H) := fun b o e => by
      refine hidT_get (KX b o e) (Classical.byContradiction fun q => ?_)
      have z := L.only b q
      subst z
      rw [hK q] at e
      cases e
    have gr : Ground P mg (hidT s₁.heap H) := ⟨L.seer g5, L.lim g4, ht, hfree⟩
    have md : Mod K mg (hidT s₁.heap H) := ⟨kin, L.ns g1, ⟨mb, L.ns g2, g3⟩, L.lim g4⟩
    have nil : ∀ b : Addr, b ∉ frs ([] : List Env) := fun b z => by cases z
    have e0 : Env0 P w K mg (hidT s₁.heap H) callerA [] s₁ H := ⟨rfl, md, fun b o e => of_hidT e, Nat.le_of_eq (hidT_size _ _), trivial, fun b z => (nil b z).elim, hok, .of_eq g6⟩
    have sp : spOf K mg den [.ref a] H (fun v _ => v = .bl true) fun _ _ _ => False := by
      refine ⟨H, [.val (.ro (ns.map D.int))], Same.refl _, .cons (.ro hS (.ints ns)) .nil, ?_⟩
      rw [hd]
      intro F' H' v _ _ _ i
      cases i
      rfl
    refine codeAny_mono ((F _ kin (L.ns g1) gr).run callerA [] s₁ H ⟨[.ref a], []⟩ [.ref a] [.ref a] _ _ hr e0 (hb s₁ (.ref a)) (.cons rfl .nil) sp) fun r s' z => ?_
    cases r with
    | error e =>
      obtain ⟨_, _, _, _, _, _, _, _, _, _, _, _, q⟩ := (show L2.CX P w [] H s₁ (fun _ _ _ => False) e s' from z)
      exact q.elim
    | ok fl =>
      cases fl with
      | next => cases z
      | brk => cases z
      | cont => cases z
      | ret u =>
        obtain ⟨v, H', os, bare, un, hok', r', q⟩ := z
        obtain rfl : v = .bl true := q
        obtain rfl : u = Value.bool true := r'
        refine ⟨rfl, OldK.of_keep fun b o e => ?_, os, bare⟩
        rcases hO b with z | ⟨ob, xs, z⟩
        · exact un.keep b o e z (nil b) (by simp)
        · have z2 := (hok' b _ (un.frzs b ob _ z)).1
          have z1 := (hok b _ z).1
          rw [e] at z1
          cases z1
          exact z2
  have sz : (ns.map V.int).length ≤ sizeLine := by rw [List.length_map]; exact hl
  have ln := hi.length
  cases hk : K.lookup a with
  | some o =>
    have e := KX a o hk
    rw [ha] at e
    cases e
    exact main (fun _ => none) (fun _ => .inl rfl) (.inr ⟨_, vs.toArray, _, hk, rfl, rfl, rfl, by rw [List.size_toArray, ln]; exact hl, by simpa using rv⟩) (fun b u z => nomatch (show (none : Option HO) = some u from z))
      ⟨ha, rfl, fun es n => by exact Data.noConfusion, fun b z => (z rfl).elim⟩ fun z => (z rfl).elim
  | none =>
    have at_ : ∀ b, (fun b => if b = a then some (HO.frz { cls := .type "list", data := .seq vs.toArray } (.lst (ns.map V.int))) else none : Hp) b ≠ none → b = a := fun b z => by
      by_cases q : b = a
      · exact q
      · exact (z (if_neg q)).elim
    refine main (fun b => if b = a then some (HO.frz { cls := .type "list", data := .seq vs.toArray } (.lst (ns.map V.int))) else none) (fun b => ?_) (.inl (.inr ⟨{ cls := .type "list", data := .seq vs.toArray }, if_pos rfl⟩)) (fun b u z => ?_) ⟨ha, rfl, fun es n => by exact Data.noConfusion, at_⟩ fun _ => hk
    · by_cases q : b = a
      · exact .inr ⟨_, _, if_pos q⟩
      · exact .inl (if_neg q)
    · have q := at_ b (by intro y; have y' := z.symm.trans y; cases y')
      subst q
      have z' := (if_pos rfl).symm.trans z
      cases z'
      exact ⟨ha, sz, vs, _, rv, ha⟩
end
/-- A LAW, from what its def says of every script -/
theorem walk_law {l : PySem.W.OpenLaw} {n k : Nat} {q : Program} {loose : List Str} {XP : (Str → Option Value) → Heap → Prop} {YP : World → Heap → Prop} {d : DefRec} {x : Str} {den : List Sl → Rf}
    (hn : l.most = some n) (hn2 : n ≤ sizeLine) (hdf : d.params.defaults = []) (hr : Room k callerA) (hi : importsNone q = true) (ht : l.prog.given.tree = none)
    (law : ∀ ns : List Int, ns.length ≤ n → (∀ z ∈ ns, Builtin.Int.intBits z ≤ 1048576) → den [.val (.ro (ns.map D.int))] = .ok (.val (.bl true)))
    (F : ∀ (w : World) (mg : Str → Option Value) (fa : Addr) (h : Heap), YP w h → h.Ns mainGlobals mg → mg d.name = some (.ref fa) →
      ∃ (K : PySem.W.Frag) (fd : FuncData), K.In h ∧ (∀ (s : Shared) (u : Value), BindsTo s fd ⟨[u], []⟩ [(x, u)]) ∧ (∀ x ∈ bltFree, mg x = none) ∧
        ∀ base : Heap, K.In base → base.Ns mainGlobals mg → Ground l.prog mg base → FnOk l.prog w K mg base (L2.CX l.prog w) k fa fd [x] (spOf K mg den)) :
    PySem.W.WalkO q loose XP YP l.row.toRowW d [] (fun f vs => PySem.call f vs) := by
  refine Att.attach_callB hn hdf fun w s₀ s₁ mg mb fa o pm cd doc a vs ns G Y _ _ _ hmg hobj hints hlen hbits hg => ?_
  obtain ⟨K, fd, KX, hb, hf, hF⟩ := F w mg fa _ Y G.T.g hmg
  exact end_call KX G.T.g G.T.b G.T.builtins G.T.nolimit (G.T.seer hi) hg ht hf hobj hints (Nat.le_trans hlen hn2) hr hF hb (law ns hlen hbits)
/-! ### the head's facts -/
open He
/-- facts by names, and one more test of what the module reaches -/
def hkX (n : Nat) (fa : List Fa) (fn : List DefD) (xf : PySem.W.Frag → Bool) : PySem.W.Hook where
  α := AlD × Bool
  obs := fun s => (obsD fa fn (frG s.heap.get? (He.asD s.heap.get? n)), xf (frG s.heap.get? (He.asD s.heap.get? n)))
  val := fun _ => (valD fn, true)
  says := fun _ h => ∃ K : PySem.W.Frag, K.In h ∧ SaysD fa fn K ∧ xf K = true
  of := fun _ _ e => ⟨_, frG_in, congrArg Prod.fst e, congrArg Prod.snd e⟩
  keeps := fun _ _ _ ⟨K, hK, c⟩ k => ⟨K, PySem.W.Frag.In.keeps hK k, c⟩
def obX (n : Nat) (fa : List Fa) (fn : List DefD) (xf : PySem.W.Frag → Bool) (g : Addr → Option Obj) : AlD × Bool := (obsD fa fn (frG g (He.asD g n)), xf (frG g (He.asD g n)))
theorem obX_eq {n : Nat} {fa : List Fa} {fn : List DefD} {xf : PySem.W.Frag → Bool} {g : Addr → Option Obj} {s : Shared} (h : ∀ a, g a = s.heap.get? a) : obX n fa fn xf g = (hkX n fa fn xf).obs s := by
  obtain rfl : g = s.heap.get? := funext h
  rfl
/-- a global that is one of the built-in functions -/
def isBlt (x : Str) (b : String) (K : PySem.W.Frag) : Bool := decide (PySem.W.nsIn K mainGlobals x = some (some (.builtin b)))
section
variable {P : Program} {w : World} {K : PySem.W.Frag} {mg : Str → Option Value} {base h : Heap}
theorem isBlt_ok (X : K.In h) (G : h.Ns mainGlobals mg) {x : Str} {b : String} (c : isBlt x b K = true) : mg x = some (.builtin b) := PySem.W.mg_of X G (of_decide_eq_true c)
theorem fnG_mono {m n : Nat} {f : Str} {den : List Sl → Rf} {dfl : List D} (hm : n ≤ m) (h : FnG ⟨P, w, K, mg, base, n⟩ f den dfl) : FnG ⟨P, w, K, mg, base, m⟩ f den dfl := by
  obtain ⟨fa, fd, ps, ds, dvs, h1, h2, h3, h4⟩ := h
  exact ⟨fa, fd, ps, ds, dvs, h1, h2, h3.mono hm, h4⟩
/-- a def of the head, as a callee -/
theorem fnG_of {d : DefD} {fd : FuncData} {N ps : List Str} {n : Nat} (fn : Fn) {vs : List V} {dfl : List D}
    (F : FunD K d.name d.qual d.params d.body d.scope (d.dvs K) (d.kws K) (fAd K d.at_) fd) (hat : d.at_.2 = none) (S : FnScope N ps d.scope) (hN : fn.n = N.length) (hp : fn.ps = ps.length) (G : Ground P mg base) (hn : 32 ≤ n)
    (hg : fn.body.good ⟨P, w, K, mg, base, n⟩) (hok : okSts N d.scope fn.body d.body = true) (hmg : mg d.at_.1 = some (.ref (ga K d.at_.1))) (hb : ∃ ds, Vals vs ds ∧ Binds K fd ps ds) (hv : ∀ F, IsAll K mg F vs dfl) :
    FnG ⟨P, w, K, mg, base, n + 1⟩ d.at_.1 fn.den dfl := by
  have e : fAd K d.at_ = ga K d.at_.1 := by unfold fAd; rw [hat]
  rw [e] at F
  obtain ⟨ds, r, b⟩ := hb
  exact ⟨_, fd, ps, ds, vs, hmg, F.kp, fn_sound fn F S hN hp G hn hg hok, b, r, hv⟩
end
end Ev
set_option Elab.async false
set_option linter.all false
set_option maxRecDepth 100000
namespace Ev
open PySem PySem.Spec

/-! ### sizes -/
def Bd (k : Nat) (x : Int) : Prop := x.natAbs < 2 ^ k
theorem Bd.mono {j k : Nat} {x : Int} (h : Bd j x) (q : j ≤ k) : Bd k x := Nat.lt_of_lt_of_le h (Nat.pow_le_pow_right (by decide) q)
theorem Bd.neg {k : Nat} {x : Int} (h : Bd k x) : Bd k (-x) := by unfold Bd at *; rwa [Int.natAbs_neg]
theorem Bd.mul {j k : Nat} {x y : Int} (h : Bd j x) (q : Bd k y) : Bd (j + k) (x * y) := by
  unfold Bd at *
  rw [Int.natAbs_mul, Nat.pow_add]
  have p1 : 0 < 2 ^ k := Nat.pow_pos (by decide)
  calc x.natAbs * y.natAbs ≤ x.natAbs * 2 ^ k := Nat.mul_le_mul_left _ (Nat.le_of_lt q)
    _ < 2 ^ j * 2 ^ k := Nat.mul_lt_mul_of_pos_right h p1
theorem Bd.add {k : Nat} {x y : Int} (h : Bd k x) (q : Bd k y) : Bd (k + 1) (x + y) := by
  unfold Bd at *
  have := Int.natAbs_add_le x y
  rw [Nat.pow_succ]
  omega
theorem Bd.sub {k : Nat} {x y : Int} (h : Bd k x) (q : Bd k y) : Bd (k + 1) (x - y) := by
  rw [Int.sub_eq_add_neg]
  exact h.add q.neg
theorem Bd.of_le {k : Nat} {x y : Int} (h : Bd k y) (q : x.natAbs ≤ y.natAbs) : Bd k x := Nat.lt_of_le_of_lt q h
theorem Bd.log2 {k : Nat} {x : Int} (h : Bd k x) (hk : 0 < k) : x.natAbs.log2 < k := by
  by_cases z : x.natAbs = 0
  · rw [z]; simpa using hk
  · exact (Nat.log2_lt z).mpr h
theorem mulOk_of {j k : Nat} {x y : Int} (h : Bd j x) (q : Bd k y) (l : j + k ≤ 90000000) : mulOk x y = true := by
  have h1 := (h.mono (Nat.le_add_right j 1)).log2 (Nat.succ_pos _)
  have h2 := (q.mono (Nat.le_add_right k 1)).log2 (Nat.succ_pos _)
  unfold mulOk
  rw [decide_eq_true (show x.natAbs.log2 + y.natAbs.log2 < 100000000 by omega)]
  simp

/-! ### loops -/
theorem loopN_succ {c : En → R (Bool × En)} {b : En → R Fl} : ∀ {n : Nat} {e : En} {r : R Fl}, loopN c b n e = some r → loopN c b (n + 1) e = some r
  | 0, _, _, h => by cases h
  | n + 1, e, r, h => by
    unfold loopN at h ⊢
    cases q : c e with
    | bad => rw [q] at h; exact h
    | exc x e2 => rw [q] at h; exact h
    | ok p =>
      obtain ⟨v, e1⟩ := p
      rw [q] at h
      cases v with
      | false => exact h
      | true =>
        dsimp only at h ⊢
        cases q2 : b e1 with
        | bad => rw [q2] at h; exact h
        | exc x e2 => rw [q2] at h; exact h
        | ok f =>
          rw [q2] at h
          cases f with
          | nx e2 => exact loopN_succ h
          | ct e2 => exact loopN_succ h
          | bk e2 => exact h
          | rt s => exact h
theorem loopN_add {c : En → R (Bool × En)} {b : En → R Fl} {n : Nat} {e : En} {r : R Fl} (h : loopN c b n e = some r) : ∀ k, loopN c b (n + k) e = some r
  | 0 => h
  | k + 1 => loopN_succ (loopN_add h k)
theorem whileD_of {c : En → R (Bool × En)} {b : En → R Fl} {n : Nat} {e : En} {r : R Fl} (h : loopN c b n e = some r) : whileD c b e = r := by
  unfold whileD
  have ex : ∃ n r, loopN c b n e = some r := ⟨n, r, h⟩
  rw [dif_pos ex]
  have q := ex.choose_spec.choose_spec
  have h1 := loopN_add h ex.choose
  have h2 := loopN_add q n
  rw [Nat.add_comm] at h2
  exact Option.some.inj (h2.symm.trans h1)
/-- one turn -/
theorem loopN_step {c : En → R (Bool × En)} {b : En → R Fl} {n : Nat} {e e1 e2 : En} {r : R Fl} (h1 : c e = .ok (true, e1)) (h2 : b e1 = .ok (.nx e2)) (h : loopN c b n e2 = some r) : loopN c b (n + 1) e = some r := by
  unfold loopN
  rw [h1]
  dsimp only
  rw [h2]
  exact h
theorem loopN_done {c : En → R (Bool × En)} {b : En → R Fl} {e e1 : En} (h1 : c e = .ok (false, e1)) : loopN c b 1 e = some (.ok (.nx e1)) := by
  unfold loopN
  rw [h1]

/-! ### what stands in a place -/
theorem es_nil (e : En) : evSs .nil e = .ok (.nx e) := rfl
theorem es_cons (a : Stm) (as : Stms) (e : En) : evSs (.cons a as) e = match evS a e with
    | .ok (.nx e2) => evSs as e2
    | r => r := rfl
theorem es_asgN (i : Nat) (x : Str) (a : Ex) (e : En) : evS (.asg (.nm i x) a) e = R.bind (evO a e) fun p => .ok (.nx (sv p.2 i (some p.1))) := rfl
theorem es_asgT (ts : Tgts) (a : Ex) (e : En) : evS (.asg (.tup ts) a) e = R.bind (evE a e) fun p => match setT (.tup ts) p.1 p.2 with
    | some e2 => .ok (.nx e2)
    | none => .bad := rfl
theorem es_par (i : Nat) (x : Str) (j : Nat) (y : Str) (a b : Ex) (e : En) : evS (.par i x j y a b) e = R.bind (evE a e) fun p => R.bind (evE b p.2) fun q => .ok (.nx (sv (sv q.2 i (some (.val p.1))) j (some (.val q.1)))) := rfl
theorem es_if (c : Ex) (a b : Stms) (e : En) : evS (.ite c a b) e = R.bind (R.bind (evE c e) fun p => truthR p.1 p.2) fun b1 => if b1.1 then evSs a b1.2 else evSs b b1.2 := rfl
theorem es_while (c : Ex) (a : Stms) (e : En) : evS (.while c a) e = whileD (fun e => R.bind (evE c e) fun p => truthR p.1 p.2) (fun e => evSs a e) e := rfl
theorem es_for (t : Tgt) (it : Itr) (a : Stms) (e : En) : evS (.for t it a) e = R.bind (evI it e) fun q => forD (fun x e => match setT t x e with
      | some e1 => evSs a e1
      | none => .bad) q.1 q.2 := rfl
theorem es_ret (a : Ex) (e : En) : evS (.ret a) e = match varIx a with
    | some i => match lk e i with
      | some (.val d) => .ok (.rt (.val d))
      | some (.own ds) => .ok (.rt (.own ds))
      | _ => .bad
    | none => R.bind (evO a e) fun p => .ok (.rt p.1) := rfl
theorem es_retN (e : En) : evS .retN e = .ok (.rt (.val .non)) := rfl
theorem es_never (e : En) : evS .never e = .bad := rfl
theorem o_prim (p : Prim) (as : Exs) (e : En) : evO (.prim p as) e = R.bind (evA as e) fun q => match pds q.2 q.1 with
    | some l => okS q.2 (evPrim p l)
    | none => .bad := rfl
theorem o_call (f : Str) (den : List Sl → Rf) (dfl : List D) (as : Exs) (e : En) : evO (.call f den dfl as) e = R.bind (evA as e) fun q => match pds q.2 q.1 with
    | some l => rfS q.2 (den (l ++ dfl.map Sl.val))
    | none => .bad := rfl
theorem o_var (i : Nat) (x : Str) (e : En) : evO (.var i x) e = R.bind (evE (.var i x) e) fun p => .ok (.val p.1, p.2) := rfl
theorem o_con (c : Const) (e : En) : evO (.con c) e = R.bind (evE (.con c) e) fun p => .ok (.val p.1, p.2) := rfl
theorem o_glob (x : Str) (d : D) (e : En) : evO (.glob x d) e = .ok (.val d, e) := rfl
theorem o_isi (t : Ty) (as : Exs) (e : En) : evO (.isi t as) e = R.bind (evE (.isi t as) e) fun p => .ok (.val p.1, p.2) := rfl
theorem o_and (a b : Ex) (e : En) : evO (.and a b) e = R.bind (evE (.and a b) e) fun p => .ok (.val p.1, p.2) := rfl
theorem o_or (a b : Ex) (e : En) : evO (.or a b) e = R.bind (evE (.or a b) e) fun p => .ok (.val p.1, p.2) := rfl
theorem o_not (a : Ex) (e : En) : evO (.not a) e = R.bind (evE (.not a) e) fun p => .ok (.val p.1, p.2) := rfl
theorem o_ite (c a b : Ex) (e : En) : evO (.ite c a b) e = R.bind (evE (.ite c a b) e) fun p => .ok (.val p.1, p.2) := rfl
theorem o_chain (p q : Prim) (a b c : Ex) (e : En) : evO (.chain p q a b c) e = R.bind (evE (.chain p q a b c) e) fun p => .ok (.val p.1, p.2) := rfl
theorem e_var (i : Nat) (x : Str) (e : En) : evE (.var i x) e = match lk e i with
    | some (.val d) => .ok (d, e)
    | some (.own ds) => .ok (.lst ds, sv e i (some (.val (.lst ds))))
    | _ => .bad := rfl
theorem e_rd (i : Nat) (x : Str) (e : En) : evE (.rd i x) e = match lk e i with
    | some (.val d) => .ok (d, e)
    | _ => .bad := rfl
theorem e_int (i : Int) (e : En) : evE (.con (.int i)) e = .ok (.int i, e) := rfl
theorem e_bl (i : Bool) (e : En) : evE (.con (.bool i)) e = .ok (.bl i, e) := rfl
theorem e_non (e : En) : evE (.con .none) e = .ok (.non, e) := rfl
theorem e_str (s : Str) (e : En) : evE (.con (.str s)) e = .ok (.str s, e) := rfl
theorem e_glob (x : Str) (d : D) (e : En) : evE (.glob x d) e = .ok (d, e) := rfl
theorem e_prim (p : Prim) (as : Exs) (e : En) : evE (.prim p as) e = R.bind (evA as e) fun q => match pds q.2 q.1 with
    | some l => okD q.2 (evPrim p l)
    | none => .bad := rfl
theorem e_isi (t : Ty) (as : Exs) (e : En) : evE (.isi t as) e = R.bind (evA as e) fun q => match pds q.2 q.1 with
    | some [s] => match isiD t s with
      | some b => .ok (.bl b, q.2)
      | none => .bad
    | _ => .bad := rfl
theorem e_call (f : Str) (den : List Sl → Rf) (dfl : List D) (as : Exs) (e : En) : evE (.call f den dfl as) e = R.bind (evA as e) fun q => match pds q.2 q.1 with
    | some l => R.bind (rfS q.2 (den (l ++ dfl.map Sl.val))) frozR
    | none => .bad := rfl
theorem e_and (a b : Ex) (e : En) : evE (.and a b) e = R.bind (evE a e) fun p => match truth p.1 with
    | some true => evE b p.2
    | some false => .ok p
    | none => .bad := rfl
theorem e_or (a b : Ex) (e : En) : evE (.or a b) e = R.bind (evE a e) fun p => match truth p.1 with
    | some true => .ok p
    | some false => evE b p.2
    | none => .bad := rfl
theorem e_not (a : Ex) (e : En) : evE (.not a) e = R.bind (evE a e) fun p => match truth p.1 with
    | some b => .ok (.bl (!b), p.2)
    | none => .bad := rfl
theorem e_ite (c a b : Ex) (e : En) : evE (.ite c a b) e = R.bind (evE c e) fun p => match truth p.1 with
    | some true => evE a p.2
    | some false => evE b p.2
    | none => .bad := rfl
theorem ea_nil (e : En) : evA .nil e = .ok ([], e) := rfl
theorem ea_rd (i : Nat) (x : Str) (as : Exs) (e : En) : evA (.cons (.rd i x) as) e = R.bind (slotR i e) fun p => R.bind (evA as p.2) fun q => .ok (p.1 :: q.1, q.2) := rfl
theorem ea_cons (a : Ex) (as : Exs) (e : En) (h : rdIx a = none) : evA (.cons a as) e = R.bind (evE a e) fun p => R.bind (evA as p.2) fun q => .ok (.d p.1 :: q.1, q.2) := by
  cases a <;> first | rfl | cases h
theorem ea_var (i : Nat) (x : Str) (as : Exs) (e : En) : evA (.cons (.var i x) as) e = R.bind (evE (.var i x) e) fun p => R.bind (evA as p.2) fun q => .ok (.d p.1 :: q.1, q.2) := rfl
theorem ea_con (c : Const) (as : Exs) (e : En) : evA (.cons (.con c) as) e = R.bind (evE (.con c) e) fun p => R.bind (evA as p.2) fun q => .ok (.d p.1 :: q.1, q.2) := rfl
theorem ea_glob (x : Str) (d : D) (as : Exs) (e : En) : evA (.cons (.glob x d) as) e = R.bind (evE (.glob x d) e) fun p => R.bind (evA as p.2) fun q => .ok (.d p.1 :: q.1, q.2) := rfl
theorem ea_prim (p : Prim) (bs : Exs) (as : Exs) (e : En) : evA (.cons (.prim p bs) as) e = R.bind (evE (.prim p bs) e) fun p => R.bind (evA as p.2) fun q => .ok (.d p.1 :: q.1, q.2) := rfl
theorem ea_isi (t : Ty) (bs : Exs) (as : Exs) (e : En) : evA (.cons (.isi t bs) as) e = R.bind (evE (.isi t bs) e) fun p => R.bind (evA as p.2) fun q => .ok (.d p.1 :: q.1, q.2) := rfl
theorem ea_call (f : Str) (den : List Sl → Rf) (dfl : List D) (bs : Exs) (as : Exs) (e : En) : evA (.cons (.call f den dfl bs) as) e = R.bind (evE (.call f den dfl bs) e) fun p => R.bind (evA as p.2) fun q => .ok (.d p.1 :: q.1, q.2) := rfl
theorem ea_and (a b : Ex) (as : Exs) (e : En) : evA (.cons (.and a b) as) e = R.bind (evE (.and a b) e) fun p => R.bind (evA as p.2) fun q => .ok (.d p.1 :: q.1, q.2) := rfl
theorem ea_or (a b : Ex) (as : Exs) (e : En) : evA (.cons (.or a b) as) e = R.bind (evE (.or a b) e) fun p => R.bind (evA as p.2) fun q => .ok (.d p.1 :: q.1, q.2) := rfl
theorem ea_not (a : Ex) (as : Exs) (e : En) : evA (.cons (.not a) as) e = R.bind (evE (.not a) e) fun p => R.bind (evA as p.2) fun q => .ok (.d p.1 :: q.1, q.2) := rfl
theorem ea_ite (c a b : Ex) (as : Exs) (e : En) : evA (.cons (.ite c a b) as) e = R.bind (evE (.ite c a b) e) fun p => R.bind (evA as p.2) fun q => .ok (.d p.1 :: q.1, q.2) := rfl
theorem ea_chain (p q : Prim) (a b c : Ex) (as : Exs) (e : En) : evA (.cons (.chain p q a b c) as) e = R.bind (evE (.chain p q a b c) e) fun p => R.bind (evA as p.2) fun q => .ok (.d p.1 :: q.1, q.2) := rfl
theorem ea_slc (a : Ex) (lo hi : Oe) (as : Exs) (e : En) : evA (.cons (.slc a lo hi) as) e = R.bind (evE (.slc a lo hi) e) fun p => R.bind (evA as p.2) fun q => .ok (.d p.1 :: q.1, q.2) := rfl
theorem ea_comp (own : List (Str × Nat)) (tg : Tgt) (it : Itr) (elt : Ex) (as : Exs) (e : En) : evA (.cons (.comp own tg it elt) as) e = R.bind (evE (.comp own tg it elt) e) fun p => R.bind (evA as p.2) fun q => .ok (.d p.1 :: q.1, q.2) := rfl
theorem ea_compif (own : List (Str × Nat)) (tg : Tgt) (it : Itr) (c elt : Ex) (as : Exs) (e : En) : evA (.cons (.compif own tg it c elt) as) e = R.bind (evE (.compif own tg it c elt) e) fun p => R.bind (evA as p.2) fun q => .ok (.d p.1 :: q.1, q.2) := rfl
theorem r_var (i : Nat) (x : Str) : varIx (.var i x) = some i := rfl
theorem r_prim (p : Prim) (as : Exs) : varIx (.prim p as) = none := rfl
theorem r_con (c : Const) : varIx (.con c) = none := rfl
theorem r_glob (x : Str) (d : D) : varIx (.glob x d) = none := rfl
theorem r_call (f : Str) (den : List Sl → Rf) (dfl : List D) (bs : Exs) : varIx (.call f den dfl bs) = none := rfl
theorem r_isi (t : Ty) (as : Exs) : varIx (.isi t as) = none := rfl
theorem r_and (a b : Ex) : varIx (.and a b) = none := rfl
theorem r_or (a b : Ex) : varIx (.or a b) = none := rfl
theorem r_not (a : Ex) : varIx (.not a) = none := rfl
theorem r_ite (c a b : Ex) : varIx (.ite c a b) = none := rfl
theorem r_chain (p q : Prim) (a b c : Ex) : varIx (.chain p q a b c) = none := rfl
theorem t_bl (b : Bool) : truth (.bl b) = some b := rfl
theorem t_int (i : Int) : truth (.int i) = some (i != 0) := rfl
theorem tr_bl (b : Bool) (e : En) : truthR (.bl b) e = .ok (b, e) := rfl
theorem okD_d (e : En) (d : D) : okD e (.d d) = .ok (d, e) := rfl
theorem okD_l (e : En) (d : List D) : okD e (.l d) = .ok (.lst d, e) := rfl
theorem okS_d (e : En) (d : D) : okS e (.d d) = .ok (.val d, e) := rfl
theorem okS_l (e : En) (d : List D) : okS e (.l d) = .ok (.own d, e) := rfl
theorem rf_val (e : En) (d : D) : rfS e (.ok (.val d)) = .ok (.val d, e) := rfl
theorem rf_own (e : En) (d : List D) : rfS e (.ok (.own d)) = .ok (.own d, e) := rfl
theorem fz_val (e : En) (d : D) : frozR (.val d, e) = .ok (d, e) := rfl
theorem fz_own (e : En) (d : List D) : frozR (.own d, e) = .ok (.lst d, e) := rfl
theorem pd_nil (e : En) : pds e [] = some [] := rfl
theorem pd_c (e : En) (p : Pd) (r : List Pd) : pds e (p :: r) = match p.sl e, pds e r with
    | some s, some l => some (s :: l)
    | _, _ => none := rfl
theorem sl_d (e : En) (x : D) : Pd.sl e (.d x) = some (.val x) := rfl
theorem sl_s (e : En) (i : Nat) : Pd.sl e (.slot i) = match lk e i with
    | some (.val y) => some (.val y)
    | some (.own ds) => some (.bor ds)
    | some (.bor ds) => some (.bor ds)
    | none => none := rfl
theorem i_seq (a : Ex) (e : En) : evI (.seq a) e = R.bind (evE a e) fun p => match seqD p.1 with
    | some l => .ok (l, p.2)
    | none => .bad := rfl
theorem i_rng (as : Exs) (e : En) : evI (.rng as) e = R.bind (evA as e) fun q => match pds q.2 q.1 with
    | some l => R.bind (rngOf l) fun l => .ok (l, q.2)
    | none => .bad := rfl
theorem f_nil (b : D → En → R Fl) (e : En) : forD b [] e = .ok (.nx e) := rfl
theorem f_cons (b : D → En → R Fl) (x : D) (r : List D) (e : En) : forD b (x :: r) e = match b x e with
    | .ok (.nx e2) => forD b r e2
    | .ok (.ct e2) => forD b r e2
    | .ok (.bk e2) => .ok (.nx e2)
    | .ok (.rt s) => .ok (.rt s)
    | .exc x e2 => .exc x e2
    | .bad => .bad := rfl
theorem l_0 (s : Option Sl) (r : En) : lk (s :: r) 0 = s := rfl
theorem l_s (s : Option Sl) (r : En) (i : Nat) : lk (s :: r) (i + 1) = lk r i := rfl
theorem v_0 (s : Option Sl) (r : En) (x : Option Sl) : sv (s :: r) 0 x = x :: r := rfl
theorem v_s (s : Option Sl) (r : En) (i : Nat) (x : Option Sl) : sv (s :: r) (i + 1) x = s :: sv r i x := rfl
theorem p_mul (a b : Int) (h : mulOk a b = true) : evPrim .mul [.val (.int a), .val (.int b)] = .d (.int (a * b)) := by
  show (if mulOk a b = true then _ else _) = _
  rw [if_pos h]
theorem p_add (a b : Int) : evPrim .add [.val (.int a), .val (.int b)] = .d (.int (a + b)) := rfl
theorem p_sub (a b : Int) : evPrim .sub [.val (.int a), .val (.int b)] = .d (.int (a - b)) := rfl
theorem p_fdiv (a b : Int) (h : b ≠ 0) : evPrim .fdiv [.val (.int a), .val (.int b)] = .d (.int (a.fdiv b)) := by
  show (if b = 0 then _ else _) = _
  rw [if_neg h]
theorem p_mod (a b : Int) (h : b ≠ 0) : evPrim .mod [.val (.int a), .val (.int b)] = .d (.int (a.fmod b)) := by
  show (if b = 0 then _ else _) = _
  rw [if_neg h]
theorem p_neg (a : Int) : evPrim .neg [.val (.int a)] = .d (.int (-a)) := rfl
theorem p_eq (a b : Int) : evPrim .eq [.val (.int a), .val (.int b)] = .d (.bl (decide (a = b))) := rfl
theorem p_ne (a b : Int) : evPrim .ne [.val (.int a), .val (.int b)] = .d (.bl (!decide (a = b))) := rfl
theorem p_lt (a b : Int) : evPrim .lt [.val (.int a), .val (.int b)] = .d (.bl (decide (a < b))) := rfl
theorem p_le (a b : Int) : evPrim .le [.val (.int a), .val (.int b)] = .d (.bl (decide (a ≤ b))) := rfl
theorem p_gt (a b : Int) : evPrim .gt [.val (.int a), .val (.int b)] = .d (.bl (decide (b < a))) := rfl
theorem p_ge (a b : Int) : evPrim .ge [.val (.int a), .val (.int b)] = .d (.bl (decide (b ≤ a))) := rfl
theorem p_abs (a : Int) : evPrim .abs [.val (.int a)] = .d (.int (if a < 0 then -a else a)) := rfl
theorem p_int (a : Int) : evPrim .int [.val (.int a)] = .d (.int a) := rfl
theorem p_gcd (a b : Int) : evPrim .gcd [.val (.int a), .val (.int b)] = .d (.int (Int.gcd a b)) := rfl
theorem atD_nat (xs : List D) (k : Nat) (h : k < xs.length) : atD xs (k : Int) = xs[k]? := by
  unfold atD L2.atI L2.ixN
  rw [if_pos (by omega), if_pos (by omega)]
  simp
theorem p_idxT (x : List D) (i : Int) : evPrim .idx [.val (.tup x), .val (.int i)] = ofO (atD x i) := rfl
theorem p_i0 (a : D) (r : List D) : evPrim .idx [.val (.tup (a :: r)), .val (.int 0)] = .d a := by
  rw [p_idxT, show (0 : Int) = ((0 : Nat) : Int) from rfl, atD_nat _ _ (by simp)]
  rfl
theorem p_i1 (a b : D) (r : List D) : evPrim .idx [.val (.tup (a :: b :: r)), .val (.int 1)] = .d b := by
  rw [p_idxT, show (1 : Int) = ((1 : Nat) : Int) from rfl, atD_nat _ _ (by simp)]
  rfl
theorem p_lenT (x : List D) : evPrim .len [.val (.tup x)] = .d (.int x.length) := rfl
theorem p_t2 (a b : D) : evPrim .tup [.val a, .val b] = .d (.tup [a, b]) := rfl
theorem den_of {ps n : Nat} {body : Stms} {as : List Sl} {d : D} (hl : as.length = ps) (h : evSs body (as.map some ++ List.replicate (n - ps) none) = .ok (.rt (.val d))) : Fn.den ⟨ps, n, body⟩ as = .ok (.val d) := by
  unfold Fn.den
  rw [if_pos hl]
  dsimp only
  rw [h]
theorem den_own {ps n : Nat} {body : Stms} {as : List Sl} {d : List D} (hl : as.length = ps) (h : evSs body (as.map some ++ List.replicate (n - ps) none) = .ok (.rt (.own d))) : Fn.den ⟨ps, n, body⟩ as = .ok (.own d) := by
  unfold Fn.den
  rw [if_pos hl]
  dsimp only
  rw [h]

/-! ### for and comprehensions -/
/-- a for whose turns all go on: a fold -/
theorem forD_fold {α S : Type} {b : D → En → R Fl} (g : α → D) (f : S → α → S) (I : S → En → Prop) : ∀ (xs : List α) (s : S) (e : En),
    (∀ x ∈ xs, ∀ s e, I s e → ∃ e', (b (g x) e = .ok (.nx e') ∨ b (g x) e = .ok (.ct e')) ∧ I (f s x) e') → I s e → ∃ e', forD b (xs.map g) e = .ok (.nx e') ∧ I (xs.foldl f s) e'
  | [], s, e, _, h => ⟨e, rfl, h⟩
  | x :: xs, s, e, hb, h => by
    obtain ⟨e1, q, h1⟩ := hb x (List.mem_cons_self ..) s e h
    obtain ⟨e2, q2, h2⟩ := forD_fold g f I xs (f s x) e1 (fun y hy => hb y (List.mem_cons_of_mem _ hy)) h1
    refine ⟨e2, ?_, h2⟩
    rw [List.map_cons, f_cons]
    rcases q with q | q <;> (rw [q]; exact q2)
theorem forD_all {α : Type} {b : D → En → R Fl} (g : α → D) (I : En → Prop) (xs : List α) (e : En)
    (hb : ∀ x ∈ xs, ∀ e, I e → ∃ e', (b (g x) e = .ok (.nx e') ∨ b (g x) e = .ok (.ct e')) ∧ I e') (h : I e) : ∃ e', forD b (xs.map g) e = .ok (.nx e') ∧ I e' := by
  obtain ⟨e', q, h'⟩ := forD_fold (S := Unit) g (fun s _ => s) (fun _ e => I e) xs () e (fun x hx _ e h => hb x hx e h) h
  exact ⟨e', q, h'⟩
/-- a for that may return -/
theorem forD_find {α : Type} {b : D → En → R Fl} (g : α → D) (I : En → Prop) (r : α → Option Sl) : ∀ (xs : List α) (e : En),
    (∀ x ∈ xs, ∀ e, I e → match r x with
      | some s => b (g x) e = .ok (.rt s)
      | none => ∃ e', (b (g x) e = .ok (.nx e') ∨ b (g x) e = .ok (.ct e')) ∧ I e') → I e →
    match xs.findSome? r with
      | some s => forD b (xs.map g) e = .ok (.rt s)
      | none => ∃ e', forD b (xs.map g) e = .ok (.nx e') ∧ I e'
  | [], e, _, h => ⟨e, rfl, h⟩
  | x :: xs, e, hb, h => by
    have q := hb x (List.mem_cons_self ..) e h
    rw [List.findSome?_cons]
    cases hr : r x with
    | some s =>
      rw [hr] at q
      dsimp only at q ⊢
      rw [List.map_cons, f_cons, q]
    | none =>
      rw [hr] at q
      obtain ⟨e1, q, h1⟩ := q
      have ih := forD_find g I r xs e1 (fun y hy => hb y (List.mem_cons_of_mem _ hy)) h1
      dsimp only
      cases z : xs.findSome? r with
      | some s =>
        rw [z] at ih
        dsimp only at ih ⊢
        rw [List.map_cons, f_cons]
        rcases q with q | q <;> (rw [q]; exact ih)
      | none =>
        rw [z] at ih
        obtain ⟨e2, q2, h2⟩ := ih
        refine ⟨e2, ?_, h2⟩
        rw [List.map_cons, f_cons]
        rcases q with q | q <;> (rw [q]; exact q2)
theorem compD_of {α β : Type} {turn : D → R (Option D)} (g : α → D) (p : α → Option β) (h : β → D) : ∀ xs : List α, (∀ x ∈ xs, turn (g x) = .ok ((p x).map h)) → compD turn (xs.map g) = .ok ((xs.filterMap p).map h)
  | [], _ => rfl
  | x :: xs, q => by
    have ih := compD_of g p h xs fun y hy => q y (List.mem_cons_of_mem _ hy)
    rw [List.map_cons]
    unfold compD
    rw [q x (List.mem_cons_self ..), R.bind_ok, ih, R.bind_ok, List.filterMap_cons]
    cases p x <;> rfl
theorem filterMap_ite {α : Type} (p : α → Bool) : ∀ xs : List α, xs.filterMap (fun x => if p x then some x else none) = xs.filter p
  | [] => rfl
  | a :: r => by
    have ih := filterMap_ite p r
    cases hp : p a <;> simp [hp, ih]
theorem comp_of {α : Type} {own : List (Str × Nat)} {tg : Tgt} {it : Itr} {elt : Ex} {e e1 : En} (xs : List α) (g : α → D) (h : α → D) (hi : evI it e = .ok (xs.map g, e1))
    (ht : ∀ x ∈ xs, ∃ e2 e3, setT tg (g x) (wipeE (lend e1) (own.map (·.2))) = some e2 ∧ evE elt e2 = .ok (h x, e3)) (hl : xs.length ≤ lim) : evO (.comp own tg it elt) e = .ok (.own (xs.map h), e1) ∧ evE (.comp own tg it elt) e = .ok (.lst (xs.map h), e1) := by
  have k : evE (.comp own tg it elt) e = .ok (.lst (xs.map h), e1) := by
    show R.bind (evI it e) _ = _
    rw [hi, R.bind_ok]
    dsimp only
    rw [compD_of g (fun x => some x) h xs fun x hx => ?_]
    · rw [show xs.filterMap (fun x => some x) = xs by simp]
      show (if (xs.map h).length ≤ lim then _ else _) = _
      rw [if_pos (by simpa using hl)]
    · obtain ⟨e2, e3, h1, h2⟩ := ht x hx
      rw [h1]
      dsimp only
      rw [h2]
      rfl
  refine ⟨?_, k⟩
  show R.bind (evE (.comp own tg it elt) e) _ = _
  rw [k]
  rfl
theorem compif_of {α : Type} {own : List (Str × Nat)} {tg : Tgt} {it : Itr} {c elt : Ex} {e e1 : En} (xs : List α) (g : α → D) (p : α → Bool) (h : α → D) (hi : evI it e = .ok (xs.map g, e1))
    (ht : ∀ x ∈ xs, ∃ e2 e3, setT tg (g x) (wipeE (lend e1) (own.map (·.2))) = some e2 ∧ evE c e2 = .ok (.bl (p x), e3) ∧ (p x = true → ∃ e4, evE elt e3 = .ok (h x, e4))) (hl : xs.length ≤ lim) :
    evO (.compif own tg it c elt) e = .ok (.own ((xs.filter p).map h), e1) ∧ evE (.compif own tg it c elt) e = .ok (.lst ((xs.filter p).map h), e1) := by
  have k : evE (.compif own tg it c elt) e = .ok (.lst ((xs.filter p).map h), e1) := by
    show R.bind (evI it e) _ = _
    rw [hi, R.bind_ok]
    dsimp only
    rw [compD_of g (fun x => if p x then some x else none) h xs fun x hx => ?_]
    · rw [filterMap_ite]
      show (if ((xs.filter p).map h).length ≤ lim then _ else _) = _
      rw [if_pos (by rw [List.length_map]; exact Nat.le_trans (List.length_filter_le ..) hl)]
    · obtain ⟨e2, e3, h1, h2, h3⟩ := ht x hx
      rw [h1]
      dsimp only
      rw [h2, R.bind_ok]
      cases hp : p x with
      | false => rfl
      | true =>
        obtain ⟨e4, h4⟩ := h3 hp
        show R.bind (evE elt e3) _ = _
        rw [h4]
        rfl
  refine ⟨?_, k⟩
  show R.bind (evE (.compif own tg it c elt) e) _ = _
  rw [k]
  rfl
theorem i_rng1 {as : Exs} {e e1 : En} {q : List Pd} {n : Int} (h : evA as e = .ok (q, e1)) (h2 : pds e1 q = some [.val (.int n)]) (h3 : decide (-(2 ^ 62) ≤ n) && decide (n < 2 ^ 62) = true) : evI (.rng as) e = .ok ((List.range n.toNat).map fun (k : Nat) => D.int (k : Int), e1) := by
  rw [i_rng, h, R.bind_ok]
  dsimp only
  rw [h2]
  show R.bind (rngD 0 n) _ = _
  unfold rngD
  rw [if_pos (by simpa using h3), R.bind_ok]
  simp
theorem p_is0 (a : D) : evPrim .isN [.val a, .val .non] = .d (.bl a.isNon) := rfl
theorem p_not0 (a : D) : evPrim .notN [.val a, .val .non] = .d (.bl (!a.isNon)) := rfl
theorem p_idxL (x : List D) (i : Int) : evPrim .idx [.val (.lst x), .val (.int i)] = ofO (atD x i) := rfl
theorem p_idxB (x : List D) (i : Int) : evPrim .idx [.bor x, .val (.int i)] = ofO (atD x i) := rfl
theorem p_lenL (x : List D) : evPrim .len [.val (.lst x)] = .d (.int x.length) := rfl
theorem p_lenB (x : List D) : evPrim .len [.bor x] = .d (.int x.length) := rfl
theorem p_lenR (x : List D) : evPrim .len [.val (.ro x)] = .d (.int x.length) := rfl
theorem p_idxR (x : List D) (i : Int) : evPrim .idx [.val (.ro x), .val (.int i)] = ofO (atD x i) := rfl
theorem p_i2 (a b c : D) (r : List D) : evPrim .idx [.val (.tup (a :: b :: c :: r)), .val (.int 2)] = .d c := by
  rw [p_idxT, show (2 : Int) = ((2 : Nat) : Int) from rfl, atD_nat _ _ (by simp)]
  rfl
theorem p_i3 (a b c d : D) (r : List D) : evPrim .idx [.val (.tup (a :: b :: c :: d :: r)), .val (.int 3)] = .d d := by
  rw [p_idxT, show (3 : Int) = ((3 : Nat) : Int) from rfl, atD_nat _ _ (by simp)]
  rfl
theorem p_t3 (a b c : D) : evPrim .tup [.val a, .val b, .val c] = .d (.tup [a, b, c]) := rfl
theorem p_t4 (a b c d : D) : evPrim .tup [.val a, .val b, .val c, .val d] = .d (.tup [a, b, c, d]) := rfl
theorem p_eqb (a b : Bool) : evPrim .eq [.val (.bl a), .val (.bl b)] = .d (.bl (a == b)) := rfl
theorem p_neb (a b : Bool) : evPrim .ne [.val (.bl a), .val (.bl b)] = .d (.bl (!(a == b))) := rfl
theorem p_len2 (a b : D) : evPrim .len [.val (.tup [a, b])] = .d (.int 2) := rfl
theorem p_len3 (a b c : D) : evPrim .len [.val (.tup [a, b, c])] = .d (.int 3) := rfl
theorem p_len4 (a b c d : D) : evPrim .len [.val (.tup [a, b, c, d])] = .d (.int 4) := rfl
theorem step {a : Stm} {as : Stms} {e e2 : En} {r : R Fl} (h : evS a e = .ok (.nx e2)) (h2 : evSs as e2 = r) : evSs (.cons a as) e = r := by rw [es_cons, h]; exact h2
theorem step_rt {a : Stm} {as : Stms} {e : En} {s : Sl} (h : evS a e = .ok (.rt s)) : evSs (.cons a as) e = .ok (.rt s) := by rw [es_cons, h]
theorem r_comp (own : List (Str × Nat)) (tg : Tgt) (it : Itr) (elt : Ex) : varIx (.comp own tg it elt) = none := rfl
theorem r_compif (own : List (Str × Nat)) (tg : Tgt) (it : Itr) (c elt : Ex) : varIx (.compif own tg it c elt) = none := rfl
theorem r_slc (a : Ex) (lo hi : Oe) : varIx (.slc a lo hi) = none := rfl
theorem ld_nil : lend [] = [] := rfl
theorem ld_val (d : D) (r : En) : lend (some (.val d) :: r) = some (.val d) :: lend r := rfl
theorem ld_own (d : List D) (r : En) : lend (some (.own d) :: r) = some (.bor d) :: lend r := rfl
theorem ld_bor (d : List D) (r : En) : lend (some (.bor d) :: r) = some (.bor d) :: lend r := rfl
theorem ld_none (r : En) : lend (none :: r) = none :: lend r := rfl
theorem ld_c (s : Option Sl) (r : En) : lend (s :: r) = s.map Sl.lend :: lend r := rfl
theorem wp_nil (e : En) : wipeE e [] = e := rfl
theorem wp_c (e : En) (i : Nat) (r : List Nat) : wipeE e (i :: r) = sv (wipeE e r) i none := rfl
theorem tg_nm (i : Nat) (x : Str) (d : D) (e : En) : setT (.nm i x) d e = some (sv e i (some (.val d))) := rfl
theorem tg_tup (ts : Tgts) (ds : List D) (e : En) : setT (.tup ts) (.tup ds) e = setTs ts ds e := rfl
theorem tg_nil (e : En) : setTs .nil [] e = some e := rfl
theorem tg_c (t : Tgt) (ts : Tgts) (d : D) (ds : List D) (e : En) : setTs (.cons t ts) (d :: ds) e = match setT t d e with
    | some e1 => setTs ts ds e1
    | none => none := rfl
theorem e_chain (p q : Prim) (a b c : Ex) (e : En) : evE (.chain p q a b c) e = R.bind (evE a e) fun x => R.bind (evE b x.2) fun y => match evPrim p [.val x.1, .val y.1] with
    | .d (.bl true) => R.bind (evE c y.2) fun z => okD z.2 (evPrim q [.val y.1, .val z.1])
    | .d (.bl false) => .ok (.bl false, y.2)
    | _ => .bad := rfl
theorem es_app (i : Nat) (x : Str) (a : Ex) (e : En) : evS (.append i x a) e = match lk e i with
    | some (.own _) => R.bind (evE a e) fun p => match lk p.2 i with
      | some (.own ds) => if ds.length < lim then .ok (.nx (sv p.2 i (some (.own (ds ++ [p.1]))))) else .bad
      | _ => .bad
    | _ => .bad := rfl
theorem es_cont (e : En) : evS .cont e = .ok (.ct e) := rfl
theorem es_brk (e : En) : evS .brk e = .ok (.bk e) := rfl
theorem es_pass (e : En) : evS .pass e = .ok (.nx e) := rfl
theorem p_min2 (i j : Int) : evPrim .min2 [.val (.int i), .val (.int j)] = .d (.int (if j < i then j else i)) := rfl
theorem p_max2 (i j : Int) : evPrim .max2 [.val (.int i), .val (.int j)] = .d (.int (if j > i then j else i)) := rfl
theorem p_l0 : evPrim .lst [] = .l [] := rfl
theorem p_l1 (a : D) : evPrim .lst [.val a] = .l [a] := rfl
theorem p_l2 (a b : D) : evPrim .lst [.val a, .val b] = .l [a, b] := rfl
theorem p_l3 (a b c : D) : evPrim .lst [.val a, .val b, .val c] = .l [a, b, c] := rfl
theorem p_l4 (a b c d : D) : evPrim .lst [.val a, .val b, .val c, .val d] = .l [a, b, c, d] := rfl
theorem n_non : D.isNon .non = true := rfl
theorem n_tup (x : List D) : D.isNon (.tup x) = false := rfl
theorem q_lst (x : List D) : seqD (.lst x) = some x := rfl
theorem q_tup (x : List D) : seqD (.tup x) = some x := rfl
theorem q_ro (x : List D) : seqD (.ro x) = some x := rfl
theorem y_tt (x : List D) : isiD .tuple (.val (.tup x)) = some true := rfl
theorem y_tn : isiD .tuple (.val .non) = some false := rfl
theorem y_ii (x : Int) : isiD .int (.val (.int x)) = some true := rfl
theorem y_bi (x : Int) : isiD .bool (.val (.int x)) = some false := rfl
theorem y_bb (x : Bool) : isiD .bool (.val (.bl x)) = some true := rfl
theorem y_lv (x : List D) : isiD .list (.val (.lst x)) = some true := rfl
theorem y_lb (x : List D) : isiD .list (.bor x) = some true := rfl
theorem oO_some (d : D) : ofO (some d) = .d d := rfl
/-- a for whose turns all go on -/
theorem step_fold {α T : Type} {t : Tgt} {it : Itr} {a as : Stms} {e e1 : En} {r : R Fl} (g : α → D) (f : T → α → T) (I : T → En → Prop) (xs : List α) (s : T) (hi : evI it e = .ok (xs.map g, e1))
    (hb : ∀ x ∈ xs, ∀ s e, I s e → ∃ e1 e', setT t (g x) e = some e1 ∧ (evSs a e1 = .ok (.nx e') ∨ evSs a e1 = .ok (.ct e')) ∧ I (f s x) e') (h : I s e1) (k : ∀ e', I (xs.foldl f s) e' → evSs as e' = r) :
    evSs (.cons (.for t it a) as) e = r := by
  obtain ⟨e', q, h'⟩ := forD_fold (b := fun x e => match setT t x e with
      | some e1 => evSs a e1
      | none => .bad) g f I xs s e1 (fun x hx s e he => by
    obtain ⟨e2, e3, h1, h2, h3⟩ := hb x hx s e he
    refine ⟨e3, ?_, h3⟩
    rw [h1]
    exact h2) h
  refine step (e2 := e') ?_ (k e' h')
  rw [es_for, hi, R.bind_ok]
  exact q
theorem step_all {α : Type} {t : Tgt} {it : Itr} {a as : Stms} {e e1 : En} {r : R Fl} (g : α → D) (I : En → Prop) (xs : List α) (hi : evI it e = .ok (xs.map g, e1))
    (hb : ∀ x ∈ xs, ∀ e, I e → ∃ e1 e', setT t (g x) e = some e1 ∧ (evSs a e1 = .ok (.nx e') ∨ evSs a e1 = .ok (.ct e')) ∧ I e') (h : I e1) (k : ∀ e', I e' → evSs as e' = r) :
    evSs (.cons (.for t it a) as) e = r := step_fold (T := Unit) g (fun s _ => s) (fun _ e => I e) xs () hi (fun x hx _ e he => hb x hx e he) h k
/-- a for that may return -/
theorem step_find {α : Type} {t : Tgt} {it : Itr} {a as : Stms} {e e1 : En} {r : R Fl} (g : α → D) (I : En → Prop) (p : α → Option Sl) (xs : List α) (hi : evI it e = .ok (xs.map g, e1))
    (hb : ∀ x ∈ xs, ∀ e, I e → match p x with
      | some s => ∃ e1, setT t (g x) e = some e1 ∧ evSs a e1 = .ok (.rt s)
      | none => ∃ e1 e', setT t (g x) e = some e1 ∧ (evSs a e1 = .ok (.nx e') ∨ evSs a e1 = .ok (.ct e')) ∧ I e') (h : I e1)
    (k1 : ∀ s, xs.findSome? p = some s → .ok (.rt s) = r) (k2 : xs.findSome? p = none → ∀ e', I e' → evSs as e' = r) :
    evSs (.cons (.for t it a) as) e = r := by
  have q := forD_find (b := fun x e => match setT t x e with
      | some e1 => evSs a e1
      | none => .bad) g I p xs e1 (fun x hx e he => by
    have z := hb x hx e he
    cases hp : p x with
    | some s =>
      rw [hp] at z
      obtain ⟨e1, h1, h2⟩ := z
      dsimp only
      rw [h1]
      exact h2
    | none =>
      rw [hp] at z
      obtain ⟨e1, e2, h1, h2, h3⟩ := z
      refine ⟨e2, ?_, h3⟩
      rw [h1]
      exact h2) h
  cases z : xs.findSome? p with
  | some s =>
    rw [z] at q
    dsimp only at q
    rw [← k1 s z]
    refine step_rt ?_
    rw [es_for, hi, R.bind_ok]
    exact q
  | none =>
    rw [z] at q
    obtain ⟨e', q, h'⟩ := q
    refine step (e2 := e') ?_ (k2 z e' h')
    rw [es_for, hi, R.bind_ok]
    exact q
theorem for_find {α : Type} {t : Tgt} {it : Itr} {a : Stms} {e e1 : En} (g : α → D) (I : En → Prop) (p : α → Option Sl) (xs : List α) (hi : evI it e = .ok (xs.map g, e1))
    (hb : ∀ x ∈ xs, ∀ e, I e → match p x with
      | some s => ∃ e1, setT t (g x) e = some e1 ∧ evSs a e1 = .ok (.rt s)
      | none => ∃ e1 e', setT t (g x) e = some e1 ∧ (evSs a e1 = .ok (.nx e') ∨ evSs a e1 = .ok (.ct e')) ∧ I e') (h : I e1) :
    match xs.findSome? p with
      | some s => evSs (.cons (.for t it a) .nil) e = .ok (.rt s)
      | none => ∃ e', evSs (.cons (.for t it a) .nil) e = .ok (.nx e') ∧ I e' := by
  have q := forD_find (b := fun x e => match setT t x e with
      | some e1 => evSs a e1
      | none => .bad) g I p xs e1 (fun x hx e he => by
    have z := hb x hx e he
    cases hp : p x with
    | some s =>
      rw [hp] at z
      obtain ⟨e1, h1, h2⟩ := z
      dsimp only
      rw [h1]
      exact h2
    | none =>
      rw [hp] at z
      obtain ⟨e1, e2, h1, h2, h3⟩ := z
      refine ⟨e2, ?_, h3⟩
      rw [h1]
      exact h2) h
  cases z : xs.findSome? p with
  | some s =>
    rw [z] at q
    refine step_rt ?_
    rw [es_for, hi, R.bind_ok]
    exact q
  | none =>
    rw [z] at q
    obtain ⟨e', q, h'⟩ := q
    refine ⟨e', step (e2 := e') ?_ rfl, h'⟩
    rw [es_for, hi, R.bind_ok]
    exact q
/-- two fors, one in the other, that may return -/
theorem step_find2 {α β : Type} {ti tj : Tgt} {iti itj : Itr} {a as : Stms} {e e1 : En} {r : R Fl} (g : α → D) (g2 : α → β → D) (I : En → Prop) (J : α → En → Prop) (p : α → β → Option Sl) (xs : List α) (ys : α → List β)
    (hi : evI iti e = .ok (xs.map g, e1)) (hin : ∀ x ∈ xs, ∀ e, I e → ∃ e2 e3, setT ti (g x) e = some e2 ∧ evI itj e2 = .ok ((ys x).map (g2 x), e3) ∧ J x e3)
    (hb : ∀ x ∈ xs, ∀ y ∈ ys x, ∀ e, J x e → match p x y with
      | some s => ∃ e1, setT tj (g2 x y) e = some e1 ∧ evSs a e1 = .ok (.rt s)
      | none => ∃ e1 e', setT tj (g2 x y) e = some e1 ∧ (evSs a e1 = .ok (.nx e') ∨ evSs a e1 = .ok (.ct e')) ∧ J x e') (hJ : ∀ x e, J x e → I e) (h : I e1)
    (k1 : ∀ s, xs.findSome? (fun x => (ys x).findSome? (p x)) = some s → .ok (.rt s) = r) (k2 : xs.findSome? (fun x => (ys x).findSome? (p x)) = none → ∀ e', I e' → evSs as e' = r) :
    evSs (.cons (.for ti iti (.cons (.for tj itj a) .nil)) as) e = r := by
  refine step_find g I (fun x => (ys x).findSome? (p x)) xs hi (fun x hx e he => ?_) h k1 k2
  obtain ⟨e2, e3, h1, h2, h3⟩ := hin x hx e he
  have q := for_find (t := tj) (it := itj) (a := a) (e := e2) (g2 x) (J x) (p x) (ys x) h2 (hb x hx) h3
  cases z : (ys x).findSome? (p x) with
  | some s =>
    rw [z] at q
    exact ⟨e2, h1, q⟩
  | none =>
    rw [z] at q
    obtain ⟨e', q, h'⟩ := q
    exact ⟨e2, e', h1, .inl q, hJ x e' h'⟩
theorem i_rng2 {as : Exs} {e e1 : En} {q : List Pd} {m n : Int} (h : evA as e = .ok (q, e1)) (h2 : pds e1 q = some [.val (.int m), .val (.int n)]) (h3 : 0 ≤ m) (h4 : 0 ≤ n) (h5 : m < 2 ^ 62) (h6 : n < 2 ^ 62) :
    evI (.rng as) e = .ok ((List.range (n - m).toNat).map fun (k : Nat) => D.int (m + (k : Int)), e1) := by
  rw [i_rng, h, R.bind_ok]
  dsimp only
  rw [h2]
  show R.bind (rngD m n) _ = _
  unfold rngD
  rw [if_pos (by simp only [Bool.and_eq_true, decide_eq_true_eq]; omega), R.bind_ok]
theorem i_rngN {as : Exs} {e e1 : En} {q : List Pd} {n : Nat} (h : evA as e = .ok (q, e1)) (h2 : pds e1 q = some [.val (.int (n : Int))]) (h3 : n < 1000000) : evI (.rng as) e = .ok ((List.range n).map fun (k : Nat) => D.int (k : Int), e1) := by
  have z := i_rng1 h h2 (by simp only [Bool.and_eq_true, decide_eq_true_eq]; omega)
  simpa using z
end Ev
namespace Ev
open PySem PySem.Spec
/-- a for whose turns all go on: what stands behind it -/
theorem run_fold {α T : Type} {t : Tgt} {it : Itr} {a : Stms} {e e1 : En} (g : α → D) (f : T → α → T) (I : T → En → Prop) (xs : List α) (s : T) (hi : evI it e = .ok (xs.map g, e1))
    (hb : ∀ x ∈ xs, ∀ s e, I s e → ∃ e1 e', setT t (g x) e = some e1 ∧ (evSs a e1 = .ok (.nx e') ∨ evSs a e1 = .ok (.ct e')) ∧ I (f s x) e') (h : I s e1) :
    ∃ e', evS (.for t it a) e = .ok (.nx e') ∧ I (xs.foldl f s) e' := by
  obtain ⟨e', q, h'⟩ := forD_fold (b := fun x e => match setT t x e with
      | some e1 => evSs a e1
      | none => .bad) g f I xs s e1 (fun x hx s e he => by
    obtain ⟨e2, e3, h1, h2, h3⟩ := hb x hx s e he
    refine ⟨e3, ?_, h3⟩
    rw [h1]
    exact h2) h
  refine ⟨e', ?_, h'⟩
  rw [es_for, hi, R.bind_ok]
  exact q
/-- .. and the rest of the text, with a result that is told only then -/
theorem step_foldE {α T : Type} {t : Tgt} {it : Itr} {a as : Stms} {e e1 : En} {P : R Fl → Prop} (g : α → D) (f : T → α → T) (I : T → En → Prop) (xs : List α) (s : T) (hi : evI it e = .ok (xs.map g, e1))
    (hb : ∀ x ∈ xs, ∀ s e, I s e → ∃ e1 e', setT t (g x) e = some e1 ∧ (evSs a e1 = .ok (.nx e') ∨ evSs a e1 = .ok (.ct e')) ∧ I (f s x) e') (h : I s e1) (k : ∀ e', I (xs.foldl f s) e' → P (evSs as e')) :
    P (evSs (.cons (.for t it a) as) e) := by
  obtain ⟨e', q, h'⟩ := run_fold (t := t) (it := it) (a := a) g f I xs s hi hb h
  rw [step q rfl]
  exact k e' h'
theorem stepE {a : Stm} {as : Stms} {e e2 : En} {P : R Fl → Prop} (h : evS a e = .ok (.nx e2)) (k : P (evSs as e2)) : P (evSs (.cons a as) e) := by rw [step h rfl]; exact k
end Ev
namespace Ev
open PySem PySem.Spec
theorem stepE_ift {c : Ex} {a b as : Stms} {e e2 : En} {P : R Fl → Prop} (h : (R.bind (evE c e) fun p => truthR p.1 p.2) = .ok (true, e2)) (k : P (evSs a e2)) (hr : ∀ r, P r → ∃ s, r = .ok (.rt s)) : P (evSs (.cons (.ite c a b) as) e) := by
  obtain ⟨s, hs⟩ := hr _ k
  have q : evS (.ite c a b) e = .ok (.rt s) := by
    rw [es_if, h, R.bind_ok]
    exact hs
  rw [step_rt q, ← hs]
  exact k
end Ev
namespace Ev
open PySem PySem.Spec
theorem forD_count {α : Type} {b : D → En → R Fl} (g : α → D) (I : Nat → En → Prop) : ∀ (xs : List α) (o : Nat) (e : En),
    (∀ (i : Nat) (x : α), xs[i]? = some x → ∀ e, I (o + i) e → ∃ e', (b (g x) e = .ok (.nx e') ∨ b (g x) e = .ok (.ct e')) ∧ I (o + i + 1) e') → I o e → ∃ e', forD b (xs.map g) e = .ok (.nx e') ∧ I (o + xs.length) e'
  | [], o, e, _, h => ⟨e, rfl, h⟩
  | x :: xs, o, e, hb, h => by
    obtain ⟨e1, q, h1⟩ := hb 0 x rfl e h
    obtain ⟨e2, q2, h2⟩ := forD_count g I xs (o + 1) e1 (fun i y hy e he => by
      have := hb (i + 1) y hy e (by rw [show o + (i + 1) = o + 1 + i by omega]; exact he)
      rw [show o + (i + 1) + 1 = o + 1 + i + 1 by omega] at this
      exact this) h1
    refine ⟨e2, ?_, by rw [List.length_cons, show o + (xs.length + 1) = o + 1 + xs.length by omega]; exact h2⟩
    rw [List.map_cons, f_cons]
    rcases q with q | q <;> (rw [q]; exact q2)
/-- the turns counted -/
theorem stepE_count {α : Type} {t : Tgt} {it : Itr} {a as : Stms} {e e1 : En} {P : R Fl → Prop} (g : α → D) (I : Nat → En → Prop) (xs : List α) (hi : evI it e = .ok (xs.map g, e1))
    (hb : ∀ (i : Nat) (x : α), xs[i]? = some x → ∀ e, I i e → ∃ e1 e', setT t (g x) e = some e1 ∧ (evSs a e1 = .ok (.nx e') ∨ evSs a e1 = .ok (.ct e')) ∧ I (i + 1) e') (h : I 0 e1) (k : ∀ e', I xs.length e' → P (evSs as e')) :
    P (evSs (.cons (.for t it a) as) e) := by
  obtain ⟨e', q, h'⟩ := forD_count (b := fun x e => match setT t x e with
      | some e1 => evSs a e1
      | none => .bad) g I xs 0 e1 (fun i x hx e he => by
    rw [Nat.zero_add] at he ⊢
    obtain ⟨e2, e3, h1, h2, h3⟩ := hb i x hx e he
    refine ⟨e3, ?_, h3⟩
    rw [h1]
    exact h2) h
  rw [Nat.zero_add] at h'
  have q1 : evS (.for t it a) e = .ok (.nx e') := by
    rw [es_for, hi, R.bind_ok]
    exact q
  rw [step q1 rfl]
  exact k e' h'
theorem range_at {n i x : Nat} (h : (List.range n)[i]? = some x) : x = i ∧ i < n := by
  by_cases q : i < n
  · rw [List.getElem?_range q] at h
    exact ⟨(Option.some.inj h).symm, q⟩
  · rw [List.getElem?_eq_none (by simp; omega)] at h
    cases h
end Ev
namespace Ev
open PySem PySem.Spec
theorem es_app_of {i : Nat} {x : Str} {a : Ex} {e e2 : En} {ds ds2 : List D} {d : D} (h1 : lk e i = some (.own ds)) (h2 : evE a e = .ok (d, e2)) (h3 : lk e2 i = some (.own ds2)) (h4 : ds2.length < lim) :
    evS (.append i x a) e = .ok (.nx (sv e2 i (some (.own (ds2 ++ [d]))))) := by
  rw [es_app, h1]
  dsimp only
  rw [h2, R.bind_ok]
  dsimp only
  rw [h3]
  dsimp only
  rw [if_pos h4]
end Ev
namespace Ev
open PySem PySem.Spec
theorem stepE_iff {c : Ex} {a as : Stms} {e e2 : En} {P : R Fl → Prop} (h : (R.bind (evE c e) fun p => truthR p.1 p.2) = .ok (false, e2)) (k : P (evSs as e2)) : P (evSs (.cons (.ite c a .nil) as) e) := by
  have q : evS (.ite c a .nil) e = .ok (.nx e2) := by
    rw [es_if, h, R.bind_ok]
    rfl
  rw [step q rfl]
  exact k
end Ev
set_option Elab.async false
set_option linter.all false
set_option maxRecDepth 100000
namespace Ev
open PySem PySem.Spec

/-! ### fractions -/
abbrev fr (a : Int × Int) : D := .tup [.int a.1, .int a.2]
abbrev pt (p : (Int × Int) × (Int × Int)) : D := .tup [fr p.1, fr p.2]
/-- lowest terms -/
def low (n d : Int) : Int × Int := (n.fdiv (Int.gcd n d), d.fdiv (Int.gcd n d))
structure Q (k : Nat) (a : Int × Int) : Prop where
  pos : 0 < a.2
  b1 : Bd k a.1
  b2 : Bd k a.2
  cop : Int.gcd a.1 a.2 = 1
theorem Q.mono {j k : Nat} {a : Int × Int} (h : Q j a) (q : j ≤ k) : Q k a := ⟨h.pos, h.b1.mono q, h.b2.mono q, h.cop⟩
theorem gcd_pos {n d : Int} (h : 0 < d) : (0 : Int) < (Int.gcd n d : Int) := by
  have := Int.gcd_pos_of_ne_zero_right n (show d ≠ 0 by omega)
  omega
theorem low_fst {n d : Int} (h : 0 < d) : (low n d).1 = n / (Int.gcd n d : Int) := Int.fdiv_eq_ediv_of_nonneg _ (Int.le_of_lt (gcd_pos h))
theorem low_snd {n d : Int} (h : 0 < d) : (low n d).2 = d / (Int.gcd n d : Int) := Int.fdiv_eq_ediv_of_nonneg _ (Int.le_of_lt (gcd_pos h))
theorem low_fst_mul {n d : Int} (h : 0 < d) : (low n d).1 * (Int.gcd n d : Int) = n := by rw [low_fst h]; exact Int.ediv_mul_cancel (Int.gcd_dvd_left ..)
theorem low_snd_mul {n d : Int} (h : 0 < d) : (low n d).2 * (Int.gcd n d : Int) = d := by rw [low_snd h]; exact Int.ediv_mul_cancel (Int.gcd_dvd_right ..)
theorem low_pos {n d : Int} (h : 0 < d) : 0 < (low n d).2 := by
  have h1 := low_snd_mul (n := n) h
  have h2 := gcd_pos (n := n) h
  rcases Int.lt_trichotomy 0 (low n d).2 with z | z | z
  · exact z
  · rw [← z, Int.zero_mul] at h1; omega
  · have := Int.mul_neg_of_neg_of_pos z h2
    omega
theorem low_cop {n d : Int} (h : 0 < d) : Int.gcd (low n d).1 (low n d).2 = 1 := by
  rw [low_fst h, low_snd h]
  exact Int.gcd_ediv_gcd_ediv_gcd (Int.gcd_pos_of_ne_zero_right n (by omega))
theorem low_Q {k : Nat} {n d : Int} (h : 0 < d) (h1 : Bd k n) (h2 : Bd k d) : Q k (low n d) :=
  ⟨low_pos h, h1.of_le (Int.natAbs_fdiv_le_natAbs _ _), h2.of_le (Int.natAbs_fdiv_le_natAbs _ _), low_cop h⟩
theorem low_cross {n d : Int} (h : 0 < d) : (low n d).1 * d = n * (low n d).2 := by
  have h1 := low_fst_mul (n := n) h
  have h2 := low_snd_mul (n := n) h
  calc (low n d).1 * d = (low n d).1 * ((low n d).2 * (Int.gcd n d : Int)) := by rw [h2]
    _ = ((low n d).1 * (Int.gcd n d : Int)) * (low n d).2 := by rw [Int.mul_assoc, Int.mul_comm (low n d).2, ← Int.mul_assoc]
    _ = n * (low n d).2 := by rw [h1]
theorem dvd_of_cop {a b c : Int} (h : a ∣ b * c) (g : Int.gcd b a = 1) : a ∣ c := by
  have h1 : a.natAbs ∣ b.natAbs * c.natAbs := by rw [← Int.natAbs_mul]; exact Int.natAbs_dvd_natAbs.mpr h
  have h2 : Nat.Coprime a.natAbs b.natAbs := by
    rw [Int.gcd_comm, Int.gcd_eq_natAbs_gcd_natAbs] at g
    exact g
  exact Int.natAbs_dvd_natAbs.mp (h2.dvd_of_dvd_mul_left h1)
/-- equal fractions in lowest terms are the same -/
theorem eq_of_cross {a b : Int × Int} (ha : 0 < a.2) (hb : 0 < b.2) (ga : Int.gcd a.1 a.2 = 1) (gb : Int.gcd b.1 b.2 = 1) (e : a.1 * b.2 = b.1 * a.2) : a = b := by
  have d1 : a.2 ∣ b.2 := dvd_of_cop (b := a.1) ⟨b.1, by rw [e, Int.mul_comm]⟩ ga
  have d2 : b.2 ∣ a.2 := dvd_of_cop (b := b.1) ⟨a.1, by rw [← e, Int.mul_comm]⟩ gb
  have e2 := Int.dvd_antisymm (Int.le_of_lt ha) (Int.le_of_lt hb) d1 d2
  obtain ⟨a1, a2⟩ := a
  obtain ⟨b1, b2⟩ := b
  simp only at *
  subst e2
  rw [Int.eq_of_mul_eq_mul_right (by omega) e]
theorem low_eq {n d n' d' : Int} (h : 0 < d) (h' : 0 < d') (e : n * d' = n' * d) : low n d = low n' d' := by
  refine eq_of_cross (low_pos h) (low_pos h') (low_cop h) (low_cop h') ?_
  have c1 := low_cross (n := n) h
  have c2 := low_cross (n := n') h'
  have hd : d * d' ≠ 0 := Int.mul_ne_zero (by omega) (by omega)
  refine Int.eq_of_mul_eq_mul_right hd ?_
  generalize low n d = a at *
  generalize low n' d' = b at *
  calc a.1 * b.2 * (d * d') = (a.1 * d) * d' * b.2 := by grind
    _ = n * a.2 * d' * b.2 := by rw [c1]
    _ = (n * d') * a.2 * b.2 := by grind
    _ = n' * d * a.2 * b.2 := by rw [e]
    _ = (n' * b.2) * d * a.2 := by grind
    _ = b.1 * d' * d * a.2 := by rw [c2]
    _ = b.1 * a.2 * (d * d') := by grind
theorem low_self {a : Int × Int} (h : 0 < a.2) (g : Int.gcd a.1 a.2 = 1) : low a.1 a.2 = a := by
  refine eq_of_cross (low_pos h) h (low_cop h) g ?_
  exact low_cross h
theorem Q.self {k : Nat} {a : Int × Int} (h : Q k a) : low a.1 a.2 = a := low_self h.pos h.cop
theorem bd_lit {x : Int} {k : Nat} (h : decide (x.natAbs < 2 ^ k) = true) : Bd k x := by unfold Bd; exact of_decide_eq_true h
theorem mulOk_l {a b : Int} (h : a.natAbs < 2 ^ 64) : mulOk a b = true := by
  unfold mulOk
  rw [decide_eq_true h]
  rfl
theorem Bd.abs {k : Nat} {x : Int} (h : Bd k x) : Bd k (if x < 0 then -x else x) := by
  split
  · exact h.neg
  · exact h
theorem Bd.fdiv {k : Nat} {x : Int} (h : Bd k x) (y : Int) : Bd k (x.fdiv y) := h.of_le (Int.natAbs_fdiv_le_natAbs _ _)
/-! ### Euclid -/
theorem euclid_step {a b : Int} (ha : 0 ≤ a) (hb : 0 < b) : a - a.fdiv b * b = a % b := by
  rw [Int.fdiv_eq_ediv_of_nonneg _ (Int.le_of_lt hb), Int.emod_def, Int.mul_comm]
theorem gcd_step {a b : Int} : Int.gcd b (a % b) = Int.gcd a b := by
  rw [Int.emod_def, Int.mul_comm, Int.gcd_sub_mul_right_right, Int.gcd_comm]
theorem gcd_abs (n d : Int) : Int.gcd (if n < 0 then -n else n) d = Int.gcd n d := by
  split
  · rw [Int.neg_gcd]
  · rfl
theorem abs_nn (n : Int) : 0 ≤ (if n < 0 then -n else n) := by split <;> omega
/-! ### data equal to itself -/
mutual
theorem D.eqv_refl : ∀ (n : Nat) (d : D), d.plain n = true → PyData.eqv d.py d.py = true
  | _, .non, _ => by simp [D.py, PyData.eqv]
  | _, .bl b, _ => by simp [D.py, PyData.eqv]
  | _, .int i, _ => by simp [D.py, PyData.eqv]
  | _, .str x, _ => by simp [D.py, PyData.eqv]
  | 0, .tup _, h => by simp [D.plain] at h
  | n + 1, .tup xs, h => by
    have := D.eqvAll_refl n xs (by simpa [D.plain] using h)
    simpa [D.py, PyData.eqv] using this
  | 0, .lst _, h => by simp [D.plain] at h
  | n + 1, .lst xs, h => by
    have := D.eqvAll_refl n xs (by simpa [D.plain] using h)
    simpa [D.py, PyData.eqv] using this
  | n, .ro _, h => by cases n <;> simp [D.plain] at h
  | n, .obj _ _ _, h => by cases n <;> simp [D.plain] at h
theorem D.eqvAll_refl : ∀ (n : Nat) (ds : List D), D.plainAll n ds = true → PyData.eqvAll (D.pyAll ds) (D.pyAll ds) = true
  | _, [], _ => by simp [D.pyAll, PyData.eqvAll]
  | n, x :: xs, h => by
    simp only [D.plainAll, Bool.and_eq_true] at h
    have h1 := D.eqv_refl n x h.1
    have h2 := D.eqvAll_refl n xs h.2
    simp [D.pyAll, PyData.eqvAll, h1, h2]
end
theorem eq_self_d {a b : Sl} {d : D} (h1 : asD a = some d) (h2 : asD b = some d) (h : d.plain 60 = true) : evPrim .eq [a, b] = .d (.bl true) := by
  show ofB (match asD a, asD b with | some x, some y => eqB x y | _, _ => none) = _
  rw [h1, h2]
  show ofB (eqB d d) = _
  unfold eqB
  rw [h, D.eqv_refl 60 d h]
  rfl
theorem ne_self_d {a b : Sl} {d : D} (h1 : asD a = some d) (h2 : asD b = some d) (h : d.plain 60 = true) : evPrim .ne [a, b] = .d (.bl false) := by
  show notB (match asD a, asD b with | some x, some y => eqB x y | _, _ => none) = _
  rw [h1, h2]
  show notB (eqB d d) = _
  unfold eqB
  rw [h, D.eqv_refl 60 d h]
  rfl
theorem eqB_nil {ds : List D} (h : D.plainAll 59 ds = true) : eqB (.lst ds) (.lst []) = some ds.isEmpty := by
  unfold eqB
  rw [show (D.lst ds).plain 60 = true by simpa [D.plain] using h, show (D.lst []).plain 60 = true from rfl]
  cases ds <;> simp [D.py, D.pyAll, PyData.eqv, PyData.eqvAll]
theorem eq_nil {a : Sl} {ds : List D} (h1 : asD a = some (.lst ds)) (h : D.plainAll 59 ds = true) : evPrim .eq [a, .val (.lst [])] = .d (.bl ds.isEmpty) := by
  show ofB (match asD a, asD (.val (.lst [])) with | some x, some y => eqB x y | _, _ => none) = _
  rw [h1]
  show ofB (eqB (.lst ds) (.lst [])) = _
  rw [eqB_nil h]
  rfl
theorem ne_nil {a : Sl} {ds : List D} (h1 : asD a = some (.lst ds)) (h : D.plainAll 59 ds = true) : evPrim .ne [a, .val (.lst [])] = .d (.bl (!ds.isEmpty)) := by
  show notB (match asD a, asD (.val (.lst [])) with | some x, some y => eqB x y | _, _ => none) = _
  rw [h1]
  show notB (eqB (.lst ds) (.lst [])) = _
  rw [eqB_nil h]
  rfl
theorem plainAll_map {α : Type} {n : Nat} (g : α → D) : ∀ xs : List α, (∀ x ∈ xs, (g x).plain n = true) → D.plainAll n (xs.map g) = true
  | [], _ => by simp [D.plainAll]
  | x :: xs, h => by
    simp only [List.map_cons, D.plainAll, h x (List.mem_cons_self ..), plainAll_map g xs fun y hy => h y (List.mem_cons_of_mem _ hy), Bool.and_self]
/-- whole numbers -/
abbrev nsD (l : List Nat) : List D := l.map fun (k : Nat) => D.int (k : Int)
theorem nsD_plain {n : Nat} (l : List Nat) : D.plainAll n (nsD l) = true := plainAll_map _ _ fun _ _ => by cases n <;> simp [D.plain]
theorem in_ns (k : Nat) (l : List Nat) : evPrim .inn [.val (.int (k : Int)), .val (.lst (nsD l))] = .d (.bl (decide (k ∈ l))) := by
  show ofB (inB (.int (k : Int)) (nsD l)) = _
  unfold inB
  rw [nsD_plain, show (D.int (k : Int)).plain 60 = true from rfl]
  simp only [Bool.and_self, if_true]
  show Pr.d (.bl _) = _
  congr 2
  induction l with
  | nil => simp
  | cons a r ih =>
    simp only [nsD, List.map_cons, List.any_cons, D.py, PyData.eqv] at ih ⊢
    rw [ih]
    by_cases h : k = a
    · subst h; simp
    · have : ¬ (a : Int) = k := by omega
      simp [h, this]
/-- an item of a mapped list -/
theorem at_map {α : Type} (g : α → D) {xs : List α} {k : Nat} {x : α} (h : xs[k]? = some x) : atD (xs.map g) (k : Int) = some (g x) := by
  have hl : k < xs.length := by
    by_cases q : k < xs.length
    · exact q
    · rw [List.getElem?_eq_none (by omega)] at h; cases h
  rw [atD_nat _ _ (by simpa using hl), List.getElem?_map, h]
  rfl
theorem at_last {xs : List D} {x : D} (h : xs.getLast? = some x) : atD xs (-1) = some x := by
  unfold atD L2.atI L2.ixN
  have hl : 0 < xs.length := by
    cases xs with
    | nil => cases h
    | cons a r => simp
  rw [if_neg (by omega), if_pos (by omega)]
  rw [List.getLast?_eq_getElem?] at h
  show xs[((-1 : Int) + xs.length).toNat]? = _
  rw [show ((-1 : Int) + xs.length).toNat = xs.length - 1 by omega, h]
theorem eq_str {x y : Str} {b : Bool} (h : (PyData.strOk x && PyData.strOk y && ((x == y) == b)) = true) : evPrim .eq [.val (.str x), .val (.str y)] = .d (.bl b) := by
  simp only [Bool.and_eq_true, beq_iff_eq] at h
  show ofB (eqB (.str x) (.str y)) = _
  unfold eqB
  rw [show (D.str x).plain 60 = true from h.1.1, show (D.str y).plain 60 = true from h.1.2]
  show Pr.d (.bl (x == y)) = _
  rw [h.2]
theorem ne_str {x y : Str} {b : Bool} (h : (PyData.strOk x && PyData.strOk y && ((x == y) == !b)) = true) : evPrim .ne [.val (.str x), .val (.str y)] = .d (.bl b) := by
  simp only [Bool.and_eq_true, beq_iff_eq] at h
  show notB (eqB (.str x) (.str y)) = _
  unfold eqB
  rw [show (D.str x).plain 60 = true from h.1.1, show (D.str y).plain 60 = true from h.1.2]
  show Pr.d (.bl (!(x == y))) = _
  rw [h.2, Bool.not_not]
end Ev
set_option Elab.async false
set_option linter.all false
set_option maxRecDepth 100000
namespace K88
open PySem Ev
noncomputable def b_below : Stms := (.cons (.ret (.prim .lt (.cons (.prim .mul (.cons (.prim .idx (.cons (.rd 0 "a") (.cons (.con (.int 0)) .nil))) (.cons (.prim .idx (.cons (.rd 1 "b") (.cons (.con (.int 1)) .nil))) .nil))) (.cons (.prim .mul (.cons (.prim .idx (.cons (.rd 1 "b") (.cons (.con (.int 0)) .nil))) (.cons (.prim .idx (.cons (.rd 0 "a") (.cons (.con (.int 1)) .nil))) .nil))) .nil))))
  .nil)
noncomputable def f_below : Fn := ⟨2, 2, b_below⟩
noncomputable def b_stretch : Stms := (.cons (.ite (.or (.call "below" f_below.den [] (.cons (.var 2 "high") (.cons (.var 0 "low") .nil))) (.and (.prim .eq (.cons (.rd 0 "low") (.cons (.rd 2 "high") .nil))) (.not (.and (.var 1 "low_in") (.var 3 "high_in"))))) (.cons (.ret (.con .none))
  .nil) .nil)
  (.cons (.ret (.prim .tup (.cons (.var 0 "low") (.cons (.var 1 "low_in") (.cons (.var 2 "high") (.cons (.var 3 "high_in") .nil))))))
  .nil))
noncomputable def f_stretch : Fn := ⟨4, 4, b_stretch⟩
noncomputable def b_in_stretch : Stms := (.cons (.ite (.or (.call "below" f_below.den [] (.cons (.var 0 "number") (.cons (.prim .idx (.cons (.rd 1 "one") (.cons (.con (.int 0)) .nil))) .nil))) (.and (.prim .eq (.cons (.rd 0 "number") (.cons (.prim .idx (.cons (.rd 1 "one") (.cons (.con (.int 0)) .nil))) .nil))) (.not (.prim .idx (.cons (.rd 1 "one") (.cons (.con (.int 1)) .nil)))))) (.cons (.ret (.con (.bool false)))
  .nil) .nil)
  (.cons (.ret (.or (.call "below" f_below.den [] (.cons (.var 0 "number") (.cons (.prim .idx (.cons (.rd 1 "one") (.cons (.con (.int 2)) .nil))) .nil))) (.and (.prim .eq (.cons (.rd 0 "number") (.cons (.prim .idx (.cons (.rd 1 "one") (.cons (.con (.int 2)) .nil))) .nil))) (.prim .idx (.cons (.rd 1 "one") (.cons (.con (.int 3)) .nil))))))
  .nil))
noncomputable def f_in_stretch : Fn := ⟨2, 2, b_in_stretch⟩
noncomputable def b_meet : Stms := (.cons (.asg (.tup (.cons (.nm 2 "low") (.cons (.nm 3 "low_in") (.cons (.nm 4 "high") (.cons (.nm 5 "high_in") .nil))))) (.var 0 "one"))
  (.cons (.ite (.call "below" f_below.den [] (.cons (.var 2 "low") (.cons (.prim .idx (.cons (.rd 1 "other") (.cons (.con (.int 0)) .nil))) .nil))) (.cons (.par 2 "low" 3 "low_in" (.prim .idx (.cons (.rd 1 "other") (.cons (.con (.int 0)) .nil))) (.prim .idx (.cons (.rd 1 "other") (.cons (.con (.int 1)) .nil))))
  .nil) (.cons (.ite (.prim .eq (.cons (.rd 2 "low") (.cons (.prim .idx (.cons (.rd 1 "other") (.cons (.con (.int 0)) .nil))) .nil))) (.cons (.asg (.nm 3 "low_in") (.and (.var 3 "low_in") (.prim .idx (.cons (.rd 1 "other") (.cons (.con (.int 1)) .nil)))))
  .nil) .nil)
  .nil))
  (.cons (.ite (.call "below" f_below.den [] (.cons (.prim .idx (.cons (.rd 1 "other") (.cons (.con (.int 2)) .nil))) (.cons (.var 4 "high") .nil))) (.cons (.par 4 "high" 5 "high_in" (.prim .idx (.cons (.rd 1 "other") (.cons (.con (.int 2)) .nil))) (.prim .idx (.cons (.rd 1 "other") (.cons (.con (.int 3)) .nil))))
  .nil) (.cons (.ite (.prim .eq (.cons (.rd 4 "high") (.cons (.prim .idx (.cons (.rd 1 "other") (.cons (.con (.int 2)) .nil))) .nil))) (.cons (.asg (.nm 5 "high_in") (.and (.var 5 "high_in") (.prim .idx (.cons (.rd 1 "other") (.cons (.con (.int 3)) .nil)))))
  .nil) .nil)
  .nil))
  (.cons (.ret (.call "stretch" f_stretch.den [] (.cons (.var 2 "low") (.cons (.var 3 "low_in") (.cons (.var 4 "high") (.cons (.var 5 "high_in") .nil))))))
  .nil))))
noncomputable def f_meet : Fn := ⟨2, 6, b_meet⟩
noncomputable def b_meet_all : Stms := (.cons (.asg (.nm 1 "common") (.prim .idx (.cons (.rd 0 "stretches") (.cons (.con (.int 0)) .nil))))
  (.cons (.for (.nm 2 "one") (.seq (.var 0 "stretches")) (.cons (.ite (.prim .notN (.cons (.rd 1 "common") (.cons (.con .none) .nil))) (.cons (.asg (.nm 1 "common") (.call "meet" f_meet.den [] (.cons (.var 1 "common") (.cons (.var 2 "one") .nil))))
  .nil) .nil)
  .nil))
  (.cons (.ite (.prim .notN (.cons (.rd 1 "common") (.cons (.con .none) .nil))) (.cons (.ret (.prim .tup (.cons (.con (.str "all")) (.cons (.var 1 "common") .nil))))
  .nil) .nil)
  (.cons (.for (.nm 3 "i") (.rng (.cons (.prim .len (.cons (.rd 0 "stretches") .nil)) .nil)) (.cons (.for (.nm 4 "j") (.rng (.cons (.prim .add (.cons (.rd 3 "i") (.cons (.con (.int 1)) .nil))) (.cons (.prim .len (.cons (.rd 0 "stretches") .nil)) .nil))) (.cons (.ite (.prim .isN (.cons (.call "meet" f_meet.den [] (.cons (.prim .idx (.cons (.rd 0 "stretches") (.cons (.rd 3 "i") .nil))) (.cons (.prim .idx (.cons (.rd 0 "stretches") (.cons (.rd 4 "j") .nil))) .nil))) (.cons (.con .none) .nil))) (.cons (.ret (.prim .tup (.cons (.con (.str "apart")) (.cons (.var 3 "i") (.cons (.var 4 "j") .nil)))))
  .nil) .nil)
  .nil))
  .nil))
  (.cons (.ret (.con .none))
  .nil)))))
noncomputable def f_meet_all : Fn := ⟨1, 5, b_meet_all⟩
noncomputable def b_begins_earlier : Stms := (.cons (.ret (.or (.call "below" f_below.den [] (.cons (.prim .idx (.cons (.rd 0 "one") (.cons (.con (.int 0)) .nil))) (.cons (.prim .idx (.cons (.rd 1 "other") (.cons (.con (.int 0)) .nil))) .nil))) (.and (.prim .eq (.cons (.prim .idx (.cons (.rd 0 "one") (.cons (.con (.int 0)) .nil))) (.cons (.prim .idx (.cons (.rd 1 "other") (.cons (.con (.int 0)) .nil))) .nil))) (.and (.prim .idx (.cons (.rd 0 "one") (.cons (.con (.int 1)) .nil))) (.not (.prim .idx (.cons (.rd 1 "other") (.cons (.con (.int 1)) .nil))))))))
  .nil)
noncomputable def f_begins_earlier : Fn := ⟨2, 2, b_begins_earlier⟩
noncomputable def b_covers_begin : Stms := (.cons (.ite (.call "begins_earlier" f_begins_earlier.den [] (.cons (.var 1 "other") (.cons (.var 0 "one") .nil))) (.cons (.ret (.con (.bool false)))
  .nil) .nil)
  (.cons (.ret (.or (.call "below" f_below.den [] (.cons (.prim .idx (.cons (.rd 1 "other") (.cons (.con (.int 0)) .nil))) (.cons (.prim .idx (.cons (.rd 0 "one") (.cons (.con (.int 2)) .nil))) .nil))) (.and (.prim .eq (.cons (.prim .idx (.cons (.rd 1 "other") (.cons (.con (.int 0)) .nil))) (.cons (.prim .idx (.cons (.rd 0 "one") (.cons (.con (.int 2)) .nil))) .nil))) (.and (.prim .idx (.cons (.rd 0 "one") (.cons (.con (.int 3)) .nil))) (.prim .idx (.cons (.rd 1 "other") (.cons (.con (.int 1)) .nil)))))))
  .nil))
noncomputable def f_covers_begin : Fn := ⟨2, 2, b_covers_begin⟩
noncomputable def b_most_met : Stms := (.cons (.asg (.nm 1 "kept") (.prim .lst .nil))
  (.cons (.asg (.nm 2 "start") (.con .none))
  (.cons (.for (.nm 3 "one") (.seq (.var 0 "stretches")) (.cons (.ite (.prim .isN (.cons (.rd 3 "one") (.cons (.con .none) .nil))) (.cons .cont
  .nil) .nil)
  (.cons (.asg (.nm 4 "met") (.compif [("k", 5), ("other", 6)] (.tup (.cons (.nm 5 "k") (.cons (.nm 6 "other") .nil))) (.enum (.cons (.var 0 "stretches") .nil)) (.and (.prim .notN (.cons (.rd 6 "other") (.cons (.con .none) .nil))) (.call "covers_begin" f_covers_begin.den [] (.cons (.var 6 "other") (.cons (.var 3 "one") .nil)))) (.var 5 "k")))
  (.cons (.ite (.or (.prim .gt (.cons (.prim .len (.cons (.rd 4 "met") .nil)) (.cons (.prim .len (.cons (.rd 1 "kept") .nil)) .nil))) (.and (.prim .eq (.cons (.prim .len (.cons (.rd 4 "met") .nil)) (.cons (.prim .len (.cons (.rd 1 "kept") .nil)) .nil))) (.call "begins_earlier" f_begins_earlier.den [] (.cons (.var 3 "one") (.cons (.var 2 "start") .nil))))) (.cons (.asg (.nm 1 "kept") (.var 4 "met"))
  (.cons (.asg (.nm 2 "start") (.var 3 "one"))
  .nil)) .nil)
  .nil))))
  (.cons (.ret (.var 1 "kept"))
  .nil))))
noncomputable def f_most_met : Fn := ⟨1, 7, b_most_met⟩
noncomputable def b__law_cell : Stms := (.cons (.ite (.prim .lt (.cons (.rd 1 "k") (.cons (.prim .len (.cons (.rd 0 "script") .nil)) .nil))) (.cons (.ret (.prim .idx (.cons (.rd 0 "script") (.cons (.rd 1 "k") .nil))))
  .nil) .nil)
  (.cons (.ret (.con (.int 0)))
  .nil))
noncomputable def f__law_cell : Fn := ⟨2, 2, b__law_cell⟩
noncomputable def b__law_digits : Stms := (.cons (.asg (.nm 3 "rest") (.prim .abs (.cons (.prim .int (.cons (.rd 0 "cell") .nil)) .nil)))
  (.cons (.asg (.nm 4 "digits") (.prim .lst .nil))
  (.cons (.ite (.prim .ge (.cons (.rd 3 "rest") (.cons (.prim .pow (.cons (.con (.int 10)) (.cons (.con (.int 18)) .nil))) .nil))) (.cons (.for (.nm 5 "k") (.rng (.cons (.var 2 "count") .nil)) (.cons (.append 4 "digits" (.prim .mod (.cons (.prim .int (.cons (.rd 3 "rest") .nil)) (.cons (.rd 1 "base") .nil))))
  (.cons (.asg (.nm 3 "rest") (.prim .fdiv (.cons (.rd 3 "rest") (.cons (.rd 1 "base") .nil))))
  .nil)))
  (.cons (.ret (.var 4 "digits"))
  .nil)) .nil)
  (.cons (.for (.nm 5 "k") (.rng (.cons (.var 2 "count") .nil)) (.cons (.asg (.nm 3 "rest") (.prim .mod (.cons (.prim .int (.cons (.prim .add (.cons (.prim .add (.cons (.prim .mul (.cons (.var 3 "rest") (.cons (.con (.int 48271)) .nil))) (.cons (.prim .mul (.cons (.var 5 "k") (.cons (.con (.int 69621)) .nil))) .nil))) (.cons (.con (.int 17)) .nil))) .nil)) (.cons (.con (.int 2147483647)) .nil))))
  (.cons (.asg (.nm 3 "rest") (.prim .mod (.cons (.prim .int (.cons (.prim .add (.cons (.prim .add (.cons (.prim .mul (.cons (.var 3 "rest") (.cons (.con (.int 16807)) .nil))) (.cons (.prim .mul (.cons (.con (.int 2)) (.cons (.var 5 "k") .nil))) .nil))) (.cons (.con (.int 5)) .nil))) .nil)) (.cons (.con (.int 2147483629)) .nil))))
  (.cons (.append 4 "digits" (.prim .mod (.cons (.prim .int (.cons (.prim .fdiv (.cons (.rd 3 "rest") (.cons (.con (.int 64)) .nil))) .nil)) (.cons (.rd 1 "base") .nil))))
  .nil))))
  (.cons (.ret (.var 4 "digits"))
  .nil)))))
noncomputable def f__law_digits : Fn := ⟨3, 6, b__law_digits⟩
noncomputable def b__law_lowest : Stms := (.cons (.asg (.nm 2 "a") (.prim .abs (.cons (.rd 0 "n") .nil)))
  (.cons (.asg (.nm 3 "b") (.var 1 "d"))
  (.cons (.while (.prim .gt (.cons (.rd 3 "b") (.cons (.con (.int 0)) .nil))) (.cons (.asg (.nm 4 "c") (.prim .sub (.cons (.rd 2 "a") (.cons (.prim .mul (.cons (.prim .fdiv (.cons (.rd 2 "a") (.cons (.rd 3 "b") .nil))) (.cons (.var 3 "b") .nil))) .nil))))
  (.cons (.asg (.nm 2 "a") (.var 3 "b"))
  (.cons (.asg (.nm 3 "b") (.var 4 "c"))
  .nil))))
  (.cons (.ret (.prim .tup (.cons (.prim .fdiv (.cons (.rd 0 "n") (.cons (.rd 2 "a") .nil))) (.cons (.prim .fdiv (.cons (.rd 1 "d") (.cons (.rd 2 "a") .nil))) .nil))))
  .nil))))
noncomputable def f__law_lowest : Fn := ⟨2, 5, b__law_lowest⟩
noncomputable def b__law_spots : Stms := (.cons (.asg (.nm 1 "bottom") (.prim .add (.cons (.con (.int 1)) (.cons (.prim .mod (.cons (.prim .int (.cons (.prim .fdiv (.cons (.call "_law_cell" f__law_cell.den [] (.cons (.var 0 "script") (.cons (.con (.int 0)) .nil))) (.cons (.con (.int 4)) .nil))) .nil)) (.cons (.prim .pow (.cons (.con (.int 10)) (.cons (.con (.int 29)) .nil))) .nil))) .nil))))
  (.cons (.ite (.prim .lt (.cons (.prim .mod (.cons (.prim .int (.cons (.call "_law_cell" f__law_cell.den [] (.cons (.var 0 "script") (.cons (.con (.int 0)) .nil))) .nil)) (.cons (.con (.int 4)) .nil))) (.cons (.con (.int 3)) .nil))) (.cons (.asg (.nm 1 "bottom") (.prim .add (.cons (.con (.int 1)) (.cons (.prim .mod (.cons (.prim .int (.cons (.prim .fdiv (.cons (.call "_law_cell" f__law_cell.den [] (.cons (.var 0 "script") (.cons (.con (.int 0)) .nil))) (.cons (.con (.int 4)) .nil))) .nil)) (.cons (.con (.int 3)) .nil))) .nil))))
  .nil) .nil)
  (.cons (.asg (.nm 2 "shift") (.prim .mod (.cons (.prim .int (.cons (.call "_law_cell" f__law_cell.den [] (.cons (.var 0 "script") (.cons (.con (.int 1)) .nil))) .nil)) (.cons (.con (.int 9)) .nil))))
  (.cons (.ret (.comp [("k", 3)] (.nm 3 "k") (.rng (.cons (.con (.int 17)) .nil)) (.call "_law_lowest" f__law_lowest.den [] (.cons (.prim .sub (.cons (.rd 3 "k") (.cons (.prim .mul (.cons (.con (.int 2)) (.cons (.var 2 "shift") .nil))) .nil))) (.cons (.prim .mul (.cons (.con (.int 2)) (.cons (.var 1 "bottom") .nil))) .nil)))))
  .nil))))
noncomputable def f__law_spots : Fn := ⟨1, 4, b__law_spots⟩
noncomputable def b__law_has : Stms := (.cons (.ite (.or (.prim .lt (.cons (.rd 1 "k") (.cons (.prim .idx (.cons (.rd 0 "ends") (.cons (.con (.int 0)) .nil))) .nil))) (.and (.prim .eq (.cons (.rd 1 "k") (.cons (.prim .idx (.cons (.rd 0 "ends") (.cons (.con (.int 0)) .nil))) .nil))) (.not (.prim .idx (.cons (.rd 0 "ends") (.cons (.con (.int 1)) .nil)))))) (.cons (.ret (.con (.bool false)))
  .nil) .nil)
  (.cons (.ret (.or (.prim .lt (.cons (.rd 1 "k") (.cons (.prim .idx (.cons (.rd 0 "ends") (.cons (.con (.int 2)) .nil))) .nil))) (.and (.prim .eq (.cons (.rd 1 "k") (.cons (.prim .idx (.cons (.rd 0 "ends") (.cons (.con (.int 2)) .nil))) .nil))) (.prim .idx (.cons (.rd 0 "ends") (.cons (.con (.int 3)) .nil))))))
  .nil))
noncomputable def f__law_has : Fn := ⟨2, 2, b__law_has⟩
noncomputable def b__law_set : Stms := (.cons (.ret (.compif [("k", 1)] (.nm 1 "k") (.rng (.cons (.con (.int 17)) .nil)) (.call "_law_has" f__law_has.den [] (.cons (.var 0 "ends") (.cons (.var 1 "k") .nil))) (.var 1 "k")))
  .nil)
noncomputable def f__law_set : Fn := ⟨1, 2, b__law_set⟩
noncomputable def b__law_shared : Stms := (.cons (.ret (.compif [("k", 2)] (.nm 2 "k") (.seq (.var 0 "one")) (.prim .inn (.cons (.rd 2 "k") (.cons (.rd 1 "other") .nil))) (.var 2 "k")))
  .nil)
noncomputable def f__law_shared : Fn := ⟨2, 3, b__law_shared⟩
noncomputable def b__law_drawn : Stms := (.cons (.asg (.nm 1 "many") (.prim .add (.cons (.con (.int 1)) (.cons (.prim .mod (.cons (.prim .int (.cons (.call "_law_cell" f__law_cell.den [] (.cons (.var 0 "script") (.cons (.con (.int 2)) .nil))) .nil)) (.cons (.con (.int 12)) .nil))) .nil))))
  (.cons (.asg (.nm 2 "tight") (.prim .eq (.cons (.prim .mod (.cons (.prim .int (.cons (.prim .fdiv (.cons (.call "_law_cell" f__law_cell.den [] (.cons (.var 0 "script") (.cons (.con (.int 2)) .nil))) (.cons (.con (.int 12)) .nil))) .nil)) (.cons (.con (.int 3)) .nil))) (.cons (.con (.int 0)) .nil))))
  (.cons (.asg (.nm 3 "drawn") (.prim .lst .nil))
  (.cons (.for (.nm 4 "k") (.rng (.cons (.var 1 "many") .nil)) (.cons (.asg (.nm 5 "row") (.call "_law_digits" f__law_digits.den [] (.cons (.prim .add (.cons (.call "_law_cell" f__law_cell.den [] (.cons (.var 0 "script") (.cons (.prim .add (.cons (.con (.int 3)) (.cons (.rd 4 "k") .nil))) .nil))) (.cons (.prim .mul (.cons (.con (.int 13)) (.cons (.var 4 "k") .nil))) .nil))) (.cons (.con (.int 36)) (.cons (.con (.int 4)) .nil)))))
  (.cons (.asg (.nm 6 "low") (.prim .mul (.cons (.con (.int 2)) (.cons (.prim .mod (.cons (.prim .idx (.cons (.rd 5 "row") (.cons (.con (.int 0)) .nil))) (.cons (.con (.int 9)) .nil))) .nil))))
  (.cons (.asg (.nm 7 "high") (.prim .mul (.cons (.con (.int 2)) (.cons (.prim .mod (.cons (.prim .idx (.cons (.rd 5 "row") (.cons (.con (.int 1)) .nil))) (.cons (.con (.int 9)) .nil))) .nil))))
  (.cons (.ite (.and (.var 2 "tight") (.prim .lt (.cons (.prim .mod (.cons (.prim .idx (.cons (.rd 5 "row") (.cons (.con (.int 3)) .nil))) (.cons (.con (.int 4)) .nil))) (.cons (.con (.int 3)) .nil)))) (.cons (.asg (.nm 6 "low") (.prim .min2 (.cons (.rd 6 "low") (.cons (.con (.int 8)) .nil))))
  (.cons (.asg (.nm 7 "high") (.prim .max2 (.cons (.rd 7 "high") (.cons (.con (.int 8)) .nil))))
  .nil)) .nil)
  (.cons (.append 3 "drawn" (.prim .tup (.cons (.var 6 "low") (.cons (.prim .gt (.cons (.prim .mod (.cons (.prim .idx (.cons (.rd 5 "row") (.cons (.con (.int 2)) .nil))) (.cons (.con (.int 3)) .nil))) (.cons (.con (.int 0)) .nil))) (.cons (.var 7 "high") (.cons (.prim .gt (.cons (.prim .mod (.cons (.prim .fdiv (.cons (.prim .idx (.cons (.rd 5 "row") (.cons (.con (.int 2)) .nil))) (.cons (.con (.int 3)) .nil))) (.cons (.con (.int 3)) .nil))) (.cons (.con (.int 0)) .nil))) .nil))))))
  .nil))))))
  (.cons (.ret (.var 3 "drawn"))
  .nil)))))
noncomputable def f__law_drawn : Fn := ⟨1, 8, b__law_drawn⟩
noncomputable def b__law_told : Stms := (.cons (.ret (.prim .tup (.cons (.prim .idx (.cons (.rd 1 "spots") (.cons (.prim .idx (.cons (.rd 0 "ends") (.cons (.con (.int 0)) .nil))) .nil))) (.cons (.prim .idx (.cons (.rd 0 "ends") (.cons (.con (.int 1)) .nil))) (.cons (.prim .idx (.cons (.rd 1 "spots") (.cons (.prim .idx (.cons (.rd 0 "ends") (.cons (.con (.int 2)) .nil))) .nil))) (.cons (.prim .idx (.cons (.rd 0 "ends") (.cons (.con (.int 3)) .nil))) .nil))))))
  .nil)
noncomputable def f__law_told : Fn := ⟨2, 2, b__law_told⟩
noncomputable def b__law_due : Stms := (.cons (.asg (.nm 2 "low") (.prim .mul (.cons (.prim .fdiv (.cons (.prim .idx (.cons (.rd 0 "numbers") (.cons (.con (.int 0)) .nil))) (.cons (.con (.int 2)) .nil))) (.cons (.con (.int 2)) .nil))))
  (.cons (.asg (.nm 3 "high") (.prim .mul (.cons (.prim .fdiv (.cons (.prim .add (.cons (.prim .idx (.cons (.rd 0 "numbers") (.cons (.prim .neg (.cons (.con (.int 1)) .nil)) .nil))) (.cons (.con (.int 1)) .nil))) (.cons (.con (.int 2)) .nil))) (.cons (.con (.int 2)) .nil))))
  (.cons (.ret (.prim .tup (.cons (.prim .idx (.cons (.rd 1 "spots") (.cons (.rd 2 "low") .nil))) (.cons (.prim .eq (.cons (.prim .idx (.cons (.rd 0 "numbers") (.cons (.con (.int 0)) .nil))) (.cons (.rd 2 "low") .nil))) (.cons (.prim .idx (.cons (.rd 1 "spots") (.cons (.rd 3 "high") .nil))) (.cons (.prim .eq (.cons (.prim .idx (.cons (.rd 0 "numbers") (.cons (.prim .neg (.cons (.con (.int 1)) .nil)) .nil))) (.cons (.rd 3 "high") .nil))) .nil))))))
  .nil)))
noncomputable def f__law_due : Fn := ⟨2, 4, b__law_due⟩
noncomputable def b__law_is_stretch : Stms := (.cons (.ite (.or (.not (.isi .tuple (.cons (.rd 0 "value") .nil))) (.prim .ne (.cons (.prim .len (.cons (.rd 0 "value") .nil)) (.cons (.con (.int 4)) .nil)))) (.cons (.ret (.con (.bool false)))
  .nil) .nil)
  (.cons (.ite (.or (.not (.isi .bool (.cons (.prim .idx (.cons (.rd 0 "value") (.cons (.con (.int 1)) .nil))) .nil))) (.not (.isi .bool (.cons (.prim .idx (.cons (.rd 0 "value") (.cons (.con (.int 3)) .nil))) .nil)))) (.cons (.ret (.con (.bool false)))
  .nil) .nil)
  (.cons (.for (.nm 3 "number") (.seq (.prim .lst (.cons (.prim .idx (.cons (.rd 0 "value") (.cons (.con (.int 0)) .nil))) (.cons (.prim .idx (.cons (.rd 0 "value") (.cons (.con (.int 2)) .nil))) .nil)))) (.cons (.ite (.or (.not (.isi .tuple (.cons (.rd 3 "number") .nil))) (.prim .ne (.cons (.prim .len (.cons (.rd 3 "number") .nil)) (.cons (.con (.int 2)) .nil)))) (.cons (.ret (.con (.bool false)))
  .nil) .nil)
  (.cons (.ite (.or (.isi .bool (.cons (.prim .idx (.cons (.rd 3 "number") (.cons (.con (.int 0)) .nil))) .nil)) (.isi .bool (.cons (.prim .idx (.cons (.rd 3 "number") (.cons (.con (.int 1)) .nil))) .nil))) (.cons (.ret (.con (.bool false)))
  .nil) .nil)
  .nil)))
  (.cons (.ret (.prim .eq (.cons (.rd 0 "value") (.cons (.call "_law_due" f__law_due.den [] (.cons (.var 2 "due") (.cons (.var 1 "spots") .nil))) .nil))))
  .nil))))
noncomputable def f__law_is_stretch : Fn := ⟨3, 4, b__law_is_stretch⟩
noncomputable def b__law_single : Stms := (.cons (.asg (.nm 2 "told") (.call "stretch" f_stretch.den [] (.cons (.prim .idx (.cons (.rd 1 "spots") (.cons (.prim .idx (.cons (.rd 0 "ends") (.cons (.con (.int 0)) .nil))) .nil))) (.cons (.prim .idx (.cons (.rd 0 "ends") (.cons (.con (.int 1)) .nil))) (.cons (.prim .idx (.cons (.rd 1 "spots") (.cons (.prim .idx (.cons (.rd 0 "ends") (.cons (.con (.int 2)) .nil))) .nil))) (.cons (.prim .idx (.cons (.rd 0 "ends") (.cons (.con (.int 3)) .nil))) .nil))))))
  (.cons (.ite (.prim .eq (.cons (.call "_law_set" f__law_set.den [] (.cons (.var 0 "ends") .nil)) (.cons (.prim .lst .nil) .nil))) (.cons (.ret (.prim .isN (.cons (.rd 2 "told") (.cons (.con .none) .nil))))
  .nil) .nil)
  (.cons (.ite (.or (.not (.isi .tuple (.cons (.rd 2 "told") .nil))) (.prim .ne (.cons (.rd 2 "told") (.cons (.call "_law_told" f__law_told.den [] (.cons (.var 0 "ends") (.cons (.var 1 "spots") .nil))) .nil)))) (.cons (.ret (.con (.bool false)))
  .nil) .nil)
  (.cons (.ite (.or (.not (.isi .bool (.cons (.prim .idx (.cons (.rd 2 "told") (.cons (.con (.int 1)) .nil))) .nil))) (.not (.isi .bool (.cons (.prim .idx (.cons (.rd 2 "told") (.cons (.con (.int 3)) .nil))) .nil)))) (.cons (.ret (.con (.bool false)))
  .nil) .nil)
  (.cons (.for (.nm 3 "k") (.rng (.cons (.con (.int 17)) .nil)) (.cons (.asg (.nm 4 "answer") (.call "in_stretch" f_in_stretch.den [] (.cons (.prim .idx (.cons (.rd 1 "spots") (.cons (.rd 3 "k") .nil))) (.cons (.var 2 "told") .nil))))
  (.cons (.ite (.or (.not (.isi .bool (.cons (.rd 4 "answer") .nil))) (.prim .ne (.cons (.rd 4 "answer") (.cons (.call "_law_has" f__law_has.den [] (.cons (.var 0 "ends") (.cons (.var 3 "k") .nil))) .nil)))) (.cons (.ret (.con (.bool false)))
  .nil) .nil)
  .nil)))
  (.cons (.ret (.con (.bool true)))
  .nil))))))
noncomputable def f__law_single : Fn := ⟨2, 5, b__law_single⟩
noncomputable def b__law_is_index : Stms := (.cons (.ret (.and (.isi .int (.cons (.rd 0 "value") .nil)) (.and (.not (.isi .bool (.cons (.rd 0 "value") .nil))) (.chain .le .lt (.con (.int 0)) (.var 0 "value") (.var 1 "many")))))
  .nil)
noncomputable def f__law_is_index : Fn := ⟨2, 2, b__law_is_index⟩
noncomputable def b__law_all_due : Stms := (.cons (.asg (.nm 1 "shared") (.prim .idx (.cons (.rd 0 "sets") (.cons (.con (.int 0)) .nil))))
  (.cons (.for (.nm 2 "one") (.seq (.var 0 "sets")) (.cons (.asg (.nm 1 "shared") (.call "_law_shared" f__law_shared.den [] (.cons (.var 1 "shared") (.cons (.var 2 "one") .nil))))
  .nil))
  (.cons (.ite (.prim .ne (.cons (.rd 1 "shared") (.cons (.prim .lst .nil) .nil))) (.cons (.ret (.prim .tup (.cons (.con (.str "all")) (.cons (.var 1 "shared") .nil))))
  .nil) .nil)
  (.cons (.for (.nm 3 "i") (.rng (.cons (.prim .len (.cons (.rd 0 "sets") .nil)) .nil)) (.cons (.for (.nm 4 "j") (.rng (.cons (.prim .add (.cons (.rd 3 "i") (.cons (.con (.int 1)) .nil))) (.cons (.prim .len (.cons (.rd 0 "sets") .nil)) .nil))) (.cons (.ite (.prim .eq (.cons (.call "_law_shared" f__law_shared.den [] (.cons (.prim .idx (.cons (.rd 0 "sets") (.cons (.rd 3 "i") .nil))) (.cons (.prim .idx (.cons (.rd 0 "sets") (.cons (.rd 4 "j") .nil))) .nil))) (.cons (.prim .lst .nil) .nil))) (.cons (.ret (.prim .tup (.cons (.con (.str "apart")) (.cons (.var 3 "i") (.cons (.var 4 "j") .nil)))))
  .nil) .nil)
  .nil))
  .nil))
  (.cons (.ret (.con .none))
  .nil)))))
noncomputable def f__law_all_due : Fn := ⟨1, 5, b__law_all_due⟩
noncomputable def b__law_all : Stms := (.cons (.asg (.nm 3 "handed") (.prim .list (.cons (.rd 0 "stretches") .nil)))
  (.cons (.asg (.nm 4 "told") (.call "meet_all" f_meet_all.den [] (.cons (.var 3 "handed") .nil)))
  (.cons (.asg (.nm 5 "due") (.call "_law_all_due" f__law_all_due.den [] (.cons (.var 1 "sets") .nil)))
  (.cons (.ite (.or (.prim .ne (.cons (.rd 3 "handed") (.cons (.rd 0 "stretches") .nil))) (.or (.not (.isi .tuple (.cons (.rd 4 "told") .nil))) (.or (.prim .ne (.cons (.prim .len (.cons (.rd 4 "told") .nil)) (.cons (.prim .len (.cons (.rd 5 "due") .nil)) .nil))) (.prim .ne (.cons (.prim .idx (.cons (.rd 4 "told") (.cons (.con (.int 0)) .nil))) (.cons (.prim .idx (.cons (.rd 5 "due") (.cons (.con (.int 0)) .nil))) .nil)))))) (.cons (.ret (.con (.bool false)))
  .nil) .nil)
  (.cons (.ite (.prim .eq (.cons (.prim .idx (.cons (.rd 5 "due") (.cons (.con (.int 0)) .nil))) (.cons (.con (.str "all")) .nil))) (.cons (.ret (.call "_law_is_stretch" f__law_is_stretch.den [] (.cons (.prim .idx (.cons (.rd 4 "told") (.cons (.con (.int 1)) .nil))) (.cons (.var 2 "spots") (.cons (.prim .idx (.cons (.rd 5 "due") (.cons (.con (.int 1)) .nil))) .nil)))))
  .nil) .nil)
  (.cons (.for (.nm 6 "k") (.seq (.prim .lst (.cons (.con (.int 1)) (.cons (.con (.int 2)) .nil)))) (.cons (.ite (.or (.not (.call "_law_is_index" f__law_is_index.den [] (.cons (.prim .idx (.cons (.rd 4 "told") (.cons (.rd 6 "k") .nil))) (.cons (.prim .len (.cons (.rd 1 "sets") .nil)) .nil)))) (.prim .ne (.cons (.prim .idx (.cons (.rd 4 "told") (.cons (.rd 6 "k") .nil))) (.cons (.prim .idx (.cons (.rd 5 "due") (.cons (.rd 6 "k") .nil))) .nil)))) (.cons (.ret (.con (.bool false)))
  .nil) .nil)
  .nil))
  (.cons (.ret (.con (.bool true)))
  .nil)))))))
noncomputable def f__law_all : Fn := ⟨3, 7, b__law_all⟩
noncomputable def b__law_most : Stms := (.cons (.asg (.nm 2 "handed") (.prim .list (.cons (.rd 0 "mixed") .nil)))
  (.cons (.asg (.nm 3 "told") (.call "most_met" f_most_met.den [] (.cons (.var 2 "handed") .nil)))
  (.cons (.ite (.or (.prim .ne (.cons (.rd 2 "handed") (.cons (.rd 0 "mixed") .nil))) (.not (.isi .list (.cons (.rd 3 "told") .nil)))) (.cons (.ret (.con (.bool false)))
  .nil) .nil)
  (.cons (.asg (.nm 4 "best") (.prim .lst .nil))
  (.cons (.for (.nm 5 "k") (.rng (.cons (.con (.int 17)) .nil)) (.cons (.asg (.nm 7 "met") (.compif [("i", 6)] (.nm 6 "i") (.rng (.cons (.prim .len (.cons (.rd 1 "sets") .nil)) .nil)) (.and (.prim .notN (.cons (.prim .idx (.cons (.rd 0 "mixed") (.cons (.rd 6 "i") .nil))) (.cons (.con .none) .nil))) (.prim .inn (.cons (.rd 5 "k") (.cons (.prim .idx (.cons (.rd 1 "sets") (.cons (.rd 6 "i") .nil))) .nil)))) (.var 6 "i")))
  (.cons (.ite (.prim .gt (.cons (.prim .len (.cons (.rd 7 "met") .nil)) (.cons (.prim .len (.cons (.rd 4 "best") .nil)) .nil))) (.cons (.asg (.nm 4 "best") (.var 7 "met"))
  .nil) .nil)
  .nil)))
  (.cons (.for (.nm 6 "i") (.seq (.var 3 "told")) (.cons (.ite (.not (.call "_law_is_index" f__law_is_index.den [] (.cons (.var 6 "i") (.cons (.prim .len (.cons (.rd 1 "sets") .nil)) .nil)))) (.cons (.ret (.con (.bool false)))
  .nil) .nil)
  .nil))
  (.cons (.ret (.prim .eq (.cons (.rd 3 "told") (.cons (.rd 4 "best") .nil))))
  .nil)))))))
noncomputable def f__law_most : Fn := ⟨2, 8, b__law_most⟩
noncomputable def b_law : Stms := (.cons (.asg (.nm 1 "spots") (.call "_law_spots" f__law_spots.den [] (.cons (.var 0 "script") .nil)))
  (.cons (.asg (.nm 2 "drawn") (.call "_law_drawn" f__law_drawn.den [] (.cons (.var 0 "script") .nil)))
  (.cons (.asg (.nm 3 "stretches") (.prim .lst .nil))
  (.cons (.asg (.nm 4 "sets") (.prim .lst .nil))
  (.cons (.for (.nm 5 "ends") (.seq (.var 2 "drawn")) (.cons (.ite (.not (.call "_law_single" f__law_single.den [] (.cons (.var 5 "ends") (.cons (.var 1 "spots") .nil)))) (.cons (.ret (.con (.bool false)))
  .nil) .nil)
  (.cons (.ite (.prim .ne (.cons (.call "_law_set" f__law_set.den [] (.cons (.var 5 "ends") .nil)) (.cons (.prim .lst .nil) .nil))) (.cons (.append 3 "stretches" (.call "_law_told" f__law_told.den [] (.cons (.var 5 "ends") (.cons (.var 1 "spots") .nil))))
  (.cons (.append 4 "sets" (.call "_law_set" f__law_set.den [] (.cons (.var 5 "ends") .nil)))
  .nil)) .nil)
  .nil)))
  (.cons (.ite (.or (.prim .ne (.cons (.call "most_met" f_most_met.den [] (.cons (.prim .lst .nil) .nil)) (.cons (.prim .lst .nil) .nil))) (.prim .ne (.cons (.call "most_met" f_most_met.den [] (.cons (.prim .lst (.cons (.con .none) .nil)) .nil)) (.cons (.prim .lst .nil) .nil)))) (.cons (.ret (.con (.bool false)))
  .nil) .nil)
  (.cons (.ite (.prim .eq (.cons (.rd 3 "stretches") (.cons (.prim .lst .nil) .nil))) (.cons (.ret (.con (.bool true)))
  .nil) .nil)
  (.cons (.for (.nm 6 "i") (.rng (.cons (.prim .len (.cons (.rd 4 "sets") .nil)) .nil)) (.cons (.for (.nm 8 "j") (.seq (.prim .lst (.cons (.con (.int 0)) (.cons (.prim .fdiv (.cons (.rd 6 "i") (.cons (.con (.int 2)) .nil))) (.cons (.prim .sub (.cons (.prim .len (.cons (.rd 4 "sets") .nil)) (.cons (.con (.int 1)) .nil))) .nil))))) (.cons (.asg (.nm 9 "shared") (.call "_law_shared" f__law_shared.den [] (.cons (.prim .idx (.cons (.rd 4 "sets") (.cons (.rd 6 "i") .nil))) (.cons (.prim .idx (.cons (.rd 4 "sets") (.cons (.rd 8 "j") .nil))) .nil))))
  (.cons (.asg (.nm 10 "told") (.call "meet" f_meet.den [] (.cons (.prim .idx (.cons (.rd 3 "stretches") (.cons (.rd 6 "i") .nil))) (.cons (.prim .idx (.cons (.rd 3 "stretches") (.cons (.rd 8 "j") .nil))) .nil))))
  (.cons (.ite (.and (.prim .eq (.cons (.rd 9 "shared") (.cons (.prim .lst .nil) .nil))) (.prim .notN (.cons (.rd 10 "told") (.cons (.con .none) .nil)))) (.cons (.ret (.con (.bool false)))
  .nil) .nil)
  (.cons (.ite (.and (.prim .ne (.cons (.rd 9 "shared") (.cons (.prim .lst .nil) .nil))) (.not (.call "_law_is_stretch" f__law_is_stretch.den [] (.cons (.var 10 "told") (.cons (.var 1 "spots") (.cons (.var 9 "shared") .nil)))))) (.cons (.ret (.con (.bool false)))
  .nil) .nil)
  .nil)))))
  .nil))
  (.cons (.ite (.or (.not (.call "_law_all" f__law_all.den [] (.cons (.var 3 "stretches") (.cons (.var 4 "sets") (.cons (.var 1 "spots") .nil))))) (.not (.call "_law_most" f__law_most.den [] (.cons (.var 3 "stretches") (.cons (.var 4 "sets") .nil))))) (.cons (.ret (.con (.bool false)))
  .nil) .nil)
  (.cons (.asg (.nm 7 "row") (.call "_law_digits" f__law_digits.den [] (.cons (.call "_law_cell" f__law_cell.den [] (.cons (.var 0 "script") (.cons (.con (.int 15)) .nil))) (.cons (.con (.int 3)) (.cons (.prim .len (.cons (.rd 3 "stretches") .nil)) .nil)))))
  (.cons (.ret (.call "_law_most" f__law_most.den [] (.cons (.comp [("k", 11)] (.nm 11 "k") (.rng (.cons (.prim .len (.cons (.rd 3 "stretches") .nil)) .nil)) (.ite (.prim .gt (.cons (.prim .idx (.cons (.rd 7 "row") (.cons (.rd 11 "k") .nil))) (.cons (.con (.int 0)) .nil))) (.prim .idx (.cons (.rd 3 "stretches") (.cons (.rd 11 "k") .nil))) (.con .none))) (.cons (.var 4 "sets") .nil))))
  .nil)))))))))))
noncomputable def f_law : Fn := ⟨1, 12, b_law⟩
end K88
set_option Elab.async false
set_option linter.all false
set_option maxRecDepth 100000
namespace K88
open PySem Ev
/-! ### spots: fractions in rising order; stretches: the whole numbers from a to b -/
structure Sp (sp : Int → Int × Int) : Prop where
  q : ∀ i, 0 ≤ i → i ≤ 16 → Q 200 (sp i)
  lt : ∀ i j, (sp i).1 * (sp j).2 < (sp j).1 * (sp i).2 ↔ i < j
abbrev lo (a : Int) : Int := 2 * (a / 2)
abbrev hi (b : Int) : Int := 2 * ((b + 1) / 2)
abbrev ev (a : Int) : Bool := decide (a % 2 = 0)
abbrev sD (sp : Int → Int × Int) (a b : Int) : D := .tup [fr (sp (lo a)), .bl (ev a), fr (sp (hi b)), .bl (ev b)]
def sR (sp : Int → Int × Int) (a b : Int) : D := if a ≤ b then sD sp a b else .non
structure Rg (a b : Int) : Prop where
  a0 : 0 ≤ a
  a1 : a ≤ 17
  b0 : -1 ≤ b
  b1 : b ≤ 16
section
variable {sp : Int → Int × Int} {a b c d i j k : Int}
theorem lo_rg (h : Rg a b) : 0 ≤ lo a ∧ lo a ≤ 16 := by have := h.a0; have := h.a1; simp only [lo]; omega
theorem hi_rg (h : Rg a b) : 0 ≤ hi b ∧ hi b ≤ 16 := by have := h.b0; have := h.b1; simp only [hi]; omega
theorem Sp.inj (S : Sp sp) : sp i = sp j ↔ i = j := by
  constructor
  · intro e
    have h1 := S.lt i j
    have h2 := S.lt j i
    rw [e] at h1 h2
    omega
  · intro e
    rw [e]
theorem p_eqfr (a b : Int × Int) : evPrim .eq [.val (fr a), .val (fr b)] = .d (.bl (a.1 == b.1 && (a.2 == b.2 && true))) := rfl
theorem Sp.eq (S : Sp sp) (i j : Int) : evPrim .eq [.val (fr (sp i)), .val (fr (sp j))] = .d (.bl (decide (i = j))) := by
  rw [p_eqfr]
  congr 2
  rw [Bool.eq_iff_iff]
  simp only [Bool.and_eq_true, beq_iff_eq, and_true, decide_eq_true_eq]
  rw [← S.inj (i := i) (j := j)]
  exact ⟨fun h => Prod.ext h.1 h.2, fun h => by rw [h]; exact ⟨rfl, rfl⟩⟩
theorem den_below (S : Sp sp) (hi : 0 ≤ i ∧ i ≤ 16) (hj : 0 ≤ j ∧ j ≤ 16) : f_below.den [.val (fr (sp i)), .val (fr (sp j))] = .ok (.val (.bl (decide (i < j)))) := by
  have m1 := mulOk_of (S.q i hi.1 hi.2).b1 (S.q j hj.1 hj.2).b2 (by omega)
  have m2 := mulOk_of (S.q j hj.1 hj.2).b1 (S.q i hi.1 hi.2).b2 (by omega)
  refine den_of rfl ?_
  have e : decide ((sp i).1 * (sp j).2 < (sp j).1 * (sp i).2) = decide (i < j) := decide_eq_decide.mpr (S.lt i j)
  simp only [b_below, es_nil, es_cons, es_asgN, es_asgT, es_par, es_if, es_for, es_ret, es_retN, o_prim, o_call, o_var, o_con, o_glob, o_isi, o_and, o_or, o_not, o_ite, o_chain, e_var, e_rd, e_int, e_bl, e_non, e_str, e_glob, e_prim, e_isi, e_call, e_and, e_or, e_not, e_ite, ea_nil, ea_rd, ea_var, ea_con, ea_glob, ea_prim, ea_isi, ea_call, ea_and, ea_or, ea_not, ea_ite, ea_chain, ea_slc, ea_comp, ea_compif, r_var, r_prim, r_con, r_glob, r_call, r_isi, r_and, r_or, r_not, r_ite, r_chain, r_comp, r_compif, r_slc, ld_nil, ld_val, ld_own, ld_bor, ld_none, wp_nil, wp_c, tg_nm, tg_tup, tg_nil, tg_c, e_chain, es_cont, es_brk, es_pass, p_min2, p_max2, p_l0, p_l1, p_l2, p_l3, p_l4, p_is0, p_not0, n_non, n_tup, i_seq, q_lst, q_tup, q_ro, y_tt, y_tn, y_ii, y_bi, y_bb, y_lv, y_lb, oO_some, slotR, l_0, l_s, v_0, v_s, R.bind_ok, R.bind_bad, pd_nil, pd_c, sl_d, sl_s, okD_d, okD_l, okS_d, okS_l, rf_val, rf_own, fz_val, fz_own, tr_bl, t_bl, t_int, p_add, p_sub, p_neg, p_eq, p_ne, p_lt, p_le, p_gt, p_ge, p_abs, p_int, p_gcd, p_i0, p_i1, p_i2, p_i3, p_len2, p_len3, p_len4, p_t3, p_t4, p_t2, List.map, List.cons_append, List.nil_append, List.append_nil, List.length_cons, List.length_nil, List.replicate, if_true, if_false, Bool.false_eq_true, Nat.reduceAdd, Nat.reduceSub, decide_eq_true_eq, eq_self, decide_true, Bool.not_true, Bool.not_false, Int.reduceEq, Int.reduceLT, Int.reduceLE, decide_false, p_mul _ _ m1, p_mul _ _ m2, e]
theorem den_stretch (S : Sp sp) (r : Rg a b) : f_stretch.den [.val (fr (sp (lo a))), .val (.bl (ev a)), .val (fr (sp (hi b))), .val (.bl (ev b))] = .ok (.val (sR sp a b)) := by
  refine den_of rfl ?_
  unfold sR
  by_cases h0 : a ≤ b <;> cases h1 : decide (hi b < lo a) <;> cases h2 : decide (lo a = hi b) <;> cases h3 : ev a <;> cases h4 : ev b <;>
    first
    | (exfalso; simp only [lo, hi, ev, decide_eq_true_eq, decide_eq_false_iff_not] at h1 h2 h3 h4; omega)
    | simp only [b_stretch, es_nil, es_cons, es_asgN, es_asgT, es_par, es_if, es_for, es_ret, es_retN, o_prim, o_call, o_var, o_con, o_glob, o_isi, o_and, o_or, o_not, o_ite, o_chain, e_var, e_rd, e_int, e_bl, e_non, e_str, e_glob, e_prim, e_isi, e_call, e_and, e_or, e_not, e_ite, ea_nil, ea_rd, ea_var, ea_con, ea_glob, ea_prim, ea_isi, ea_call, ea_and, ea_or, ea_not, ea_ite, ea_chain, ea_slc, ea_comp, ea_compif, r_var, r_prim, r_con, r_glob, r_call, r_isi, r_and, r_or, r_not, r_ite, r_chain, r_comp, r_compif, r_slc, ld_nil, ld_val, ld_own, ld_bor, ld_none, wp_nil, wp_c, tg_nm, tg_tup, tg_nil, tg_c, e_chain, es_cont, es_brk, es_pass, p_min2, p_max2, p_l0, p_l1, p_l2, p_l3, p_l4, p_is0, p_not0, n_non, n_tup, i_seq, q_lst, q_tup, q_ro, y_tt, y_tn, y_ii, y_bi, y_bb, y_lv, y_lb, oO_some, slotR, l_0, l_s, v_0, v_s, R.bind_ok, R.bind_bad, pd_nil, pd_c, sl_d, sl_s, okD_d, okD_l, okS_d, okS_l, rf_val, rf_own, fz_val, fz_own, tr_bl, t_bl, t_int, p_add, p_sub, p_neg, p_eq, p_ne, p_lt, p_le, p_gt, p_ge, p_abs, p_int, p_gcd, p_i0, p_i1, p_i2, p_i3, p_len2, p_len3, p_len4, p_t3, p_t4, p_t2, List.map, List.cons_append, List.nil_append, List.append_nil, List.length_cons, List.length_nil, List.replicate, if_true, if_false, Bool.false_eq_true, Nat.reduceAdd, Nat.reduceSub, decide_eq_true_eq, eq_self, decide_true, Bool.not_true, Bool.not_false, Int.reduceEq, Int.reduceLT, Int.reduceLE, decide_false, den_below S (hi_rg r) (lo_rg r), S.eq, sD, h0, h1, h2, h3, h4]
theorem den_in (S : Sp sp) (r : Rg a b) (h : a ≤ b) (hk : 0 ≤ k ∧ k ≤ 16) : f_in_stretch.den [.val (fr (sp k)), .val (sD sp a b)] = .ok (.val (.bl (decide (a ≤ k ∧ k ≤ b)))) := by
  refine den_of rfl ?_
  cases h0 : decide (a ≤ k ∧ k ≤ b) <;> cases h1 : decide (k < lo a) <;> cases h2 : decide (k = lo a) <;> cases h3 : ev a <;> cases h4 : decide (k < hi b) <;> cases h5 : decide (k = hi b) <;> cases h6 : ev b <;>
    first
    | (exfalso; simp only [lo, hi, ev, decide_eq_true_eq, decide_eq_false_iff_not] at h0 h1 h2 h3 h4 h5 h6; omega)
    | simp only [b_in_stretch, es_nil, es_cons, es_asgN, es_asgT, es_par, es_if, es_for, es_ret, es_retN, o_prim, o_call, o_var, o_con, o_glob, o_isi, o_and, o_or, o_not, o_ite, o_chain, e_var, e_rd, e_int, e_bl, e_non, e_str, e_glob, e_prim, e_isi, e_call, e_and, e_or, e_not, e_ite, ea_nil, ea_rd, ea_var, ea_con, ea_glob, ea_prim, ea_isi, ea_call, ea_and, ea_or, ea_not, ea_ite, ea_chain, ea_slc, ea_comp, ea_compif, r_var, r_prim, r_con, r_glob, r_call, r_isi, r_and, r_or, r_not, r_ite, r_chain, r_comp, r_compif, r_slc, ld_nil, ld_val, ld_own, ld_bor, ld_none, wp_nil, wp_c, tg_nm, tg_tup, tg_nil, tg_c, e_chain, es_cont, es_brk, es_pass, p_min2, p_max2, p_l0, p_l1, p_l2, p_l3, p_l4, p_is0, p_not0, n_non, n_tup, i_seq, q_lst, q_tup, q_ro, y_tt, y_tn, y_ii, y_bi, y_bb, y_lv, y_lb, oO_some, slotR, l_0, l_s, v_0, v_s, R.bind_ok, R.bind_bad, pd_nil, pd_c, sl_d, sl_s, okD_d, okD_l, okS_d, okS_l, rf_val, rf_own, fz_val, fz_own, tr_bl, t_bl, t_int, p_add, p_sub, p_neg, p_eq, p_ne, p_lt, p_le, p_gt, p_ge, p_abs, p_int, p_gcd, p_i0, p_i1, p_i2, p_i3, p_len2, p_len3, p_len4, p_t3, p_t4, p_t2, List.map, List.cons_append, List.nil_append, List.append_nil, List.length_cons, List.length_nil, List.replicate, if_true, if_false, Bool.false_eq_true, Nat.reduceAdd, Nat.reduceSub, decide_eq_true_eq, eq_self, decide_true, Bool.not_true, Bool.not_false, Int.reduceEq, Int.reduceLT, Int.reduceLE, decide_false, den_below S hk (lo_rg r), den_below S hk (hi_rg r), S.eq, sD, h0, h1, h2, h3, h4, h5, h6]
theorem den_begins (S : Sp sp) (r : Rg a b) (r' : Rg c d) : f_begins_earlier.den [.val (sD sp a b), .val (sD sp c d)] = .ok (.val (.bl (decide (a < c)))) := by
  refine den_of rfl ?_
  cases h0 : decide (a < c) <;> cases h1 : decide (lo a < lo c) <;> cases h2 : decide (lo a = lo c) <;> cases h3 : ev a <;> cases h4 : ev c <;>
    first
    | (exfalso; simp only [lo, hi, ev, decide_eq_true_eq, decide_eq_false_iff_not] at h0 h1 h2 h3 h4; omega)
    | simp only [b_begins_earlier, es_nil, es_cons, es_asgN, es_asgT, es_par, es_if, es_for, es_ret, es_retN, o_prim, o_call, o_var, o_con, o_glob, o_isi, o_and, o_or, o_not, o_ite, o_chain, e_var, e_rd, e_int, e_bl, e_non, e_str, e_glob, e_prim, e_isi, e_call, e_and, e_or, e_not, e_ite, ea_nil, ea_rd, ea_var, ea_con, ea_glob, ea_prim, ea_isi, ea_call, ea_and, ea_or, ea_not, ea_ite, ea_chain, ea_slc, ea_comp, ea_compif, r_var, r_prim, r_con, r_glob, r_call, r_isi, r_and, r_or, r_not, r_ite, r_chain, r_comp, r_compif, r_slc, ld_nil, ld_val, ld_own, ld_bor, ld_none, wp_nil, wp_c, tg_nm, tg_tup, tg_nil, tg_c, e_chain, es_cont, es_brk, es_pass, p_min2, p_max2, p_l0, p_l1, p_l2, p_l3, p_l4, p_is0, p_not0, n_non, n_tup, i_seq, q_lst, q_tup, q_ro, y_tt, y_tn, y_ii, y_bi, y_bb, y_lv, y_lb, oO_some, slotR, l_0, l_s, v_0, v_s, R.bind_ok, R.bind_bad, pd_nil, pd_c, sl_d, sl_s, okD_d, okD_l, okS_d, okS_l, rf_val, rf_own, fz_val, fz_own, tr_bl, t_bl, t_int, p_add, p_sub, p_neg, p_eq, p_ne, p_lt, p_le, p_gt, p_ge, p_abs, p_int, p_gcd, p_i0, p_i1, p_i2, p_i3, p_len2, p_len3, p_len4, p_t3, p_t4, p_t2, List.map, List.cons_append, List.nil_append, List.append_nil, List.length_cons, List.length_nil, List.replicate, if_true, if_false, Bool.false_eq_true, Nat.reduceAdd, Nat.reduceSub, decide_eq_true_eq, eq_self, decide_true, Bool.not_true, Bool.not_false, Int.reduceEq, Int.reduceLT, Int.reduceLE, decide_false, den_below S (lo_rg r) (lo_rg r'), S.eq, sD, h0, h1, h2, h3, h4]
theorem den_covers (S : Sp sp) (r : Rg a b) (r' : Rg c d) (h : a ≤ b) (q : c ≤ d) : f_covers_begin.den [.val (sD sp a b), .val (sD sp c d)] = .ok (.val (.bl (decide (a ≤ c ∧ c ≤ b)))) := by
  have bg := den_begins S r' r
  refine den_of rfl ?_
  unfold b_covers_begin
  by_cases h1 : c < a
  · rw [decide_eq_true h1] at bg
    rw [decide_eq_false (show ¬ (a ≤ c ∧ c ≤ b) by omega)]
    exact step_rt (by simp only [es_nil, es_cons, es_asgN, es_asgT, es_par, es_if, es_for, es_ret, es_retN, o_prim, o_call, o_var, o_con, o_glob, o_isi, o_and, o_or, o_not, o_ite, o_chain, e_var, e_rd, e_int, e_bl, e_non, e_str, e_glob, e_prim, e_isi, e_call, e_and, e_or, e_not, e_ite, ea_nil, ea_rd, ea_var, ea_con, ea_glob, ea_prim, ea_isi, ea_call, ea_and, ea_or, ea_not, ea_ite, ea_chain, ea_slc, ea_comp, ea_compif, r_var, r_prim, r_con, r_glob, r_call, r_isi, r_and, r_or, r_not, r_ite, r_chain, r_comp, r_compif, r_slc, ld_nil, ld_val, ld_own, ld_bor, ld_none, wp_nil, wp_c, tg_nm, tg_tup, tg_nil, tg_c, e_chain, es_cont, es_brk, es_pass, p_min2, p_max2, p_l0, p_l1, p_l2, p_l3, p_l4, p_is0, p_not0, n_non, n_tup, i_seq, q_lst, q_tup, q_ro, y_tt, y_tn, y_ii, y_bi, y_bb, y_lv, y_lb, oO_some, slotR, l_0, l_s, v_0, v_s, R.bind_ok, R.bind_bad, pd_nil, pd_c, sl_d, sl_s, okD_d, okD_l, okS_d, okS_l, rf_val, rf_own, fz_val, fz_own, tr_bl, t_bl, t_int, p_add, p_sub, p_neg, p_eq, p_ne, p_lt, p_le, p_gt, p_ge, p_abs, p_int, p_gcd, p_i0, p_i1, p_i2, p_i3, p_len2, p_len3, p_len4, p_t3, p_t4, p_t2, List.map, List.cons_append, List.nil_append, List.append_nil, List.length_cons, List.length_nil, List.replicate, if_true, if_false, Bool.false_eq_true, Nat.reduceAdd, Nat.reduceSub, decide_eq_true_eq, eq_self, decide_true, Bool.not_true, Bool.not_false, Int.reduceEq, Int.reduceLT, Int.reduceLE, decide_false, bg])
  · rw [decide_eq_false h1] at bg
    refine step (e2 := [some (.val (sD sp a b)), some (.val (sD sp c d))]) (by simp only [es_nil, es_cons, es_asgN, es_asgT, es_par, es_if, es_for, es_ret, es_retN, o_prim, o_call, o_var, o_con, o_glob, o_isi, o_and, o_or, o_not, o_ite, o_chain, e_var, e_rd, e_int, e_bl, e_non, e_str, e_glob, e_prim, e_isi, e_call, e_and, e_or, e_not, e_ite, ea_nil, ea_rd, ea_var, ea_con, ea_glob, ea_prim, ea_isi, ea_call, ea_and, ea_or, ea_not, ea_ite, ea_chain, ea_slc, ea_comp, ea_compif, r_var, r_prim, r_con, r_glob, r_call, r_isi, r_and, r_or, r_not, r_ite, r_chain, r_comp, r_compif, r_slc, ld_nil, ld_val, ld_own, ld_bor, ld_none, wp_nil, wp_c, tg_nm, tg_tup, tg_nil, tg_c, e_chain, es_cont, es_brk, es_pass, p_min2, p_max2, p_l0, p_l1, p_l2, p_l3, p_l4, p_is0, p_not0, n_non, n_tup, i_seq, q_lst, q_tup, q_ro, y_tt, y_tn, y_ii, y_bi, y_bb, y_lv, y_lb, oO_some, slotR, l_0, l_s, v_0, v_s, R.bind_ok, R.bind_bad, pd_nil, pd_c, sl_d, sl_s, okD_d, okD_l, okS_d, okS_l, rf_val, rf_own, fz_val, fz_own, tr_bl, t_bl, t_int, p_add, p_sub, p_neg, p_eq, p_ne, p_lt, p_le, p_gt, p_ge, p_abs, p_int, p_gcd, p_i0, p_i1, p_i2, p_i3, p_len2, p_len3, p_len4, p_t3, p_t4, p_t2, List.map, List.cons_append, List.nil_append, List.append_nil, List.length_cons, List.length_nil, List.replicate, if_true, if_false, Bool.false_eq_true, Nat.reduceAdd, Nat.reduceSub, decide_eq_true_eq, eq_self, decide_true, Bool.not_true, Bool.not_false, Int.reduceEq, Int.reduceLT, Int.reduceLE, decide_false, bg]) ?_
    cases h0 : decide (a ≤ c ∧ c ≤ b) <;> cases h2 : decide (lo c < hi b) <;> cases h3 : decide (lo c = hi b) <;> cases h4 : ev b <;> cases h5 : ev c <;>
    first
    | (exfalso; simp only [lo, hi, ev, decide_eq_true_eq, decide_eq_false_iff_not] at h0 h2 h3 h4 h5; omega)
    | simp only [es_nil, es_cons, es_asgN, es_asgT, es_par, es_if, es_for, es_ret, es_retN, o_prim, o_call, o_var, o_con, o_glob, o_isi, o_and, o_or, o_not, o_ite, o_chain, e_var, e_rd, e_int, e_bl, e_non, e_str, e_glob, e_prim, e_isi, e_call, e_and, e_or, e_not, e_ite, ea_nil, ea_rd, ea_var, ea_con, ea_glob, ea_prim, ea_isi, ea_call, ea_and, ea_or, ea_not, ea_ite, ea_chain, ea_slc, ea_comp, ea_compif, r_var, r_prim, r_con, r_glob, r_call, r_isi, r_and, r_or, r_not, r_ite, r_chain, r_comp, r_compif, r_slc, ld_nil, ld_val, ld_own, ld_bor, ld_none, wp_nil, wp_c, tg_nm, tg_tup, tg_nil, tg_c, e_chain, es_cont, es_brk, es_pass, p_min2, p_max2, p_l0, p_l1, p_l2, p_l3, p_l4, p_is0, p_not0, n_non, n_tup, i_seq, q_lst, q_tup, q_ro, y_tt, y_tn, y_ii, y_bi, y_bb, y_lv, y_lb, oO_some, slotR, l_0, l_s, v_0, v_s, R.bind_ok, R.bind_bad, pd_nil, pd_c, sl_d, sl_s, okD_d, okD_l, okS_d, okS_l, rf_val, rf_own, fz_val, fz_own, tr_bl, t_bl, t_int, p_add, p_sub, p_neg, p_eq, p_ne, p_lt, p_le, p_gt, p_ge, p_abs, p_int, p_gcd, p_i0, p_i1, p_i2, p_i3, p_len2, p_len3, p_len4, p_t3, p_t4, p_t2, List.map, List.cons_append, List.nil_append, List.append_nil, List.length_cons, List.length_nil, List.replicate, if_true, if_false, Bool.false_eq_true, Nat.reduceAdd, Nat.reduceSub, decide_eq_true_eq, eq_self, decide_true, Bool.not_true, Bool.not_false, Int.reduceEq, Int.reduceLT, Int.reduceLE, decide_false, den_below S (lo_rg r') (hi_rg r), S.eq, sD, h0, h2, h3, h4, h5]
theorem den_meet (S : Sp sp) (r : Rg a b) (r' : Rg c d) : f_meet.den [.val (sD sp a b), .val (sD sp c d)] = .ok (.val (sR sp (max a c) (min b d))) := by
  refine den_of rfl ?_
  have st := den_stretch S (show Rg (max a c) (min b d) from ⟨by have := r.a0; omega, by have := r.a1; have := r'.a1; omega, by have := r.b0; have := r'.b0; omega, by have := r.b1; omega⟩)
  have h1 : (lo a < lo c ∧ max a c = c) ∨ (¬ lo a < lo c ∧ lo a = lo c ∧ lo (max a c) = lo a ∧ ev (max a c) = (ev a && ev c)) ∨ (¬ lo a < lo c ∧ ¬ lo a = lo c ∧ max a c = a) := by
    rcases Int.lt_trichotomy (lo a) (lo c) with h | h | h
    · exact .inl ⟨h, by simp only [lo] at h; omega⟩
    · refine .inr (.inl ⟨by omega, h, by simp only [lo] at h ⊢; omega, ?_⟩)
      rw [Bool.eq_iff_iff]
      simp only [lo, ev, Bool.and_eq_true, decide_eq_true_eq] at h ⊢
      omega
    · exact .inr (.inr ⟨by omega, by omega, by simp only [lo] at h; omega⟩)
  have h2 : (hi d < hi b ∧ min b d = d) ∨ (¬ hi d < hi b ∧ hi b = hi d ∧ hi (min b d) = hi b ∧ ev (min b d) = (ev b && ev d)) ∨ (¬ hi d < hi b ∧ ¬ hi b = hi d ∧ min b d = b) := by
    rcases Int.lt_trichotomy (hi d) (hi b) with h | h | h
    · exact .inl ⟨h, by simp only [hi] at h; omega⟩
    · refine .inr (.inl ⟨by omega, h.symm, by simp only [hi] at h ⊢; omega, ?_⟩)
      rw [Bool.eq_iff_iff]
      simp only [hi, ev, Bool.and_eq_true, decide_eq_true_eq] at h ⊢
      omega
    · exact .inr (.inr ⟨by omega, by omega, by simp only [hi] at h; omega⟩)
  generalize max a c = m at st h1 ⊢
  generalize min b d = n at st h2 ⊢
  unfold b_meet
  refine step (e2 := [some (.val (sD sp a b)), some (.val (sD sp c d)), some (.val (fr (sp (lo a)))), some (.val (.bl (ev a))), some (.val (fr (sp (hi b)))), some (.val (.bl (ev b)))]) (by simp only [es_nil, es_cons, es_asgN, es_asgT, es_par, es_if, es_for, es_ret, es_retN, o_prim, o_call, o_var, o_con, o_glob, o_isi, o_and, o_or, o_not, o_ite, o_chain, e_var, e_rd, e_int, e_bl, e_non, e_str, e_glob, e_prim, e_isi, e_call, e_and, e_or, e_not, e_ite, ea_nil, ea_rd, ea_var, ea_con, ea_glob, ea_prim, ea_isi, ea_call, ea_and, ea_or, ea_not, ea_ite, ea_chain, ea_slc, ea_comp, ea_compif, r_var, r_prim, r_con, r_glob, r_call, r_isi, r_and, r_or, r_not, r_ite, r_chain, r_comp, r_compif, r_slc, ld_nil, ld_val, ld_own, ld_bor, ld_none, wp_nil, wp_c, tg_nm, tg_tup, tg_nil, tg_c, e_chain, es_cont, es_brk, es_pass, p_min2, p_max2, p_l0, p_l1, p_l2, p_l3, p_l4, p_is0, p_not0, n_non, n_tup, i_seq, q_lst, q_tup, q_ro, y_tt, y_tn, y_ii, y_bi, y_bb, y_lv, y_lb, oO_some, slotR, l_0, l_s, v_0, v_s, R.bind_ok, R.bind_bad, pd_nil, pd_c, sl_d, sl_s, okD_d, okD_l, okS_d, okS_l, rf_val, rf_own, fz_val, fz_own, tr_bl, t_bl, t_int, p_add, p_sub, p_neg, p_eq, p_ne, p_lt, p_le, p_gt, p_ge, p_abs, p_int, p_gcd, p_i0, p_i1, p_i2, p_i3, p_len2, p_len3, p_len4, p_t3, p_t4, p_t2, List.map, List.cons_append, List.nil_append, List.append_nil, List.length_cons, List.length_nil, List.replicate, if_true, if_false, Bool.false_eq_true, Nat.reduceAdd, Nat.reduceSub, decide_eq_true_eq, eq_self, decide_true, Bool.not_true, Bool.not_false, Int.reduceEq, Int.reduceLT, Int.reduceLE, decide_false, setT, setTs]) ?_
  refine step (e2 := [some (.val (sD sp a b)), some (.val (sD sp c d)), some (.val (fr (sp (lo m)))), some (.val (.bl (ev m))), some (.val (fr (sp (hi b)))), some (.val (.bl (ev b)))]) ?_ ?_
  · rcases h1 with ⟨x1, rfl⟩ | ⟨x1, x2, x3, x4⟩ | ⟨x1, x2, rfl⟩
    · simp only [es_nil, es_cons, es_asgN, es_asgT, es_par, es_if, es_for, es_ret, es_retN, o_prim, o_call, o_var, o_con, o_glob, o_isi, o_and, o_or, o_not, o_ite, o_chain, e_var, e_rd, e_int, e_bl, e_non, e_str, e_glob, e_prim, e_isi, e_call, e_and, e_or, e_not, e_ite, ea_nil, ea_rd, ea_var, ea_con, ea_glob, ea_prim, ea_isi, ea_call, ea_and, ea_or, ea_not, ea_ite, ea_chain, ea_slc, ea_comp, ea_compif, r_var, r_prim, r_con, r_glob, r_call, r_isi, r_and, r_or, r_not, r_ite, r_chain, r_comp, r_compif, r_slc, ld_nil, ld_val, ld_own, ld_bor, ld_none, wp_nil, wp_c, tg_nm, tg_tup, tg_nil, tg_c, e_chain, es_cont, es_brk, es_pass, p_min2, p_max2, p_l0, p_l1, p_l2, p_l3, p_l4, p_is0, p_not0, n_non, n_tup, i_seq, q_lst, q_tup, q_ro, y_tt, y_tn, y_ii, y_bi, y_bb, y_lv, y_lb, oO_some, slotR, l_0, l_s, v_0, v_s, R.bind_ok, R.bind_bad, pd_nil, pd_c, sl_d, sl_s, okD_d, okD_l, okS_d, okS_l, rf_val, rf_own, fz_val, fz_own, tr_bl, t_bl, t_int, p_add, p_sub, p_neg, p_eq, p_ne, p_lt, p_le, p_gt, p_ge, p_abs, p_int, p_gcd, p_i0, p_i1, p_i2, p_i3, p_len2, p_len3, p_len4, p_t3, p_t4, p_t2, List.map, List.cons_append, List.nil_append, List.append_nil, List.length_cons, List.length_nil, List.replicate, if_true, if_false, Bool.false_eq_true, Nat.reduceAdd, Nat.reduceSub, decide_eq_true_eq, eq_self, decide_true, Bool.not_true, Bool.not_false, Int.reduceEq, Int.reduceLT, Int.reduceLE, decide_false, den_below S (lo_rg r) (lo_rg r'), den_below S (hi_rg r') (hi_rg r), S.eq, decide_eq_true x1]
    · rw [x3, x4]
      cases z : ev a <;> simp only [es_nil, es_cons, es_asgN, es_asgT, es_par, es_if, es_for, es_ret, es_retN, o_prim, o_call, o_var, o_con, o_glob, o_isi, o_and, o_or, o_not, o_ite, o_chain, e_var, e_rd, e_int, e_bl, e_non, e_str, e_glob, e_prim, e_isi, e_call, e_and, e_or, e_not, e_ite, ea_nil, ea_rd, ea_var, ea_con, ea_glob, ea_prim, ea_isi, ea_call, ea_and, ea_or, ea_not, ea_ite, ea_chain, ea_slc, ea_comp, ea_compif, r_var, r_prim, r_con, r_glob, r_call, r_isi, r_and, r_or, r_not, r_ite, r_chain, r_comp, r_compif, r_slc, ld_nil, ld_val, ld_own, ld_bor, ld_none, wp_nil, wp_c, tg_nm, tg_tup, tg_nil, tg_c, e_chain, es_cont, es_brk, es_pass, p_min2, p_max2, p_l0, p_l1, p_l2, p_l3, p_l4, p_is0, p_not0, n_non, n_tup, i_seq, q_lst, q_tup, q_ro, y_tt, y_tn, y_ii, y_bi, y_bb, y_lv, y_lb, oO_some, slotR, l_0, l_s, v_0, v_s, R.bind_ok, R.bind_bad, pd_nil, pd_c, sl_d, sl_s, okD_d, okD_l, okS_d, okS_l, rf_val, rf_own, fz_val, fz_own, tr_bl, t_bl, t_int, p_add, p_sub, p_neg, p_eq, p_ne, p_lt, p_le, p_gt, p_ge, p_abs, p_int, p_gcd, p_i0, p_i1, p_i2, p_i3, p_len2, p_len3, p_len4, p_t3, p_t4, p_t2, List.map, List.cons_append, List.nil_append, List.append_nil, List.length_cons, List.length_nil, List.replicate, if_true, if_false, Bool.false_eq_true, Nat.reduceAdd, Nat.reduceSub, decide_eq_true_eq, eq_self, decide_true, Bool.not_true, Bool.not_false, Int.reduceEq, Int.reduceLT, Int.reduceLE, decide_false, den_below S (lo_rg r) (lo_rg r'), den_below S (hi_rg r') (hi_rg r), S.eq, decide_eq_false x1, decide_eq_true x2, z, Bool.true_and, Bool.false_and]
    · simp only [es_nil, es_cons, es_asgN, es_asgT, es_par, es_if, es_for, es_ret, es_retN, o_prim, o_call, o_var, o_con, o_glob, o_isi, o_and, o_or, o_not, o_ite, o_chain, e_var, e_rd, e_int, e_bl, e_non, e_str, e_glob, e_prim, e_isi, e_call, e_and, e_or, e_not, e_ite, ea_nil, ea_rd, ea_var, ea_con, ea_glob, ea_prim, ea_isi, ea_call, ea_and, ea_or, ea_not, ea_ite, ea_chain, ea_slc, ea_comp, ea_compif, r_var, r_prim, r_con, r_glob, r_call, r_isi, r_and, r_or, r_not, r_ite, r_chain, r_comp, r_compif, r_slc, ld_nil, ld_val, ld_own, ld_bor, ld_none, wp_nil, wp_c, tg_nm, tg_tup, tg_nil, tg_c, e_chain, es_cont, es_brk, es_pass, p_min2, p_max2, p_l0, p_l1, p_l2, p_l3, p_l4, p_is0, p_not0, n_non, n_tup, i_seq, q_lst, q_tup, q_ro, y_tt, y_tn, y_ii, y_bi, y_bb, y_lv, y_lb, oO_some, slotR, l_0, l_s, v_0, v_s, R.bind_ok, R.bind_bad, pd_nil, pd_c, sl_d, sl_s, okD_d, okD_l, okS_d, okS_l, rf_val, rf_own, fz_val, fz_own, tr_bl, t_bl, t_int, p_add, p_sub, p_neg, p_eq, p_ne, p_lt, p_le, p_gt, p_ge, p_abs, p_int, p_gcd, p_i0, p_i1, p_i2, p_i3, p_len2, p_len3, p_len4, p_t3, p_t4, p_t2, List.map, List.cons_append, List.nil_append, List.append_nil, List.length_cons, List.length_nil, List.replicate, if_true, if_false, Bool.false_eq_true, Nat.reduceAdd, Nat.reduceSub, decide_eq_true_eq, eq_self, decide_true, Bool.not_true, Bool.not_false, Int.reduceEq, Int.reduceLT, Int.reduceLE, decide_false, den_below S (lo_rg r) (lo_rg r'), den_below S (hi_rg r') (hi_rg r), S.eq, decide_eq_false x1, decide_eq_false x2]
  refine step (e2 := [some (.val (sD sp a b)), some (.val (sD sp c d)), some (.val (fr (sp (lo m)))), some (.val (.bl (ev m))), some (.val (fr (sp (hi n)))), some (.val (.bl (ev n)))]) ?_ ?_
  · rcases h2 with ⟨x1, rfl⟩ | ⟨x1, x2, x3, x4⟩ | ⟨x1, x2, rfl⟩
    · simp only [es_nil, es_cons, es_asgN, es_asgT, es_par, es_if, es_for, es_ret, es_retN, o_prim, o_call, o_var, o_con, o_glob, o_isi, o_and, o_or, o_not, o_ite, o_chain, e_var, e_rd, e_int, e_bl, e_non, e_str, e_glob, e_prim, e_isi, e_call, e_and, e_or, e_not, e_ite, ea_nil, ea_rd, ea_var, ea_con, ea_glob, ea_prim, ea_isi, ea_call, ea_and, ea_or, ea_not, ea_ite, ea_chain, ea_slc, ea_comp, ea_compif, r_var, r_prim, r_con, r_glob, r_call, r_isi, r_and, r_or, r_not, r_ite, r_chain, r_comp, r_compif, r_slc, ld_nil, ld_val, ld_own, ld_bor, ld_none, wp_nil, wp_c, tg_nm, tg_tup, tg_nil, tg_c, e_chain, es_cont, es_brk, es_pass, p_min2, p_max2, p_l0, p_l1, p_l2, p_l3, p_l4, p_is0, p_not0, n_non, n_tup, i_seq, q_lst, q_tup, q_ro, y_tt, y_tn, y_ii, y_bi, y_bb, y_lv, y_lb, oO_some, slotR, l_0, l_s, v_0, v_s, R.bind_ok, R.bind_bad, pd_nil, pd_c, sl_d, sl_s, okD_d, okD_l, okS_d, okS_l, rf_val, rf_own, fz_val, fz_own, tr_bl, t_bl, t_int, p_add, p_sub, p_neg, p_eq, p_ne, p_lt, p_le, p_gt, p_ge, p_abs, p_int, p_gcd, p_i0, p_i1, p_i2, p_i3, p_len2, p_len3, p_len4, p_t3, p_t4, p_t2, List.map, List.cons_append, List.nil_append, List.append_nil, List.length_cons, List.length_nil, List.replicate, if_true, if_false, Bool.false_eq_true, Nat.reduceAdd, Nat.reduceSub, decide_eq_true_eq, eq_self, decide_true, Bool.not_true, Bool.not_false, Int.reduceEq, Int.reduceLT, Int.reduceLE, decide_false, den_below S (lo_rg r) (lo_rg r'), den_below S (hi_rg r') (hi_rg r), S.eq, decide_eq_true x1]
    · rw [x3, x4]
      cases z : ev b <;> simp only [es_nil, es_cons, es_asgN, es_asgT, es_par, es_if, es_for, es_ret, es_retN, o_prim, o_call, o_var, o_con, o_glob, o_isi, o_and, o_or, o_not, o_ite, o_chain, e_var, e_rd, e_int, e_bl, e_non, e_str, e_glob, e_prim, e_isi, e_call, e_and, e_or, e_not, e_ite, ea_nil, ea_rd, ea_var, ea_con, ea_glob, ea_prim, ea_isi, ea_call, ea_and, ea_or, ea_not, ea_ite, ea_chain, ea_slc, ea_comp, ea_compif, r_var, r_prim, r_con, r_glob, r_call, r_isi, r_and, r_or, r_not, r_ite, r_chain, r_comp, r_compif, r_slc, ld_nil, ld_val, ld_own, ld_bor, ld_none, wp_nil, wp_c, tg_nm, tg_tup, tg_nil, tg_c, e_chain, es_cont, es_brk, es_pass, p_min2, p_max2, p_l0, p_l1, p_l2, p_l3, p_l4, p_is0, p_not0, n_non, n_tup, i_seq, q_lst, q_tup, q_ro, y_tt, y_tn, y_ii, y_bi, y_bb, y_lv, y_lb, oO_some, slotR, l_0, l_s, v_0, v_s, R.bind_ok, R.bind_bad, pd_nil, pd_c, sl_d, sl_s, okD_d, okD_l, okS_d, okS_l, rf_val, rf_own, fz_val, fz_own, tr_bl, t_bl, t_int, p_add, p_sub, p_neg, p_eq, p_ne, p_lt, p_le, p_gt, p_ge, p_abs, p_int, p_gcd, p_i0, p_i1, p_i2, p_i3, p_len2, p_len3, p_len4, p_t3, p_t4, p_t2, List.map, List.cons_append, List.nil_append, List.append_nil, List.length_cons, List.length_nil, List.replicate, if_true, if_false, Bool.false_eq_true, Nat.reduceAdd, Nat.reduceSub, decide_eq_true_eq, eq_self, decide_true, Bool.not_true, Bool.not_false, Int.reduceEq, Int.reduceLT, Int.reduceLE, decide_false, den_below S (lo_rg r) (lo_rg r'), den_below S (hi_rg r') (hi_rg r), S.eq, decide_eq_false x1, decide_eq_true x2, z, Bool.true_and, Bool.false_and]
    · simp only [es_nil, es_cons, es_asgN, es_asgT, es_par, es_if, es_for, es_ret, es_retN, o_prim, o_call, o_var, o_con, o_glob, o_isi, o_and, o_or, o_not, o_ite, o_chain, e_var, e_rd, e_int, e_bl, e_non, e_str, e_glob, e_prim, e_isi, e_call, e_and, e_or, e_not, e_ite, ea_nil, ea_rd, ea_var, ea_con, ea_glob, ea_prim, ea_isi, ea_call, ea_and, ea_or, ea_not, ea_ite, ea_chain, ea_slc, ea_comp, ea_compif, r_var, r_prim, r_con, r_glob, r_call, r_isi, r_and, r_or, r_not, r_ite, r_chain, r_comp, r_compif, r_slc, ld_nil, ld_val, ld_own, ld_bor, ld_none, wp_nil, wp_c, tg_nm, tg_tup, tg_nil, tg_c, e_chain, es_cont, es_brk, es_pass, p_min2, p_max2, p_l0, p_l1, p_l2, p_l3, p_l4, p_is0, p_not0, n_non, n_tup, i_seq, q_lst, q_tup, q_ro, y_tt, y_tn, y_ii, y_bi, y_bb, y_lv, y_lb, oO_some, slotR, l_0, l_s, v_0, v_s, R.bind_ok, R.bind_bad, pd_nil, pd_c, sl_d, sl_s, okD_d, okD_l, okS_d, okS_l, rf_val, rf_own, fz_val, fz_own, tr_bl, t_bl, t_int, p_add, p_sub, p_neg, p_eq, p_ne, p_lt, p_le, p_gt, p_ge, p_abs, p_int, p_gcd, p_i0, p_i1, p_i2, p_i3, p_len2, p_len3, p_len4, p_t3, p_t4, p_t2, List.map, List.cons_append, List.nil_append, List.append_nil, List.length_cons, List.length_nil, List.replicate, if_true, if_false, Bool.false_eq_true, Nat.reduceAdd, Nat.reduceSub, decide_eq_true_eq, eq_self, decide_true, Bool.not_true, Bool.not_false, Int.reduceEq, Int.reduceLT, Int.reduceLE, decide_false, den_below S (lo_rg r) (lo_rg r'), den_below S (hi_rg r') (hi_rg r), S.eq, decide_eq_false x1, decide_eq_false x2]
  simp only [es_nil, es_cons, es_asgN, es_asgT, es_par, es_if, es_for, es_ret, es_retN, o_prim, o_call, o_var, o_con, o_glob, o_isi, o_and, o_or, o_not, o_ite, o_chain, e_var, e_rd, e_int, e_bl, e_non, e_str, e_glob, e_prim, e_isi, e_call, e_and, e_or, e_not, e_ite, ea_nil, ea_rd, ea_var, ea_con, ea_glob, ea_prim, ea_isi, ea_call, ea_and, ea_or, ea_not, ea_ite, ea_chain, ea_slc, ea_comp, ea_compif, r_var, r_prim, r_con, r_glob, r_call, r_isi, r_and, r_or, r_not, r_ite, r_chain, r_comp, r_compif, r_slc, ld_nil, ld_val, ld_own, ld_bor, ld_none, wp_nil, wp_c, tg_nm, tg_tup, tg_nil, tg_c, e_chain, es_cont, es_brk, es_pass, p_min2, p_max2, p_l0, p_l1, p_l2, p_l3, p_l4, p_is0, p_not0, n_non, n_tup, i_seq, q_lst, q_tup, q_ro, y_tt, y_tn, y_ii, y_bi, y_bb, y_lv, y_lb, oO_some, slotR, l_0, l_s, v_0, v_s, R.bind_ok, R.bind_bad, pd_nil, pd_c, sl_d, sl_s, okD_d, okD_l, okS_d, okS_l, rf_val, rf_own, fz_val, fz_own, tr_bl, t_bl, t_int, p_add, p_sub, p_neg, p_eq, p_ne, p_lt, p_le, p_gt, p_ge, p_abs, p_int, p_gcd, p_i0, p_i1, p_i2, p_i3, p_len2, p_len3, p_len4, p_t3, p_t4, p_t2, List.map, List.cons_append, List.nil_append, List.append_nil, List.length_cons, List.length_nil, List.replicate, if_true, if_false, Bool.false_eq_true, Nat.reduceAdd, Nat.reduceSub, decide_eq_true_eq, eq_self, decide_true, Bool.not_true, Bool.not_false, Int.reduceEq, Int.reduceLT, Int.reduceLE, decide_false, st]
end

/-! ### sets of places -/
abbrev S (a b : Int) : List Nat := (List.range 17).filter fun k => decide (a ≤ (k : Int) ∧ (k : Int) ≤ b)
abbrev eD (a b : Int) : D := .tup [.int (lo a), .bl (ev a), .int (hi b), .bl (ev b)]
theorem mem_S {a b : Int} {k : Nat} : k ∈ S a b ↔ k < 17 ∧ a ≤ k ∧ k ≤ b := by simp [S, List.mem_filter]
section
variable {sp : Int → Int × Int} {a b c d i j k : Int}
theorem den_has (a b k : Int) : f__law_has.den [.val (eD a b), .val (.int k)] = .ok (.val (.bl (decide (a ≤ k ∧ k ≤ b)))) := by
  refine den_of rfl ?_
  cases h0 : decide (a ≤ k ∧ k ≤ b) <;> cases h1 : decide (k < lo a) <;> cases h2 : decide (k = lo a) <;> cases h3 : ev a <;> cases h4 : decide (k < hi b) <;> cases h5 : decide (k = hi b) <;> cases h6 : ev b <;>
    first
    | (exfalso; simp only [lo, hi, ev, decide_eq_true_eq, decide_eq_false_iff_not] at h0 h1 h2 h3 h4 h5 h6; omega)
    | simp only [b__law_has, es_nil, es_cons, es_asgN, es_asgT, es_par, es_if, es_for, es_ret, es_retN, o_prim, o_call, o_var, o_con, o_glob, o_isi, o_and, o_or, o_not, o_ite, o_chain, e_var, e_rd, e_int, e_bl, e_non, e_str, e_glob, e_prim, e_isi, e_call, e_and, e_or, e_not, e_ite, ea_nil, ea_rd, ea_var, ea_con, ea_glob, ea_prim, ea_isi, ea_call, ea_and, ea_or, ea_not, ea_ite, ea_chain, ea_slc, ea_comp, ea_compif, r_var, r_prim, r_con, r_glob, r_call, r_isi, r_and, r_or, r_not, r_ite, r_chain, r_comp, r_compif, r_slc, ld_nil, ld_val, ld_own, ld_bor, ld_none, wp_nil, wp_c, tg_nm, tg_tup, tg_nil, tg_c, e_chain, es_cont, es_brk, es_pass, p_min2, p_max2, p_l0, p_l1, p_l2, p_l3, p_l4, p_is0, p_not0, n_non, n_tup, i_seq, q_lst, q_tup, q_ro, y_tt, y_tn, y_ii, y_bi, y_bb, y_lv, y_lb, oO_some, slotR, l_0, l_s, v_0, v_s, R.bind_ok, R.bind_bad, pd_nil, pd_c, sl_d, sl_s, okD_d, okD_l, okS_d, okS_l, rf_val, rf_own, fz_val, fz_own, tr_bl, t_bl, t_int, p_add, p_sub, p_neg, p_eq, p_ne, p_lt, p_le, p_gt, p_ge, p_abs, p_int, p_gcd, p_i0, p_i1, p_i2, p_i3, p_len2, p_len3, p_len4, p_t3, p_t4, p_t2, List.map, List.cons_append, List.nil_append, List.append_nil, List.length_cons, List.length_nil, List.replicate, if_true, if_false, Bool.false_eq_true, Nat.reduceAdd, Nat.reduceSub, decide_eq_true_eq, eq_self, decide_true, Bool.not_true, Bool.not_false, Int.reduceEq, Int.reduceLT, Int.reduceLE, decide_false, h0, h1, h2, h3, h4, h5, h6]
theorem rng17 (e : En) : evI (.rng (.cons (.con (.int 17)) .nil)) e = .ok ((List.range 17).map fun (k : Nat) => D.int (k : Int), e) := i_rng1 (n := 17) (q := [.d (.int 17)]) rfl rfl rfl
theorem den_set (a b : Int) : f__law_set.den [.val (eD a b)] = .ok (.own (nsD (S a b))) := by
  refine den_own rfl ?_
  simp only [b__law_set, es_nil, es_cons, es_asgN, es_asgT, es_par, es_if, es_for, es_ret, es_retN, o_prim, o_call, o_var, o_con, o_glob, o_isi, o_and, o_or, o_not, o_ite, o_chain, e_var, e_rd, e_int, e_bl, e_non, e_str, e_glob, e_prim, e_isi, e_call, e_and, e_or, e_not, e_ite, ea_nil, ea_rd, ea_var, ea_con, ea_glob, ea_prim, ea_isi, ea_call, ea_and, ea_or, ea_not, ea_ite, ea_chain, ea_slc, ea_comp, ea_compif, r_var, r_prim, r_con, r_glob, r_call, r_isi, r_and, r_or, r_not, r_ite, r_chain, r_comp, r_compif, r_slc, ld_nil, ld_val, ld_own, ld_bor, ld_none, wp_nil, wp_c, tg_nm, tg_tup, tg_nil, tg_c, e_chain, es_cont, es_brk, es_pass, p_min2, p_max2, p_l0, p_l1, p_l2, p_l3, p_l4, p_is0, p_not0, n_non, n_tup, i_seq, q_lst, q_tup, q_ro, y_tt, y_tn, y_ii, y_bi, y_bb, y_lv, y_lb, oO_some, slotR, l_0, l_s, v_0, v_s, R.bind_ok, R.bind_bad, pd_nil, pd_c, sl_d, sl_s, okD_d, okD_l, okS_d, okS_l, rf_val, rf_own, fz_val, fz_own, tr_bl, t_bl, t_int, p_add, p_sub, p_neg, p_eq, p_ne, p_lt, p_le, p_gt, p_ge, p_abs, p_int, p_gcd, p_i0, p_i1, p_i2, p_i3, p_len2, p_len3, p_len4, p_t3, p_t4, p_t2, List.map, List.cons_append, List.nil_append, List.append_nil, List.length_cons, List.length_nil, List.replicate, if_true, if_false, Bool.false_eq_true, Nat.reduceAdd, Nat.reduceSub, decide_eq_true_eq, eq_self, decide_true, Bool.not_true, Bool.not_false, Int.reduceEq, Int.reduceLT, Int.reduceLE, decide_false]
  rw [(compif_of (List.range 17) (fun (k : Nat) => D.int (k : Int)) (fun k => decide (a ≤ (k : Int) ∧ (k : Int) ≤ b)) (fun (k : Nat) => D.int (k : Int)) (rng17 _) (fun k hk => ?_) (by decide)).1]
  · simp only [es_nil, es_cons, es_asgN, es_asgT, es_par, es_if, es_for, es_ret, es_retN, o_prim, o_call, o_var, o_con, o_glob, o_isi, o_and, o_or, o_not, o_ite, o_chain, e_var, e_rd, e_int, e_bl, e_non, e_str, e_glob, e_prim, e_isi, e_call, e_and, e_or, e_not, e_ite, ea_nil, ea_rd, ea_var, ea_con, ea_glob, ea_prim, ea_isi, ea_call, ea_and, ea_or, ea_not, ea_ite, ea_chain, ea_slc, ea_comp, ea_compif, r_var, r_prim, r_con, r_glob, r_call, r_isi, r_and, r_or, r_not, r_ite, r_chain, r_comp, r_compif, r_slc, ld_nil, ld_val, ld_own, ld_bor, ld_none, wp_nil, wp_c, tg_nm, tg_tup, tg_nil, tg_c, e_chain, es_cont, es_brk, es_pass, p_min2, p_max2, p_l0, p_l1, p_l2, p_l3, p_l4, p_is0, p_not0, n_non, n_tup, i_seq, q_lst, q_tup, q_ro, y_tt, y_tn, y_ii, y_bi, y_bb, y_lv, y_lb, oO_some, slotR, l_0, l_s, v_0, v_s, R.bind_ok, R.bind_bad, pd_nil, pd_c, sl_d, sl_s, okD_d, okD_l, okS_d, okS_l, rf_val, rf_own, fz_val, fz_own, tr_bl, t_bl, t_int, p_add, p_sub, p_neg, p_eq, p_ne, p_lt, p_le, p_gt, p_ge, p_abs, p_int, p_gcd, p_i0, p_i1, p_i2, p_i3, p_len2, p_len3, p_len4, p_t3, p_t4, p_t2, List.map, List.cons_append, List.nil_append, List.append_nil, List.length_cons, List.length_nil, List.replicate, if_true, if_false, Bool.false_eq_true, Nat.reduceAdd, Nat.reduceSub, decide_eq_true_eq, eq_self, decide_true, Bool.not_true, Bool.not_false, Int.reduceEq, Int.reduceLT, Int.reduceLE, decide_false]
  · refine ⟨[some (.val (eD a b)), some (.val (.int (k : Int)))], [some (.val (eD a b)), some (.val (.int (k : Int)))], rfl, ?_, fun _ => ⟨_, rfl⟩⟩
    simp only [es_nil, es_cons, es_asgN, es_asgT, es_par, es_if, es_for, es_ret, es_retN, o_prim, o_call, o_var, o_con, o_glob, o_isi, o_and, o_or, o_not, o_ite, o_chain, e_var, e_rd, e_int, e_bl, e_non, e_str, e_glob, e_prim, e_isi, e_call, e_and, e_or, e_not, e_ite, ea_nil, ea_rd, ea_var, ea_con, ea_glob, ea_prim, ea_isi, ea_call, ea_and, ea_or, ea_not, ea_ite, ea_chain, ea_slc, ea_comp, ea_compif, r_var, r_prim, r_con, r_glob, r_call, r_isi, r_and, r_or, r_not, r_ite, r_chain, r_comp, r_compif, r_slc, ld_nil, ld_val, ld_own, ld_bor, ld_none, wp_nil, wp_c, tg_nm, tg_tup, tg_nil, tg_c, e_chain, es_cont, es_brk, es_pass, p_min2, p_max2, p_l0, p_l1, p_l2, p_l3, p_l4, p_is0, p_not0, n_non, n_tup, i_seq, q_lst, q_tup, q_ro, y_tt, y_tn, y_ii, y_bi, y_bb, y_lv, y_lb, oO_some, slotR, l_0, l_s, v_0, v_s, R.bind_ok, R.bind_bad, pd_nil, pd_c, sl_d, sl_s, okD_d, okD_l, okS_d, okS_l, rf_val, rf_own, fz_val, fz_own, tr_bl, t_bl, t_int, p_add, p_sub, p_neg, p_eq, p_ne, p_lt, p_le, p_gt, p_ge, p_abs, p_int, p_gcd, p_i0, p_i1, p_i2, p_i3, p_len2, p_len3, p_len4, p_t3, p_t4, p_t2, List.map, List.cons_append, List.nil_append, List.append_nil, List.length_cons, List.length_nil, List.replicate, if_true, if_false, Bool.false_eq_true, Nat.reduceAdd, Nat.reduceSub, decide_eq_true_eq, eq_self, decide_true, Bool.not_true, Bool.not_false, Int.reduceEq, Int.reduceLT, Int.reduceLE, decide_false, den_has]
theorem S_shared (a b c d : Int) : (S a b).filter (fun k => decide (k ∈ S c d)) = S (max a c) (min b d) := by
  unfold S
  rw [List.filter_filter]
  refine List.filter_congr fun k hk => ?_
  have hk' := List.mem_range.mp hk
  rw [Bool.eq_iff_iff]
  simp only [Bool.and_eq_true, decide_eq_true_eq, List.mem_filter, List.mem_range]
  omega
theorem len_S (a b : Int) : (S a b).length ≤ 17 := Nat.le_trans (List.length_filter_le ..) (by simp)
theorem den_shared (a b c d : Int) : f__law_shared.den [.val (.lst (nsD (S a b))), .val (.lst (nsD (S c d)))] = .ok (.own (nsD (S (max a c) (min b d)))) := by
  refine den_own rfl ?_
  simp only [b__law_shared, es_nil, es_cons, es_asgN, es_asgT, es_par, es_if, es_for, es_ret, es_retN, o_prim, o_call, o_var, o_con, o_glob, o_isi, o_and, o_or, o_not, o_ite, o_chain, e_var, e_rd, e_int, e_bl, e_non, e_str, e_glob, e_prim, e_isi, e_call, e_and, e_or, e_not, e_ite, ea_nil, ea_rd, ea_var, ea_con, ea_glob, ea_prim, ea_isi, ea_call, ea_and, ea_or, ea_not, ea_ite, ea_chain, ea_slc, ea_comp, ea_compif, r_var, r_prim, r_con, r_glob, r_call, r_isi, r_and, r_or, r_not, r_ite, r_chain, r_comp, r_compif, r_slc, ld_nil, ld_val, ld_own, ld_bor, ld_none, wp_nil, wp_c, tg_nm, tg_tup, tg_nil, tg_c, e_chain, es_cont, es_brk, es_pass, p_min2, p_max2, p_l0, p_l1, p_l2, p_l3, p_l4, p_is0, p_not0, n_non, n_tup, i_seq, q_lst, q_tup, q_ro, y_tt, y_tn, y_ii, y_bi, y_bb, y_lv, y_lb, oO_some, slotR, l_0, l_s, v_0, v_s, R.bind_ok, R.bind_bad, pd_nil, pd_c, sl_d, sl_s, okD_d, okD_l, okS_d, okS_l, rf_val, rf_own, fz_val, fz_own, tr_bl, t_bl, t_int, p_add, p_sub, p_neg, p_eq, p_ne, p_lt, p_le, p_gt, p_ge, p_abs, p_int, p_gcd, p_i0, p_i1, p_i2, p_i3, p_len2, p_len3, p_len4, p_t3, p_t4, p_t2, List.map, List.cons_append, List.nil_append, List.append_nil, List.length_cons, List.length_nil, List.replicate, if_true, if_false, Bool.false_eq_true, Nat.reduceAdd, Nat.reduceSub, decide_eq_true_eq, eq_self, decide_true, Bool.not_true, Bool.not_false, Int.reduceEq, Int.reduceLT, Int.reduceLE, decide_false]
  rw [(compif_of (S a b) (fun (k : Nat) => D.int (k : Int)) (fun k => decide (k ∈ S c d)) (fun (k : Nat) => D.int (k : Int)) (e1 := [some (.val (.lst (nsD (S a b)))), some (.val (.lst (nsD (S c d)))), none]) rfl (fun k hk => ?_) (Nat.le_trans (len_S a b) (by decide))).1]
  · simp only [es_nil, es_cons, es_asgN, es_asgT, es_par, es_if, es_for, es_ret, es_retN, o_prim, o_call, o_var, o_con, o_glob, o_isi, o_and, o_or, o_not, o_ite, o_chain, e_var, e_rd, e_int, e_bl, e_non, e_str, e_glob, e_prim, e_isi, e_call, e_and, e_or, e_not, e_ite, ea_nil, ea_rd, ea_var, ea_con, ea_glob, ea_prim, ea_isi, ea_call, ea_and, ea_or, ea_not, ea_ite, ea_chain, ea_slc, ea_comp, ea_compif, r_var, r_prim, r_con, r_glob, r_call, r_isi, r_and, r_or, r_not, r_ite, r_chain, r_comp, r_compif, r_slc, ld_nil, ld_val, ld_own, ld_bor, ld_none, wp_nil, wp_c, tg_nm, tg_tup, tg_nil, tg_c, e_chain, es_cont, es_brk, es_pass, p_min2, p_max2, p_l0, p_l1, p_l2, p_l3, p_l4, p_is0, p_not0, n_non, n_tup, i_seq, q_lst, q_tup, q_ro, y_tt, y_tn, y_ii, y_bi, y_bb, y_lv, y_lb, oO_some, slotR, l_0, l_s, v_0, v_s, R.bind_ok, R.bind_bad, pd_nil, pd_c, sl_d, sl_s, okD_d, okD_l, okS_d, okS_l, rf_val, rf_own, fz_val, fz_own, tr_bl, t_bl, t_int, p_add, p_sub, p_neg, p_eq, p_ne, p_lt, p_le, p_gt, p_ge, p_abs, p_int, p_gcd, p_i0, p_i1, p_i2, p_i3, p_len2, p_len3, p_len4, p_t3, p_t4, p_t2, List.map, List.cons_append, List.nil_append, List.append_nil, List.length_cons, List.length_nil, List.replicate, if_true, if_false, Bool.false_eq_true, Nat.reduceAdd, Nat.reduceSub, decide_eq_true_eq, eq_self, decide_true, Bool.not_true, Bool.not_false, Int.reduceEq, Int.reduceLT, Int.reduceLE, decide_false, S_shared]
  · refine ⟨[some (.val (.lst (nsD (S a b)))), some (.val (.lst (nsD (S c d)))), some (.val (.int (k : Int)))], [some (.val (.lst (nsD (S a b)))), some (.val (.lst (nsD (S c d)))), some (.val (.int (k : Int)))], rfl, ?_, fun _ => ⟨_, rfl⟩⟩
    simp only [es_nil, es_cons, es_asgN, es_asgT, es_par, es_if, es_for, es_ret, es_retN, o_prim, o_call, o_var, o_con, o_glob, o_isi, o_and, o_or, o_not, o_ite, o_chain, e_var, e_rd, e_int, e_bl, e_non, e_str, e_glob, e_prim, e_isi, e_call, e_and, e_or, e_not, e_ite, ea_nil, ea_rd, ea_var, ea_con, ea_glob, ea_prim, ea_isi, ea_call, ea_and, ea_or, ea_not, ea_ite, ea_chain, ea_slc, ea_comp, ea_compif, r_var, r_prim, r_con, r_glob, r_call, r_isi, r_and, r_or, r_not, r_ite, r_chain, r_comp, r_compif, r_slc, ld_nil, ld_val, ld_own, ld_bor, ld_none, wp_nil, wp_c, tg_nm, tg_tup, tg_nil, tg_c, e_chain, es_cont, es_brk, es_pass, p_min2, p_max2, p_l0, p_l1, p_l2, p_l3, p_l4, p_is0, p_not0, n_non, n_tup, i_seq, q_lst, q_tup, q_ro, y_tt, y_tn, y_ii, y_bi, y_bb, y_lv, y_lb, oO_some, slotR, l_0, l_s, v_0, v_s, R.bind_ok, R.bind_bad, pd_nil, pd_c, sl_d, sl_s, okD_d, okD_l, okS_d, okS_l, rf_val, rf_own, fz_val, fz_own, tr_bl, t_bl, t_int, p_add, p_sub, p_neg, p_eq, p_ne, p_lt, p_le, p_gt, p_ge, p_abs, p_int, p_gcd, p_i0, p_i1, p_i2, p_i3, p_len2, p_len3, p_len4, p_t3, p_t4, p_t2, List.map, List.cons_append, List.nil_append, List.append_nil, List.length_cons, List.length_nil, List.replicate, if_true, if_false, Bool.false_eq_true, Nat.reduceAdd, Nat.reduceSub, decide_eq_true_eq, eq_self, decide_true, Bool.not_true, Bool.not_false, Int.reduceEq, Int.reduceLT, Int.reduceLE, decide_false, in_ns]
theorem S_nil : (S a b).isEmpty = decide (¬ (max a 0 ≤ min b 16)) := by
  rw [Bool.eq_iff_iff, List.isEmpty_iff, List.eq_nil_iff_forall_not_mem]
  simp only [mem_S, decide_eq_true_eq]
  constructor
  · intro h q
    exact h (max a 0).toNat (by omega)
  · intro h k q
    omega
end

abbrev pD (sp : Int → Int × Int) : D := .lst ((List.range 17).map fun (k : Nat) => fr (sp (k : Int)))
theorem S_range : ∀ a b : Fin 17, a.val ≤ b.val → S (a.val : Int) (b.val : Int) = List.range' a.val (b.val + 1 - a.val) := by decide +kernel
theorem nm {n : Nat} (i : Int) : (D.int i).plain n = true := by cases n <;> rfl
section
variable {sp : Int → Int × Int} {a b c d i j k : Int}
theorem p_spot (h0 : 0 ≤ i) (h1 : i ≤ 16) : evPrim .idx [.val (pD sp), .val (.int i)] = .d (fr (sp i)) := by
  obtain ⟨n, rfl⟩ : ∃ n : Nat, i = n := ⟨i.toNat, by omega⟩
  rw [p_idxL, at_map (fun (k : Nat) => fr (sp (k : Int))) (k := n) (x := n) (by rw [List.getElem?_range (by omega)])]
  rfl
theorem p_spot' (h0 : 0 ≤ i) (h1 : i ≤ 16) : evPrim .idx [.bor ((List.range 17).map fun (k : Nat) => fr (sp (k : Int))), .val (.int i)] = .d (fr (sp i)) := p_spot h0 h1
theorem den_told (h : Rg a b) : f__law_told.den [.val (eD a b), .val (pD sp)] = .ok (.val (sD sp a b)) := by
  refine den_of rfl ?_
  simp only [b__law_told, es_nil, es_cons, es_asgN, es_asgT, es_par, es_if, es_for, es_ret, es_retN, o_prim, o_call, o_var, o_con, o_glob, o_isi, o_and, o_or, o_not, o_ite, o_chain, e_var, e_rd, e_int, e_bl, e_non, e_str, e_glob, e_prim, e_isi, e_call, e_and, e_or, e_not, e_ite, ea_nil, ea_rd, ea_var, ea_con, ea_glob, ea_prim, ea_isi, ea_call, ea_and, ea_or, ea_not, ea_ite, ea_chain, ea_slc, ea_comp, ea_compif, r_var, r_prim, r_con, r_glob, r_call, r_isi, r_and, r_or, r_not, r_ite, r_chain, r_comp, r_compif, r_slc, ld_nil, ld_val, ld_own, ld_bor, ld_none, wp_nil, wp_c, tg_nm, tg_tup, tg_nil, tg_c, e_chain, es_cont, es_brk, es_pass, p_min2, p_max2, p_l0, p_l1, p_l2, p_l3, p_l4, p_is0, p_not0, n_non, n_tup, i_seq, q_lst, q_tup, q_ro, y_tt, y_tn, y_ii, y_bi, y_bb, y_lv, y_lb, oO_some, slotR, l_0, l_s, v_0, v_s, R.bind_ok, R.bind_bad, pd_nil, pd_c, sl_d, sl_s, okD_d, okD_l, okS_d, okS_l, rf_val, rf_own, fz_val, fz_own, tr_bl, t_bl, t_int, p_add, p_sub, p_neg, p_eq, p_ne, p_lt, p_le, p_gt, p_ge, p_abs, p_int, p_gcd, p_i0, p_i1, p_i2, p_i3, p_len2, p_len3, p_len4, p_t3, p_t4, p_t2, List.map, List.cons_append, List.nil_append, List.append_nil, List.length_cons, List.length_nil, List.replicate, if_true, if_false, Bool.false_eq_true, Nat.reduceAdd, Nat.reduceSub, decide_eq_true_eq, eq_self, decide_true, Bool.not_true, Bool.not_false, Int.reduceEq, Int.reduceLT, Int.reduceLE, decide_false, p_spot (lo_rg h).1 (lo_rg h).2, p_spot (hi_rg h).1 (hi_rg h).2]
theorem S_first (h0 : 0 ≤ a) (h1 : a ≤ b) (h2 : b ≤ 16) : atD (nsD (S a b)) 0 = some (.int a) ∧ atD (nsD (S a b)) (-1) = some (.int b) := by
  obtain ⟨m, rfl⟩ : ∃ m : Nat, a = m := ⟨a.toNat, by omega⟩
  obtain ⟨n, rfl⟩ : ∃ n : Nat, b = n := ⟨b.toNat, by omega⟩
  have e := S_range ⟨m, by omega⟩ ⟨n, by omega⟩ (show m ≤ n by omega)
  simp only at e
  rw [e]
  obtain ⟨l, rfl⟩ : ∃ l, n = m + l := ⟨n - m, by omega⟩
  rw [show m + l + 1 - m = l + 1 by omega]
  constructor
  · exact at_map (fun (k : Nat) => D.int (k : Int)) (k := 0) (x := m) (by rw [List.getElem?_range' (by omega)]; rfl)
  · refine at_last ?_
    rw [List.getLast?_map, List.getLast?_range']
    simp
theorem p_neg1 : evPrim .neg [.val (.int 1)] = .d (.int (-1)) := rfl
theorem den_due (h0 : 0 ≤ a) (h1 : a ≤ b) (h2 : b ≤ 16) : f__law_due.den [.val (.lst (nsD (S a b))), .val (pD sp)] = .ok (.val (sD sp a b)) := by
  obtain ⟨f1, f2⟩ := S_first h0 h1 h2
  have r : Rg a b := ⟨h0, by omega, by omega, h2⟩
  have e1 : a.fdiv 2 * 2 = lo a := by rw [Int.fdiv_eq_ediv_of_nonneg _ (by decide)]; simp only [lo]; omega
  have e2 : (b + 1).fdiv 2 * 2 = hi b := by rw [Int.fdiv_eq_ediv_of_nonneg _ (by decide)]; simp only [hi]; omega
  have m1 : mulOk (a.fdiv 2) 2 = true := by unfold mulOk; simp
  have m2 : mulOk ((b + 1).fdiv 2) 2 = true := by unfold mulOk; simp
  have v1 : decide (a = lo a) = ev a := decide_eq_decide.mpr (by simp only [lo]; omega)
  have v2 : decide (b = hi b) = ev b := decide_eq_decide.mpr (by simp only [hi]; omega)
  have k1 : evPrim .idx [.val (.lst (nsD (S a b))), .val (.int 0)] = .d (.int a) := by rw [p_idxL, f1]; rfl
  have k2 : evPrim .idx [.val (.lst (nsD (S a b))), .val (.int (-1))] = .d (.int b) := by rw [p_idxL, f2]; rfl
  refine den_of rfl ?_
  simp only [b__law_due, es_nil, es_cons, es_asgN, es_asgT, es_par, es_if, es_for, es_ret, es_retN, o_prim, o_call, o_var, o_con, o_glob, o_isi, o_and, o_or, o_not, o_ite, o_chain, e_var, e_rd, e_int, e_bl, e_non, e_str, e_glob, e_prim, e_isi, e_call, e_and, e_or, e_not, e_ite, ea_nil, ea_rd, ea_var, ea_con, ea_glob, ea_prim, ea_isi, ea_call, ea_and, ea_or, ea_not, ea_ite, ea_chain, ea_slc, ea_comp, ea_compif, r_var, r_prim, r_con, r_glob, r_call, r_isi, r_and, r_or, r_not, r_ite, r_chain, r_comp, r_compif, r_slc, ld_nil, ld_val, ld_own, ld_bor, ld_none, wp_nil, wp_c, tg_nm, tg_tup, tg_nil, tg_c, e_chain, es_cont, es_brk, es_pass, p_min2, p_max2, p_l0, p_l1, p_l2, p_l3, p_l4, p_is0, p_not0, n_non, n_tup, i_seq, q_lst, q_tup, q_ro, y_tt, y_tn, y_ii, y_bi, y_bb, y_lv, y_lb, oO_some, slotR, l_0, l_s, v_0, v_s, R.bind_ok, R.bind_bad, pd_nil, pd_c, sl_d, sl_s, okD_d, okD_l, okS_d, okS_l, rf_val, rf_own, fz_val, fz_own, tr_bl, t_bl, t_int, p_add, p_sub, p_neg, p_eq, p_ne, p_lt, p_le, p_gt, p_ge, p_abs, p_int, p_gcd, p_i0, p_i1, p_i2, p_i3, p_len2, p_len3, p_len4, p_t3, p_t4, p_t2, List.map, List.cons_append, List.nil_append, List.append_nil, List.length_cons, List.length_nil, List.replicate, if_true, if_false, Bool.false_eq_true, Nat.reduceAdd, Nat.reduceSub, decide_eq_true_eq, eq_self, decide_true, Bool.not_true, Bool.not_false, Int.reduceEq, Int.reduceLT, Int.reduceLE, decide_false, p_neg1, k1, k2, p_fdiv a 2 (by decide), p_fdiv (b + 1) 2 (by decide), p_mul _ _ m1, p_mul _ _ m2, e1, e2, p_spot (lo_rg r).1 (lo_rg r).2, p_spot (hi_rg r).1 (hi_rg r).2, v1, v2]
theorem sD_plain {n : Nat} : (sD sp a b).plain (n + 2) = true := rfl
theorem den_is_stretch (h0 : 0 ≤ a) (h1 : a ≤ b) (h2 : b ≤ 16) : f__law_is_stretch.den [.val (sD sp a b), .val (pD sp), .val (.lst (nsD (S a b)))] = .ok (.val (.bl true)) := by
  refine den_of rfl ?_
  simp only [b__law_is_stretch, es_nil, es_cons, es_asgN, es_asgT, es_par, es_if, es_for, es_ret, es_retN, o_prim, o_call, o_var, o_con, o_glob, o_isi, o_and, o_or, o_not, o_ite, o_chain, e_var, e_rd, e_int, e_bl, e_non, e_str, e_glob, e_prim, e_isi, e_call, e_and, e_or, e_not, e_ite, ea_nil, ea_rd, ea_var, ea_con, ea_glob, ea_prim, ea_isi, ea_call, ea_and, ea_or, ea_not, ea_ite, ea_chain, ea_slc, ea_comp, ea_compif, r_var, r_prim, r_con, r_glob, r_call, r_isi, r_and, r_or, r_not, r_ite, r_chain, r_comp, r_compif, r_slc, ld_nil, ld_val, ld_own, ld_bor, ld_none, wp_nil, wp_c, tg_nm, tg_tup, tg_nil, tg_c, e_chain, es_cont, es_brk, es_pass, p_min2, p_max2, p_l0, p_l1, p_l2, p_l3, p_l4, p_is0, p_not0, n_non, n_tup, i_seq, q_lst, q_tup, q_ro, y_tt, y_tn, y_ii, y_bi, y_bb, y_lv, y_lb, oO_some, slotR, l_0, l_s, v_0, v_s, R.bind_ok, R.bind_bad, pd_nil, pd_c, sl_d, sl_s, okD_d, okD_l, okS_d, okS_l, rf_val, rf_own, fz_val, fz_own, tr_bl, t_bl, t_int, p_add, p_sub, p_neg, p_eq, p_ne, p_lt, p_le, p_gt, p_ge, p_abs, p_int, p_gcd, p_i0, p_i1, p_i2, p_i3, p_len2, p_len3, p_len4, p_t3, p_t4, p_t2, List.map, List.cons_append, List.nil_append, List.append_nil, List.length_cons, List.length_nil, List.replicate, if_true, if_false, Bool.false_eq_true, Nat.reduceAdd, Nat.reduceSub, decide_eq_true_eq, eq_self, decide_true, Bool.not_true, Bool.not_false, Int.reduceEq, Int.reduceLT, Int.reduceLE, decide_false, den_due h0 h1 h2, eq_self_d (a := .val (sD sp a b)) (b := .val (sD sp a b)) rfl rfl sD_plain, f_cons, f_nil]
theorem S_empty (h : Rg a b) : (S a b).isEmpty = decide (¬ a ≤ b) := by
  rw [S_nil]
  have := h.a0; have := h.a1; have := h.b0; have := h.b1
  refine decide_eq_decide.mpr ?_
  omega
theorem nsD_empty (l : List Nat) : (nsD l).isEmpty = l.isEmpty := by cases l <;> rfl
theorem den_single (Z : Sp sp) (h : Rg a b) : f__law_single.den [.val (eD a b), .val (pD sp)] = .ok (.val (.bl true)) := by
  refine den_of rfl ?_
  have st := den_stretch Z h
  have ne := eq_nil (a := .val (.lst (nsD (S a b)))) rfl (nsD_plain _)
  rw [nsD_empty, S_empty h] at ne
  unfold sR at st
  by_cases q : a ≤ b
  · rw [if_pos q] at st
    rw [decide_eq_false (by simpa using q)] at ne
    unfold b__law_single
    refine step (e2 := [some (.val (eD a b)), some (.val (pD sp)), some (.val (sD sp a b)), none, none]) (by simp only [es_nil, es_cons, es_asgN, es_asgT, es_par, es_if, es_for, es_ret, es_retN, o_prim, o_call, o_var, o_con, o_glob, o_isi, o_and, o_or, o_not, o_ite, o_chain, e_var, e_rd, e_int, e_bl, e_non, e_str, e_glob, e_prim, e_isi, e_call, e_and, e_or, e_not, e_ite, ea_nil, ea_rd, ea_var, ea_con, ea_glob, ea_prim, ea_isi, ea_call, ea_and, ea_or, ea_not, ea_ite, ea_chain, ea_slc, ea_comp, ea_compif, r_var, r_prim, r_con, r_glob, r_call, r_isi, r_and, r_or, r_not, r_ite, r_chain, r_comp, r_compif, r_slc, ld_nil, ld_val, ld_own, ld_bor, ld_none, wp_nil, wp_c, tg_nm, tg_tup, tg_nil, tg_c, e_chain, es_cont, es_brk, es_pass, p_min2, p_max2, p_l0, p_l1, p_l2, p_l3, p_l4, p_is0, p_not0, n_non, n_tup, i_seq, q_lst, q_tup, q_ro, y_tt, y_tn, y_ii, y_bi, y_bb, y_lv, y_lb, oO_some, slotR, l_0, l_s, v_0, v_s, R.bind_ok, R.bind_bad, pd_nil, pd_c, sl_d, sl_s, okD_d, okD_l, okS_d, okS_l, rf_val, rf_own, fz_val, fz_own, tr_bl, t_bl, t_int, p_add, p_sub, p_neg, p_eq, p_ne, p_lt, p_le, p_gt, p_ge, p_abs, p_int, p_gcd, p_i0, p_i1, p_i2, p_i3, p_len2, p_len3, p_len4, p_t3, p_t4, p_t2, List.map, List.cons_append, List.nil_append, List.append_nil, List.length_cons, List.length_nil, List.replicate, if_true, if_false, Bool.false_eq_true, Nat.reduceAdd, Nat.reduceSub, decide_eq_true_eq, eq_self, decide_true, Bool.not_true, Bool.not_false, Int.reduceEq, Int.reduceLT, Int.reduceLE, decide_false, p_spot (lo_rg h).1 (lo_rg h).2, p_spot (hi_rg h).1 (hi_rg h).2, st]) ?_
    refine step (e2 := [some (.val (eD a b)), some (.val (pD sp)), some (.val (sD sp a b)), none, none]) (by simp only [es_nil, es_cons, es_asgN, es_asgT, es_par, es_if, es_for, es_ret, es_retN, o_prim, o_call, o_var, o_con, o_glob, o_isi, o_and, o_or, o_not, o_ite, o_chain, e_var, e_rd, e_int, e_bl, e_non, e_str, e_glob, e_prim, e_isi, e_call, e_and, e_or, e_not, e_ite, ea_nil, ea_rd, ea_var, ea_con, ea_glob, ea_prim, ea_isi, ea_call, ea_and, ea_or, ea_not, ea_ite, ea_chain, ea_slc, ea_comp, ea_compif, r_var, r_prim, r_con, r_glob, r_call, r_isi, r_and, r_or, r_not, r_ite, r_chain, r_comp, r_compif, r_slc, ld_nil, ld_val, ld_own, ld_bor, ld_none, wp_nil, wp_c, tg_nm, tg_tup, tg_nil, tg_c, e_chain, es_cont, es_brk, es_pass, p_min2, p_max2, p_l0, p_l1, p_l2, p_l3, p_l4, p_is0, p_not0, n_non, n_tup, i_seq, q_lst, q_tup, q_ro, y_tt, y_tn, y_ii, y_bi, y_bb, y_lv, y_lb, oO_some, slotR, l_0, l_s, v_0, v_s, R.bind_ok, R.bind_bad, pd_nil, pd_c, sl_d, sl_s, okD_d, okD_l, okS_d, okS_l, rf_val, rf_own, fz_val, fz_own, tr_bl, t_bl, t_int, p_add, p_sub, p_neg, p_eq, p_ne, p_lt, p_le, p_gt, p_ge, p_abs, p_int, p_gcd, p_i0, p_i1, p_i2, p_i3, p_len2, p_len3, p_len4, p_t3, p_t4, p_t2, List.map, List.cons_append, List.nil_append, List.append_nil, List.length_cons, List.length_nil, List.replicate, if_true, if_false, Bool.false_eq_true, Nat.reduceAdd, Nat.reduceSub, decide_eq_true_eq, eq_self, decide_true, Bool.not_true, Bool.not_false, Int.reduceEq, Int.reduceLT, Int.reduceLE, decide_false, den_set, ne]) ?_
    refine step (e2 := [some (.val (eD a b)), some (.val (pD sp)), some (.val (sD sp a b)), none, none]) (by simp only [es_nil, es_cons, es_asgN, es_asgT, es_par, es_if, es_for, es_ret, es_retN, o_prim, o_call, o_var, o_con, o_glob, o_isi, o_and, o_or, o_not, o_ite, o_chain, e_var, e_rd, e_int, e_bl, e_non, e_str, e_glob, e_prim, e_isi, e_call, e_and, e_or, e_not, e_ite, ea_nil, ea_rd, ea_var, ea_con, ea_glob, ea_prim, ea_isi, ea_call, ea_and, ea_or, ea_not, ea_ite, ea_chain, ea_slc, ea_comp, ea_compif, r_var, r_prim, r_con, r_glob, r_call, r_isi, r_and, r_or, r_not, r_ite, r_chain, r_comp, r_compif, r_slc, ld_nil, ld_val, ld_own, ld_bor, ld_none, wp_nil, wp_c, tg_nm, tg_tup, tg_nil, tg_c, e_chain, es_cont, es_brk, es_pass, p_min2, p_max2, p_l0, p_l1, p_l2, p_l3, p_l4, p_is0, p_not0, n_non, n_tup, i_seq, q_lst, q_tup, q_ro, y_tt, y_tn, y_ii, y_bi, y_bb, y_lv, y_lb, oO_some, slotR, l_0, l_s, v_0, v_s, R.bind_ok, R.bind_bad, pd_nil, pd_c, sl_d, sl_s, okD_d, okD_l, okS_d, okS_l, rf_val, rf_own, fz_val, fz_own, tr_bl, t_bl, t_int, p_add, p_sub, p_neg, p_eq, p_ne, p_lt, p_le, p_gt, p_ge, p_abs, p_int, p_gcd, p_i0, p_i1, p_i2, p_i3, p_len2, p_len3, p_len4, p_t3, p_t4, p_t2, List.map, List.cons_append, List.nil_append, List.append_nil, List.length_cons, List.length_nil, List.replicate, if_true, if_false, Bool.false_eq_true, Nat.reduceAdd, Nat.reduceSub, decide_eq_true_eq, eq_self, decide_true, Bool.not_true, Bool.not_false, Int.reduceEq, Int.reduceLT, Int.reduceLE, decide_false, den_told h, ne_self_d (a := .val (sD sp a b)) (b := .val (sD sp a b)) rfl rfl sD_plain]) ?_
    refine step (e2 := [some (.val (eD a b)), some (.val (pD sp)), some (.val (sD sp a b)), none, none]) (by simp only [es_nil, es_cons, es_asgN, es_asgT, es_par, es_if, es_for, es_ret, es_retN, o_prim, o_call, o_var, o_con, o_glob, o_isi, o_and, o_or, o_not, o_ite, o_chain, e_var, e_rd, e_int, e_bl, e_non, e_str, e_glob, e_prim, e_isi, e_call, e_and, e_or, e_not, e_ite, ea_nil, ea_rd, ea_var, ea_con, ea_glob, ea_prim, ea_isi, ea_call, ea_and, ea_or, ea_not, ea_ite, ea_chain, ea_slc, ea_comp, ea_compif, r_var, r_prim, r_con, r_glob, r_call, r_isi, r_and, r_or, r_not, r_ite, r_chain, r_comp, r_compif, r_slc, ld_nil, ld_val, ld_own, ld_bor, ld_none, wp_nil, wp_c, tg_nm, tg_tup, tg_nil, tg_c, e_chain, es_cont, es_brk, es_pass, p_min2, p_max2, p_l0, p_l1, p_l2, p_l3, p_l4, p_is0, p_not0, n_non, n_tup, i_seq, q_lst, q_tup, q_ro, y_tt, y_tn, y_ii, y_bi, y_bb, y_lv, y_lb, oO_some, slotR, l_0, l_s, v_0, v_s, R.bind_ok, R.bind_bad, pd_nil, pd_c, sl_d, sl_s, okD_d, okD_l, okS_d, okS_l, rf_val, rf_own, fz_val, fz_own, tr_bl, t_bl, t_int, p_add, p_sub, p_neg, p_eq, p_ne, p_lt, p_le, p_gt, p_ge, p_abs, p_int, p_gcd, p_i0, p_i1, p_i2, p_i3, p_len2, p_len3, p_len4, p_t3, p_t4, p_t2, List.map, List.cons_append, List.nil_append, List.append_nil, List.length_cons, List.length_nil, List.replicate, if_true, if_false, Bool.false_eq_true, Nat.reduceAdd, Nat.reduceSub, decide_eq_true_eq, eq_self, decide_true, Bool.not_true, Bool.not_false, Int.reduceEq, Int.reduceLT, Int.reduceLE, decide_false]) ?_
    refine step_all (fun (k : Nat) => D.int (k : Int)) (fun e => ∃ kk an, e = [some (.val (eD a b)), some (.val (pD sp)), some (.val (sD sp a b)), kk, an]) (List.range 17) (rng17 _) ?_ ⟨_, _, rfl⟩ ?_
    · rintro x hx e ⟨kk, an, rfl⟩
      have hx' := List.mem_range.mp hx
      refine ⟨_, [some (.val (eD a b)), some (.val (pD sp)), some (.val (sD sp a b)), some (.val (.int (x : Int))), some (.val (.bl (decide (a ≤ (x : Int) ∧ (x : Int) ≤ b))))], rfl, .inl ?_, _, _, rfl⟩
      simp only [es_nil, es_cons, es_asgN, es_asgT, es_par, es_if, es_for, es_ret, es_retN, o_prim, o_call, o_var, o_con, o_glob, o_isi, o_and, o_or, o_not, o_ite, o_chain, e_var, e_rd, e_int, e_bl, e_non, e_str, e_glob, e_prim, e_isi, e_call, e_and, e_or, e_not, e_ite, ea_nil, ea_rd, ea_var, ea_con, ea_glob, ea_prim, ea_isi, ea_call, ea_and, ea_or, ea_not, ea_ite, ea_chain, ea_slc, ea_comp, ea_compif, r_var, r_prim, r_con, r_glob, r_call, r_isi, r_and, r_or, r_not, r_ite, r_chain, r_comp, r_compif, r_slc, ld_nil, ld_val, ld_own, ld_bor, ld_none, wp_nil, wp_c, tg_nm, tg_tup, tg_nil, tg_c, e_chain, es_cont, es_brk, es_pass, p_min2, p_max2, p_l0, p_l1, p_l2, p_l3, p_l4, p_is0, p_not0, n_non, n_tup, i_seq, q_lst, q_tup, q_ro, y_tt, y_tn, y_ii, y_bi, y_bb, y_lv, y_lb, oO_some, slotR, l_0, l_s, v_0, v_s, R.bind_ok, R.bind_bad, pd_nil, pd_c, sl_d, sl_s, okD_d, okD_l, okS_d, okS_l, rf_val, rf_own, fz_val, fz_own, tr_bl, t_bl, t_int, p_add, p_sub, p_neg, p_eq, p_ne, p_lt, p_le, p_gt, p_ge, p_abs, p_int, p_gcd, p_i0, p_i1, p_i2, p_i3, p_len2, p_len3, p_len4, p_t3, p_t4, p_t2, List.map, List.cons_append, List.nil_append, List.append_nil, List.length_cons, List.length_nil, List.replicate, if_true, if_false, Bool.false_eq_true, Nat.reduceAdd, Nat.reduceSub, decide_eq_true_eq, eq_self, decide_true, Bool.not_true, Bool.not_false, Int.reduceEq, Int.reduceLT, Int.reduceLE, decide_false, p_spot (sp := sp) (i := (x : Int)) (by omega) (by omega), den_in Z h q (k := (x : Int)) ⟨by omega, by omega⟩, den_has, p_neb, beq_self_eq_true]
    · rintro e' ⟨kk, an, rfl⟩
      simp only [es_nil, es_cons, es_asgN, es_asgT, es_par, es_if, es_for, es_ret, es_retN, o_prim, o_call, o_var, o_con, o_glob, o_isi, o_and, o_or, o_not, o_ite, o_chain, e_var, e_rd, e_int, e_bl, e_non, e_str, e_glob, e_prim, e_isi, e_call, e_and, e_or, e_not, e_ite, ea_nil, ea_rd, ea_var, ea_con, ea_glob, ea_prim, ea_isi, ea_call, ea_and, ea_or, ea_not, ea_ite, ea_chain, ea_slc, ea_comp, ea_compif, r_var, r_prim, r_con, r_glob, r_call, r_isi, r_and, r_or, r_not, r_ite, r_chain, r_comp, r_compif, r_slc, ld_nil, ld_val, ld_own, ld_bor, ld_none, wp_nil, wp_c, tg_nm, tg_tup, tg_nil, tg_c, e_chain, es_cont, es_brk, es_pass, p_min2, p_max2, p_l0, p_l1, p_l2, p_l3, p_l4, p_is0, p_not0, n_non, n_tup, i_seq, q_lst, q_tup, q_ro, y_tt, y_tn, y_ii, y_bi, y_bb, y_lv, y_lb, oO_some, slotR, l_0, l_s, v_0, v_s, R.bind_ok, R.bind_bad, pd_nil, pd_c, sl_d, sl_s, okD_d, okD_l, okS_d, okS_l, rf_val, rf_own, fz_val, fz_own, tr_bl, t_bl, t_int, p_add, p_sub, p_neg, p_eq, p_ne, p_lt, p_le, p_gt, p_ge, p_abs, p_int, p_gcd, p_i0, p_i1, p_i2, p_i3, p_len2, p_len3, p_len4, p_t3, p_t4, p_t2, List.map, List.cons_append, List.nil_append, List.append_nil, List.length_cons, List.length_nil, List.replicate, if_true, if_false, Bool.false_eq_true, Nat.reduceAdd, Nat.reduceSub, decide_eq_true_eq, eq_self, decide_true, Bool.not_true, Bool.not_false, Int.reduceEq, Int.reduceLT, Int.reduceLE, decide_false]
  · rw [if_neg q] at st
    rw [decide_eq_true (by simpa using q)] at ne
    simp only [b__law_single, es_nil, es_cons, es_asgN, es_asgT, es_par, es_if, es_for, es_ret, es_retN, o_prim, o_call, o_var, o_con, o_glob, o_isi, o_and, o_or, o_not, o_ite, o_chain, e_var, e_rd, e_int, e_bl, e_non, e_str, e_glob, e_prim, e_isi, e_call, e_and, e_or, e_not, e_ite, ea_nil, ea_rd, ea_var, ea_con, ea_glob, ea_prim, ea_isi, ea_call, ea_and, ea_or, ea_not, ea_ite, ea_chain, ea_slc, ea_comp, ea_compif, r_var, r_prim, r_con, r_glob, r_call, r_isi, r_and, r_or, r_not, r_ite, r_chain, r_comp, r_compif, r_slc, ld_nil, ld_val, ld_own, ld_bor, ld_none, wp_nil, wp_c, tg_nm, tg_tup, tg_nil, tg_c, e_chain, es_cont, es_brk, es_pass, p_min2, p_max2, p_l0, p_l1, p_l2, p_l3, p_l4, p_is0, p_not0, n_non, n_tup, i_seq, q_lst, q_tup, q_ro, y_tt, y_tn, y_ii, y_bi, y_bb, y_lv, y_lb, oO_some, slotR, l_0, l_s, v_0, v_s, R.bind_ok, R.bind_bad, pd_nil, pd_c, sl_d, sl_s, okD_d, okD_l, okS_d, okS_l, rf_val, rf_own, fz_val, fz_own, tr_bl, t_bl, t_int, p_add, p_sub, p_neg, p_eq, p_ne, p_lt, p_le, p_gt, p_ge, p_abs, p_int, p_gcd, p_i0, p_i1, p_i2, p_i3, p_len2, p_len3, p_len4, p_t3, p_t4, p_t2, List.map, List.cons_append, List.nil_append, List.append_nil, List.length_cons, List.length_nil, List.replicate, if_true, if_false, Bool.false_eq_true, Nat.reduceAdd, Nat.reduceSub, decide_eq_true_eq, eq_self, decide_true, Bool.not_true, Bool.not_false, Int.reduceEq, Int.reduceLT, Int.reduceLE, decide_false, p_spot (lo_rg h).1 (lo_rg h).2, p_spot (hi_rg h).1 (hi_rg h).2, st, den_set, ne]
theorem den_is_index {i n : Nat} (h : i < n) : f__law_is_index.den [.val (.int (i : Int)), .val (.int (n : Int))] = .ok (.val (.bl true)) := by
  refine den_of rfl ?_
  have h1 : (0 : Int) ≤ i := by omega
  have h2 : (i : Int) < n := by omega
  simp only [b__law_is_index, es_nil, es_cons, es_asgN, es_asgT, es_par, es_if, es_for, es_ret, es_retN, o_prim, o_call, o_var, o_con, o_glob, o_isi, o_and, o_or, o_not, o_ite, o_chain, e_var, e_rd, e_int, e_bl, e_non, e_str, e_glob, e_prim, e_isi, e_call, e_and, e_or, e_not, e_ite, ea_nil, ea_rd, ea_var, ea_con, ea_glob, ea_prim, ea_isi, ea_call, ea_and, ea_or, ea_not, ea_ite, ea_chain, ea_slc, ea_comp, ea_compif, r_var, r_prim, r_con, r_glob, r_call, r_isi, r_and, r_or, r_not, r_ite, r_chain, r_comp, r_compif, r_slc, ld_nil, ld_val, ld_own, ld_bor, ld_none, wp_nil, wp_c, tg_nm, tg_tup, tg_nil, tg_c, e_chain, es_cont, es_brk, es_pass, p_min2, p_max2, p_l0, p_l1, p_l2, p_l3, p_l4, p_is0, p_not0, n_non, n_tup, i_seq, q_lst, q_tup, q_ro, y_tt, y_tn, y_ii, y_bi, y_bb, y_lv, y_lb, oO_some, slotR, l_0, l_s, v_0, v_s, R.bind_ok, R.bind_bad, pd_nil, pd_c, sl_d, sl_s, okD_d, okD_l, okS_d, okS_l, rf_val, rf_own, fz_val, fz_own, tr_bl, t_bl, t_int, p_add, p_sub, p_neg, p_eq, p_ne, p_lt, p_le, p_gt, p_ge, p_abs, p_int, p_gcd, p_i0, p_i1, p_i2, p_i3, p_len2, p_len3, p_len4, p_t3, p_t4, p_t2, List.map, List.cons_append, List.nil_append, List.append_nil, List.length_cons, List.length_nil, List.replicate, if_true, if_false, Bool.false_eq_true, Nat.reduceAdd, Nat.reduceSub, decide_eq_true_eq, eq_self, decide_true, Bool.not_true, Bool.not_false, Int.reduceEq, Int.reduceLT, Int.reduceLE, decide_false, h1, h2]
end
end K88
set_option Elab.async false
set_option linter.all false
set_option maxRecDepth 100000
namespace K88
open PySem Ev
abbrev It := Int × Int
def cut (s p : It) : It := (max s.1 p.1, min s.2 p.2)
structure Ok (p : It) : Prop where
  rg : Rg p.1 p.2
  ne : p.1 ≤ p.2
abbrev empt (L : List It) (i j : Nat) : Bool := decide (¬ (max (L.getD i (0, 0)).1 (L.getD j (0, 0)).1 ≤ min (L.getD i (0, 0)).2 (L.getD j (0, 0)).2))
abbrev apD (i j : Nat) : D := .tup [.str "apart", .int (i : Int), .int (j : Int)]
def inner (L : List It) (i : Nat) : Option Sl := (List.range (L.length - (i + 1))).findSome? fun d => if empt L i (i + 1 + d) then some (.val (apD i (i + 1 + d))) else none
def apart (L : List It) : Option Sl := (List.range L.length).findSome? (inner L)
theorem rg_cut {s p : It} (h : Rg s.1 s.2) (q : Rg p.1 p.2) : Rg (cut s p).1 (cut s p).2 := by
  have := h.a0; have := h.a1; have := h.b0; have := h.b1
  have := q.a0; have := q.a1; have := q.b0; have := q.b1
  unfold cut
  exact ⟨by dsimp only; omega, by dsimp only; omega, by dsimp only; omega, by dsimp only; omega⟩
theorem rg_fold : ∀ (L : List It) (s : It), Rg s.1 s.2 → (∀ p ∈ L, Ok p) → Rg (L.foldl cut s).1 (L.foldl cut s).2
  | [], s, h, _ => h
  | p :: L, s, h, q => rg_fold L (cut s p) (rg_cut h (q p (List.mem_cons_self ..)).rg) fun x hx => q x (List.mem_cons_of_mem _ hx)
theorem fold_from : ∀ (L : List It) (s : It), ((L.foldl cut s).1 = s.1 ∨ ∃ p ∈ L, (L.foldl cut s).1 = p.1) ∧ ((L.foldl cut s).2 = s.2 ∨ ∃ p ∈ L, (L.foldl cut s).2 = p.2)
  | [], s => ⟨.inl rfl, .inl rfl⟩
  | p :: L, s => by
    obtain ⟨h1, h2⟩ := fold_from L (cut s p)
    rw [List.foldl_cons]
    refine ⟨?_, ?_⟩
    · rcases h1 with h | ⟨q, hq, h⟩
      · have : (cut s p).1 = s.1 ∨ (cut s p).1 = p.1 := by unfold cut; dsimp only; omega
        rcases this with z | z
        · exact .inl (h.trans z)
        · exact .inr ⟨p, List.mem_cons_self .., h.trans z⟩
      · exact .inr ⟨q, List.mem_cons_of_mem _ hq, h⟩
    · rcases h2 with h | ⟨q, hq, h⟩
      · have : (cut s p).2 = s.2 ∨ (cut s p).2 = p.2 := by unfold cut; dsimp only; omega
        rcases this with z | z
        · exact .inl (h.trans z)
        · exact .inr ⟨p, List.mem_cons_self .., h.trans z⟩
      · exact .inr ⟨q, List.mem_cons_of_mem _ hq, h⟩
/-- what the first pair apart is -/
theorem apart_is {L : List It} {s : Sl} (h : apart L = some s) : ∃ i j, i < j ∧ j < L.length ∧ s = .val (apD i j) := by
  unfold apart at h
  obtain ⟨i, hi, h⟩ := List.exists_of_findSome?_eq_some h
  unfold inner at h
  obtain ⟨d, hd, h⟩ := List.exists_of_findSome?_eq_some h
  have hd' := List.mem_range.mp hd
  split at h
  · cases h
    exact ⟨i, i + 1 + d, by omega, by omega, rfl⟩
  · cases h
/-- if nothing is shared, two are apart -/
theorem apart_some {p0 : It} {L : List It} (q : ∀ p ∈ p0 :: L, Ok p) (h : ¬ ((p0 :: L).foldl cut p0).1 ≤ ((p0 :: L).foldl cut p0).2) : (apart (p0 :: L)).isSome = true := by
  cases e : apart (p0 :: L) with
  | some s => rfl
  | none =>
    exfalso
    obtain ⟨h1, h2⟩ := fold_from (p0 :: L) p0
    have g1 : ∃ p ∈ p0 :: L, ((p0 :: L).foldl cut p0).1 = p.1 := h1.elim (fun z => ⟨p0, List.mem_cons_self .., z⟩) id
    have g2 : ∃ p ∈ p0 :: L, ((p0 :: L).foldl cut p0).2 = p.2 := h2.elim (fun z => ⟨p0, List.mem_cons_self .., z⟩) id
    obtain ⟨x, hx, ex⟩ := g1
    obtain ⟨y, hy, ey⟩ := g2
    rw [ex, ey] at h
    generalize p0 :: L = M at *
    have none_of : ∀ i j, i < j → j < M.length → empt M i j = false := by
      intro i j hij hj
      unfold apart at e
      rw [List.findSome?_eq_none_iff] at e
      have e1 := e i (List.mem_range.mpr (by omega))
      unfold inner at e1
      rw [List.findSome?_eq_none_iff] at e1
      have e2 := e1 (j - (i + 1)) (List.mem_range.mpr (by omega))
      rw [show i + 1 + (j - (i + 1)) = j by omega] at e2
      cases z : empt M i j with
      | false => rfl
      | true => rw [z] at e2; simp at e2
    obtain ⟨i, hi, rfl⟩ := List.getElem_of_mem hx
    obtain ⟨j, hj, rfl⟩ := List.getElem_of_mem hy
    have o1 := (q _ hx).ne
    have o2 := (q _ hy).ne
    have gi : M.getD i (0, 0) = M[i] := by rw [List.getD_eq_getElem?_getD, List.getElem?_eq_getElem hi]; rfl
    have gj : M.getD j (0, 0) = M[j] := by rw [List.getD_eq_getElem?_getD, List.getElem?_eq_getElem hj]; rfl
    rcases Nat.lt_trichotomy i j with z | z | z
    · have := none_of i j z hj
      rw [decide_eq_false_iff_not, gi, gj] at this
      omega
    · subst z
      exact h o1
    · have := none_of j i z hi
      rw [decide_eq_false_iff_not, gi, gj] at this
      omega
theorem ok_getD {M : List It} (h : ∀ p ∈ M, Ok p) {i : Nat} (hi : i < M.length) : Ok (M.getD i (0, 0)) := by
  have e : M.getD i (0, 0) = M[i] := by rw [List.getD_eq_getElem?_getD, List.getElem?_eq_getElem hi]; rfl
  rw [e]
  exact h _ (List.getElem_mem hi)
section
variable {sp : Int → Int × Int}
abbrev stD (sp : Int → Int × Int) (L : List It) : List D := L.map fun p => sD sp p.1 p.2
abbrev seD (L : List It) : List D := L.map fun p => D.lst (nsD (S p.1 p.2))
theorem p_at {L : List It} {i : Nat} (g : It → D) (h : i < L.length) : evPrim .idx [.val (.lst (L.map g)), .val (.int (i : Int))] = .d (g (L.getD i (0, 0))) := by
  rw [p_idxL, at_map g (k := i) (x := L.getD i (0, 0)) (by rw [List.getD_eq_getElem?_getD, List.getElem?_eq_getElem h]; rfl)]
  rfl
theorem sR_isNon (a b : Int) : (sR sp a b).isNon = decide (¬ a ≤ b) := by
  unfold sR
  by_cases h : a ≤ b <;> simp [h, D.isNon]
theorem den_meet_all (Z : Sp sp) {p0 : It} {L : List It} (h : ∀ p ∈ p0 :: L, Ok p) (hl : L.length < 1000) : f_meet_all.den [.val (.lst (stD sp (p0 :: L)))] =
    .ok (if ((p0 :: L).foldl cut p0).1 ≤ ((p0 :: L).foldl cut p0).2 then .val (.tup [.str "all", sD sp ((p0 :: L).foldl cut p0).1 ((p0 :: L).foldl cut p0).2]) else (apart (p0 :: L)).getD (.val .non)) := by
  have key : ∀ r d, evSs b_meet_all ([.val (.lst (stD sp (p0 :: L)))].map some ++ List.replicate (5 - 1) none) = .ok (.rt r) → r = .val d → f_meet_all.den [.val (.lst (stD sp (p0 :: L)))] = .ok r := fun r d q e => by subst e; exact den_of rfl q
  have run : evSs b_meet_all ([.val (.lst (stD sp (p0 :: L)))].map some ++ List.replicate (5 - 1) none) = .ok (.rt (if ((p0 :: L).foldl cut p0).1 ≤ ((p0 :: L).foldl cut p0).2 then .val (.tup [.str "all", sD sp ((p0 :: L).foldl cut p0).1 ((p0 :: L).foldl cut p0).2]) else (apart (p0 :: L)).getD (.val .non))) := by
    unfold b_meet_all
    have z0 : evPrim .idx [.val (.lst (stD sp (p0 :: L))), .val (.int 0)] = .d (sD sp p0.1 p0.2) := p_at (i := 0) (fun p => sD sp p.1 p.2) (by simp)
    generalize hM : p0 :: L = M at *
    have o0 : Ok p0 := h p0 (by rw [← hM]; exact List.mem_cons_self ..)
    have s0 : sD sp p0.1 p0.2 = sR sp p0.1 p0.2 := by unfold sR; rw [if_pos o0.ne]
    have lM : M.length ≤ 1000 := by rw [← hM]; simp; omega
    refine step (e2 := [some (.val (.lst (stD sp M))), some (.val (sR sp p0.1 p0.2)), none, none, none]) (by simp only [es_nil, es_cons, es_asgN, es_asgT, es_par, es_if, es_for, es_ret, es_retN, o_prim, o_call, o_var, o_con, o_glob, o_isi, o_and, o_or, o_not, o_ite, o_chain, e_var, e_rd, e_int, e_bl, e_non, e_str, e_glob, e_prim, e_isi, e_call, e_and, e_or, e_not, e_ite, ea_nil, ea_rd, ea_var, ea_con, ea_glob, ea_prim, ea_isi, ea_call, ea_and, ea_or, ea_not, ea_ite, ea_chain, ea_slc, ea_comp, ea_compif, r_var, r_prim, r_con, r_glob, r_call, r_isi, r_and, r_or, r_not, r_ite, r_chain, r_comp, r_compif, r_slc, ld_nil, ld_val, ld_own, ld_bor, ld_none, wp_nil, wp_c, tg_nm, tg_tup, tg_nil, tg_c, e_chain, es_cont, es_brk, es_pass, p_min2, p_max2, p_l0, p_l1, p_l2, p_l3, p_l4, p_is0, p_not0, n_non, n_tup, i_seq, q_lst, q_tup, q_ro, y_tt, y_tn, y_ii, y_bi, y_bb, y_lv, y_lb, oO_some, slotR, l_0, l_s, v_0, v_s, R.bind_ok, R.bind_bad, pd_nil, pd_c, sl_d, sl_s, okD_d, okD_l, okS_d, okS_l, rf_val, rf_own, fz_val, fz_own, tr_bl, t_bl, t_int, p_add, p_sub, p_neg, p_eq, p_ne, p_lt, p_le, p_gt, p_ge, p_abs, p_int, p_gcd, p_i0, p_i1, p_i2, p_i3, p_len2, p_len3, p_len4, p_t3, p_t4, p_t2, List.map, List.cons_append, List.nil_append, List.append_nil, List.length_cons, List.length_nil, List.replicate, if_true, if_false, Bool.false_eq_true, Nat.reduceAdd, Nat.reduceSub, decide_eq_true_eq, eq_self, decide_true, Bool.not_true, Bool.not_false, Int.reduceEq, Int.reduceLT, Int.reduceLE, decide_false, z0, s0]) ?_
    refine step_fold (fun p : It => sD sp p.1 p.2) cut (fun s e => Rg s.1 s.2 ∧ ∃ one, e = [some (.val (.lst (stD sp M))), some (.val (sR sp s.1 s.2)), one, none, none]) M p0 (e1 := [some (.val (.lst (stD sp M))), some (.val (sR sp p0.1 p0.2)), none, none, none]) rfl ?_ ⟨o0.rg, _, rfl⟩ ?_
    · rintro p hp s e ⟨rs, one, rfl⟩
      refine ⟨_, [some (.val (.lst (stD sp M))), some (.val (sR sp (cut s p).1 (cut s p).2)), some (.val (sD sp p.1 p.2)), none, none], rfl, .inl ?_, rg_cut rs (h p hp).rg, _, rfl⟩
      by_cases q : s.1 ≤ s.2
      · have e1 : sR sp s.1 s.2 = sD sp s.1 s.2 := if_pos q
        simp only [es_nil, es_cons, es_asgN, es_asgT, es_par, es_if, es_for, es_ret, es_retN, o_prim, o_call, o_var, o_con, o_glob, o_isi, o_and, o_or, o_not, o_ite, o_chain, e_var, e_rd, e_int, e_bl, e_non, e_str, e_glob, e_prim, e_isi, e_call, e_and, e_or, e_not, e_ite, ea_nil, ea_rd, ea_var, ea_con, ea_glob, ea_prim, ea_isi, ea_call, ea_and, ea_or, ea_not, ea_ite, ea_chain, ea_slc, ea_comp, ea_compif, r_var, r_prim, r_con, r_glob, r_call, r_isi, r_and, r_or, r_not, r_ite, r_chain, r_comp, r_compif, r_slc, ld_nil, ld_val, ld_own, ld_bor, ld_none, wp_nil, wp_c, tg_nm, tg_tup, tg_nil, tg_c, e_chain, es_cont, es_brk, es_pass, p_min2, p_max2, p_l0, p_l1, p_l2, p_l3, p_l4, p_is0, p_not0, n_non, n_tup, i_seq, q_lst, q_tup, q_ro, y_tt, y_tn, y_ii, y_bi, y_bb, y_lv, y_lb, oO_some, slotR, l_0, l_s, v_0, v_s, R.bind_ok, R.bind_bad, pd_nil, pd_c, sl_d, sl_s, okD_d, okD_l, okS_d, okS_l, rf_val, rf_own, fz_val, fz_own, tr_bl, t_bl, t_int, p_add, p_sub, p_neg, p_eq, p_ne, p_lt, p_le, p_gt, p_ge, p_abs, p_int, p_gcd, p_i0, p_i1, p_i2, p_i3, p_len2, p_len3, p_len4, p_t3, p_t4, p_t2, List.map, List.cons_append, List.nil_append, List.append_nil, List.length_cons, List.length_nil, List.replicate, if_true, if_false, Bool.false_eq_true, Nat.reduceAdd, Nat.reduceSub, decide_eq_true_eq, eq_self, decide_true, Bool.not_true, Bool.not_false, Int.reduceEq, Int.reduceLT, Int.reduceLE, decide_false, e1, den_meet Z rs (h p hp).rg]
        rfl
      · have e1 : sR sp s.1 s.2 = .non := if_neg q
        have e2 : sR sp (cut s p).1 (cut s p).2 = .non := if_neg (by unfold cut; dsimp only; omega)
        simp only [es_nil, es_cons, es_asgN, es_asgT, es_par, es_if, es_for, es_ret, es_retN, o_prim, o_call, o_var, o_con, o_glob, o_isi, o_and, o_or, o_not, o_ite, o_chain, e_var, e_rd, e_int, e_bl, e_non, e_str, e_glob, e_prim, e_isi, e_call, e_and, e_or, e_not, e_ite, ea_nil, ea_rd, ea_var, ea_con, ea_glob, ea_prim, ea_isi, ea_call, ea_and, ea_or, ea_not, ea_ite, ea_chain, ea_slc, ea_comp, ea_compif, r_var, r_prim, r_con, r_glob, r_call, r_isi, r_and, r_or, r_not, r_ite, r_chain, r_comp, r_compif, r_slc, ld_nil, ld_val, ld_own, ld_bor, ld_none, wp_nil, wp_c, tg_nm, tg_tup, tg_nil, tg_c, e_chain, es_cont, es_brk, es_pass, p_min2, p_max2, p_l0, p_l1, p_l2, p_l3, p_l4, p_is0, p_not0, n_non, n_tup, i_seq, q_lst, q_tup, q_ro, y_tt, y_tn, y_ii, y_bi, y_bb, y_lv, y_lb, oO_some, slotR, l_0, l_s, v_0, v_s, R.bind_ok, R.bind_bad, pd_nil, pd_c, sl_d, sl_s, okD_d, okD_l, okS_d, okS_l, rf_val, rf_own, fz_val, fz_own, tr_bl, t_bl, t_int, p_add, p_sub, p_neg, p_eq, p_ne, p_lt, p_le, p_gt, p_ge, p_abs, p_int, p_gcd, p_i0, p_i1, p_i2, p_i3, p_len2, p_len3, p_len4, p_t3, p_t4, p_t2, List.map, List.cons_append, List.nil_append, List.append_nil, List.length_cons, List.length_nil, List.replicate, if_true, if_false, Bool.false_eq_true, Nat.reduceAdd, Nat.reduceSub, decide_eq_true_eq, eq_self, decide_true, Bool.not_true, Bool.not_false, Int.reduceEq, Int.reduceLT, Int.reduceLE, decide_false, e1, e2]
    · rintro e ⟨_, one, rfl⟩
      by_cases q : (M.foldl cut p0).1 ≤ (M.foldl cut p0).2
      · have e1 : sR sp (M.foldl cut p0).1 (M.foldl cut p0).2 = sD sp (M.foldl cut p0).1 (M.foldl cut p0).2 := if_pos q
        rw [if_pos q]
        simp only [es_nil, es_cons, es_asgN, es_asgT, es_par, es_if, es_for, es_ret, es_retN, o_prim, o_call, o_var, o_con, o_glob, o_isi, o_and, o_or, o_not, o_ite, o_chain, e_var, e_rd, e_int, e_bl, e_non, e_str, e_glob, e_prim, e_isi, e_call, e_and, e_or, e_not, e_ite, ea_nil, ea_rd, ea_var, ea_con, ea_glob, ea_prim, ea_isi, ea_call, ea_and, ea_or, ea_not, ea_ite, ea_chain, ea_slc, ea_comp, ea_compif, r_var, r_prim, r_con, r_glob, r_call, r_isi, r_and, r_or, r_not, r_ite, r_chain, r_comp, r_compif, r_slc, ld_nil, ld_val, ld_own, ld_bor, ld_none, wp_nil, wp_c, tg_nm, tg_tup, tg_nil, tg_c, e_chain, es_cont, es_brk, es_pass, p_min2, p_max2, p_l0, p_l1, p_l2, p_l3, p_l4, p_is0, p_not0, n_non, n_tup, i_seq, q_lst, q_tup, q_ro, y_tt, y_tn, y_ii, y_bi, y_bb, y_lv, y_lb, oO_some, slotR, l_0, l_s, v_0, v_s, R.bind_ok, R.bind_bad, pd_nil, pd_c, sl_d, sl_s, okD_d, okD_l, okS_d, okS_l, rf_val, rf_own, fz_val, fz_own, tr_bl, t_bl, t_int, p_add, p_sub, p_neg, p_eq, p_ne, p_lt, p_le, p_gt, p_ge, p_abs, p_int, p_gcd, p_i0, p_i1, p_i2, p_i3, p_len2, p_len3, p_len4, p_t3, p_t4, p_t2, List.map, List.cons_append, List.nil_append, List.append_nil, List.length_cons, List.length_nil, List.replicate, if_true, if_false, Bool.false_eq_true, Nat.reduceAdd, Nat.reduceSub, decide_eq_true_eq, eq_self, decide_true, Bool.not_true, Bool.not_false, Int.reduceEq, Int.reduceLT, Int.reduceLE, decide_false, e1]
      · have e1 : sR sp (M.foldl cut p0).1 (M.foldl cut p0).2 = .non := if_neg q
        rw [if_neg q, e1]
        refine step (e2 := [some (.val (.lst (stD sp M))), some (.val .non), one, none, none]) (by simp only [es_nil, es_cons, es_asgN, es_asgT, es_par, es_if, es_for, es_ret, es_retN, o_prim, o_call, o_var, o_con, o_glob, o_isi, o_and, o_or, o_not, o_ite, o_chain, e_var, e_rd, e_int, e_bl, e_non, e_str, e_glob, e_prim, e_isi, e_call, e_and, e_or, e_not, e_ite, ea_nil, ea_rd, ea_var, ea_con, ea_glob, ea_prim, ea_isi, ea_call, ea_and, ea_or, ea_not, ea_ite, ea_chain, ea_slc, ea_comp, ea_compif, r_var, r_prim, r_con, r_glob, r_call, r_isi, r_and, r_or, r_not, r_ite, r_chain, r_comp, r_compif, r_slc, ld_nil, ld_val, ld_own, ld_bor, ld_none, wp_nil, wp_c, tg_nm, tg_tup, tg_nil, tg_c, e_chain, es_cont, es_brk, es_pass, p_min2, p_max2, p_l0, p_l1, p_l2, p_l3, p_l4, p_is0, p_not0, n_non, n_tup, i_seq, q_lst, q_tup, q_ro, y_tt, y_tn, y_ii, y_bi, y_bb, y_lv, y_lb, oO_some, slotR, l_0, l_s, v_0, v_s, R.bind_ok, R.bind_bad, pd_nil, pd_c, sl_d, sl_s, okD_d, okD_l, okS_d, okS_l, rf_val, rf_own, fz_val, fz_own, tr_bl, t_bl, t_int, p_add, p_sub, p_neg, p_eq, p_ne, p_lt, p_le, p_gt, p_ge, p_abs, p_int, p_gcd, p_i0, p_i1, p_i2, p_i3, p_len2, p_len3, p_len4, p_t3, p_t4, p_t2, List.map, List.cons_append, List.nil_append, List.append_nil, List.length_cons, List.length_nil, List.replicate, if_true, if_false, Bool.false_eq_true, Nat.reduceAdd, Nat.reduceSub, decide_eq_true_eq, eq_self, decide_true, Bool.not_true, Bool.not_false, Int.reduceEq, Int.reduceLT, Int.reduceLE, decide_false]) ?_
        refine step_find2 (fun (k : Nat) => D.int (k : Int)) (fun i (d : Nat) => D.int ((i : Int) + 1 + (d : Int))) (fun e => ∃ i j, e = [some (.val (.lst (stD sp M))), some (.val .non), one, i, j]) (fun i e => ∃ j, e = [some (.val (.lst (stD sp M))), some (.val .non), one, some (.val (.int (i : Int))), j])
          (fun i d => if empt M i (i + 1 + d) then some (.val (apD i (i + 1 + d))) else none) (List.range M.length) (fun i => List.range (M.length - (i + 1))) (e1 := [some (.val (.lst (stD sp M))), some (.val .non), one, none, none]) ?_ ?_ ?_ (fun i e ⟨j, h⟩ => ⟨_, j, h⟩) ⟨_, _, rfl⟩ ?_ ?_
        · exact i_rngN (q := [.d (.int (M.length : Int))]) (by simp only [es_nil, es_cons, es_asgN, es_asgT, es_par, es_if, es_for, es_ret, es_retN, o_prim, o_call, o_var, o_con, o_glob, o_isi, o_and, o_or, o_not, o_ite, o_chain, e_var, e_rd, e_int, e_bl, e_non, e_str, e_glob, e_prim, e_isi, e_call, e_and, e_or, e_not, e_ite, ea_nil, ea_rd, ea_var, ea_con, ea_glob, ea_prim, ea_isi, ea_call, ea_and, ea_or, ea_not, ea_ite, ea_chain, ea_slc, ea_comp, ea_compif, r_var, r_prim, r_con, r_glob, r_call, r_isi, r_and, r_or, r_not, r_ite, r_chain, r_comp, r_compif, r_slc, ld_nil, ld_val, ld_own, ld_bor, ld_none, wp_nil, wp_c, tg_nm, tg_tup, tg_nil, tg_c, e_chain, es_cont, es_brk, es_pass, p_min2, p_max2, p_l0, p_l1, p_l2, p_l3, p_l4, p_is0, p_not0, n_non, n_tup, i_seq, q_lst, q_tup, q_ro, y_tt, y_tn, y_ii, y_bi, y_bb, y_lv, y_lb, oO_some, slotR, l_0, l_s, v_0, v_s, R.bind_ok, R.bind_bad, pd_nil, pd_c, sl_d, sl_s, okD_d, okD_l, okS_d, okS_l, rf_val, rf_own, fz_val, fz_own, tr_bl, t_bl, t_int, p_add, p_sub, p_neg, p_eq, p_ne, p_lt, p_le, p_gt, p_ge, p_abs, p_int, p_gcd, p_i0, p_i1, p_i2, p_i3, p_len2, p_len3, p_len4, p_t3, p_t4, p_t2, List.map, List.cons_append, List.nil_append, List.append_nil, List.length_cons, List.length_nil, List.replicate, if_true, if_false, Bool.false_eq_true, Nat.reduceAdd, Nat.reduceSub, decide_eq_true_eq, eq_self, decide_true, Bool.not_true, Bool.not_false, Int.reduceEq, Int.reduceLT, Int.reduceLE, decide_false, p_lenL, List.length_map]) rfl (by omega)
        · rintro i hi e ⟨i0, j0, rfl⟩
          have hi' := List.mem_range.mp hi
          refine ⟨[some (.val (.lst (stD sp M))), some (.val .non), one, some (.val (.int (i : Int))), j0], [some (.val (.lst (stD sp M))), some (.val .non), one, some (.val (.int (i : Int))), j0], rfl, ?_, _, rfl⟩
          have z := i_rng2 (as := .cons (.prim .add (.cons (.rd 3 "i") (.cons (.con (.int 1)) .nil))) (.cons (.prim .len (.cons (.rd 0 "stretches") .nil)) .nil)) (e := [some (.val (.lst (stD sp M))), some (.val .non), one, some (.val (.int (i : Int))), j0]) (e1 := [some (.val (.lst (stD sp M))), some (.val .non), one, some (.val (.int (i : Int))), j0])
            (q := [.d (.int ((i : Int) + 1)), .d (.int (M.length : Int))]) (m := (i : Int) + 1) (n := (M.length : Int)) (by simp only [es_nil, es_cons, es_asgN, es_asgT, es_par, es_if, es_for, es_ret, es_retN, o_prim, o_call, o_var, o_con, o_glob, o_isi, o_and, o_or, o_not, o_ite, o_chain, e_var, e_rd, e_int, e_bl, e_non, e_str, e_glob, e_prim, e_isi, e_call, e_and, e_or, e_not, e_ite, ea_nil, ea_rd, ea_var, ea_con, ea_glob, ea_prim, ea_isi, ea_call, ea_and, ea_or, ea_not, ea_ite, ea_chain, ea_slc, ea_comp, ea_compif, r_var, r_prim, r_con, r_glob, r_call, r_isi, r_and, r_or, r_not, r_ite, r_chain, r_comp, r_compif, r_slc, ld_nil, ld_val, ld_own, ld_bor, ld_none, wp_nil, wp_c, tg_nm, tg_tup, tg_nil, tg_c, e_chain, es_cont, es_brk, es_pass, p_min2, p_max2, p_l0, p_l1, p_l2, p_l3, p_l4, p_is0, p_not0, n_non, n_tup, i_seq, q_lst, q_tup, q_ro, y_tt, y_tn, y_ii, y_bi, y_bb, y_lv, y_lb, oO_some, slotR, l_0, l_s, v_0, v_s, R.bind_ok, R.bind_bad, pd_nil, pd_c, sl_d, sl_s, okD_d, okD_l, okS_d, okS_l, rf_val, rf_own, fz_val, fz_own, tr_bl, t_bl, t_int, p_add, p_sub, p_neg, p_eq, p_ne, p_lt, p_le, p_gt, p_ge, p_abs, p_int, p_gcd, p_i0, p_i1, p_i2, p_i3, p_len2, p_len3, p_len4, p_t3, p_t4, p_t2, List.map, List.cons_append, List.nil_append, List.append_nil, List.length_cons, List.length_nil, List.replicate, if_true, if_false, Bool.false_eq_true, Nat.reduceAdd, Nat.reduceSub, decide_eq_true_eq, eq_self, decide_true, Bool.not_true, Bool.not_false, Int.reduceEq, Int.reduceLT, Int.reduceLE, decide_false, p_lenL, List.length_map]) rfl (by omega) (by omega) (by omega) (by omega)
          rw [show ((M.length : Int) - ((i : Int) + 1)).toNat = M.length - (i + 1) by omega] at z
          exact z
        · rintro i hi d hd e ⟨j1, rfl⟩
          have hi' := List.mem_range.mp hi
          have hd' := List.mem_range.mp hd
          have a1 := p_at (L := M) (i := i) (fun p => sD sp p.1 p.2) hi'
          have a2 := p_at (L := M) (i := i + 1 + d) (fun p => sD sp p.1 p.2) (by omega)
          have ej : ((i + 1 + d : Nat) : Int) = (i : Int) + 1 + (d : Int) := by omega
          rw [ej] at a2
          have mt := den_meet Z (ok_getD h hi').rg (ok_getD h (show i + 1 + d < M.length by omega)).rg
          cases hp : empt M i (i + 1 + d) with
          | true =>
            refine ⟨_, rfl, ?_⟩
            simp only [es_nil, es_cons, es_asgN, es_asgT, es_par, es_if, es_for, es_ret, es_retN, o_prim, o_call, o_var, o_con, o_glob, o_isi, o_and, o_or, o_not, o_ite, o_chain, e_var, e_rd, e_int, e_bl, e_non, e_str, e_glob, e_prim, e_isi, e_call, e_and, e_or, e_not, e_ite, ea_nil, ea_rd, ea_var, ea_con, ea_glob, ea_prim, ea_isi, ea_call, ea_and, ea_or, ea_not, ea_ite, ea_chain, ea_slc, ea_comp, ea_compif, r_var, r_prim, r_con, r_glob, r_call, r_isi, r_and, r_or, r_not, r_ite, r_chain, r_comp, r_compif, r_slc, ld_nil, ld_val, ld_own, ld_bor, ld_none, wp_nil, wp_c, tg_nm, tg_tup, tg_nil, tg_c, e_chain, es_cont, es_brk, es_pass, p_min2, p_max2, p_l0, p_l1, p_l2, p_l3, p_l4, p_is0, p_not0, n_non, n_tup, i_seq, q_lst, q_tup, q_ro, y_tt, y_tn, y_ii, y_bi, y_bb, y_lv, y_lb, oO_some, slotR, l_0, l_s, v_0, v_s, R.bind_ok, R.bind_bad, pd_nil, pd_c, sl_d, sl_s, okD_d, okD_l, okS_d, okS_l, rf_val, rf_own, fz_val, fz_own, tr_bl, t_bl, t_int, p_add, p_sub, p_neg, p_eq, p_ne, p_lt, p_le, p_gt, p_ge, p_abs, p_int, p_gcd, p_i0, p_i1, p_i2, p_i3, p_len2, p_len3, p_len4, p_t3, p_t4, p_t2, List.map, List.cons_append, List.nil_append, List.append_nil, List.length_cons, List.length_nil, List.replicate, if_true, if_false, Bool.false_eq_true, Nat.reduceAdd, Nat.reduceSub, decide_eq_true_eq, eq_self, decide_true, Bool.not_true, Bool.not_false, Int.reduceEq, Int.reduceLT, Int.reduceLE, decide_false, a1, a2, mt, sR_isNon, hp, apD, ej]
          | false =>
            refine ⟨_, [some (.val (.lst (stD sp M))), some (.val .non), one, some (.val (.int (i : Int))), some (.val (.int ((i : Int) + 1 + (d : Int))))], rfl, .inl ?_, _, rfl⟩
            simp only [es_nil, es_cons, es_asgN, es_asgT, es_par, es_if, es_for, es_ret, es_retN, o_prim, o_call, o_var, o_con, o_glob, o_isi, o_and, o_or, o_not, o_ite, o_chain, e_var, e_rd, e_int, e_bl, e_non, e_str, e_glob, e_prim, e_isi, e_call, e_and, e_or, e_not, e_ite, ea_nil, ea_rd, ea_var, ea_con, ea_glob, ea_prim, ea_isi, ea_call, ea_and, ea_or, ea_not, ea_ite, ea_chain, ea_slc, ea_comp, ea_compif, r_var, r_prim, r_con, r_glob, r_call, r_isi, r_and, r_or, r_not, r_ite, r_chain, r_comp, r_compif, r_slc, ld_nil, ld_val, ld_own, ld_bor, ld_none, wp_nil, wp_c, tg_nm, tg_tup, tg_nil, tg_c, e_chain, es_cont, es_brk, es_pass, p_min2, p_max2, p_l0, p_l1, p_l2, p_l3, p_l4, p_is0, p_not0, n_non, n_tup, i_seq, q_lst, q_tup, q_ro, y_tt, y_tn, y_ii, y_bi, y_bb, y_lv, y_lb, oO_some, slotR, l_0, l_s, v_0, v_s, R.bind_ok, R.bind_bad, pd_nil, pd_c, sl_d, sl_s, okD_d, okD_l, okS_d, okS_l, rf_val, rf_own, fz_val, fz_own, tr_bl, t_bl, t_int, p_add, p_sub, p_neg, p_eq, p_ne, p_lt, p_le, p_gt, p_ge, p_abs, p_int, p_gcd, p_i0, p_i1, p_i2, p_i3, p_len2, p_len3, p_len4, p_t3, p_t4, p_t2, List.map, List.cons_append, List.nil_append, List.append_nil, List.length_cons, List.length_nil, List.replicate, if_true, if_false, Bool.false_eq_true, Nat.reduceAdd, Nat.reduceSub, decide_eq_true_eq, eq_self, decide_true, Bool.not_true, Bool.not_false, Int.reduceEq, Int.reduceLT, Int.reduceLE, decide_false, a1, a2, mt, sR_isNon, hp]
        · intro s q'
          show R.ok (Fl.rt s) = R.ok (Fl.rt ((apart M).getD (.val .non)))
          have q2 : apart M = some s := q'
          rw [q2]
          rfl
        · rintro q' e' ⟨i, j, rfl⟩
          have q2 : apart M = none := q'
          rw [q2]
          simp only [es_nil, es_cons, es_asgN, es_asgT, es_par, es_if, es_for, es_ret, es_retN, o_prim, o_call, o_var, o_con, o_glob, o_isi, o_and, o_or, o_not, o_ite, o_chain, e_var, e_rd, e_int, e_bl, e_non, e_str, e_glob, e_prim, e_isi, e_call, e_and, e_or, e_not, e_ite, ea_nil, ea_rd, ea_var, ea_con, ea_glob, ea_prim, ea_isi, ea_call, ea_and, ea_or, ea_not, ea_ite, ea_chain, ea_slc, ea_comp, ea_compif, r_var, r_prim, r_con, r_glob, r_call, r_isi, r_and, r_or, r_not, r_ite, r_chain, r_comp, r_compif, r_slc, ld_nil, ld_val, ld_own, ld_bor, ld_none, wp_nil, wp_c, tg_nm, tg_tup, tg_nil, tg_c, e_chain, es_cont, es_brk, es_pass, p_min2, p_max2, p_l0, p_l1, p_l2, p_l3, p_l4, p_is0, p_not0, n_non, n_tup, i_seq, q_lst, q_tup, q_ro, y_tt, y_tn, y_ii, y_bi, y_bb, y_lv, y_lb, oO_some, slotR, l_0, l_s, v_0, v_s, R.bind_ok, R.bind_bad, pd_nil, pd_c, sl_d, sl_s, okD_d, okD_l, okS_d, okS_l, rf_val, rf_own, fz_val, fz_own, tr_bl, t_bl, t_int, p_add, p_sub, p_neg, p_eq, p_ne, p_lt, p_le, p_gt, p_ge, p_abs, p_int, p_gcd, p_i0, p_i1, p_i2, p_i3, p_len2, p_len3, p_len4, p_t3, p_t4, p_t2, List.map, List.cons_append, List.nil_append, List.append_nil, List.length_cons, List.length_nil, List.replicate, if_true, if_false, Bool.false_eq_true, Nat.reduceAdd, Nat.reduceSub, decide_eq_true_eq, eq_self, decide_true, Bool.not_true, Bool.not_false, Int.reduceEq, Int.reduceLT, Int.reduceLE, decide_false]
          rfl
  generalize hr : (if ((p0 :: L).foldl cut p0).1 ≤ ((p0 :: L).foldl cut p0).2 then Sl.val (.tup [.str "all", sD sp ((p0 :: L).foldl cut p0).1 ((p0 :: L).foldl cut p0).2]) else (apart (p0 :: L)).getD (.val .non)) = r at run
  have : ∃ d, r = .val d := by
    subst hr
    split
    · exact ⟨_, rfl⟩
    · cases e : apart (p0 :: L) with
      | none => exact ⟨_, rfl⟩
      | some s =>
        obtain ⟨i, j, _, _, rfl⟩ := apart_is e
        exact ⟨_, rfl⟩
  obtain ⟨d, rfl⟩ := this
  exact key _ d run rfl
end
end K88
set_option Elab.async false
set_option linter.all false
set_option maxRecDepth 100000
namespace K88
open PySem Ev
theorem den_all_due {p0 : It} {L : List It} (h : ∀ p ∈ p0 :: L, Ok p) (hl : L.length < 1000) : f__law_all_due.den [.val (.lst (seD (p0 :: L)))] =
    .ok (if ((p0 :: L).foldl cut p0).1 ≤ ((p0 :: L).foldl cut p0).2 then .val (.tup [.str "all", .lst (nsD (S ((p0 :: L).foldl cut p0).1 ((p0 :: L).foldl cut p0).2))]) else (apart (p0 :: L)).getD (.val .non)) := by
  have key : ∀ r d, evSs b__law_all_due ([.val (.lst (seD (p0 :: L)))].map some ++ List.replicate (5 - 1) none) = .ok (.rt r) → r = .val d → f__law_all_due.den [.val (.lst (seD (p0 :: L)))] = .ok r := fun r d q e => by subst e; exact den_of rfl q
  have run : evSs b__law_all_due ([.val (.lst (seD (p0 :: L)))].map some ++ List.replicate (5 - 1) none) = .ok (.rt (if ((p0 :: L).foldl cut p0).1 ≤ ((p0 :: L).foldl cut p0).2 then .val (.tup [.str "all", .lst (nsD (S ((p0 :: L).foldl cut p0).1 ((p0 :: L).foldl cut p0).2))]) else (apart (p0 :: L)).getD (.val .non))) := by
    unfold b__law_all_due
    have z0 : evPrim .idx [.val (.lst (seD (p0 :: L))), .val (.int 0)] = .d (.lst (nsD (S p0.1 p0.2))) := p_at (i := 0) (fun p => D.lst (nsD (S p.1 p.2))) (by simp)
    have rg := rg_fold (p0 :: L) p0 (h p0 (List.mem_cons_self ..)).rg h
    generalize hM : p0 :: L = M at *
    have lM : M.length ≤ 1000 := by rw [← hM]; simp; omega
    refine step (e2 := [some (.val (.lst (seD M))), some (.val (.lst (nsD (S p0.1 p0.2)))), none, none, none]) (by simp only [es_nil, es_cons, es_asgN, es_asgT, es_par, es_if, es_for, es_ret, es_retN, o_prim, o_call, o_var, o_con, o_glob, o_isi, o_and, o_or, o_not, o_ite, o_chain, e_var, e_rd, e_int, e_bl, e_non, e_str, e_glob, e_prim, e_isi, e_call, e_and, e_or, e_not, e_ite, ea_nil, ea_rd, ea_var, ea_con, ea_glob, ea_prim, ea_isi, ea_call, ea_and, ea_or, ea_not, ea_ite, ea_chain, ea_slc, ea_comp, ea_compif, r_var, r_prim, r_con, r_glob, r_call, r_isi, r_and, r_or, r_not, r_ite, r_chain, r_comp, r_compif, r_slc, ld_nil, ld_val, ld_own, ld_bor, ld_none, wp_nil, wp_c, tg_nm, tg_tup, tg_nil, tg_c, e_chain, es_cont, es_brk, es_pass, p_min2, p_max2, p_l0, p_l1, p_l2, p_l3, p_l4, p_is0, p_not0, n_non, n_tup, i_seq, q_lst, q_tup, q_ro, y_tt, y_tn, y_ii, y_bi, y_bb, y_lv, y_lb, oO_some, slotR, l_0, l_s, v_0, v_s, R.bind_ok, R.bind_bad, pd_nil, pd_c, sl_d, sl_s, okD_d, okD_l, okS_d, okS_l, rf_val, rf_own, fz_val, fz_own, tr_bl, t_bl, t_int, p_add, p_sub, p_neg, p_eq, p_ne, p_lt, p_le, p_gt, p_ge, p_abs, p_int, p_gcd, p_i0, p_i1, p_i2, p_i3, p_len2, p_len3, p_len4, p_t3, p_t4, p_t2, List.map, List.cons_append, List.nil_append, List.append_nil, List.length_cons, List.length_nil, List.replicate, if_true, if_false, Bool.false_eq_true, Nat.reduceAdd, Nat.reduceSub, decide_eq_true_eq, eq_self, decide_true, Bool.not_true, Bool.not_false, Int.reduceEq, Int.reduceLT, Int.reduceLE, decide_false, z0]) ?_
    refine step_fold (fun p : It => D.lst (nsD (S p.1 p.2))) cut (fun s e => ∃ sl one, (sl = .val (.lst (nsD (S s.1 s.2))) ∨ sl = .own (nsD (S s.1 s.2))) ∧ e = [some (.val (.lst (seD M))), some sl, one, none, none]) M p0
      (e1 := [some (.val (.lst (seD M))), some (.val (.lst (nsD (S p0.1 p0.2)))), none, none, none]) rfl ?_ ⟨_, _, .inl rfl, rfl⟩ ?_
    · rintro p hp s e ⟨sl, one, hsl, rfl⟩
      refine ⟨_, [some (.val (.lst (seD M))), some (.own (nsD (S (cut s p).1 (cut s p).2))), some (.val (.lst (nsD (S p.1 p.2)))), none, none], rfl, .inl ?_, _, _, .inr rfl, rfl⟩
      rcases hsl with rfl | rfl <;> (simp only [es_nil, es_cons, es_asgN, es_asgT, es_par, es_if, es_for, es_ret, es_retN, o_prim, o_call, o_var, o_con, o_glob, o_isi, o_and, o_or, o_not, o_ite, o_chain, e_var, e_rd, e_int, e_bl, e_non, e_str, e_glob, e_prim, e_isi, e_call, e_and, e_or, e_not, e_ite, ea_nil, ea_rd, ea_var, ea_con, ea_glob, ea_prim, ea_isi, ea_call, ea_and, ea_or, ea_not, ea_ite, ea_chain, ea_slc, ea_comp, ea_compif, r_var, r_prim, r_con, r_glob, r_call, r_isi, r_and, r_or, r_not, r_ite, r_chain, r_comp, r_compif, r_slc, ld_nil, ld_val, ld_own, ld_bor, ld_none, wp_nil, wp_c, tg_nm, tg_tup, tg_nil, tg_c, e_chain, es_cont, es_brk, es_pass, p_min2, p_max2, p_l0, p_l1, p_l2, p_l3, p_l4, p_is0, p_not0, n_non, n_tup, i_seq, q_lst, q_tup, q_ro, y_tt, y_tn, y_ii, y_bi, y_bb, y_lv, y_lb, oO_some, slotR, l_0, l_s, v_0, v_s, R.bind_ok, R.bind_bad, pd_nil, pd_c, sl_d, sl_s, okD_d, okD_l, okS_d, okS_l, rf_val, rf_own, fz_val, fz_own, tr_bl, t_bl, t_int, p_add, p_sub, p_neg, p_eq, p_ne, p_lt, p_le, p_gt, p_ge, p_abs, p_int, p_gcd, p_i0, p_i1, p_i2, p_i3, p_len2, p_len3, p_len4, p_t3, p_t4, p_t2, List.map, List.cons_append, List.nil_append, List.append_nil, List.length_cons, List.length_nil, List.replicate, if_true, if_false, Bool.false_eq_true, Nat.reduceAdd, Nat.reduceSub, decide_eq_true_eq, eq_self, decide_true, Bool.not_true, Bool.not_false, Int.reduceEq, Int.reduceLT, Int.reduceLE, decide_false, den_shared]; rfl)
    · rintro e ⟨sl, one, hsl, rfl⟩
      have n1 : ∀ a, asD a = some (.lst (nsD (S (M.foldl cut p0).1 (M.foldl cut p0).2))) → evPrim .ne [a, .val (.lst [])] = .d (.bl (!decide (¬ (M.foldl cut p0).1 ≤ (M.foldl cut p0).2))) := fun a ha => by
        rw [ne_nil ha (nsD_plain _), nsD_empty, S_empty rg]
      have n2 := n1 (.val (.lst (nsD (S (M.foldl cut p0).1 (M.foldl cut p0).2)))) rfl
      have n3 := n1 (.bor (nsD (S (M.foldl cut p0).1 (M.foldl cut p0).2))) rfl
      by_cases q : (M.foldl cut p0).1 ≤ (M.foldl cut p0).2
      · rw [if_pos q]
        rw [decide_eq_false (by simpa using q)] at n2 n3
        rcases hsl with rfl | rfl <;> simp only [es_nil, es_cons, es_asgN, es_asgT, es_par, es_if, es_for, es_ret, es_retN, o_prim, o_call, o_var, o_con, o_glob, o_isi, o_and, o_or, o_not, o_ite, o_chain, e_var, e_rd, e_int, e_bl, e_non, e_str, e_glob, e_prim, e_isi, e_call, e_and, e_or, e_not, e_ite, ea_nil, ea_rd, ea_var, ea_con, ea_glob, ea_prim, ea_isi, ea_call, ea_and, ea_or, ea_not, ea_ite, ea_chain, ea_slc, ea_comp, ea_compif, r_var, r_prim, r_con, r_glob, r_call, r_isi, r_and, r_or, r_not, r_ite, r_chain, r_comp, r_compif, r_slc, ld_nil, ld_val, ld_own, ld_bor, ld_none, wp_nil, wp_c, tg_nm, tg_tup, tg_nil, tg_c, e_chain, es_cont, es_brk, es_pass, p_min2, p_max2, p_l0, p_l1, p_l2, p_l3, p_l4, p_is0, p_not0, n_non, n_tup, i_seq, q_lst, q_tup, q_ro, y_tt, y_tn, y_ii, y_bi, y_bb, y_lv, y_lb, oO_some, slotR, l_0, l_s, v_0, v_s, R.bind_ok, R.bind_bad, pd_nil, pd_c, sl_d, sl_s, okD_d, okD_l, okS_d, okS_l, rf_val, rf_own, fz_val, fz_own, tr_bl, t_bl, t_int, p_add, p_sub, p_neg, p_eq, p_ne, p_lt, p_le, p_gt, p_ge, p_abs, p_int, p_gcd, p_i0, p_i1, p_i2, p_i3, p_len2, p_len3, p_len4, p_t3, p_t4, p_t2, List.map, List.cons_append, List.nil_append, List.append_nil, List.length_cons, List.length_nil, List.replicate, if_true, if_false, Bool.false_eq_true, Nat.reduceAdd, Nat.reduceSub, decide_eq_true_eq, eq_self, decide_true, Bool.not_true, Bool.not_false, Int.reduceEq, Int.reduceLT, Int.reduceLE, decide_false, n2, n3]
      · rw [if_neg q]
        rw [decide_eq_true q] at n2 n3
        refine step (e2 := [some (.val (.lst (seD M))), some sl, one, none, none]) (by rcases hsl with rfl | rfl <;> simp only [es_nil, es_cons, es_asgN, es_asgT, es_par, es_if, es_for, es_ret, es_retN, o_prim, o_call, o_var, o_con, o_glob, o_isi, o_and, o_or, o_not, o_ite, o_chain, e_var, e_rd, e_int, e_bl, e_non, e_str, e_glob, e_prim, e_isi, e_call, e_and, e_or, e_not, e_ite, ea_nil, ea_rd, ea_var, ea_con, ea_glob, ea_prim, ea_isi, ea_call, ea_and, ea_or, ea_not, ea_ite, ea_chain, ea_slc, ea_comp, ea_compif, r_var, r_prim, r_con, r_glob, r_call, r_isi, r_and, r_or, r_not, r_ite, r_chain, r_comp, r_compif, r_slc, ld_nil, ld_val, ld_own, ld_bor, ld_none, wp_nil, wp_c, tg_nm, tg_tup, tg_nil, tg_c, e_chain, es_cont, es_brk, es_pass, p_min2, p_max2, p_l0, p_l1, p_l2, p_l3, p_l4, p_is0, p_not0, n_non, n_tup, i_seq, q_lst, q_tup, q_ro, y_tt, y_tn, y_ii, y_bi, y_bb, y_lv, y_lb, oO_some, slotR, l_0, l_s, v_0, v_s, R.bind_ok, R.bind_bad, pd_nil, pd_c, sl_d, sl_s, okD_d, okD_l, okS_d, okS_l, rf_val, rf_own, fz_val, fz_own, tr_bl, t_bl, t_int, p_add, p_sub, p_neg, p_eq, p_ne, p_lt, p_le, p_gt, p_ge, p_abs, p_int, p_gcd, p_i0, p_i1, p_i2, p_i3, p_len2, p_len3, p_len4, p_t3, p_t4, p_t2, List.map, List.cons_append, List.nil_append, List.append_nil, List.length_cons, List.length_nil, List.replicate, if_true, if_false, Bool.false_eq_true, Nat.reduceAdd, Nat.reduceSub, decide_eq_true_eq, eq_self, decide_true, Bool.not_true, Bool.not_false, Int.reduceEq, Int.reduceLT, Int.reduceLE, decide_false, n2, n3]) ?_
        refine step_find2 (fun (k : Nat) => D.int (k : Int)) (fun i (d : Nat) => D.int ((i : Int) + 1 + (d : Int))) (fun e => ∃ i j, e = [some (.val (.lst (seD M))), some sl, one, i, j]) (fun i e => ∃ j, e = [some (.val (.lst (seD M))), some sl, one, some (.val (.int (i : Int))), j])
          (fun i d => if empt M i (i + 1 + d) then some (.val (apD i (i + 1 + d))) else none) (List.range M.length) (fun i => List.range (M.length - (i + 1))) (e1 := [some (.val (.lst (seD M))), some sl, one, none, none]) ?_ ?_ ?_ (fun i e ⟨j, h⟩ => ⟨_, j, h⟩) ⟨_, _, rfl⟩ ?_ ?_
        · exact i_rngN (q := [.d (.int (M.length : Int))]) (by simp only [es_nil, es_cons, es_asgN, es_asgT, es_par, es_if, es_for, es_ret, es_retN, o_prim, o_call, o_var, o_con, o_glob, o_isi, o_and, o_or, o_not, o_ite, o_chain, e_var, e_rd, e_int, e_bl, e_non, e_str, e_glob, e_prim, e_isi, e_call, e_and, e_or, e_not, e_ite, ea_nil, ea_rd, ea_var, ea_con, ea_glob, ea_prim, ea_isi, ea_call, ea_and, ea_or, ea_not, ea_ite, ea_chain, ea_slc, ea_comp, ea_compif, r_var, r_prim, r_con, r_glob, r_call, r_isi, r_and, r_or, r_not, r_ite, r_chain, r_comp, r_compif, r_slc, ld_nil, ld_val, ld_own, ld_bor, ld_none, wp_nil, wp_c, tg_nm, tg_tup, tg_nil, tg_c, e_chain, es_cont, es_brk, es_pass, p_min2, p_max2, p_l0, p_l1, p_l2, p_l3, p_l4, p_is0, p_not0, n_non, n_tup, i_seq, q_lst, q_tup, q_ro, y_tt, y_tn, y_ii, y_bi, y_bb, y_lv, y_lb, oO_some, slotR, l_0, l_s, v_0, v_s, R.bind_ok, R.bind_bad, pd_nil, pd_c, sl_d, sl_s, okD_d, okD_l, okS_d, okS_l, rf_val, rf_own, fz_val, fz_own, tr_bl, t_bl, t_int, p_add, p_sub, p_neg, p_eq, p_ne, p_lt, p_le, p_gt, p_ge, p_abs, p_int, p_gcd, p_i0, p_i1, p_i2, p_i3, p_len2, p_len3, p_len4, p_t3, p_t4, p_t2, List.map, List.cons_append, List.nil_append, List.append_nil, List.length_cons, List.length_nil, List.replicate, if_true, if_false, Bool.false_eq_true, Nat.reduceAdd, Nat.reduceSub, decide_eq_true_eq, eq_self, decide_true, Bool.not_true, Bool.not_false, Int.reduceEq, Int.reduceLT, Int.reduceLE, decide_false, p_lenL, List.length_map]) rfl (by omega)
        · rintro i hi e ⟨i0, j0, rfl⟩
          have hi' := List.mem_range.mp hi
          refine ⟨[some (.val (.lst (seD M))), some sl, one, some (.val (.int (i : Int))), j0], [some (.val (.lst (seD M))), some sl, one, some (.val (.int (i : Int))), j0], rfl, ?_, _, rfl⟩
          have z := i_rng2 (as := .cons (.prim .add (.cons (.rd 3 "i") (.cons (.con (.int 1)) .nil))) (.cons (.prim .len (.cons (.rd 0 "sets") .nil)) .nil)) (e := [some (.val (.lst (seD M))), some sl, one, some (.val (.int (i : Int))), j0]) (e1 := [some (.val (.lst (seD M))), some sl, one, some (.val (.int (i : Int))), j0])
            (q := [.d (.int ((i : Int) + 1)), .d (.int (M.length : Int))]) (m := (i : Int) + 1) (n := (M.length : Int)) (by simp only [es_nil, es_cons, es_asgN, es_asgT, es_par, es_if, es_for, es_ret, es_retN, o_prim, o_call, o_var, o_con, o_glob, o_isi, o_and, o_or, o_not, o_ite, o_chain, e_var, e_rd, e_int, e_bl, e_non, e_str, e_glob, e_prim, e_isi, e_call, e_and, e_or, e_not, e_ite, ea_nil, ea_rd, ea_var, ea_con, ea_glob, ea_prim, ea_isi, ea_call, ea_and, ea_or, ea_not, ea_ite, ea_chain, ea_slc, ea_comp, ea_compif, r_var, r_prim, r_con, r_glob, r_call, r_isi, r_and, r_or, r_not, r_ite, r_chain, r_comp, r_compif, r_slc, ld_nil, ld_val, ld_own, ld_bor, ld_none, wp_nil, wp_c, tg_nm, tg_tup, tg_nil, tg_c, e_chain, es_cont, es_brk, es_pass, p_min2, p_max2, p_l0, p_l1, p_l2, p_l3, p_l4, p_is0, p_not0, n_non, n_tup, i_seq, q_lst, q_tup, q_ro, y_tt, y_tn, y_ii, y_bi, y_bb, y_lv, y_lb, oO_some, slotR, l_0, l_s, v_0, v_s, R.bind_ok, R.bind_bad, pd_nil, pd_c, sl_d, sl_s, okD_d, okD_l, okS_d, okS_l, rf_val, rf_own, fz_val, fz_own, tr_bl, t_bl, t_int, p_add, p_sub, p_neg, p_eq, p_ne, p_lt, p_le, p_gt, p_ge, p_abs, p_int, p_gcd, p_i0, p_i1, p_i2, p_i3, p_len2, p_len3, p_len4, p_t3, p_t4, p_t2, List.map, List.cons_append, List.nil_append, List.append_nil, List.length_cons, List.length_nil, List.replicate, if_true, if_false, Bool.false_eq_true, Nat.reduceAdd, Nat.reduceSub, decide_eq_true_eq, eq_self, decide_true, Bool.not_true, Bool.not_false, Int.reduceEq, Int.reduceLT, Int.reduceLE, decide_false, p_lenL, List.length_map]) rfl (by omega) (by omega) (by omega) (by omega)
          rw [show ((M.length : Int) - ((i : Int) + 1)).toNat = M.length - (i + 1) by omega] at z
          exact z
        · rintro i hi d hd e ⟨j1, rfl⟩
          have hi' := List.mem_range.mp hi
          have hd' := List.mem_range.mp hd
          have a1 := p_at (L := M) (i := i) (fun p => D.lst (nsD (S p.1 p.2))) hi'
          have a2 := p_at (L := M) (i := i + 1 + d) (fun p => D.lst (nsD (S p.1 p.2))) (by omega)
          have ej : ((i + 1 + d : Nat) : Int) = (i : Int) + 1 + (d : Int) := by omega
          rw [ej] at a2
          have o1 := ok_getD h hi'
          have o2 := ok_getD h (show i + 1 + d < M.length by omega)
          have sh := den_shared (M.getD i (0, 0)).1 (M.getD i (0, 0)).2 (M.getD (i + 1 + d) (0, 0)).1 (M.getD (i + 1 + d) (0, 0)).2
          have ne := eq_nil (a := .val (.lst (nsD (S (max (M.getD i (0, 0)).1 (M.getD (i + 1 + d) (0, 0)).1) (min (M.getD i (0, 0)).2 (M.getD (i + 1 + d) (0, 0)).2))))) rfl (nsD_plain _)
          have rc : Rg (max (M.getD i (0, 0)).1 (M.getD (i + 1 + d) (0, 0)).1) (min (M.getD i (0, 0)).2 (M.getD (i + 1 + d) (0, 0)).2) := rg_cut o1.rg o2.rg
          rw [nsD_empty, S_empty rc] at ne
          cases hp : empt M i (i + 1 + d) with
          | true =>
            refine ⟨_, rfl, ?_⟩
            simp only [es_nil, es_cons, es_asgN, es_asgT, es_par, es_if, es_for, es_ret, es_retN, o_prim, o_call, o_var, o_con, o_glob, o_isi, o_and, o_or, o_not, o_ite, o_chain, e_var, e_rd, e_int, e_bl, e_non, e_str, e_glob, e_prim, e_isi, e_call, e_and, e_or, e_not, e_ite, ea_nil, ea_rd, ea_var, ea_con, ea_glob, ea_prim, ea_isi, ea_call, ea_and, ea_or, ea_not, ea_ite, ea_chain, ea_slc, ea_comp, ea_compif, r_var, r_prim, r_con, r_glob, r_call, r_isi, r_and, r_or, r_not, r_ite, r_chain, r_comp, r_compif, r_slc, ld_nil, ld_val, ld_own, ld_bor, ld_none, wp_nil, wp_c, tg_nm, tg_tup, tg_nil, tg_c, e_chain, es_cont, es_brk, es_pass, p_min2, p_max2, p_l0, p_l1, p_l2, p_l3, p_l4, p_is0, p_not0, n_non, n_tup, i_seq, q_lst, q_tup, q_ro, y_tt, y_tn, y_ii, y_bi, y_bb, y_lv, y_lb, oO_some, slotR, l_0, l_s, v_0, v_s, R.bind_ok, R.bind_bad, pd_nil, pd_c, sl_d, sl_s, okD_d, okD_l, okS_d, okS_l, rf_val, rf_own, fz_val, fz_own, tr_bl, t_bl, t_int, p_add, p_sub, p_neg, p_eq, p_ne, p_lt, p_le, p_gt, p_ge, p_abs, p_int, p_gcd, p_i0, p_i1, p_i2, p_i3, p_len2, p_len3, p_len4, p_t3, p_t4, p_t2, List.map, List.cons_append, List.nil_append, List.append_nil, List.length_cons, List.length_nil, List.replicate, if_true, if_false, Bool.false_eq_true, Nat.reduceAdd, Nat.reduceSub, decide_eq_true_eq, eq_self, decide_true, Bool.not_true, Bool.not_false, Int.reduceEq, Int.reduceLT, Int.reduceLE, decide_false, a1, a2, sh, ne, hp, apD, ej]
          | false =>
            refine ⟨_, [some (.val (.lst (seD M))), some sl, one, some (.val (.int (i : Int))), some (.val (.int ((i : Int) + 1 + (d : Int))))], rfl, .inl ?_, _, rfl⟩
            simp only [es_nil, es_cons, es_asgN, es_asgT, es_par, es_if, es_for, es_ret, es_retN, o_prim, o_call, o_var, o_con, o_glob, o_isi, o_and, o_or, o_not, o_ite, o_chain, e_var, e_rd, e_int, e_bl, e_non, e_str, e_glob, e_prim, e_isi, e_call, e_and, e_or, e_not, e_ite, ea_nil, ea_rd, ea_var, ea_con, ea_glob, ea_prim, ea_isi, ea_call, ea_and, ea_or, ea_not, ea_ite, ea_chain, ea_slc, ea_comp, ea_compif, r_var, r_prim, r_con, r_glob, r_call, r_isi, r_and, r_or, r_not, r_ite, r_chain, r_comp, r_compif, r_slc, ld_nil, ld_val, ld_own, ld_bor, ld_none, wp_nil, wp_c, tg_nm, tg_tup, tg_nil, tg_c, e_chain, es_cont, es_brk, es_pass, p_min2, p_max2, p_l0, p_l1, p_l2, p_l3, p_l4, p_is0, p_not0, n_non, n_tup, i_seq, q_lst, q_tup, q_ro, y_tt, y_tn, y_ii, y_bi, y_bb, y_lv, y_lb, oO_some, slotR, l_0, l_s, v_0, v_s, R.bind_ok, R.bind_bad, pd_nil, pd_c, sl_d, sl_s, okD_d, okD_l, okS_d, okS_l, rf_val, rf_own, fz_val, fz_own, tr_bl, t_bl, t_int, p_add, p_sub, p_neg, p_eq, p_ne, p_lt, p_le, p_gt, p_ge, p_abs, p_int, p_gcd, p_i0, p_i1, p_i2, p_i3, p_len2, p_len3, p_len4, p_t3, p_t4, p_t2, List.map, List.cons_append, List.nil_append, List.append_nil, List.length_cons, List.length_nil, List.replicate, if_true, if_false, Bool.false_eq_true, Nat.reduceAdd, Nat.reduceSub, decide_eq_true_eq, eq_self, decide_true, Bool.not_true, Bool.not_false, Int.reduceEq, Int.reduceLT, Int.reduceLE, decide_false, a1, a2, sh, ne, hp]
        · intro s q'
          show R.ok (Fl.rt s) = R.ok (Fl.rt ((apart M).getD (.val .non)))
          have q2 : apart M = some s := q'
          rw [q2]
          rfl
        · rintro q' e' ⟨i, j, rfl⟩
          have q2 : apart M = none := q'
          rw [q2]
          simp only [es_nil, es_cons, es_asgN, es_asgT, es_par, es_if, es_for, es_ret, es_retN, o_prim, o_call, o_var, o_con, o_glob, o_isi, o_and, o_or, o_not, o_ite, o_chain, e_var, e_rd, e_int, e_bl, e_non, e_str, e_glob, e_prim, e_isi, e_call, e_and, e_or, e_not, e_ite, ea_nil, ea_rd, ea_var, ea_con, ea_glob, ea_prim, ea_isi, ea_call, ea_and, ea_or, ea_not, ea_ite, ea_chain, ea_slc, ea_comp, ea_compif, r_var, r_prim, r_con, r_glob, r_call, r_isi, r_and, r_or, r_not, r_ite, r_chain, r_comp, r_compif, r_slc, ld_nil, ld_val, ld_own, ld_bor, ld_none, wp_nil, wp_c, tg_nm, tg_tup, tg_nil, tg_c, e_chain, es_cont, es_brk, es_pass, p_min2, p_max2, p_l0, p_l1, p_l2, p_l3, p_l4, p_is0, p_not0, n_non, n_tup, i_seq, q_lst, q_tup, q_ro, y_tt, y_tn, y_ii, y_bi, y_bb, y_lv, y_lb, oO_some, slotR, l_0, l_s, v_0, v_s, R.bind_ok, R.bind_bad, pd_nil, pd_c, sl_d, sl_s, okD_d, okD_l, okS_d, okS_l, rf_val, rf_own, fz_val, fz_own, tr_bl, t_bl, t_int, p_add, p_sub, p_neg, p_eq, p_ne, p_lt, p_le, p_gt, p_ge, p_abs, p_int, p_gcd, p_i0, p_i1, p_i2, p_i3, p_len2, p_len3, p_len4, p_t3, p_t4, p_t2, List.map, List.cons_append, List.nil_append, List.append_nil, List.length_cons, List.length_nil, List.replicate, if_true, if_false, Bool.false_eq_true, Nat.reduceAdd, Nat.reduceSub, decide_eq_true_eq, eq_self, decide_true, Bool.not_true, Bool.not_false, Int.reduceEq, Int.reduceLT, Int.reduceLE, decide_false]
          rfl
  generalize hr : (if ((p0 :: L).foldl cut p0).1 ≤ ((p0 :: L).foldl cut p0).2 then Sl.val (.tup [.str "all", .lst (nsD (S ((p0 :: L).foldl cut p0).1 ((p0 :: L).foldl cut p0).2))]) else (apart (p0 :: L)).getD (.val .non)) = r at run
  have : ∃ d, r = .val d := by
    subst hr
    split
    · exact ⟨_, rfl⟩
    · cases e : apart (p0 :: L) with
      | none => exact ⟨_, rfl⟩
      | some s =>
        obtain ⟨i, j, _, _, rfl⟩ := apart_is e
        exact ⟨_, rfl⟩
  obtain ⟨d, rfl⟩ := this
  exact key _ d run rfl
section
variable {sp : Int → Int × Int}
theorem p_listL {x : List D} (h : x.length ≤ lim) : evPrim .list [.val (.lst x)] = .l x := by
  show newL x = _
  unfold newL
  rw [if_pos h]
theorem stD_plain (L : List It) : D.plainAll 59 (stD sp L) = true := plainAll_map _ _ fun _ _ => rfl
theorem den_all (Z : Sp sp) {M : List It} (hn : M ≠ []) (h : ∀ p ∈ M, Ok p) (hl : M.length < 1000) : f__law_all.den [.val (.lst (stD sp M)), .val (.lst (seD M)), .val (pD sp)] = .ok (.val (.bl true)) := by
  cases M with
  | nil => exact absurd rfl hn
  | cons p0 L =>
    have lL : L.length < 1000 := by simp at hl; omega
    have ma := den_meet_all Z h lL
    have ad := den_all_due h lL
    have rg := rg_fold (p0 :: L) p0 (h p0 (List.mem_cons_self ..)).rg h
    have ap := apart_some h
    have li := p_listL (x := stD sp (p0 :: L)) (by simp [lim]; omega)
    have ln : evPrim .len [.val (.lst (seD (p0 :: L)))] = .d (.int ((p0 :: L).length : Int)) := by rw [p_lenL, List.length_map]
    have n1 := ne_self_d (a := .val (.lst (stD sp (p0 :: L)))) (b := .val (.lst (stD sp (p0 :: L)))) (d := .lst (stD sp (p0 :: L))) rfl rfl (by simp only [D.plain]; exact stD_plain _)
    have n2 : evPrim .ne [.val (.str "all"), .val (.str "all")] = .d (.bl false) := ne_str (by decide +kernel)
    have n3 : evPrim .eq [.val (.str "all"), .val (.str "all")] = .d (.bl true) := eq_str (by decide +kernel)
    have n4 : evPrim .ne [.val (.str "apart"), .val (.str "apart")] = .d (.bl false) := ne_str (by decide +kernel)
    have n5 : evPrim .eq [.val (.str "apart"), .val (.str "all")] = .d (.bl false) := eq_str (by decide +kernel)
    generalize p0 :: L = M at *
    generalize stD sp M = X at *
    generalize seD M = Y at *
    refine den_of rfl ?_
    by_cases q : (M.foldl cut p0).1 ≤ (M.foldl cut p0).2
    · rw [if_pos q] at ma ad
      have is := den_is_stretch (sp := sp) rg.a0 q rg.b1
      generalize M.foldl cut p0 = s at *
      simp only [b__law_all, es_nil, es_cons, es_asgN, es_asgT, es_par, es_if, es_for, es_ret, es_retN, o_prim, o_call, o_var, o_con, o_glob, o_isi, o_and, o_or, o_not, o_ite, o_chain, e_var, e_rd, e_int, e_bl, e_non, e_str, e_glob, e_prim, e_isi, e_call, e_and, e_or, e_not, e_ite, ea_nil, ea_rd, ea_var, ea_con, ea_glob, ea_prim, ea_isi, ea_call, ea_and, ea_or, ea_not, ea_ite, ea_chain, ea_slc, ea_comp, ea_compif, r_var, r_prim, r_con, r_glob, r_call, r_isi, r_and, r_or, r_not, r_ite, r_chain, r_comp, r_compif, r_slc, ld_nil, ld_val, ld_own, ld_bor, ld_none, wp_nil, wp_c, tg_nm, tg_tup, tg_nil, tg_c, e_chain, es_cont, es_brk, es_pass, p_min2, p_max2, p_l0, p_l1, p_l2, p_l3, p_l4, p_is0, p_not0, n_non, n_tup, i_seq, q_lst, q_tup, q_ro, y_tt, y_tn, y_ii, y_bi, y_bb, y_lv, y_lb, oO_some, slotR, l_0, l_s, v_0, v_s, R.bind_ok, R.bind_bad, pd_nil, pd_c, sl_d, sl_s, okD_d, okD_l, okS_d, okS_l, rf_val, rf_own, fz_val, fz_own, tr_bl, t_bl, t_int, p_add, p_sub, p_neg, p_eq, p_ne, p_lt, p_le, p_gt, p_ge, p_abs, p_int, p_gcd, p_i0, p_i1, p_i2, p_i3, p_len2, p_len3, p_len4, p_t3, p_t4, p_t2, List.map, List.cons_append, List.nil_append, List.append_nil, List.length_cons, List.length_nil, List.replicate, if_true, if_false, Bool.false_eq_true, Nat.reduceAdd, Nat.reduceSub, decide_eq_true_eq, eq_self, decide_true, Bool.not_true, Bool.not_false, Int.reduceEq, Int.reduceLT, Int.reduceLE, decide_false, li, ma, ad, n1, n2, n3, is]
    · rw [if_neg q] at ma ad
      obtain ⟨s, hs⟩ := Option.isSome_iff_exists.mp (ap q)
      obtain ⟨i, j, hij, hj, rfl⟩ := apart_is hs
      rw [hs] at ma ad
      have x1 := den_is_index (show i < M.length by omega)
      have x2 := den_is_index hj
      simp only [b__law_all, es_nil, es_cons, es_asgN, es_asgT, es_par, es_if, es_for, es_ret, es_retN, o_prim, o_call, o_var, o_con, o_glob, o_isi, o_and, o_or, o_not, o_ite, o_chain, e_var, e_rd, e_int, e_bl, e_non, e_str, e_glob, e_prim, e_isi, e_call, e_and, e_or, e_not, e_ite, ea_nil, ea_rd, ea_var, ea_con, ea_glob, ea_prim, ea_isi, ea_call, ea_and, ea_or, ea_not, ea_ite, ea_chain, ea_slc, ea_comp, ea_compif, r_var, r_prim, r_con, r_glob, r_call, r_isi, r_and, r_or, r_not, r_ite, r_chain, r_comp, r_compif, r_slc, ld_nil, ld_val, ld_own, ld_bor, ld_none, wp_nil, wp_c, tg_nm, tg_tup, tg_nil, tg_c, e_chain, es_cont, es_brk, es_pass, p_min2, p_max2, p_l0, p_l1, p_l2, p_l3, p_l4, p_is0, p_not0, n_non, n_tup, i_seq, q_lst, q_tup, q_ro, y_tt, y_tn, y_ii, y_bi, y_bb, y_lv, y_lb, oO_some, slotR, l_0, l_s, v_0, v_s, R.bind_ok, R.bind_bad, pd_nil, pd_c, sl_d, sl_s, okD_d, okD_l, okS_d, okS_l, rf_val, rf_own, fz_val, fz_own, tr_bl, t_bl, t_int, p_add, p_sub, p_neg, p_eq, p_ne, p_lt, p_le, p_gt, p_ge, p_abs, p_int, p_gcd, p_i0, p_i1, p_i2, p_i3, p_len2, p_len3, p_len4, p_t3, p_t4, p_t2, List.map, List.cons_append, List.nil_append, List.append_nil, List.length_cons, List.length_nil, List.replicate, if_true, if_false, Bool.false_eq_true, Nat.reduceAdd, Nat.reduceSub, decide_eq_true_eq, eq_self, decide_true, Bool.not_true, Bool.not_false, Int.reduceEq, Int.reduceLT, Int.reduceLE, decide_false, li, ma, ad, n1, n4, n5, Option.getD_some, apD, f_cons, f_nil, ln, x1, x2]
end
end K88
set_option Elab.async false
set_option linter.all false
set_option maxRecDepth 100000
namespace K88
open PySem Ev
/-! ### most met: the plain law -/
abbrev Mi := Option It
def cov (m : Mi) (k : Int) : Bool := match m with
  | none => false
  | some p => decide (p.1 ≤ k ∧ k ≤ p.2)
def idxs (M : List Mi) (k : Int) : List Nat := (List.range M.length).filter fun i => cov (M.getD i none) k
structure OkM (M : List Mi) : Prop where
  ok : ∀ p, some p ∈ M → Ok p
abbrev cnt (M : List Mi) (k : Int) : Nat := (idxs M k).length
def earlier (p : It) (s : Mi) : Bool := match s with
  | some q => decide (p.1 < q.1)
  | none => false
def up (M : List Mi) (s : List Nat × Mi) (p : It) : Bool := decide (s.1.length < cnt M p.1) || (decide (cnt M p.1 = s.1.length) && earlier p s.2)
def stepP (M : List Mi) (s : List Nat × Mi) (m : Mi) : List Nat × Mi := match m with
  | none => s
  | some p => if up M s p = true then (idxs M p.1, some p) else s
theorem up_some {M : List Mi} {l : List Nat} {q p : It} : up M (l, some q) p = true ↔ (l.length < cnt M p.1 ∨ (cnt M p.1 = l.length ∧ p.1 < q.1)) := by simp [up, earlier]
theorem up_none {M : List Mi} {p : It} (h : 0 < cnt M p.1) : up M ([], none) p = true := by
  unfold up
  rw [decide_eq_true (show ([] : List Nat).length < cnt M p.1 from h)]
  rfl
def stepL (M : List Mi) (b : List Nat) (k : Nat) : List Nat := if b.length < cnt M (k : Int) then idxs M (k : Int) else b
theorem mem_idxs {M : List Mi} {k : Int} {i : Nat} : i ∈ idxs M k ↔ i < M.length ∧ cov (M.getD i none) k = true := by simp [idxs, List.mem_filter]
theorem getD_mem {M : List Mi} {i : Nat} {p : It} (h : M.getD i none = some p) : i < M.length ∧ some p ∈ M := by
  by_cases q : i < M.length
  · refine ⟨q, ?_⟩
    have e : M.getD i none = M[i] := by rw [List.getD_eq_getElem?_getD, List.getElem?_eq_getElem q]; rfl
    rw [← h, e]
    exact List.getElem_mem q
  · rw [List.getD_eq_getElem?_getD, List.getElem?_eq_none (by omega)] at h
    cases h
theorem mem_getD {M : List Mi} {p : It} (h : some p ∈ M) : ∃ i, i < M.length ∧ M.getD i none = some p := by
  obtain ⟨i, hi, e⟩ := List.getElem_of_mem h
  exact ⟨i, hi, by rw [List.getD_eq_getElem?_getD, List.getElem?_eq_getElem hi, e]; rfl⟩
theorem cnt_pos {M : List Mi} (h : OkM M) {p : It} (hp : some p ∈ M) : 0 < cnt M p.1 := by
  obtain ⟨i, hi, e⟩ := mem_getD hp
  have o := h.ok p hp
  refine List.length_pos_of_mem (mem_idxs.mpr ⟨hi, ?_⟩)
  rw [e]
  exact decide_eq_true ⟨Int.le_refl _, o.ne⟩
def InvP (M done : List Mi) (s : List Nat × Mi) : Prop := (s = ([], none) ∧ ∀ p, some p ∉ done) ∨ ∃ q, some q ∈ M ∧ s = (idxs M q.1, some q) ∧ ∀ p, some p ∈ done → cnt M p.1 < cnt M q.1 ∨ (cnt M p.1 = cnt M q.1 ∧ q.1 ≤ p.1)
theorem invP_step {M done : List Mi} (h : OkM M) {s : List Nat × Mi} {m : Mi} (hm : m ∈ M) (I : InvP M done s) : InvP M (done ++ [m]) (stepP M s m) := by
  cases m with
  | none =>
    rcases I with ⟨e, a⟩ | ⟨q, hq, e, a⟩
    · exact .inl ⟨e, fun p hp => by
        rcases List.mem_append.mp hp with z | z
        · exact a p z
        · simp at z⟩
    · exact .inr ⟨q, hq, e, fun p hp => by
        rcases List.mem_append.mp hp with z | z
        · exact a p z
        · simp at z⟩
  | some x =>
    have cx := cnt_pos h hm
    rcases I with ⟨e, a⟩ | ⟨q, hq, e, a⟩
    · subst e
      refine .inr ⟨x, hm, if_pos (up_none cx), fun p hp => ?_⟩
      rcases List.mem_append.mp hp with z | z
      · exact absurd z (a p)
      · simp at z
        subst z
        exact .inr ⟨rfl, Int.le_refl _⟩
    · subst e
      by_cases c : (idxs M q.1).length < cnt M x.1 ∨ (cnt M x.1 = (idxs M q.1).length ∧ x.1 < q.1)
      · refine .inr ⟨x, hm, if_pos (up_some.mpr c), fun p hp => ?_⟩
        rcases List.mem_append.mp hp with z | z
        · have := a p z
          unfold cnt at *
          omega
        · simp at z
          subst z
          exact .inr ⟨rfl, Int.le_refl _⟩
      · refine .inr ⟨q, hq, if_neg (fun z => c (up_some.mp z)), fun p hp => ?_⟩
        rcases List.mem_append.mp hp with z | z
        · exact a p z
        · simp at z
          subst z
          unfold cnt at *
          omega
theorem invP_fold {M : List Mi} (h : OkM M) : ∀ (todo done : List Mi) (s : List Nat × Mi), (∀ m ∈ todo, m ∈ M) → InvP M done s → InvP M (done ++ todo) (todo.foldl (stepP M) s)
  | [], done, s, _, I => by simpa using I
  | m :: todo, done, s, hm, I => by
    have := invP_fold h todo (done ++ [m]) (stepP M s m) (fun x hx => hm x (List.mem_cons_of_mem _ hx)) (invP_step h (hm m (List.mem_cons_self ..)) I)
    simpa using this
def InvL (M : List Mi) (n : Nat) (b : List Nat) : Prop := (b = [] ∧ ∀ k : Nat, k < n → cnt M (k : Int) = 0) ∨ ∃ k0 : Nat, k0 < n ∧ b = idxs M (k0 : Int) ∧ 0 < cnt M (k0 : Int) ∧ ∀ k : Nat, k < n → cnt M (k : Int) < cnt M (k0 : Int) ∨ (cnt M (k : Int) = cnt M (k0 : Int) ∧ k0 ≤ k)
theorem invL_step {M : List Mi} {n : Nat} {b : List Nat} (I : InvL M n b) : InvL M (n + 1) (stepL M b n) := by
  unfold stepL
  rcases I with ⟨rfl, a⟩ | ⟨k0, h0, rfl, c0, a⟩
  · by_cases c : ([] : List Nat).length < cnt M (n : Int)
    · rw [if_pos c]
      refine .inr ⟨n, by omega, rfl, c, fun k hk => ?_⟩
      by_cases e : k = n
      · subst e; exact .inr ⟨rfl, Nat.le_refl _⟩
      · have := a k (by omega)
        have : (0 : Nat) < cnt M (n : Int) := c
        omega
    · rw [if_neg c]
      refine .inl ⟨rfl, fun k hk => ?_⟩
      by_cases e : k = n
      · subst e
        have : ¬ 0 < cnt M (k : Int) := c
        omega
      · exact a k (by omega)
  · by_cases c : (idxs M (k0 : Int)).length < cnt M (n : Int)
    · rw [if_pos c]
      refine .inr ⟨n, by omega, rfl, by omega, fun k hk => ?_⟩
      by_cases e : k = n
      · subst e; exact .inr ⟨rfl, Nat.le_refl _⟩
      · have := a k (by omega)
        have : cnt M (k0 : Int) < cnt M (n : Int) := c
        omega
    · rw [if_neg c]
      refine .inr ⟨k0, by omega, rfl, c0, fun k hk => ?_⟩
      by_cases e : k = n
      · subst e
        have : ¬ cnt M (k0 : Int) < cnt M (k : Int) := c
        omega
      · exact a k (by omega)
theorem invL_fold (M : List Mi) : ∀ n, InvL M n ((List.range n).foldl (stepL M) [])
  | 0 => .inl ⟨rfl, fun k hk => by omega⟩
  | n + 1 => by
    rw [List.range_succ, List.foldl_append]
    exact invL_step (invL_fold M n)
theorem cnt_le {M : List Mi} {j k : Int} (h : ∀ p, some p ∈ M → p.1 ≤ j → j ≤ p.2 → p.1 ≤ k ∧ k ≤ p.2) : cnt M j ≤ cnt M k := by
  unfold cnt idxs
  rw [← List.countP_eq_length_filter, ← List.countP_eq_length_filter]
  refine List.countP_mono_left fun i hi hc => ?_
  cases e : M.getD i none with
  | none => rw [e] at hc; cases hc
  | some p =>
    rw [e] at hc
    obtain ⟨_, hm⟩ := getD_mem e
    have c := of_decide_eq_true (show decide (p.1 ≤ j ∧ j ≤ p.2) = true from hc)
    exact decide_eq_true (h p hm c.1 c.2)
theorem most_eq {M : List Mi} (h : OkM M) : (M.foldl (stepP M) ([], none)).1 = (List.range 17).foldl (stepL M) [] := by
  have P := invP_fold h M [] ([], none) (fun m hm => hm) (.inl ⟨rfl, fun p hp => by simp at hp⟩)
  have L := invL_fold M 17
  rw [List.nil_append] at P
  rcases P with ⟨e, a⟩ | ⟨q, hq, e, a⟩
  · rw [e]
    rcases L with ⟨l, _⟩ | ⟨k0, _, l, c0, _⟩
    · exact l.symm
    · obtain ⟨i, hi⟩ := List.exists_mem_of_length_pos c0
      obtain ⟨_, hc⟩ := mem_idxs.mp hi
      cases z : M.getD i none with
      | none => rw [z] at hc; cases hc
      | some p => exact absurd (getD_mem z).2 (a p)
  · rw [e]
    have oq := h.ok q hq
    have cq := cnt_pos h hq
    have q0 := oq.rg.a0
    have q16 : q.1 ≤ 16 := Int.le_trans oq.ne oq.rg.b1
    have eq : ((q.1.toNat : Nat) : Int) = q.1 := by omega
    rcases L with ⟨_, l⟩ | ⟨k0, h0, l, c0, b⟩
    · have := l q.1.toNat (by omega)
      rw [eq] at this
      omega
    · rw [l]
      have b1 := b q.1.toNat (by omega)
      rw [eq] at b1
      -- k0 is where one begins
      have st : ∃ p, some p ∈ M ∧ p.1 = (k0 : Int) := by
        refine Classical.byContradiction fun no => ?_
        have mono : cnt M (k0 : Int) ≤ cnt M ((k0 : Int) - 1) := cnt_le fun p hp h1 h2 => by
          have : p.1 ≠ (k0 : Int) := fun z => no ⟨p, hp, z⟩
          omega
        by_cases z : k0 = 0
        · obtain ⟨i, hi⟩ := List.exists_mem_of_length_pos c0
          obtain ⟨_, hc⟩ := mem_idxs.mp hi
          cases y : M.getD i none with
          | none => rw [y] at hc; cases hc
          | some p =>
            rw [y] at hc
            have hm := (getD_mem y).2
            have c := of_decide_eq_true (show decide (p.1 ≤ (k0 : Int) ∧ (k0 : Int) ≤ p.2) = true from hc)
            have := (h.ok p hm).rg.a0
            exact no ⟨p, hm, by omega⟩
        · have b2 := b (k0 - 1) (by omega)
          rw [show ((k0 - 1 : Nat) : Int) = (k0 : Int) - 1 by omega] at b2
          omega
      obtain ⟨p, hp, ep⟩ := st
      have a1 := a p hp
      rw [ep] at a1
      have : q.1 = (k0 : Int) := by omega
      rw [this]
theorem most_lt {M : List Mi} (h : OkM M) : ∀ i ∈ (M.foldl (stepP M) ([], none)).1, i < M.length := by
  have P := invP_fold h M [] ([], none) (fun m hm => hm) (.inl ⟨rfl, fun p hp => by simp at hp⟩)
  intro i hi
  rcases P with ⟨e, a⟩ | ⟨q, hq, e, a⟩
  · rw [e] at hi; simp at hi
  · rw [e] at hi
    exact (mem_idxs.mp hi).1
end K88
set_option Elab.async false
set_option linter.all false
set_option maxRecDepth 100000
namespace K88
open PySem Ev
section
variable {sp : Int → Int × Int}
def mD (sp : Int → Int × Int) (m : Mi) : D := match m with
  | none => .non
  | some p => sD sp p.1 p.2
abbrev mDs (sp : Int → Int × Int) (M : List Mi) : List D := M.map (mD sp)
theorem enum_map (M : List Mi) : enumD (mDs sp M) = (List.range M.length).map fun (i : Nat) => D.tup [.int (i : Int), mD sp (M.getD i none)] := by
  refine List.ext_getElem (by simp [enumD]) fun i h1 h2 => ?_
  have hi : i < M.length := by simpa [enumD] using h1
  simp [enumD, List.getD_eq_getElem?_getD, List.getElem?_eq_getElem hi]
theorem i_enum {as : Exs} {e e1 : En} {q : List Pd} {ds : List D} (h : evA as e = .ok (q, e1)) (h2 : pds e1 q = some [.val (.lst ds)]) : evI (.enum as) e = .ok (enumD ds, e1) := by
  show R.bind (evA as e) _ = _
  rw [h, R.bind_ok]
  dsimp only
  rw [h2]
  rfl
abbrev ksOk (s : Sl) (l : List Nat) : Prop := s = .val (.lst (nsD l)) ∨ s = .own (nsD l)
theorem len_idxs (M : List Mi) (k : Int) : (idxs M k).length ≤ M.length := Nat.le_trans (List.length_filter_le ..) (by simp)
theorem den_most_met (Z : Sp sp) {M : List Mi} (h : OkM M) (hl : M.length < 1000) : ∃ r, ksOk r (M.foldl (stepP M) ([], none)).1 ∧ f_most_met.den [.val (.lst (mDs sp M))] = .ok r := by
  have run : ∃ r, ksOk r (M.foldl (stepP M) ([], none)).1 ∧ evSs b_most_met ([.val (.lst (mDs sp M))].map some ++ List.replicate (7 - 1) none) = .ok (.rt r) := by
    unfold b_most_met
    refine stepE (P := fun R => ∃ r, ksOk r (M.foldl (stepP M) ([], none)).1 ∧ R = .ok (.rt r)) (e2 := [some (.val (.lst (mDs sp M))), some (.own []), none, none, none, none, none]) (by simp only [es_nil, es_cons, es_asgN, es_asgT, es_par, es_if, es_for, es_ret, es_retN, o_prim, o_call, o_var, o_con, o_glob, o_isi, o_and, o_or, o_not, o_ite, o_chain, e_var, e_rd, e_int, e_bl, e_non, e_str, e_glob, e_prim, e_isi, e_call, e_and, e_or, e_not, e_ite, ea_nil, ea_rd, ea_var, ea_con, ea_glob, ea_prim, ea_isi, ea_call, ea_and, ea_or, ea_not, ea_ite, ea_chain, ea_slc, ea_comp, ea_compif, r_var, r_prim, r_con, r_glob, r_call, r_isi, r_and, r_or, r_not, r_ite, r_chain, r_comp, r_compif, r_slc, ld_nil, ld_val, ld_own, ld_bor, ld_none, wp_nil, wp_c, tg_nm, tg_tup, tg_nil, tg_c, e_chain, es_cont, es_brk, es_pass, p_min2, p_max2, p_l0, p_l1, p_l2, p_l3, p_l4, p_is0, p_not0, n_non, n_tup, i_seq, q_lst, q_tup, q_ro, y_tt, y_tn, y_ii, y_bi, y_bb, y_lv, y_lb, oO_some, slotR, l_0, l_s, v_0, v_s, R.bind_ok, R.bind_bad, pd_nil, pd_c, sl_d, sl_s, okD_d, okD_l, okS_d, okS_l, rf_val, rf_own, fz_val, fz_own, tr_bl, t_bl, t_int, p_add, p_sub, p_neg, p_eq, p_ne, p_lt, p_le, p_gt, p_ge, p_abs, p_int, p_gcd, p_i0, p_i1, p_i2, p_i3, p_len2, p_len3, p_len4, p_t3, p_t4, p_t2, List.map, List.cons_append, List.nil_append, List.append_nil, List.length_cons, List.length_nil, List.replicate, if_true, if_false, Bool.false_eq_true, Nat.reduceAdd, Nat.reduceSub, decide_eq_true_eq, eq_self, decide_true, Bool.not_true, Bool.not_false, Int.reduceEq, Int.reduceLT, Int.reduceLE, decide_false]) ?_
    refine stepE (P := fun R => ∃ r, ksOk r (M.foldl (stepP M) ([], none)).1 ∧ R = .ok (.rt r)) (e2 := [some (.val (.lst (mDs sp M))), some (.own []), some (.val .non), none, none, none, none]) (by simp only [es_nil, es_cons, es_asgN, es_asgT, es_par, es_if, es_for, es_ret, es_retN, o_prim, o_call, o_var, o_con, o_glob, o_isi, o_and, o_or, o_not, o_ite, o_chain, e_var, e_rd, e_int, e_bl, e_non, e_str, e_glob, e_prim, e_isi, e_call, e_and, e_or, e_not, e_ite, ea_nil, ea_rd, ea_var, ea_con, ea_glob, ea_prim, ea_isi, ea_call, ea_and, ea_or, ea_not, ea_ite, ea_chain, ea_slc, ea_comp, ea_compif, r_var, r_prim, r_con, r_glob, r_call, r_isi, r_and, r_or, r_not, r_ite, r_chain, r_comp, r_compif, r_slc, ld_nil, ld_val, ld_own, ld_bor, ld_none, wp_nil, wp_c, tg_nm, tg_tup, tg_nil, tg_c, e_chain, es_cont, es_brk, es_pass, p_min2, p_max2, p_l0, p_l1, p_l2, p_l3, p_l4, p_is0, p_not0, n_non, n_tup, i_seq, q_lst, q_tup, q_ro, y_tt, y_tn, y_ii, y_bi, y_bb, y_lv, y_lb, oO_some, slotR, l_0, l_s, v_0, v_s, R.bind_ok, R.bind_bad, pd_nil, pd_c, sl_d, sl_s, okD_d, okD_l, okS_d, okS_l, rf_val, rf_own, fz_val, fz_own, tr_bl, t_bl, t_int, p_add, p_sub, p_neg, p_eq, p_ne, p_lt, p_le, p_gt, p_ge, p_abs, p_int, p_gcd, p_i0, p_i1, p_i2, p_i3, p_len2, p_len3, p_len4, p_t3, p_t4, p_t2, List.map, List.cons_append, List.nil_append, List.append_nil, List.length_cons, List.length_nil, List.replicate, if_true, if_false, Bool.false_eq_true, Nat.reduceAdd, Nat.reduceSub, decide_eq_true_eq, eq_self, decide_true, Bool.not_true, Bool.not_false, Int.reduceEq, Int.reduceLT, Int.reduceLE, decide_false]) ?_
    refine step_foldE (P := fun R => ∃ r, ksOk r (M.foldl (stepP M) ([], none)).1 ∧ R = .ok (.rt r)) (mD sp) (stepP M)
      (fun s e => (s.2 = none → s.1 = []) ∧ (∀ q, s.2 = some q → some q ∈ M) ∧ ∃ ks one met, ksOk ks s.1 ∧ e = [some (.val (.lst (mDs sp M))), some ks, some (.val (mD sp s.2)), one, met, none, none]) M ([], none)
      (e1 := [some (.val (.lst (mDs sp M))), some (.own []), some (.val .non), none, none, none, none]) rfl ?_ ⟨fun _ => rfl, fun q hq => (nomatch hq), _, _, _, .inr rfl, rfl⟩ ?_
    · rintro m hm ⟨l, st⟩ e ⟨i1, i2, ks, one, met, hk, rfl⟩
      cases m with
      | none =>
        refine ⟨_, [some (.val (.lst (mDs sp M))), some ks, some (.val (mD sp st)), some (.val .non), met, none, none], rfl, .inr ?_, i1, i2, _, _, _, hk, rfl⟩
        simp only [mD, es_nil, es_cons, es_asgN, es_asgT, es_par, es_if, es_for, es_ret, es_retN, o_prim, o_call, o_var, o_con, o_glob, o_isi, o_and, o_or, o_not, o_ite, o_chain, e_var, e_rd, e_int, e_bl, e_non, e_str, e_glob, e_prim, e_isi, e_call, e_and, e_or, e_not, e_ite, ea_nil, ea_rd, ea_var, ea_con, ea_glob, ea_prim, ea_isi, ea_call, ea_and, ea_or, ea_not, ea_ite, ea_chain, ea_slc, ea_comp, ea_compif, r_var, r_prim, r_con, r_glob, r_call, r_isi, r_and, r_or, r_not, r_ite, r_chain, r_comp, r_compif, r_slc, ld_nil, ld_val, ld_own, ld_bor, ld_none, wp_nil, wp_c, tg_nm, tg_tup, tg_nil, tg_c, e_chain, es_cont, es_brk, es_pass, p_min2, p_max2, p_l0, p_l1, p_l2, p_l3, p_l4, p_is0, p_not0, n_non, n_tup, i_seq, q_lst, q_tup, q_ro, y_tt, y_tn, y_ii, y_bi, y_bb, y_lv, y_lb, oO_some, slotR, l_0, l_s, v_0, v_s, R.bind_ok, R.bind_bad, pd_nil, pd_c, sl_d, sl_s, okD_d, okD_l, okS_d, okS_l, rf_val, rf_own, fz_val, fz_own, tr_bl, t_bl, t_int, p_add, p_sub, p_neg, p_eq, p_ne, p_lt, p_le, p_gt, p_ge, p_abs, p_int, p_gcd, p_i0, p_i1, p_i2, p_i3, p_len2, p_len3, p_len4, p_t3, p_t4, p_t2, List.map, List.cons_append, List.nil_append, List.append_nil, List.length_cons, List.length_nil, List.replicate, if_true, if_false, Bool.false_eq_true, Nat.reduceAdd, Nat.reduceSub, decide_eq_true_eq, eq_self, decide_true, Bool.not_true, Bool.not_false, Int.reduceEq, Int.reduceLT, Int.reduceLE, decide_false]
      | some p =>
        have op := h.ok p hm
        have run : ∀ e', evS (.ite (.or (.prim .gt (.cons (.prim .len (.cons (.rd 4 "met") .nil)) (.cons (.prim .len (.cons (.rd 1 "kept") .nil)) .nil))) (.and (.prim .eq (.cons (.prim .len (.cons (.rd 4 "met") .nil)) (.cons (.prim .len (.cons (.rd 1 "kept") .nil)) .nil))) (.call "begins_earlier" f_begins_earlier.den [] (.cons (.var 3 "one") (.cons (.var 2 "start") .nil))))) (.cons (.asg (.nm 1 "kept") (.var 4 "met")) (.cons (.asg (.nm 2 "start") (.var 3 "one")) .nil)) .nil)
              [some (.val (.lst (mDs sp M))), some ks, some (.val (mD sp st)), some (.val (sD sp p.1 p.2)), some (.own (nsD (idxs M p.1))), none, none] = .ok (.nx e') →
            evSs (.cons (.ite (.prim .isN (.cons (.rd 3 "one") (.cons (.con .none) .nil))) (.cons .cont .nil) .nil)
              (.cons (.asg (.nm 4 "met") (.compif [("k", 5), ("other", 6)] (.tup (.cons (.nm 5 "k") (.cons (.nm 6 "other") .nil))) (.enum (.cons (.var 0 "stretches") .nil)) (.and (.prim .notN (.cons (.rd 6 "other") (.cons (.con .none) .nil))) (.call "covers_begin" f_covers_begin.den [] (.cons (.var 6 "other") (.cons (.var 3 "one") .nil)))) (.var 5 "k")))
              (.cons (.ite (.or (.prim .gt (.cons (.prim .len (.cons (.rd 4 "met") .nil)) (.cons (.prim .len (.cons (.rd 1 "kept") .nil)) .nil))) (.and (.prim .eq (.cons (.prim .len (.cons (.rd 4 "met") .nil)) (.cons (.prim .len (.cons (.rd 1 "kept") .nil)) .nil))) (.call "begins_earlier" f_begins_earlier.den [] (.cons (.var 3 "one") (.cons (.var 2 "start") .nil))))) (.cons (.asg (.nm 1 "kept") (.var 4 "met")) (.cons (.asg (.nm 2 "start") (.var 3 "one")) .nil)) .nil) .nil)))
              [some (.val (.lst (mDs sp M))), some ks, some (.val (mD sp st)), some (.val (sD sp p.1 p.2)), met, none, none] = .ok (.nx e') := by
          intro e' he
          refine step (e2 := [some (.val (.lst (mDs sp M))), some ks, some (.val (mD sp st)), some (.val (sD sp p.1 p.2)), met, none, none]) (by simp only [es_nil, es_cons, es_asgN, es_asgT, es_par, es_if, es_for, es_ret, es_retN, o_prim, o_call, o_var, o_con, o_glob, o_isi, o_and, o_or, o_not, o_ite, o_chain, e_var, e_rd, e_int, e_bl, e_non, e_str, e_glob, e_prim, e_isi, e_call, e_and, e_or, e_not, e_ite, ea_nil, ea_rd, ea_var, ea_con, ea_glob, ea_prim, ea_isi, ea_call, ea_and, ea_or, ea_not, ea_ite, ea_chain, ea_slc, ea_comp, ea_compif, r_var, r_prim, r_con, r_glob, r_call, r_isi, r_and, r_or, r_not, r_ite, r_chain, r_comp, r_compif, r_slc, ld_nil, ld_val, ld_own, ld_bor, ld_none, wp_nil, wp_c, tg_nm, tg_tup, tg_nil, tg_c, e_chain, es_cont, es_brk, es_pass, p_min2, p_max2, p_l0, p_l1, p_l2, p_l3, p_l4, p_is0, p_not0, n_non, n_tup, i_seq, q_lst, q_tup, q_ro, y_tt, y_tn, y_ii, y_bi, y_bb, y_lv, y_lb, oO_some, slotR, l_0, l_s, v_0, v_s, R.bind_ok, R.bind_bad, pd_nil, pd_c, sl_d, sl_s, okD_d, okD_l, okS_d, okS_l, rf_val, rf_own, fz_val, fz_own, tr_bl, t_bl, t_int, p_add, p_sub, p_neg, p_eq, p_ne, p_lt, p_le, p_gt, p_ge, p_abs, p_int, p_gcd, p_i0, p_i1, p_i2, p_i3, p_len2, p_len3, p_len4, p_t3, p_t4, p_t2, List.map, List.cons_append, List.nil_append, List.append_nil, List.length_cons, List.length_nil, List.replicate, if_true, if_false, Bool.false_eq_true, Nat.reduceAdd, Nat.reduceSub, decide_eq_true_eq, eq_self, decide_true, Bool.not_true, Bool.not_false, Int.reduceEq, Int.reduceLT, Int.reduceLE, decide_false]) ?_
          refine step (e2 := [some (.val (.lst (mDs sp M))), some ks, some (.val (mD sp st)), some (.val (sD sp p.1 p.2)), some (.own (nsD (idxs M p.1))), none, none]) ?_ ?_
          · rw [es_asgN, (compif_of (List.range M.length) (fun (i : Nat) => D.tup [.int (i : Int), mD sp (M.getD i none)]) (fun i => cov (M.getD i none) p.1) (fun (i : Nat) => D.int (i : Int)) (e1 := [some (.val (.lst (mDs sp M))), some ks, some (.val (mD sp st)), some (.val (sD sp p.1 p.2)), met, none, none])
              (by rw [i_enum (q := [.d (.lst (mDs sp M))]) (ds := mDs sp M) rfl rfl, enum_map]) (fun i hi => ?_) (by simp [lim]; omega)).1]
            · rfl
            · refine ⟨[some (.val (.lst (mDs sp M))), some ks.lend, some (.val (mD sp st)), some (.val (sD sp p.1 p.2)), met.map Sl.lend, some (.val (.int (i : Int))), some (.val (mD sp (M.getD i none)))],
                [some (.val (.lst (mDs sp M))), some ks.lend, some (.val (mD sp st)), some (.val (sD sp p.1 p.2)), met.map Sl.lend, some (.val (.int (i : Int))), some (.val (mD sp (M.getD i none)))], rfl, ?_, fun _ => ⟨_, rfl⟩⟩
              cases hM : M.getD i none with
              | none => simp only [mD, cov, es_nil, es_cons, es_asgN, es_asgT, es_par, es_if, es_for, es_ret, es_retN, o_prim, o_call, o_var, o_con, o_glob, o_isi, o_and, o_or, o_not, o_ite, o_chain, e_var, e_rd, e_int, e_bl, e_non, e_str, e_glob, e_prim, e_isi, e_call, e_and, e_or, e_not, e_ite, ea_nil, ea_rd, ea_var, ea_con, ea_glob, ea_prim, ea_isi, ea_call, ea_and, ea_or, ea_not, ea_ite, ea_chain, ea_slc, ea_comp, ea_compif, r_var, r_prim, r_con, r_glob, r_call, r_isi, r_and, r_or, r_not, r_ite, r_chain, r_comp, r_compif, r_slc, ld_nil, ld_val, ld_own, ld_bor, ld_none, wp_nil, wp_c, tg_nm, tg_tup, tg_nil, tg_c, e_chain, es_cont, es_brk, es_pass, p_min2, p_max2, p_l0, p_l1, p_l2, p_l3, p_l4, p_is0, p_not0, n_non, n_tup, i_seq, q_lst, q_tup, q_ro, y_tt, y_tn, y_ii, y_bi, y_bb, y_lv, y_lb, oO_some, slotR, l_0, l_s, v_0, v_s, R.bind_ok, R.bind_bad, pd_nil, pd_c, sl_d, sl_s, okD_d, okD_l, okS_d, okS_l, rf_val, rf_own, fz_val, fz_own, tr_bl, t_bl, t_int, p_add, p_sub, p_neg, p_eq, p_ne, p_lt, p_le, p_gt, p_ge, p_abs, p_int, p_gcd, p_i0, p_i1, p_i2, p_i3, p_len2, p_len3, p_len4, p_t3, p_t4, p_t2, List.map, List.cons_append, List.nil_append, List.append_nil, List.length_cons, List.length_nil, List.replicate, if_true, if_false, Bool.false_eq_true, Nat.reduceAdd, Nat.reduceSub, decide_eq_true_eq, eq_self, decide_true, Bool.not_true, Bool.not_false, Int.reduceEq, Int.reduceLT, Int.reduceLE, decide_false]
              | some q => simp only [mD, cov, es_nil, es_cons, es_asgN, es_asgT, es_par, es_if, es_for, es_ret, es_retN, o_prim, o_call, o_var, o_con, o_glob, o_isi, o_and, o_or, o_not, o_ite, o_chain, e_var, e_rd, e_int, e_bl, e_non, e_str, e_glob, e_prim, e_isi, e_call, e_and, e_or, e_not, e_ite, ea_nil, ea_rd, ea_var, ea_con, ea_glob, ea_prim, ea_isi, ea_call, ea_and, ea_or, ea_not, ea_ite, ea_chain, ea_slc, ea_comp, ea_compif, r_var, r_prim, r_con, r_glob, r_call, r_isi, r_and, r_or, r_not, r_ite, r_chain, r_comp, r_compif, r_slc, ld_nil, ld_val, ld_own, ld_bor, ld_none, wp_nil, wp_c, tg_nm, tg_tup, tg_nil, tg_c, e_chain, es_cont, es_brk, es_pass, p_min2, p_max2, p_l0, p_l1, p_l2, p_l3, p_l4, p_is0, p_not0, n_non, n_tup, i_seq, q_lst, q_tup, q_ro, y_tt, y_tn, y_ii, y_bi, y_bb, y_lv, y_lb, oO_some, slotR, l_0, l_s, v_0, v_s, R.bind_ok, R.bind_bad, pd_nil, pd_c, sl_d, sl_s, okD_d, okD_l, okS_d, okS_l, rf_val, rf_own, fz_val, fz_own, tr_bl, t_bl, t_int, p_add, p_sub, p_neg, p_eq, p_ne, p_lt, p_le, p_gt, p_ge, p_abs, p_int, p_gcd, p_i0, p_i1, p_i2, p_i3, p_len2, p_len3, p_len4, p_t3, p_t4, p_t2, List.map, List.cons_append, List.nil_append, List.append_nil, List.length_cons, List.length_nil, List.replicate, if_true, if_false, Bool.false_eq_true, Nat.reduceAdd, Nat.reduceSub, decide_eq_true_eq, eq_self, decide_true, Bool.not_true, Bool.not_false, Int.reduceEq, Int.reduceLT, Int.reduceLE, decide_false, den_covers Z (h.ok q (getD_mem hM).2).rg op.rg (h.ok q (getD_mem hM).2).ne op.ne]
          · exact step (e2 := e') he rfl
        have lm : evPrim .len [.bor (nsD (idxs M p.1))] = .d (.int ((idxs M p.1).length : Int)) := by rw [p_lenB, List.length_map]
        have lk1 : evPrim .len [.bor (nsD l)] = .d (.int (l.length : Int)) := by rw [p_lenB, List.length_map]
        have lk2 : evPrim .len [.val (.lst (nsD l))] = .d (.int (l.length : Int)) := by rw [p_lenL, List.length_map]
        have cp := cnt_pos h hm
        have ec : cnt M p.1 = (idxs M p.1).length := rfl
        cases hu : up M (l, st) p with
        | true =>
          refine ⟨_, [some (.val (.lst (mDs sp M))), some (.val (.lst (nsD (idxs M p.1)))), some (.val (sD sp p.1 p.2)), some (.val (sD sp p.1 p.2)), some (.val (.lst (nsD (idxs M p.1)))), none, none], rfl, .inl (run _ ?_), ?_⟩
          · unfold up at hu
            dsimp only at hu
            cases c1 : decide (l.length < cnt M p.1) with
            | true =>
              have c1' : (l.length : Int) < ((idxs M p.1).length : Int) := by have := of_decide_eq_true c1; omega
              rcases hk with rfl | rfl <;> simp only [es_nil, es_cons, es_asgN, es_asgT, es_par, es_if, es_for, es_ret, es_retN, o_prim, o_call, o_var, o_con, o_glob, o_isi, o_and, o_or, o_not, o_ite, o_chain, e_var, e_rd, e_int, e_bl, e_non, e_str, e_glob, e_prim, e_isi, e_call, e_and, e_or, e_not, e_ite, ea_nil, ea_rd, ea_var, ea_con, ea_glob, ea_prim, ea_isi, ea_call, ea_and, ea_or, ea_not, ea_ite, ea_chain, ea_slc, ea_comp, ea_compif, r_var, r_prim, r_con, r_glob, r_call, r_isi, r_and, r_or, r_not, r_ite, r_chain, r_comp, r_compif, r_slc, ld_nil, ld_val, ld_own, ld_bor, ld_none, wp_nil, wp_c, tg_nm, tg_tup, tg_nil, tg_c, e_chain, es_cont, es_brk, es_pass, p_min2, p_max2, p_l0, p_l1, p_l2, p_l3, p_l4, p_is0, p_not0, n_non, n_tup, i_seq, q_lst, q_tup, q_ro, y_tt, y_tn, y_ii, y_bi, y_bb, y_lv, y_lb, oO_some, slotR, l_0, l_s, v_0, v_s, R.bind_ok, R.bind_bad, pd_nil, pd_c, sl_d, sl_s, okD_d, okD_l, okS_d, okS_l, rf_val, rf_own, fz_val, fz_own, tr_bl, t_bl, t_int, p_add, p_sub, p_neg, p_eq, p_ne, p_lt, p_le, p_gt, p_ge, p_abs, p_int, p_gcd, p_i0, p_i1, p_i2, p_i3, p_len2, p_len3, p_len4, p_t3, p_t4, p_t2, List.map, List.cons_append, List.nil_append, List.append_nil, List.length_cons, List.length_nil, List.replicate, if_true, if_false, Bool.false_eq_true, Nat.reduceAdd, Nat.reduceSub, decide_eq_true_eq, eq_self, decide_true, Bool.not_true, Bool.not_false, Int.reduceEq, Int.reduceLT, Int.reduceLE, decide_false, lm, lk1, lk2, c1', mD]
            | false =>
              have c1' : ¬ (l.length : Int) < ((idxs M p.1).length : Int) := by have := of_decide_eq_false c1; omega
              rw [c1, Bool.false_or, Bool.and_eq_true, decide_eq_true_eq] at hu
              have c2' : ((idxs M p.1).length : Int) = (l.length : Int) := by have := hu.1; omega
              cases st with
              | none => simp [earlier] at hu
              | some q =>
                have b := den_begins Z op.rg (h.ok q (i2 q rfl)).rg
                rw [show decide (p.1 < q.1) = true from hu.2] at b
                rcases hk with rfl | rfl <;> simp only [es_nil, es_cons, es_asgN, es_asgT, es_par, es_if, es_for, es_ret, es_retN, o_prim, o_call, o_var, o_con, o_glob, o_isi, o_and, o_or, o_not, o_ite, o_chain, e_var, e_rd, e_int, e_bl, e_non, e_str, e_glob, e_prim, e_isi, e_call, e_and, e_or, e_not, e_ite, ea_nil, ea_rd, ea_var, ea_con, ea_glob, ea_prim, ea_isi, ea_call, ea_and, ea_or, ea_not, ea_ite, ea_chain, ea_slc, ea_comp, ea_compif, r_var, r_prim, r_con, r_glob, r_call, r_isi, r_and, r_or, r_not, r_ite, r_chain, r_comp, r_compif, r_slc, ld_nil, ld_val, ld_own, ld_bor, ld_none, wp_nil, wp_c, tg_nm, tg_tup, tg_nil, tg_c, e_chain, es_cont, es_brk, es_pass, p_min2, p_max2, p_l0, p_l1, p_l2, p_l3, p_l4, p_is0, p_not0, n_non, n_tup, i_seq, q_lst, q_tup, q_ro, y_tt, y_tn, y_ii, y_bi, y_bb, y_lv, y_lb, oO_some, slotR, l_0, l_s, v_0, v_s, R.bind_ok, R.bind_bad, pd_nil, pd_c, sl_d, sl_s, okD_d, okD_l, okS_d, okS_l, rf_val, rf_own, fz_val, fz_own, tr_bl, t_bl, t_int, p_add, p_sub, p_neg, p_eq, p_ne, p_lt, p_le, p_gt, p_ge, p_abs, p_int, p_gcd, p_i0, p_i1, p_i2, p_i3, p_len2, p_len3, p_len4, p_t3, p_t4, p_t2, List.map, List.cons_append, List.nil_append, List.append_nil, List.length_cons, List.length_nil, List.replicate, if_true, if_false, Bool.false_eq_true, Nat.reduceAdd, Nat.reduceSub, decide_eq_true_eq, eq_self, decide_true, Bool.not_true, Bool.not_false, Int.reduceEq, Int.reduceLT, Int.reduceLE, decide_false, lm, lk1, lk2, c1', c2', mD, b, Int.lt_irrefl]
          · have e1 : stepP M (l, st) (some p) = (idxs M p.1, some p) := if_pos hu
            rw [e1]
            exact ⟨fun z => (nomatch z), fun q hq => by cases hq; exact hm, _, _, _, .inl rfl, rfl⟩
        | false =>
          refine ⟨_, [some (.val (.lst (mDs sp M))), some ks, some (.val (mD sp st)), some (.val (sD sp p.1 p.2)), some (.own (nsD (idxs M p.1))), none, none], rfl, .inl (run _ ?_), ?_⟩
          · unfold up at hu
            dsimp only at hu
            rw [Bool.or_eq_false_iff, Bool.and_eq_false_iff, decide_eq_false_iff_not, decide_eq_false_iff_not] at hu
            have c1' : ¬ (l.length : Int) < ((idxs M p.1).length : Int) := by have := hu.1; omega
            by_cases c2 : cnt M p.1 = l.length
            · have c2' : ((idxs M p.1).length : Int) = (l.length : Int) := by omega
              cases st with
              | none =>
                have := i1 rfl
                dsimp only at this
                subst this
                exact absurd cp (by have := hu.1; simpa using this)
              | some q =>
                have b := den_begins Z op.rg (h.ok q (i2 q rfl)).rg
                have z : decide (p.1 < q.1) = false := hu.2.resolve_left fun z => z c2
                rw [z] at b
                rcases hk with rfl | rfl <;> simp only [es_nil, es_cons, es_asgN, es_asgT, es_par, es_if, es_for, es_ret, es_retN, o_prim, o_call, o_var, o_con, o_glob, o_isi, o_and, o_or, o_not, o_ite, o_chain, e_var, e_rd, e_int, e_bl, e_non, e_str, e_glob, e_prim, e_isi, e_call, e_and, e_or, e_not, e_ite, ea_nil, ea_rd, ea_var, ea_con, ea_glob, ea_prim, ea_isi, ea_call, ea_and, ea_or, ea_not, ea_ite, ea_chain, ea_slc, ea_comp, ea_compif, r_var, r_prim, r_con, r_glob, r_call, r_isi, r_and, r_or, r_not, r_ite, r_chain, r_comp, r_compif, r_slc, ld_nil, ld_val, ld_own, ld_bor, ld_none, wp_nil, wp_c, tg_nm, tg_tup, tg_nil, tg_c, e_chain, es_cont, es_brk, es_pass, p_min2, p_max2, p_l0, p_l1, p_l2, p_l3, p_l4, p_is0, p_not0, n_non, n_tup, i_seq, q_lst, q_tup, q_ro, y_tt, y_tn, y_ii, y_bi, y_bb, y_lv, y_lb, oO_some, slotR, l_0, l_s, v_0, v_s, R.bind_ok, R.bind_bad, pd_nil, pd_c, sl_d, sl_s, okD_d, okD_l, okS_d, okS_l, rf_val, rf_own, fz_val, fz_own, tr_bl, t_bl, t_int, p_add, p_sub, p_neg, p_eq, p_ne, p_lt, p_le, p_gt, p_ge, p_abs, p_int, p_gcd, p_i0, p_i1, p_i2, p_i3, p_len2, p_len3, p_len4, p_t3, p_t4, p_t2, List.map, List.cons_append, List.nil_append, List.append_nil, List.length_cons, List.length_nil, List.replicate, if_true, if_false, Bool.false_eq_true, Nat.reduceAdd, Nat.reduceSub, decide_eq_true_eq, eq_self, decide_true, Bool.not_true, Bool.not_false, Int.reduceEq, Int.reduceLT, Int.reduceLE, decide_false, lm, lk1, lk2, c1', c2', mD, b, Int.lt_irrefl]
            · have c2' : ¬ ((idxs M p.1).length : Int) = (l.length : Int) := by omega
              rcases hk with rfl | rfl <;> simp only [es_nil, es_cons, es_asgN, es_asgT, es_par, es_if, es_for, es_ret, es_retN, o_prim, o_call, o_var, o_con, o_glob, o_isi, o_and, o_or, o_not, o_ite, o_chain, e_var, e_rd, e_int, e_bl, e_non, e_str, e_glob, e_prim, e_isi, e_call, e_and, e_or, e_not, e_ite, ea_nil, ea_rd, ea_var, ea_con, ea_glob, ea_prim, ea_isi, ea_call, ea_and, ea_or, ea_not, ea_ite, ea_chain, ea_slc, ea_comp, ea_compif, r_var, r_prim, r_con, r_glob, r_call, r_isi, r_and, r_or, r_not, r_ite, r_chain, r_comp, r_compif, r_slc, ld_nil, ld_val, ld_own, ld_bor, ld_none, wp_nil, wp_c, tg_nm, tg_tup, tg_nil, tg_c, e_chain, es_cont, es_brk, es_pass, p_min2, p_max2, p_l0, p_l1, p_l2, p_l3, p_l4, p_is0, p_not0, n_non, n_tup, i_seq, q_lst, q_tup, q_ro, y_tt, y_tn, y_ii, y_bi, y_bb, y_lv, y_lb, oO_some, slotR, l_0, l_s, v_0, v_s, R.bind_ok, R.bind_bad, pd_nil, pd_c, sl_d, sl_s, okD_d, okD_l, okS_d, okS_l, rf_val, rf_own, fz_val, fz_own, tr_bl, t_bl, t_int, p_add, p_sub, p_neg, p_eq, p_ne, p_lt, p_le, p_gt, p_ge, p_abs, p_int, p_gcd, p_i0, p_i1, p_i2, p_i3, p_len2, p_len3, p_len4, p_t3, p_t4, p_t2, List.map, List.cons_append, List.nil_append, List.append_nil, List.length_cons, List.length_nil, List.replicate, if_true, if_false, Bool.false_eq_true, Nat.reduceAdd, Nat.reduceSub, decide_eq_true_eq, eq_self, decide_true, Bool.not_true, Bool.not_false, Int.reduceEq, Int.reduceLT, Int.reduceLE, decide_false, lm, lk1, lk2, c1', c2']
          · have e1 : stepP M (l, st) (some p) = (l, st) := if_neg (by rw [hu]; exact Bool.false_ne_true)
            rw [e1]
            exact ⟨i1, i2, _, _, _, hk, rfl⟩
    · rintro e ⟨_, _, ks, one, met, hk, rfl⟩
      generalize M.foldl (stepP M) ([], none) = s at *
      rcases hk with rfl | rfl
      · exact ⟨_, .inl rfl, by simp only [es_nil, es_cons, es_asgN, es_asgT, es_par, es_if, es_for, es_ret, es_retN, o_prim, o_call, o_var, o_con, o_glob, o_isi, o_and, o_or, o_not, o_ite, o_chain, e_var, e_rd, e_int, e_bl, e_non, e_str, e_glob, e_prim, e_isi, e_call, e_and, e_or, e_not, e_ite, ea_nil, ea_rd, ea_var, ea_con, ea_glob, ea_prim, ea_isi, ea_call, ea_and, ea_or, ea_not, ea_ite, ea_chain, ea_slc, ea_comp, ea_compif, r_var, r_prim, r_con, r_glob, r_call, r_isi, r_and, r_or, r_not, r_ite, r_chain, r_comp, r_compif, r_slc, ld_nil, ld_val, ld_own, ld_bor, ld_none, wp_nil, wp_c, tg_nm, tg_tup, tg_nil, tg_c, e_chain, es_cont, es_brk, es_pass, p_min2, p_max2, p_l0, p_l1, p_l2, p_l3, p_l4, p_is0, p_not0, n_non, n_tup, i_seq, q_lst, q_tup, q_ro, y_tt, y_tn, y_ii, y_bi, y_bb, y_lv, y_lb, oO_some, slotR, l_0, l_s, v_0, v_s, R.bind_ok, R.bind_bad, pd_nil, pd_c, sl_d, sl_s, okD_d, okD_l, okS_d, okS_l, rf_val, rf_own, fz_val, fz_own, tr_bl, t_bl, t_int, p_add, p_sub, p_neg, p_eq, p_ne, p_lt, p_le, p_gt, p_ge, p_abs, p_int, p_gcd, p_i0, p_i1, p_i2, p_i3, p_len2, p_len3, p_len4, p_t3, p_t4, p_t2, List.map, List.cons_append, List.nil_append, List.append_nil, List.length_cons, List.length_nil, List.replicate, if_true, if_false, Bool.false_eq_true, Nat.reduceAdd, Nat.reduceSub, decide_eq_true_eq, eq_self, decide_true, Bool.not_true, Bool.not_false, Int.reduceEq, Int.reduceLT, Int.reduceLE, decide_false]⟩
      · exact ⟨_, .inr rfl, by simp only [es_nil, es_cons, es_asgN, es_asgT, es_par, es_if, es_for, es_ret, es_retN, o_prim, o_call, o_var, o_con, o_glob, o_isi, o_and, o_or, o_not, o_ite, o_chain, e_var, e_rd, e_int, e_bl, e_non, e_str, e_glob, e_prim, e_isi, e_call, e_and, e_or, e_not, e_ite, ea_nil, ea_rd, ea_var, ea_con, ea_glob, ea_prim, ea_isi, ea_call, ea_and, ea_or, ea_not, ea_ite, ea_chain, ea_slc, ea_comp, ea_compif, r_var, r_prim, r_con, r_glob, r_call, r_isi, r_and, r_or, r_not, r_ite, r_chain, r_comp, r_compif, r_slc, ld_nil, ld_val, ld_own, ld_bor, ld_none, wp_nil, wp_c, tg_nm, tg_tup, tg_nil, tg_c, e_chain, es_cont, es_brk, es_pass, p_min2, p_max2, p_l0, p_l1, p_l2, p_l3, p_l4, p_is0, p_not0, n_non, n_tup, i_seq, q_lst, q_tup, q_ro, y_tt, y_tn, y_ii, y_bi, y_bb, y_lv, y_lb, oO_some, slotR, l_0, l_s, v_0, v_s, R.bind_ok, R.bind_bad, pd_nil, pd_c, sl_d, sl_s, okD_d, okD_l, okS_d, okS_l, rf_val, rf_own, fz_val, fz_own, tr_bl, t_bl, t_int, p_add, p_sub, p_neg, p_eq, p_ne, p_lt, p_le, p_gt, p_ge, p_abs, p_int, p_gcd, p_i0, p_i1, p_i2, p_i3, p_len2, p_len3, p_len4, p_t3, p_t4, p_t2, List.map, List.cons_append, List.nil_append, List.append_nil, List.length_cons, List.length_nil, List.replicate, if_true, if_false, Bool.false_eq_true, Nat.reduceAdd, Nat.reduceSub, decide_eq_true_eq, eq_self, decide_true, Bool.not_true, Bool.not_false, Int.reduceEq, Int.reduceLT, Int.reduceLE, decide_false]⟩
  obtain ⟨r, hr, q⟩ := run
  refine ⟨r, hr, ?_⟩
  rcases hr with rfl | rfl
  · exact den_of rfl q
  · exact den_own rfl q
end
end K88
set_option Elab.async false
set_option linter.all false
set_option maxRecDepth 100000
namespace K88
open PySem Ev
section
variable {sp : Int → Int × Int}
theorem mDs_plain (M : List Mi) : D.plainAll 59 (mDs sp M) = true := plainAll_map _ _ fun m _ => by cases m <;> rfl
theorem p_atM {M : List Mi} {i : Nat} (h : i < M.length) : evPrim .idx [.val (.lst (mDs sp M)), .val (.int (i : Int))] = .d (mD sp (M.getD i none)) := by
  rw [p_idxL, at_map (mD sp) (k := i) (x := M.getD i none) (by rw [List.getD_eq_getElem?_getD, List.getElem?_eq_getElem h]; rfl)]
  rfl
theorem den_law_most (Z : Sp sp) {M : List Mi} {L : List It} (h : OkM M) (hl : M.length < 1000) (hn : M.length = L.length) (ag : ∀ i, i < L.length → M.getD i none = none ∨ M.getD i none = some (L.getD i (0, 0))) :
    f__law_most.den [.val (.lst (mDs sp M)), .val (.lst (seD L))] = .ok (.val (.bl true)) := by
  obtain ⟨r, hr, mm⟩ := den_most_met Z h hl
  have me := most_eq h
  have ml := most_lt h
  have hR : ksOk r ((List.range 17).foldl (stepL M) []) := by rw [← me]; exact hr
  have hlt : ∀ i ∈ (List.range 17).foldl (stepL M) [], i < L.length := fun i hi => by rw [← hn]; exact ml i (by rw [me]; exact hi)
  clear me ml hr
  have li := p_listL (x := mDs sp M) (by simp [lim]; omega)
  have n1 := ne_self_d (a := .val (.lst (mDs sp M))) (b := .val (.lst (mDs sp M))) (d := .lst (mDs sp M)) rfl rfl (by simp only [D.plain]; exact mDs_plain _)
  have ln : evPrim .len [.val (.lst (seD L))] = .d (.int (L.length : Int)) := by rw [p_lenL, List.length_map]
  refine den_of rfl ?_
  unfold b__law_most
  refine step (e2 := [some (.val (.lst (mDs sp M))), some (.val (.lst (seD L))), some (.own (mDs sp M)), none, none, none, none, none]) (by simp only [es_nil, es_cons, es_asgN, es_asgT, es_par, es_if, es_for, es_ret, es_retN, o_prim, o_call, o_var, o_con, o_glob, o_isi, o_and, o_or, o_not, o_ite, o_chain, e_var, e_rd, e_int, e_bl, e_non, e_str, e_glob, e_prim, e_isi, e_call, e_and, e_or, e_not, e_ite, ea_nil, ea_rd, ea_var, ea_con, ea_glob, ea_prim, ea_isi, ea_call, ea_and, ea_or, ea_not, ea_ite, ea_chain, ea_slc, ea_comp, ea_compif, r_var, r_prim, r_con, r_glob, r_call, r_isi, r_and, r_or, r_not, r_ite, r_chain, r_comp, r_compif, r_slc, ld_nil, ld_val, ld_own, ld_bor, ld_none, wp_nil, wp_c, tg_nm, tg_tup, tg_nil, tg_c, e_chain, es_cont, es_brk, es_pass, p_min2, p_max2, p_l0, p_l1, p_l2, p_l3, p_l4, p_is0, p_not0, n_non, n_tup, i_seq, q_lst, q_tup, q_ro, y_tt, y_tn, y_ii, y_bi, y_bb, y_lv, y_lb, oO_some, slotR, l_0, l_s, v_0, v_s, R.bind_ok, R.bind_bad, pd_nil, pd_c, sl_d, sl_s, okD_d, okD_l, okS_d, okS_l, rf_val, rf_own, fz_val, fz_own, tr_bl, t_bl, t_int, p_add, p_sub, p_neg, p_eq, p_ne, p_lt, p_le, p_gt, p_ge, p_abs, p_int, p_gcd, p_i0, p_i1, p_i2, p_i3, p_len2, p_len3, p_len4, p_t3, p_t4, p_t2, List.map, List.cons_append, List.nil_append, List.append_nil, List.length_cons, List.length_nil, List.replicate, if_true, if_false, Bool.false_eq_true, Nat.reduceAdd, Nat.reduceSub, decide_eq_true_eq, eq_self, decide_true, Bool.not_true, Bool.not_false, Int.reduceEq, Int.reduceLT, Int.reduceLE, decide_false, li]) ?_
  refine step (e2 := [some (.val (.lst (mDs sp M))), some (.val (.lst (seD L))), some (.val (.lst (mDs sp M))), some r, none, none, none, none]) (by rcases hR with rfl | rfl <;> simp only [es_nil, es_cons, es_asgN, es_asgT, es_par, es_if, es_for, es_ret, es_retN, o_prim, o_call, o_var, o_con, o_glob, o_isi, o_and, o_or, o_not, o_ite, o_chain, e_var, e_rd, e_int, e_bl, e_non, e_str, e_glob, e_prim, e_isi, e_call, e_and, e_or, e_not, e_ite, ea_nil, ea_rd, ea_var, ea_con, ea_glob, ea_prim, ea_isi, ea_call, ea_and, ea_or, ea_not, ea_ite, ea_chain, ea_slc, ea_comp, ea_compif, r_var, r_prim, r_con, r_glob, r_call, r_isi, r_and, r_or, r_not, r_ite, r_chain, r_comp, r_compif, r_slc, ld_nil, ld_val, ld_own, ld_bor, ld_none, wp_nil, wp_c, tg_nm, tg_tup, tg_nil, tg_c, e_chain, es_cont, es_brk, es_pass, p_min2, p_max2, p_l0, p_l1, p_l2, p_l3, p_l4, p_is0, p_not0, n_non, n_tup, i_seq, q_lst, q_tup, q_ro, y_tt, y_tn, y_ii, y_bi, y_bb, y_lv, y_lb, oO_some, slotR, l_0, l_s, v_0, v_s, R.bind_ok, R.bind_bad, pd_nil, pd_c, sl_d, sl_s, okD_d, okD_l, okS_d, okS_l, rf_val, rf_own, fz_val, fz_own, tr_bl, t_bl, t_int, p_add, p_sub, p_neg, p_eq, p_ne, p_lt, p_le, p_gt, p_ge, p_abs, p_int, p_gcd, p_i0, p_i1, p_i2, p_i3, p_len2, p_len3, p_len4, p_t3, p_t4, p_t2, List.map, List.cons_append, List.nil_append, List.append_nil, List.length_cons, List.length_nil, List.replicate, if_true, if_false, Bool.false_eq_true, Nat.reduceAdd, Nat.reduceSub, decide_eq_true_eq, eq_self, decide_true, Bool.not_true, Bool.not_false, Int.reduceEq, Int.reduceLT, Int.reduceLE, decide_false, mm]) ?_
  refine step (e2 := [some (.val (.lst (mDs sp M))), some (.val (.lst (seD L))), some (.val (.lst (mDs sp M))), some r, none, none, none, none]) (by rcases hR with rfl | rfl <;> simp only [es_nil, es_cons, es_asgN, es_asgT, es_par, es_if, es_for, es_ret, es_retN, o_prim, o_call, o_var, o_con, o_glob, o_isi, o_and, o_or, o_not, o_ite, o_chain, e_var, e_rd, e_int, e_bl, e_non, e_str, e_glob, e_prim, e_isi, e_call, e_and, e_or, e_not, e_ite, ea_nil, ea_rd, ea_var, ea_con, ea_glob, ea_prim, ea_isi, ea_call, ea_and, ea_or, ea_not, ea_ite, ea_chain, ea_slc, ea_comp, ea_compif, r_var, r_prim, r_con, r_glob, r_call, r_isi, r_and, r_or, r_not, r_ite, r_chain, r_comp, r_compif, r_slc, ld_nil, ld_val, ld_own, ld_bor, ld_none, wp_nil, wp_c, tg_nm, tg_tup, tg_nil, tg_c, e_chain, es_cont, es_brk, es_pass, p_min2, p_max2, p_l0, p_l1, p_l2, p_l3, p_l4, p_is0, p_not0, n_non, n_tup, i_seq, q_lst, q_tup, q_ro, y_tt, y_tn, y_ii, y_bi, y_bb, y_lv, y_lb, oO_some, slotR, l_0, l_s, v_0, v_s, R.bind_ok, R.bind_bad, pd_nil, pd_c, sl_d, sl_s, okD_d, okD_l, okS_d, okS_l, rf_val, rf_own, fz_val, fz_own, tr_bl, t_bl, t_int, p_add, p_sub, p_neg, p_eq, p_ne, p_lt, p_le, p_gt, p_ge, p_abs, p_int, p_gcd, p_i0, p_i1, p_i2, p_i3, p_len2, p_len3, p_len4, p_t3, p_t4, p_t2, List.map, List.cons_append, List.nil_append, List.append_nil, List.length_cons, List.length_nil, List.replicate, if_true, if_false, Bool.false_eq_true, Nat.reduceAdd, Nat.reduceSub, decide_eq_true_eq, eq_self, decide_true, Bool.not_true, Bool.not_false, Int.reduceEq, Int.reduceLT, Int.reduceLE, decide_false, n1]) ?_
  refine step (e2 := [some (.val (.lst (mDs sp M))), some (.val (.lst (seD L))), some (.val (.lst (mDs sp M))), some r, some (.own []), none, none, none]) (by simp only [es_nil, es_cons, es_asgN, es_asgT, es_par, es_if, es_for, es_ret, es_retN, o_prim, o_call, o_var, o_con, o_glob, o_isi, o_and, o_or, o_not, o_ite, o_chain, e_var, e_rd, e_int, e_bl, e_non, e_str, e_glob, e_prim, e_isi, e_call, e_and, e_or, e_not, e_ite, ea_nil, ea_rd, ea_var, ea_con, ea_glob, ea_prim, ea_isi, ea_call, ea_and, ea_or, ea_not, ea_ite, ea_chain, ea_slc, ea_comp, ea_compif, r_var, r_prim, r_con, r_glob, r_call, r_isi, r_and, r_or, r_not, r_ite, r_chain, r_comp, r_compif, r_slc, ld_nil, ld_val, ld_own, ld_bor, ld_none, wp_nil, wp_c, tg_nm, tg_tup, tg_nil, tg_c, e_chain, es_cont, es_brk, es_pass, p_min2, p_max2, p_l0, p_l1, p_l2, p_l3, p_l4, p_is0, p_not0, n_non, n_tup, i_seq, q_lst, q_tup, q_ro, y_tt, y_tn, y_ii, y_bi, y_bb, y_lv, y_lb, oO_some, slotR, l_0, l_s, v_0, v_s, R.bind_ok, R.bind_bad, pd_nil, pd_c, sl_d, sl_s, okD_d, okD_l, okS_d, okS_l, rf_val, rf_own, fz_val, fz_own, tr_bl, t_bl, t_int, p_add, p_sub, p_neg, p_eq, p_ne, p_lt, p_le, p_gt, p_ge, p_abs, p_int, p_gcd, p_i0, p_i1, p_i2, p_i3, p_len2, p_len3, p_len4, p_t3, p_t4, p_t2, List.map, List.cons_append, List.nil_append, List.append_nil, List.length_cons, List.length_nil, List.replicate, if_true, if_false, Bool.false_eq_true, Nat.reduceAdd, Nat.reduceSub, decide_eq_true_eq, eq_self, decide_true, Bool.not_true, Bool.not_false, Int.reduceEq, Int.reduceLT, Int.reduceLE, decide_false]) ?_
  refine step_fold (fun (k : Nat) => D.int (k : Int)) (stepL M) (fun b e => ∃ bs kk met, ksOk bs b ∧ e = [some (.val (.lst (mDs sp M))), some (.val (.lst (seD L))), some (.val (.lst (mDs sp M))), some r, some bs, kk, none, met]) (List.range 17) [] (rng17 _) ?_ ⟨_, _, _, .inr rfl, rfl⟩ ?_
  · rintro k hk b e ⟨bs, kk, met, hb, rfl⟩
    have hk' := List.mem_range.mp hk
    have lm : evPrim .len [.bor (nsD (idxs M (k : Int)))] = .d (.int ((idxs M (k : Int)).length : Int)) := by rw [p_lenB, List.length_map]
    have lk1 : evPrim .len [.bor (nsD b)] = .d (.int (b.length : Int)) := by rw [p_lenB, List.length_map]
    have lk2 : evPrim .len [.val (.lst (nsD b))] = .d (.int (b.length : Int)) := by rw [p_lenL, List.length_map]
    have s1 : ∀ as W, evSs as [some (.val (.lst (mDs sp M))), some (.val (.lst (seD L))), some (.val (.lst (mDs sp M))), some r, some bs, some (.val (.int (k : Int))), none, some (.own (nsD (idxs M (k : Int))))] = W →
        evSs (.cons (.asg (.nm 7 "met") (.compif [("i", 6)] (.nm 6 "i") (.rng (.cons (.prim .len (.cons (.rd 1 "sets") .nil)) .nil)) (.and (.prim .notN (.cons (.prim .idx (.cons (.rd 0 "mixed") (.cons (.rd 6 "i") .nil))) (.cons (.con .none) .nil))) (.prim .inn (.cons (.rd 5 "k") (.cons (.prim .idx (.cons (.rd 1 "sets") (.cons (.rd 6 "i") .nil))) .nil)))) (.var 6 "i"))) as)
          [some (.val (.lst (mDs sp M))), some (.val (.lst (seD L))), some (.val (.lst (mDs sp M))), some r, some bs, some (.val (.int (k : Int))), none, met] = W := by
      intro as W q
      refine step ?_ q
      rw [es_asgN, (compif_of (List.range M.length) (fun (i : Nat) => D.int (i : Int)) (fun i => cov (M.getD i none) (k : Int)) (fun (i : Nat) => D.int (i : Int)) (e1 := [some (.val (.lst (mDs sp M))), some (.val (.lst (seD L))), some (.val (.lst (mDs sp M))), some r, some bs, some (.val (.int (k : Int))), none, met])
        (by rw [hn]; exact i_rngN (q := [.d (.int (L.length : Int))]) (by simp only [es_nil, es_cons, es_asgN, es_asgT, es_par, es_if, es_for, es_ret, es_retN, o_prim, o_call, o_var, o_con, o_glob, o_isi, o_and, o_or, o_not, o_ite, o_chain, e_var, e_rd, e_int, e_bl, e_non, e_str, e_glob, e_prim, e_isi, e_call, e_and, e_or, e_not, e_ite, ea_nil, ea_rd, ea_var, ea_con, ea_glob, ea_prim, ea_isi, ea_call, ea_and, ea_or, ea_not, ea_ite, ea_chain, ea_slc, ea_comp, ea_compif, r_var, r_prim, r_con, r_glob, r_call, r_isi, r_and, r_or, r_not, r_ite, r_chain, r_comp, r_compif, r_slc, ld_nil, ld_val, ld_own, ld_bor, ld_none, wp_nil, wp_c, tg_nm, tg_tup, tg_nil, tg_c, e_chain, es_cont, es_brk, es_pass, p_min2, p_max2, p_l0, p_l1, p_l2, p_l3, p_l4, p_is0, p_not0, n_non, n_tup, i_seq, q_lst, q_tup, q_ro, y_tt, y_tn, y_ii, y_bi, y_bb, y_lv, y_lb, oO_some, slotR, l_0, l_s, v_0, v_s, R.bind_ok, R.bind_bad, pd_nil, pd_c, sl_d, sl_s, okD_d, okD_l, okS_d, okS_l, rf_val, rf_own, fz_val, fz_own, tr_bl, t_bl, t_int, p_add, p_sub, p_neg, p_eq, p_ne, p_lt, p_le, p_gt, p_ge, p_abs, p_int, p_gcd, p_i0, p_i1, p_i2, p_i3, p_len2, p_len3, p_len4, p_t3, p_t4, p_t2, List.map, List.cons_append, List.nil_append, List.append_nil, List.length_cons, List.length_nil, List.replicate, if_true, if_false, Bool.false_eq_true, Nat.reduceAdd, Nat.reduceSub, decide_eq_true_eq, eq_self, decide_true, Bool.not_true, Bool.not_false, Int.reduceEq, Int.reduceLT, Int.reduceLE, decide_false, ln]) rfl (by omega)) (fun i hi => ?_) (by simp [lim]; omega)).1]
      · rfl
      · have hi' := List.mem_range.mp hi
        refine ⟨[some (.val (.lst (mDs sp M))), some (.val (.lst (seD L))), some (.val (.lst (mDs sp M))), some r.lend, some bs.lend, some (.val (.int (k : Int))), some (.val (.int (i : Int))), met.map Sl.lend],
          [some (.val (.lst (mDs sp M))), some (.val (.lst (seD L))), some (.val (.lst (mDs sp M))), some r.lend, some bs.lend, some (.val (.int (k : Int))), some (.val (.int (i : Int))), met.map Sl.lend], rfl, ?_, fun _ => ⟨_, rfl⟩⟩
        have am := p_atM (sp := sp) hi'
        have al := p_at (L := L) (i := i) (fun p => D.lst (nsD (S p.1 p.2))) (by omega)
        rcases ag i (by omega) with z | z
        · rw [z] at am ⊢
          simp only [mD] at am
          simp only [cov, es_nil, es_cons, es_asgN, es_asgT, es_par, es_if, es_for, es_ret, es_retN, o_prim, o_call, o_var, o_con, o_glob, o_isi, o_and, o_or, o_not, o_ite, o_chain, e_var, e_rd, e_int, e_bl, e_non, e_str, e_glob, e_prim, e_isi, e_call, e_and, e_or, e_not, e_ite, ea_nil, ea_rd, ea_var, ea_con, ea_glob, ea_prim, ea_isi, ea_call, ea_and, ea_or, ea_not, ea_ite, ea_chain, ea_slc, ea_comp, ea_compif, r_var, r_prim, r_con, r_glob, r_call, r_isi, r_and, r_or, r_not, r_ite, r_chain, r_comp, r_compif, r_slc, ld_nil, ld_val, ld_own, ld_bor, ld_none, wp_nil, wp_c, tg_nm, tg_tup, tg_nil, tg_c, e_chain, es_cont, es_brk, es_pass, p_min2, p_max2, p_l0, p_l1, p_l2, p_l3, p_l4, p_is0, p_not0, n_non, n_tup, i_seq, q_lst, q_tup, q_ro, y_tt, y_tn, y_ii, y_bi, y_bb, y_lv, y_lb, oO_some, slotR, l_0, l_s, v_0, v_s, R.bind_ok, R.bind_bad, pd_nil, pd_c, sl_d, sl_s, okD_d, okD_l, okS_d, okS_l, rf_val, rf_own, fz_val, fz_own, tr_bl, t_bl, t_int, p_add, p_sub, p_neg, p_eq, p_ne, p_lt, p_le, p_gt, p_ge, p_abs, p_int, p_gcd, p_i0, p_i1, p_i2, p_i3, p_len2, p_len3, p_len4, p_t3, p_t4, p_t2, List.map, List.cons_append, List.nil_append, List.append_nil, List.length_cons, List.length_nil, List.replicate, if_true, if_false, Bool.false_eq_true, Nat.reduceAdd, Nat.reduceSub, decide_eq_true_eq, eq_self, decide_true, Bool.not_true, Bool.not_false, Int.reduceEq, Int.reduceLT, Int.reduceLE, decide_false, am]
        · rw [z] at am ⊢
          simp only [mD] at am
          have sm : decide (k ∈ S (L.getD i (0, 0)).1 (L.getD i (0, 0)).2) = decide ((L.getD i (0, 0)).1 ≤ (k : Int) ∧ (k : Int) ≤ (L.getD i (0, 0)).2) := decide_eq_decide.mpr (by rw [mem_S]; omega)
          simp only [cov, es_nil, es_cons, es_asgN, es_asgT, es_par, es_if, es_for, es_ret, es_retN, o_prim, o_call, o_var, o_con, o_glob, o_isi, o_and, o_or, o_not, o_ite, o_chain, e_var, e_rd, e_int, e_bl, e_non, e_str, e_glob, e_prim, e_isi, e_call, e_and, e_or, e_not, e_ite, ea_nil, ea_rd, ea_var, ea_con, ea_glob, ea_prim, ea_isi, ea_call, ea_and, ea_or, ea_not, ea_ite, ea_chain, ea_slc, ea_comp, ea_compif, r_var, r_prim, r_con, r_glob, r_call, r_isi, r_and, r_or, r_not, r_ite, r_chain, r_comp, r_compif, r_slc, ld_nil, ld_val, ld_own, ld_bor, ld_none, wp_nil, wp_c, tg_nm, tg_tup, tg_nil, tg_c, e_chain, es_cont, es_brk, es_pass, p_min2, p_max2, p_l0, p_l1, p_l2, p_l3, p_l4, p_is0, p_not0, n_non, n_tup, i_seq, q_lst, q_tup, q_ro, y_tt, y_tn, y_ii, y_bi, y_bb, y_lv, y_lb, oO_some, slotR, l_0, l_s, v_0, v_s, R.bind_ok, R.bind_bad, pd_nil, pd_c, sl_d, sl_s, okD_d, okD_l, okS_d, okS_l, rf_val, rf_own, fz_val, fz_own, tr_bl, t_bl, t_int, p_add, p_sub, p_neg, p_eq, p_ne, p_lt, p_le, p_gt, p_ge, p_abs, p_int, p_gcd, p_i0, p_i1, p_i2, p_i3, p_len2, p_len3, p_len4, p_t3, p_t4, p_t2, List.map, List.cons_append, List.nil_append, List.append_nil, List.length_cons, List.length_nil, List.replicate, if_true, if_false, Bool.false_eq_true, Nat.reduceAdd, Nat.reduceSub, decide_eq_true_eq, eq_self, decide_true, Bool.not_true, Bool.not_false, Int.reduceEq, Int.reduceLT, Int.reduceLE, decide_false, am, al, in_ns, sm]
    by_cases c : b.length < cnt M (k : Int)
    · refine ⟨_, [some (.val (.lst (mDs sp M))), some (.val (.lst (seD L))), some (.val (.lst (mDs sp M))), some r, some (.val (.lst (nsD (idxs M (k : Int))))), some (.val (.int (k : Int))), none, some (.val (.lst (nsD (idxs M (k : Int)))))], rfl, .inl (s1 _ _ ?_), _, _, _, .inl ?_, rfl⟩
      · have c' : (b.length : Int) < ((idxs M (k : Int)).length : Int) := by have : cnt M (k : Int) = (idxs M (k : Int)).length := rfl; omega
        rcases hb with rfl | rfl <;> simp only [es_nil, es_cons, es_asgN, es_asgT, es_par, es_if, es_for, es_ret, es_retN, o_prim, o_call, o_var, o_con, o_glob, o_isi, o_and, o_or, o_not, o_ite, o_chain, e_var, e_rd, e_int, e_bl, e_non, e_str, e_glob, e_prim, e_isi, e_call, e_and, e_or, e_not, e_ite, ea_nil, ea_rd, ea_var, ea_con, ea_glob, ea_prim, ea_isi, ea_call, ea_and, ea_or, ea_not, ea_ite, ea_chain, ea_slc, ea_comp, ea_compif, r_var, r_prim, r_con, r_glob, r_call, r_isi, r_and, r_or, r_not, r_ite, r_chain, r_comp, r_compif, r_slc, ld_nil, ld_val, ld_own, ld_bor, ld_none, wp_nil, wp_c, tg_nm, tg_tup, tg_nil, tg_c, e_chain, es_cont, es_brk, es_pass, p_min2, p_max2, p_l0, p_l1, p_l2, p_l3, p_l4, p_is0, p_not0, n_non, n_tup, i_seq, q_lst, q_tup, q_ro, y_tt, y_tn, y_ii, y_bi, y_bb, y_lv, y_lb, oO_some, slotR, l_0, l_s, v_0, v_s, R.bind_ok, R.bind_bad, pd_nil, pd_c, sl_d, sl_s, okD_d, okD_l, okS_d, okS_l, rf_val, rf_own, fz_val, fz_own, tr_bl, t_bl, t_int, p_add, p_sub, p_neg, p_eq, p_ne, p_lt, p_le, p_gt, p_ge, p_abs, p_int, p_gcd, p_i0, p_i1, p_i2, p_i3, p_len2, p_len3, p_len4, p_t3, p_t4, p_t2, List.map, List.cons_append, List.nil_append, List.append_nil, List.length_cons, List.length_nil, List.replicate, if_true, if_false, Bool.false_eq_true, Nat.reduceAdd, Nat.reduceSub, decide_eq_true_eq, eq_self, decide_true, Bool.not_true, Bool.not_false, Int.reduceEq, Int.reduceLT, Int.reduceLE, decide_false, lm, lk1, lk2, c']
      · unfold stepL
        rw [if_pos c]
    · refine ⟨_, [some (.val (.lst (mDs sp M))), some (.val (.lst (seD L))), some (.val (.lst (mDs sp M))), some r, some bs, some (.val (.int (k : Int))), none, some (.own (nsD (idxs M (k : Int))))], rfl, .inl (s1 _ _ ?_), _, _, _, ?_, rfl⟩
      · have c' : ¬ (b.length : Int) < ((idxs M (k : Int)).length : Int) := by have : cnt M (k : Int) = (idxs M (k : Int)).length := rfl; omega
        rcases hb with rfl | rfl <;> simp only [es_nil, es_cons, es_asgN, es_asgT, es_par, es_if, es_for, es_ret, es_retN, o_prim, o_call, o_var, o_con, o_glob, o_isi, o_and, o_or, o_not, o_ite, o_chain, e_var, e_rd, e_int, e_bl, e_non, e_str, e_glob, e_prim, e_isi, e_call, e_and, e_or, e_not, e_ite, ea_nil, ea_rd, ea_var, ea_con, ea_glob, ea_prim, ea_isi, ea_call, ea_and, ea_or, ea_not, ea_ite, ea_chain, ea_slc, ea_comp, ea_compif, r_var, r_prim, r_con, r_glob, r_call, r_isi, r_and, r_or, r_not, r_ite, r_chain, r_comp, r_compif, r_slc, ld_nil, ld_val, ld_own, ld_bor, ld_none, wp_nil, wp_c, tg_nm, tg_tup, tg_nil, tg_c, e_chain, es_cont, es_brk, es_pass, p_min2, p_max2, p_l0, p_l1, p_l2, p_l3, p_l4, p_is0, p_not0, n_non, n_tup, i_seq, q_lst, q_tup, q_ro, y_tt, y_tn, y_ii, y_bi, y_bb, y_lv, y_lb, oO_some, slotR, l_0, l_s, v_0, v_s, R.bind_ok, R.bind_bad, pd_nil, pd_c, sl_d, sl_s, okD_d, okD_l, okS_d, okS_l, rf_val, rf_own, fz_val, fz_own, tr_bl, t_bl, t_int, p_add, p_sub, p_neg, p_eq, p_ne, p_lt, p_le, p_gt, p_ge, p_abs, p_int, p_gcd, p_i0, p_i1, p_i2, p_i3, p_len2, p_len3, p_len4, p_t3, p_t4, p_t2, List.map, List.cons_append, List.nil_append, List.append_nil, List.length_cons, List.length_nil, List.replicate, if_true, if_false, Bool.false_eq_true, Nat.reduceAdd, Nat.reduceSub, decide_eq_true_eq, eq_self, decide_true, Bool.not_true, Bool.not_false, Int.reduceEq, Int.reduceLT, Int.reduceLE, decide_false, lm, lk1, lk2, c']
      · have e1 : stepL M b k = b := if_neg c
        rw [e1]
        exact hb
  · rintro e ⟨bs, kk, met, hb, rfl⟩
    generalize (List.range 17).foldl (stepL M) [] = T at *
    refine step_all (fun (k : Nat) => D.int (k : Int)) (fun e => ∃ i, e = [some (.val (.lst (mDs sp M))), some (.val (.lst (seD L))), some (.val (.lst (mDs sp M))), some (.val (.lst (nsD T))), some bs, kk, i, met]) T (e1 := [some (.val (.lst (mDs sp M))), some (.val (.lst (seD L))), some (.val (.lst (mDs sp M))), some (.val (.lst (nsD T))), some bs, kk, none, met]) (by rcases hR with rfl | rfl <;> rfl) ?_ ⟨_, rfl⟩ ?_
    · rintro i hi e ⟨i0, rfl⟩
      refine ⟨_, [some (.val (.lst (mDs sp M))), some (.val (.lst (seD L))), some (.val (.lst (mDs sp M))), some (.val (.lst (nsD T))), some bs, kk, some (.val (.int (i : Int))), met], rfl, .inl ?_, _, rfl⟩
      simp only [es_nil, es_cons, es_asgN, es_asgT, es_par, es_if, es_for, es_ret, es_retN, o_prim, o_call, o_var, o_con, o_glob, o_isi, o_and, o_or, o_not, o_ite, o_chain, e_var, e_rd, e_int, e_bl, e_non, e_str, e_glob, e_prim, e_isi, e_call, e_and, e_or, e_not, e_ite, ea_nil, ea_rd, ea_var, ea_con, ea_glob, ea_prim, ea_isi, ea_call, ea_and, ea_or, ea_not, ea_ite, ea_chain, ea_slc, ea_comp, ea_compif, r_var, r_prim, r_con, r_glob, r_call, r_isi, r_and, r_or, r_not, r_ite, r_chain, r_comp, r_compif, r_slc, ld_nil, ld_val, ld_own, ld_bor, ld_none, wp_nil, wp_c, tg_nm, tg_tup, tg_nil, tg_c, e_chain, es_cont, es_brk, es_pass, p_min2, p_max2, p_l0, p_l1, p_l2, p_l3, p_l4, p_is0, p_not0, n_non, n_tup, i_seq, q_lst, q_tup, q_ro, y_tt, y_tn, y_ii, y_bi, y_bb, y_lv, y_lb, oO_some, slotR, l_0, l_s, v_0, v_s, R.bind_ok, R.bind_bad, pd_nil, pd_c, sl_d, sl_s, okD_d, okD_l, okS_d, okS_l, rf_val, rf_own, fz_val, fz_own, tr_bl, t_bl, t_int, p_add, p_sub, p_neg, p_eq, p_ne, p_lt, p_le, p_gt, p_ge, p_abs, p_int, p_gcd, p_i0, p_i1, p_i2, p_i3, p_len2, p_len3, p_len4, p_t3, p_t4, p_t2, List.map, List.cons_append, List.nil_append, List.append_nil, List.length_cons, List.length_nil, List.replicate, if_true, if_false, Bool.false_eq_true, Nat.reduceAdd, Nat.reduceSub, decide_eq_true_eq, eq_self, decide_true, Bool.not_true, Bool.not_false, Int.reduceEq, Int.reduceLT, Int.reduceLE, decide_false, ln, den_is_index (hlt i hi)]
    · rintro e ⟨i, rfl⟩
      have pl : (D.lst (nsD T)).plain 60 = true := by simp only [D.plain]; exact nsD_plain _
      have q1 := eq_self_d (a := .val (.lst (nsD T))) (b := .val (.lst (nsD T))) rfl rfl pl
      have q2 := eq_self_d (a := .val (.lst (nsD T))) (b := .bor (nsD T)) rfl rfl pl
      rcases hb with rfl | rfl <;> simp only [es_nil, es_cons, es_asgN, es_asgT, es_par, es_if, es_for, es_ret, es_retN, o_prim, o_call, o_var, o_con, o_glob, o_isi, o_and, o_or, o_not, o_ite, o_chain, e_var, e_rd, e_int, e_bl, e_non, e_str, e_glob, e_prim, e_isi, e_call, e_and, e_or, e_not, e_ite, ea_nil, ea_rd, ea_var, ea_con, ea_glob, ea_prim, ea_isi, ea_call, ea_and, ea_or, ea_not, ea_ite, ea_chain, ea_slc, ea_comp, ea_compif, r_var, r_prim, r_con, r_glob, r_call, r_isi, r_and, r_or, r_not, r_ite, r_chain, r_comp, r_compif, r_slc, ld_nil, ld_val, ld_own, ld_bor, ld_none, wp_nil, wp_c, tg_nm, tg_tup, tg_nil, tg_c, e_chain, es_cont, es_brk, es_pass, p_min2, p_max2, p_l0, p_l1, p_l2, p_l3, p_l4, p_is0, p_not0, n_non, n_tup, i_seq, q_lst, q_tup, q_ro, y_tt, y_tn, y_ii, y_bi, y_bb, y_lv, y_lb, oO_some, slotR, l_0, l_s, v_0, v_s, R.bind_ok, R.bind_bad, pd_nil, pd_c, sl_d, sl_s, okD_d, okD_l, okS_d, okS_l, rf_val, rf_own, fz_val, fz_own, tr_bl, t_bl, t_int, p_add, p_sub, p_neg, p_eq, p_ne, p_lt, p_le, p_gt, p_ge, p_abs, p_int, p_gcd, p_i0, p_i1, p_i2, p_i3, p_len2, p_len3, p_len4, p_t3, p_t4, p_t2, List.map, List.cons_append, List.nil_append, List.append_nil, List.length_cons, List.length_nil, List.replicate, if_true, if_false, Bool.false_eq_true, Nat.reduceAdd, Nat.reduceSub, decide_eq_true_eq, eq_self, decide_true, Bool.not_true, Bool.not_false, Int.reduceEq, Int.reduceLT, Int.reduceLE, decide_false, q1, q2]
end
end K88
set_option Elab.async false
set_option linter.all false
set_option maxRecDepth 100000
namespace K88
open PySem Ev
def cell (ns : List Int) (i : Int) : Int := ns.getD i.toNat 0
theorem den_cell {ns : List Int} {i : Int} (h : 0 ≤ i) : f__law_cell.den [.val (.ro (ns.map D.int)), .val (.int i)] = .ok (.val (.int (cell ns i))) := by
  refine den_of rfl ?_
  obtain ⟨k, rfl⟩ : ∃ k : Nat, i = k := ⟨i.toNat, by omega⟩
  by_cases q : k < ns.length
  · have e : evPrim .idx [.val (.ro (ns.map D.int)), .val (.int (k : Int))] = .d (.int (cell ns k)) := by
      rw [p_idxR, atD_nat _ _ (by simpa using q)]
      unfold cell
      simp only [Int.toNat_natCast, List.getElem?_map, List.getD_eq_getElem?_getD, List.getElem?_eq_getElem q]
      rfl
    have q' : (k : Int) < ((ns.map D.int).length : Int) := by simpa using q
    simp only [b__law_cell, es_nil, es_cons, es_asgN, es_asgT, es_par, es_if, es_for, es_ret, es_retN, o_prim, o_call, o_var, o_con, o_glob, o_isi, o_and, o_or, o_not, o_ite, o_chain, e_var, e_rd, e_int, e_bl, e_non, e_str, e_glob, e_prim, e_isi, e_call, e_and, e_or, e_not, e_ite, ea_nil, ea_rd, ea_var, ea_con, ea_glob, ea_prim, ea_isi, ea_call, ea_and, ea_or, ea_not, ea_ite, ea_chain, ea_slc, ea_comp, ea_compif, r_var, r_prim, r_con, r_glob, r_call, r_isi, r_and, r_or, r_not, r_ite, r_chain, r_comp, r_compif, r_slc, ld_nil, ld_val, ld_own, ld_bor, ld_none, wp_nil, wp_c, tg_nm, tg_tup, tg_nil, tg_c, e_chain, es_cont, es_brk, es_pass, p_min2, p_max2, p_l0, p_l1, p_l2, p_l3, p_l4, p_is0, p_not0, n_non, n_tup, i_seq, q_lst, q_tup, q_ro, y_tt, y_tn, y_ii, y_bi, y_bb, y_lv, y_lb, oO_some, slotR, l_0, l_s, v_0, v_s, R.bind_ok, R.bind_bad, pd_nil, pd_c, sl_d, sl_s, okD_d, okD_l, okS_d, okS_l, rf_val, rf_own, fz_val, fz_own, tr_bl, t_bl, t_int, p_add, p_sub, p_neg, p_eq, p_ne, p_lt, p_le, p_gt, p_ge, p_abs, p_int, p_gcd, p_i0, p_i1, p_i2, p_i3, p_len2, p_len3, p_len4, p_t3, p_t4, p_t2, List.map, List.cons_append, List.nil_append, List.append_nil, List.length_cons, List.length_nil, List.replicate, if_true, if_false, Bool.false_eq_true, Nat.reduceAdd, Nat.reduceSub, decide_eq_true_eq, eq_self, decide_true, Bool.not_true, Bool.not_false, Int.reduceEq, Int.reduceLT, Int.reduceLE, decide_false, p_lenR, q', e]
  · have q' : ¬ (k : Int) < ((ns.map D.int).length : Int) := by simpa using q
    have z : cell ns k = 0 := by unfold cell; rw [List.getD_eq_getElem?_getD, List.getElem?_eq_none (by simpa using q)]; rfl
    simp only [b__law_cell, es_nil, es_cons, es_asgN, es_asgT, es_par, es_if, es_for, es_ret, es_retN, o_prim, o_call, o_var, o_con, o_glob, o_isi, o_and, o_or, o_not, o_ite, o_chain, e_var, e_rd, e_int, e_bl, e_non, e_str, e_glob, e_prim, e_isi, e_call, e_and, e_or, e_not, e_ite, ea_nil, ea_rd, ea_var, ea_con, ea_glob, ea_prim, ea_isi, ea_call, ea_and, ea_or, ea_not, ea_ite, ea_chain, ea_slc, ea_comp, ea_compif, r_var, r_prim, r_con, r_glob, r_call, r_isi, r_and, r_or, r_not, r_ite, r_chain, r_comp, r_compif, r_slc, ld_nil, ld_val, ld_own, ld_bor, ld_none, wp_nil, wp_c, tg_nm, tg_tup, tg_nil, tg_c, e_chain, es_cont, es_brk, es_pass, p_min2, p_max2, p_l0, p_l1, p_l2, p_l3, p_l4, p_is0, p_not0, n_non, n_tup, i_seq, q_lst, q_tup, q_ro, y_tt, y_tn, y_ii, y_bi, y_bb, y_lv, y_lb, oO_some, slotR, l_0, l_s, v_0, v_s, R.bind_ok, R.bind_bad, pd_nil, pd_c, sl_d, sl_s, okD_d, okD_l, okS_d, okS_l, rf_val, rf_own, fz_val, fz_own, tr_bl, t_bl, t_int, p_add, p_sub, p_neg, p_eq, p_ne, p_lt, p_le, p_gt, p_ge, p_abs, p_int, p_gcd, p_i0, p_i1, p_i2, p_i3, p_len2, p_len3, p_len4, p_t3, p_t4, p_t2, List.map, List.cons_append, List.nil_append, List.append_nil, List.length_cons, List.length_nil, List.replicate, if_true, if_false, Bool.false_eq_true, Nat.reduceAdd, Nat.reduceSub, decide_eq_true_eq, eq_self, decide_true, Bool.not_true, Bool.not_false, Int.reduceEq, Int.reduceLT, Int.reduceLE, decide_false, p_lenR, q', decide_false, z]
abbrev lwhile : Stm := .while (.prim .gt (.cons (.rd 3 "b") (.cons (.con (.int 0)) .nil))) (.cons (.asg (.nm 4 "c") (.prim .sub (.cons (.rd 2 "a") (.cons (.prim .mul (.cons (.prim .fdiv (.cons (.rd 2 "a") (.cons (.rd 3 "b") .nil))) (.cons (.var 3 "b") .nil))) .nil))))
  (.cons (.asg (.nm 2 "a") (.var 3 "b"))
  (.cons (.asg (.nm 3 "b") (.var 4 "c"))
  .nil)))
theorem loop_lowest {k : Nat} (hk : k ≤ 10000000) (n d : Option Sl) : ∀ (m : Nat) (a b : Int) (c : Option Sl), b.toNat ≤ m → 0 ≤ a → 0 ≤ b → Bd k a → Bd k b →
    ∃ c', evS lwhile [n, d, some (.val (.int a)), some (.val (.int b)), c] = .ok (.nx [n, d, some (.val (.int (Int.gcd a b))), some (.val (.int 0)), c']) := by
  intro m a b c hm ha hb h1 h2
  rw [es_while]
  suffices q : ∃ j c', loopN _ _ j [n, d, some (.val (.int a)), some (.val (.int b)), c] = some (.ok (.nx [n, d, some (.val (.int (Int.gcd a b))), some (.val (.int 0)), c'])) by
    obtain ⟨j, c', q⟩ := q
    exact ⟨c', whileD_of q⟩
  induction m generalizing a b c with
  | zero =>
    have hb0 : b = 0 := by omega
    subst hb0
    refine ⟨1, c, ?_⟩
    have hg : ((Int.gcd a 0 : Nat) : Int) = a := by rw [Int.gcd_zero_right]; omega
    rw [hg]
    refine loopN_done ?_
    simp only [es_nil, es_cons, es_asgN, es_asgT, es_par, es_if, es_for, es_ret, es_retN, o_prim, o_call, o_var, o_con, o_glob, o_isi, o_and, o_or, o_not, o_ite, o_chain, e_var, e_rd, e_int, e_bl, e_non, e_str, e_glob, e_prim, e_isi, e_call, e_and, e_or, e_not, e_ite, ea_nil, ea_rd, ea_var, ea_con, ea_glob, ea_prim, ea_isi, ea_call, ea_and, ea_or, ea_not, ea_ite, ea_chain, ea_slc, ea_comp, ea_compif, r_var, r_prim, r_con, r_glob, r_call, r_isi, r_and, r_or, r_not, r_ite, r_chain, r_comp, r_compif, r_slc, ld_nil, ld_val, ld_own, ld_bor, ld_none, wp_nil, wp_c, tg_nm, tg_tup, tg_nil, tg_c, e_chain, es_cont, es_brk, es_pass, p_min2, p_max2, p_l0, p_l1, p_l2, p_l3, p_l4, p_is0, p_not0, n_non, n_tup, i_seq, q_lst, q_tup, q_ro, y_tt, y_tn, y_ii, y_bi, y_bb, y_lv, y_lb, oO_some, slotR, l_0, l_s, v_0, v_s, R.bind_ok, R.bind_bad, pd_nil, pd_c, sl_d, sl_s, okD_d, okD_l, okS_d, okS_l, rf_val, rf_own, fz_val, fz_own, tr_bl, t_bl, t_int, p_add, p_sub, p_neg, p_eq, p_ne, p_lt, p_le, p_gt, p_ge, p_abs, p_int, p_gcd, p_i0, p_i1, p_i2, p_i3, p_len2, p_len3, p_len4, p_t3, p_t4, p_t2, List.map, List.cons_append, List.nil_append, List.append_nil, List.length_cons, List.length_nil, List.replicate, if_true, if_false, Bool.false_eq_true, Nat.reduceAdd, Nat.reduceSub, decide_eq_true_eq, eq_self, decide_true, Bool.not_true, Bool.not_false, Int.reduceEq, Int.reduceLT, Int.reduceLE, decide_false, Int.lt_irrefl, decide_false]
  | succ m ih =>
    by_cases hb0 : b = 0
    · subst hb0
      refine ⟨1, c, ?_⟩
      have hg : ((Int.gcd a 0 : Nat) : Int) = a := by rw [Int.gcd_zero_right]; omega
      rw [hg]
      refine loopN_done ?_
      simp only [es_nil, es_cons, es_asgN, es_asgT, es_par, es_if, es_for, es_ret, es_retN, o_prim, o_call, o_var, o_con, o_glob, o_isi, o_and, o_or, o_not, o_ite, o_chain, e_var, e_rd, e_int, e_bl, e_non, e_str, e_glob, e_prim, e_isi, e_call, e_and, e_or, e_not, e_ite, ea_nil, ea_rd, ea_var, ea_con, ea_glob, ea_prim, ea_isi, ea_call, ea_and, ea_or, ea_not, ea_ite, ea_chain, ea_slc, ea_comp, ea_compif, r_var, r_prim, r_con, r_glob, r_call, r_isi, r_and, r_or, r_not, r_ite, r_chain, r_comp, r_compif, r_slc, ld_nil, ld_val, ld_own, ld_bor, ld_none, wp_nil, wp_c, tg_nm, tg_tup, tg_nil, tg_c, e_chain, es_cont, es_brk, es_pass, p_min2, p_max2, p_l0, p_l1, p_l2, p_l3, p_l4, p_is0, p_not0, n_non, n_tup, i_seq, q_lst, q_tup, q_ro, y_tt, y_tn, y_ii, y_bi, y_bb, y_lv, y_lb, oO_some, slotR, l_0, l_s, v_0, v_s, R.bind_ok, R.bind_bad, pd_nil, pd_c, sl_d, sl_s, okD_d, okD_l, okS_d, okS_l, rf_val, rf_own, fz_val, fz_own, tr_bl, t_bl, t_int, p_add, p_sub, p_neg, p_eq, p_ne, p_lt, p_le, p_gt, p_ge, p_abs, p_int, p_gcd, p_i0, p_i1, p_i2, p_i3, p_len2, p_len3, p_len4, p_t3, p_t4, p_t2, List.map, List.cons_append, List.nil_append, List.append_nil, List.length_cons, List.length_nil, List.replicate, if_true, if_false, Bool.false_eq_true, Nat.reduceAdd, Nat.reduceSub, decide_eq_true_eq, eq_self, decide_true, Bool.not_true, Bool.not_false, Int.reduceEq, Int.reduceLT, Int.reduceLE, decide_false, Int.lt_irrefl, decide_false]
    · have hp : 0 < b := by omega
      have e := euclid_step ha hp
      have l1 := Int.emod_nonneg a hb0
      have l2 := Int.emod_lt_of_pos a hp
      obtain ⟨j, c', q⟩ := ih b (a % b) (some (.val (.int (a % b)))) (by omega) hb l1 h2 (h2.of_le (by omega))
      refine ⟨j + 1, c', ?_⟩
      rw [gcd_step] at q
      have m1 := mulOk_of (h1.fdiv b) h2 (by omega)
      refine loopN_step (e1 := [n, d, some (.val (.int a)), some (.val (.int b)), c]) (e2 := [n, d, some (.val (.int b)), some (.val (.int (a % b))), some (.val (.int (a % b)))]) ?_ ?_ q
      · simp only [es_nil, es_cons, es_asgN, es_asgT, es_par, es_if, es_for, es_ret, es_retN, o_prim, o_call, o_var, o_con, o_glob, o_isi, o_and, o_or, o_not, o_ite, o_chain, e_var, e_rd, e_int, e_bl, e_non, e_str, e_glob, e_prim, e_isi, e_call, e_and, e_or, e_not, e_ite, ea_nil, ea_rd, ea_var, ea_con, ea_glob, ea_prim, ea_isi, ea_call, ea_and, ea_or, ea_not, ea_ite, ea_chain, ea_slc, ea_comp, ea_compif, r_var, r_prim, r_con, r_glob, r_call, r_isi, r_and, r_or, r_not, r_ite, r_chain, r_comp, r_compif, r_slc, ld_nil, ld_val, ld_own, ld_bor, ld_none, wp_nil, wp_c, tg_nm, tg_tup, tg_nil, tg_c, e_chain, es_cont, es_brk, es_pass, p_min2, p_max2, p_l0, p_l1, p_l2, p_l3, p_l4, p_is0, p_not0, n_non, n_tup, i_seq, q_lst, q_tup, q_ro, y_tt, y_tn, y_ii, y_bi, y_bb, y_lv, y_lb, oO_some, slotR, l_0, l_s, v_0, v_s, R.bind_ok, R.bind_bad, pd_nil, pd_c, sl_d, sl_s, okD_d, okD_l, okS_d, okS_l, rf_val, rf_own, fz_val, fz_own, tr_bl, t_bl, t_int, p_add, p_sub, p_neg, p_eq, p_ne, p_lt, p_le, p_gt, p_ge, p_abs, p_int, p_gcd, p_i0, p_i1, p_i2, p_i3, p_len2, p_len3, p_len4, p_t3, p_t4, p_t2, List.map, List.cons_append, List.nil_append, List.append_nil, List.length_cons, List.length_nil, List.replicate, if_true, if_false, Bool.false_eq_true, Nat.reduceAdd, Nat.reduceSub, decide_eq_true_eq, eq_self, decide_true, Bool.not_true, Bool.not_false, Int.reduceEq, Int.reduceLT, Int.reduceLE, decide_false, hp]
      · simp only [es_nil, es_cons, es_asgN, es_asgT, es_par, es_if, es_for, es_ret, es_retN, o_prim, o_call, o_var, o_con, o_glob, o_isi, o_and, o_or, o_not, o_ite, o_chain, e_var, e_rd, e_int, e_bl, e_non, e_str, e_glob, e_prim, e_isi, e_call, e_and, e_or, e_not, e_ite, ea_nil, ea_rd, ea_var, ea_con, ea_glob, ea_prim, ea_isi, ea_call, ea_and, ea_or, ea_not, ea_ite, ea_chain, ea_slc, ea_comp, ea_compif, r_var, r_prim, r_con, r_glob, r_call, r_isi, r_and, r_or, r_not, r_ite, r_chain, r_comp, r_compif, r_slc, ld_nil, ld_val, ld_own, ld_bor, ld_none, wp_nil, wp_c, tg_nm, tg_tup, tg_nil, tg_c, e_chain, es_cont, es_brk, es_pass, p_min2, p_max2, p_l0, p_l1, p_l2, p_l3, p_l4, p_is0, p_not0, n_non, n_tup, i_seq, q_lst, q_tup, q_ro, y_tt, y_tn, y_ii, y_bi, y_bb, y_lv, y_lb, oO_some, slotR, l_0, l_s, v_0, v_s, R.bind_ok, R.bind_bad, pd_nil, pd_c, sl_d, sl_s, okD_d, okD_l, okS_d, okS_l, rf_val, rf_own, fz_val, fz_own, tr_bl, t_bl, t_int, p_add, p_sub, p_neg, p_eq, p_ne, p_lt, p_le, p_gt, p_ge, p_abs, p_int, p_gcd, p_i0, p_i1, p_i2, p_i3, p_len2, p_len3, p_len4, p_t3, p_t4, p_t2, List.map, List.cons_append, List.nil_append, List.append_nil, List.length_cons, List.length_nil, List.replicate, if_true, if_false, Bool.false_eq_true, Nat.reduceAdd, Nat.reduceSub, decide_eq_true_eq, eq_self, decide_true, Bool.not_true, Bool.not_false, Int.reduceEq, Int.reduceLT, Int.reduceLE, decide_false, p_fdiv _ _ hb0, p_mul _ _ m1, e]
theorem den_lowest {k : Nat} {n d : Int} (h : 0 < d) (h1 : Bd k n) (h2 : Bd k d) (hk : k ≤ 10000000) : f__law_lowest.den [.val (.int n), .val (.int d)] = .ok (.val (fr (low n d))) := by
  refine den_of rfl ?_
  obtain ⟨c', e⟩ := loop_lowest hk (some (.val (.int n))) (some (.val (.int d))) d.toNat _ d none (Nat.le_refl _) (abs_nn n) (by omega) h1.abs h2
  rw [gcd_abs] at e
  have hg : (Int.gcd n d : Int) ≠ 0 := by
    have := gcd_pos (n := n) h
    omega
  simp only [b__law_lowest, es_nil, es_cons, es_asgN, es_asgT, es_par, es_if, es_for, es_ret, es_retN, o_prim, o_call, o_var, o_con, o_glob, o_isi, o_and, o_or, o_not, o_ite, o_chain, e_var, e_rd, e_int, e_bl, e_non, e_str, e_glob, e_prim, e_isi, e_call, e_and, e_or, e_not, e_ite, ea_nil, ea_rd, ea_var, ea_con, ea_glob, ea_prim, ea_isi, ea_call, ea_and, ea_or, ea_not, ea_ite, ea_chain, ea_slc, ea_comp, ea_compif, r_var, r_prim, r_con, r_glob, r_call, r_isi, r_and, r_or, r_not, r_ite, r_chain, r_comp, r_compif, r_slc, ld_nil, ld_val, ld_own, ld_bor, ld_none, wp_nil, wp_c, tg_nm, tg_tup, tg_nil, tg_c, e_chain, es_cont, es_brk, es_pass, p_min2, p_max2, p_l0, p_l1, p_l2, p_l3, p_l4, p_is0, p_not0, n_non, n_tup, i_seq, q_lst, q_tup, q_ro, y_tt, y_tn, y_ii, y_bi, y_bb, y_lv, y_lb, oO_some, slotR, l_0, l_s, v_0, v_s, R.bind_ok, R.bind_bad, pd_nil, pd_c, sl_d, sl_s, okD_d, okD_l, okS_d, okS_l, rf_val, rf_own, fz_val, fz_own, tr_bl, t_bl, t_int, p_add, p_sub, p_neg, p_eq, p_ne, p_lt, p_le, p_gt, p_ge, p_abs, p_int, p_gcd, p_i0, p_i1, p_i2, p_i3, p_len2, p_len3, p_len4, p_t3, p_t4, p_t2, List.map, List.cons_append, List.nil_append, List.append_nil, List.length_cons, List.length_nil, List.replicate, if_true, if_false, Bool.false_eq_true, Nat.reduceAdd, Nat.reduceSub, decide_eq_true_eq, eq_self, decide_true, Bool.not_true, Bool.not_false, Int.reduceEq, Int.reduceLT, Int.reduceLE, decide_false, e, p_fdiv _ _ hg]
  rfl

theorem mulOk_r {a b : Int} (h : b.natAbs < 2 ^ 64) : mulOk a b = true := by
  unfold mulOk
  rw [decide_eq_true h]
  simp
theorem pow18 : evPrim .pow [.val (.int 10), .val (.int 18)] = .d (.int 1000000000000000000) := by rfl
theorem pow29 : evPrim .pow [.val (.int 10), .val (.int 29)] = .d (.int 100000000000000000000000000000) := by rfl
theorem count_fold {α : Type} (xs : List α) : ∀ n : Nat, xs.foldl (fun n _ => n + 1) n = n + xs.length := by
  induction xs with
  | nil => intro n; rfl
  | cons a r ih => intro n; rw [List.foldl_cons, ih]; simp; omega
theorem nsD_snoc (l : List Nat) {x : Int} (h : 0 ≤ x) : nsD l ++ [.int x] = nsD (l ++ [x.toNat]) := by
  rw [show nsD (l ++ [x.toNat]) = nsD l ++ nsD [x.toNat] from List.map_append, show nsD [x.toNat] = [D.int x] by simp [nsD]; omega]
structure Dig (base : Int) (n : Nat) (l : List Nat) : Prop where
  len : l.length = n
  lt : ∀ x ∈ l, (x : Int) < base
theorem Dig.snoc {base : Int} {n : Nat} {l : List Nat} (h : Dig base n l) {x : Int} (h0 : 0 ≤ x) (h1 : x < base) : Dig base (n + 1) (l ++ [x.toNat]) := by
  refine ⟨by rw [List.length_append, h.len]; rfl, fun y hy => ?_⟩
  rcases List.mem_append.mp hy with z | z
  · exact h.lt y z
  · simp at z
    subst z
    omega
theorem den_digits (c base : Int) (n : Nat) (hb : 0 < base) (hn : n < 1000) : ∃ l, Dig base n l ∧ f__law_digits.den [.val (.int c), .val (.int base), .val (.int (n : Int))] = .ok (.own (nsD l)) := by
  have run : ∃ l, Dig base n l ∧ evSs b__law_digits ([.val (.int c), .val (.int base), .val (.int (n : Int))].map some ++ List.replicate (6 - 3) none) = .ok (.rt (.own (nsD l))) := by
    unfold b__law_digits
    have hb0 : base ≠ 0 := by omega
    generalize hr : (if c < 0 then -c else c) = rest
    refine stepE (P := fun R => ∃ l, Dig base n l ∧ R = .ok (.rt (.own (nsD l)))) (e2 := [some (.val (.int c)), some (.val (.int base)), some (.val (.int (n : Int))), some (.val (.int rest)), none, none]) (by simp only [es_nil, es_cons, es_asgN, es_asgT, es_par, es_if, es_for, es_ret, es_retN, o_prim, o_call, o_var, o_con, o_glob, o_isi, o_and, o_or, o_not, o_ite, o_chain, e_var, e_rd, e_int, e_bl, e_non, e_str, e_glob, e_prim, e_isi, e_call, e_and, e_or, e_not, e_ite, ea_nil, ea_rd, ea_var, ea_con, ea_glob, ea_prim, ea_isi, ea_call, ea_and, ea_or, ea_not, ea_ite, ea_chain, ea_slc, ea_comp, ea_compif, r_var, r_prim, r_con, r_glob, r_call, r_isi, r_and, r_or, r_not, r_ite, r_chain, r_comp, r_compif, r_slc, ld_nil, ld_val, ld_own, ld_bor, ld_none, wp_nil, wp_c, tg_nm, tg_tup, tg_nil, tg_c, e_chain, es_cont, es_brk, es_pass, p_min2, p_max2, p_l0, p_l1, p_l2, p_l3, p_l4, p_is0, p_not0, n_non, n_tup, i_seq, q_lst, q_tup, q_ro, y_tt, y_tn, y_ii, y_bi, y_bb, y_lv, y_lb, oO_some, slotR, l_0, l_s, v_0, v_s, R.bind_ok, R.bind_bad, pd_nil, pd_c, sl_d, sl_s, okD_d, okD_l, okS_d, okS_l, rf_val, rf_own, fz_val, fz_own, tr_bl, t_bl, t_int, p_add, p_sub, p_neg, p_eq, p_ne, p_lt, p_le, p_gt, p_ge, p_abs, p_int, p_gcd, p_i0, p_i1, p_i2, p_i3, p_len2, p_len3, p_len4, p_t3, p_t4, p_t2, List.map, List.cons_append, List.nil_append, List.append_nil, List.length_cons, List.length_nil, List.replicate, if_true, if_false, Bool.false_eq_true, Nat.reduceAdd, Nat.reduceSub, decide_eq_true_eq, eq_self, decide_true, Bool.not_true, Bool.not_false, Int.reduceEq, Int.reduceLT, Int.reduceLE, decide_false, hr]) ?_
    refine stepE (P := fun R => ∃ l, Dig base n l ∧ R = .ok (.rt (.own (nsD l)))) (e2 := [some (.val (.int c)), some (.val (.int base)), some (.val (.int (n : Int))), some (.val (.int rest)), some (.own []), none]) (by simp only [es_nil, es_cons, es_asgN, es_asgT, es_par, es_if, es_for, es_ret, es_retN, o_prim, o_call, o_var, o_con, o_glob, o_isi, o_and, o_or, o_not, o_ite, o_chain, e_var, e_rd, e_int, e_bl, e_non, e_str, e_glob, e_prim, e_isi, e_call, e_and, e_or, e_not, e_ite, ea_nil, ea_rd, ea_var, ea_con, ea_glob, ea_prim, ea_isi, ea_call, ea_and, ea_or, ea_not, ea_ite, ea_chain, ea_slc, ea_comp, ea_compif, r_var, r_prim, r_con, r_glob, r_call, r_isi, r_and, r_or, r_not, r_ite, r_chain, r_comp, r_compif, r_slc, ld_nil, ld_val, ld_own, ld_bor, ld_none, wp_nil, wp_c, tg_nm, tg_tup, tg_nil, tg_c, e_chain, es_cont, es_brk, es_pass, p_min2, p_max2, p_l0, p_l1, p_l2, p_l3, p_l4, p_is0, p_not0, n_non, n_tup, i_seq, q_lst, q_tup, q_ro, y_tt, y_tn, y_ii, y_bi, y_bb, y_lv, y_lb, oO_some, slotR, l_0, l_s, v_0, v_s, R.bind_ok, R.bind_bad, pd_nil, pd_c, sl_d, sl_s, okD_d, okD_l, okS_d, okS_l, rf_val, rf_own, fz_val, fz_own, tr_bl, t_bl, t_int, p_add, p_sub, p_neg, p_eq, p_ne, p_lt, p_le, p_gt, p_ge, p_abs, p_int, p_gcd, p_i0, p_i1, p_i2, p_i3, p_len2, p_len3, p_len4, p_t3, p_t4, p_t2, List.map, List.cons_append, List.nil_append, List.append_nil, List.length_cons, List.length_nil, List.replicate, if_true, if_false, Bool.false_eq_true, Nat.reduceAdd, Nat.reduceSub, decide_eq_true_eq, eq_self, decide_true, Bool.not_true, Bool.not_false, Int.reduceEq, Int.reduceLT, Int.reduceLE, decide_false]) ?_
    by_cases big : 1000000000000000000 ≤ rest
    · refine stepE_ift (P := fun R => ∃ l, Dig base n l ∧ R = .ok (.rt (.own (nsD l)))) (e2 := [some (.val (.int c)), some (.val (.int base)), some (.val (.int (n : Int))), some (.val (.int rest)), some (.own []), none]) (by simp only [es_nil, es_cons, es_asgN, es_asgT, es_par, es_if, es_for, es_ret, es_retN, o_prim, o_call, o_var, o_con, o_glob, o_isi, o_and, o_or, o_not, o_ite, o_chain, e_var, e_rd, e_int, e_bl, e_non, e_str, e_glob, e_prim, e_isi, e_call, e_and, e_or, e_not, e_ite, ea_nil, ea_rd, ea_var, ea_con, ea_glob, ea_prim, ea_isi, ea_call, ea_and, ea_or, ea_not, ea_ite, ea_chain, ea_slc, ea_comp, ea_compif, r_var, r_prim, r_con, r_glob, r_call, r_isi, r_and, r_or, r_not, r_ite, r_chain, r_comp, r_compif, r_slc, ld_nil, ld_val, ld_own, ld_bor, ld_none, wp_nil, wp_c, tg_nm, tg_tup, tg_nil, tg_c, e_chain, es_cont, es_brk, es_pass, p_min2, p_max2, p_l0, p_l1, p_l2, p_l3, p_l4, p_is0, p_not0, n_non, n_tup, i_seq, q_lst, q_tup, q_ro, y_tt, y_tn, y_ii, y_bi, y_bb, y_lv, y_lb, oO_some, slotR, l_0, l_s, v_0, v_s, R.bind_ok, R.bind_bad, pd_nil, pd_c, sl_d, sl_s, okD_d, okD_l, okS_d, okS_l, rf_val, rf_own, fz_val, fz_own, tr_bl, t_bl, t_int, p_add, p_sub, p_neg, p_eq, p_ne, p_lt, p_le, p_gt, p_ge, p_abs, p_int, p_gcd, p_i0, p_i1, p_i2, p_i3, p_len2, p_len3, p_len4, p_t3, p_t4, p_t2, List.map, List.cons_append, List.nil_append, List.append_nil, List.length_cons, List.length_nil, List.replicate, if_true, if_false, Bool.false_eq_true, Nat.reduceAdd, Nat.reduceSub, decide_eq_true_eq, eq_self, decide_true, Bool.not_true, Bool.not_false, Int.reduceEq, Int.reduceLT, Int.reduceLE, decide_false, pow18, big]) ?_ (fun r ⟨l, _, h⟩ => ⟨_, h⟩)
      refine stepE_count (P := fun R => ∃ l, Dig base n l ∧ R = .ok (.rt (.own (nsD l)))) (fun (k : Nat) => D.int (k : Int)) (fun m e => ∃ rest l k, Dig base m l ∧ e = [some (.val (.int c)), some (.val (.int base)), some (.val (.int (n : Int))), some (.val (.int rest)), some (.own (nsD l)), k]) (List.range n)
        (e1 := [some (.val (.int c)), some (.val (.int base)), some (.val (.int (n : Int))), some (.val (.int rest)), some (.own (nsD [])), none]) (i_rngN (q := [.d (.int (n : Int))]) (by simp only [es_nil, es_cons, es_asgN, es_asgT, es_par, es_if, es_for, es_ret, es_retN, o_prim, o_call, o_var, o_con, o_glob, o_isi, o_and, o_or, o_not, o_ite, o_chain, e_var, e_rd, e_int, e_bl, e_non, e_str, e_glob, e_prim, e_isi, e_call, e_and, e_or, e_not, e_ite, ea_nil, ea_rd, ea_var, ea_con, ea_glob, ea_prim, ea_isi, ea_call, ea_and, ea_or, ea_not, ea_ite, ea_chain, ea_slc, ea_comp, ea_compif, r_var, r_prim, r_con, r_glob, r_call, r_isi, r_and, r_or, r_not, r_ite, r_chain, r_comp, r_compif, r_slc, ld_nil, ld_val, ld_own, ld_bor, ld_none, wp_nil, wp_c, tg_nm, tg_tup, tg_nil, tg_c, e_chain, es_cont, es_brk, es_pass, p_min2, p_max2, p_l0, p_l1, p_l2, p_l3, p_l4, p_is0, p_not0, n_non, n_tup, i_seq, q_lst, q_tup, q_ro, y_tt, y_tn, y_ii, y_bi, y_bb, y_lv, y_lb, oO_some, slotR, l_0, l_s, v_0, v_s, R.bind_ok, R.bind_bad, pd_nil, pd_c, sl_d, sl_s, okD_d, okD_l, okS_d, okS_l, rf_val, rf_own, fz_val, fz_own, tr_bl, t_bl, t_int, p_add, p_sub, p_neg, p_eq, p_ne, p_lt, p_le, p_gt, p_ge, p_abs, p_int, p_gcd, p_i0, p_i1, p_i2, p_i3, p_len2, p_len3, p_len4, p_t3, p_t4, p_t2, List.map, List.cons_append, List.nil_append, List.append_nil, List.length_cons, List.length_nil, List.replicate, if_true, if_false, Bool.false_eq_true, Nat.reduceAdd, Nat.reduceSub, decide_eq_true_eq, eq_self, decide_true, Bool.not_true, Bool.not_false, Int.reduceEq, Int.reduceLT, Int.reduceLE, decide_false]) rfl (by omega)) ?_ ⟨rest, [], none, ⟨rfl, fun x hx => by simp at hx⟩, rfl⟩ ?_
      · rintro i x hx e ⟨rest, l, kk, hl, rfl⟩
        obtain ⟨rfl, hi⟩ := range_at hx
        have ll : (nsD l).length < lim := by rw [List.length_map, hl.len]; simp [lim]; omega
        have d0 := Int.fmod_nonneg_of_pos rest hb
        have d1 := Int.fmod_lt_of_pos rest hb
        refine ⟨_, [some (.val (.int c)), some (.val (.int base)), some (.val (.int (n : Int))), some (.val (.int (rest.fdiv base))), some (.own (nsD l ++ [.int (rest.fmod base)])), some (.val (.int (x : Int)))], rfl, .inl ?_, _, _, _, hl.snoc d0 d1, by rw [nsD_snoc l d0]⟩
        refine step (es_app_of (ds := nsD l) (ds2 := nsD l) (d := .int (rest.fmod base)) (e2 := [some (.val (.int c)), some (.val (.int base)), some (.val (.int (n : Int))), some (.val (.int rest)), some (.own (nsD l)), some (.val (.int (x : Int)))]) rfl (by simp only [es_nil, es_cons, es_asgN, es_asgT, es_par, es_if, es_for, es_ret, es_retN, o_prim, o_call, o_var, o_con, o_glob, o_isi, o_and, o_or, o_not, o_ite, o_chain, e_var, e_rd, e_int, e_bl, e_non, e_str, e_glob, e_prim, e_isi, e_call, e_and, e_or, e_not, e_ite, ea_nil, ea_rd, ea_var, ea_con, ea_glob, ea_prim, ea_isi, ea_call, ea_and, ea_or, ea_not, ea_ite, ea_chain, ea_slc, ea_comp, ea_compif, r_var, r_prim, r_con, r_glob, r_call, r_isi, r_and, r_or, r_not, r_ite, r_chain, r_comp, r_compif, r_slc, ld_nil, ld_val, ld_own, ld_bor, ld_none, wp_nil, wp_c, tg_nm, tg_tup, tg_nil, tg_c, e_chain, es_cont, es_brk, es_pass, p_min2, p_max2, p_l0, p_l1, p_l2, p_l3, p_l4, p_is0, p_not0, n_non, n_tup, i_seq, q_lst, q_tup, q_ro, y_tt, y_tn, y_ii, y_bi, y_bb, y_lv, y_lb, oO_some, slotR, l_0, l_s, v_0, v_s, R.bind_ok, R.bind_bad, pd_nil, pd_c, sl_d, sl_s, okD_d, okD_l, okS_d, okS_l, rf_val, rf_own, fz_val, fz_own, tr_bl, t_bl, t_int, p_add, p_sub, p_neg, p_eq, p_ne, p_lt, p_le, p_gt, p_ge, p_abs, p_int, p_gcd, p_i0, p_i1, p_i2, p_i3, p_len2, p_len3, p_len4, p_t3, p_t4, p_t2, List.map, List.cons_append, List.nil_append, List.append_nil, List.length_cons, List.length_nil, List.replicate, if_true, if_false, Bool.false_eq_true, Nat.reduceAdd, Nat.reduceSub, decide_eq_true_eq, eq_self, decide_true, Bool.not_true, Bool.not_false, Int.reduceEq, Int.reduceLT, Int.reduceLE, decide_false, p_mod _ _ hb0]) rfl ll) ?_
        simp only [es_nil, es_cons, es_asgN, es_asgT, es_par, es_if, es_for, es_ret, es_retN, o_prim, o_call, o_var, o_con, o_glob, o_isi, o_and, o_or, o_not, o_ite, o_chain, e_var, e_rd, e_int, e_bl, e_non, e_str, e_glob, e_prim, e_isi, e_call, e_and, e_or, e_not, e_ite, ea_nil, ea_rd, ea_var, ea_con, ea_glob, ea_prim, ea_isi, ea_call, ea_and, ea_or, ea_not, ea_ite, ea_chain, ea_slc, ea_comp, ea_compif, r_var, r_prim, r_con, r_glob, r_call, r_isi, r_and, r_or, r_not, r_ite, r_chain, r_comp, r_compif, r_slc, ld_nil, ld_val, ld_own, ld_bor, ld_none, wp_nil, wp_c, tg_nm, tg_tup, tg_nil, tg_c, e_chain, es_cont, es_brk, es_pass, p_min2, p_max2, p_l0, p_l1, p_l2, p_l3, p_l4, p_is0, p_not0, n_non, n_tup, i_seq, q_lst, q_tup, q_ro, y_tt, y_tn, y_ii, y_bi, y_bb, y_lv, y_lb, oO_some, slotR, l_0, l_s, v_0, v_s, R.bind_ok, R.bind_bad, pd_nil, pd_c, sl_d, sl_s, okD_d, okD_l, okS_d, okS_l, rf_val, rf_own, fz_val, fz_own, tr_bl, t_bl, t_int, p_add, p_sub, p_neg, p_eq, p_ne, p_lt, p_le, p_gt, p_ge, p_abs, p_int, p_gcd, p_i0, p_i1, p_i2, p_i3, p_len2, p_len3, p_len4, p_t3, p_t4, p_t2, List.map, List.cons_append, List.nil_append, List.append_nil, List.length_cons, List.length_nil, List.replicate, if_true, if_false, Bool.false_eq_true, Nat.reduceAdd, Nat.reduceSub, decide_eq_true_eq, eq_self, decide_true, Bool.not_true, Bool.not_false, Int.reduceEq, Int.reduceLT, Int.reduceLE, decide_false, p_fdiv _ _ hb0]
      · rintro e ⟨rest, l, k, hl, rfl⟩
        rw [List.length_range] at hl
        exact ⟨l, hl, by simp only [es_nil, es_cons, es_asgN, es_asgT, es_par, es_if, es_for, es_ret, es_retN, o_prim, o_call, o_var, o_con, o_glob, o_isi, o_and, o_or, o_not, o_ite, o_chain, e_var, e_rd, e_int, e_bl, e_non, e_str, e_glob, e_prim, e_isi, e_call, e_and, e_or, e_not, e_ite, ea_nil, ea_rd, ea_var, ea_con, ea_glob, ea_prim, ea_isi, ea_call, ea_and, ea_or, ea_not, ea_ite, ea_chain, ea_slc, ea_comp, ea_compif, r_var, r_prim, r_con, r_glob, r_call, r_isi, r_and, r_or, r_not, r_ite, r_chain, r_comp, r_compif, r_slc, ld_nil, ld_val, ld_own, ld_bor, ld_none, wp_nil, wp_c, tg_nm, tg_tup, tg_nil, tg_c, e_chain, es_cont, es_brk, es_pass, p_min2, p_max2, p_l0, p_l1, p_l2, p_l3, p_l4, p_is0, p_not0, n_non, n_tup, i_seq, q_lst, q_tup, q_ro, y_tt, y_tn, y_ii, y_bi, y_bb, y_lv, y_lb, oO_some, slotR, l_0, l_s, v_0, v_s, R.bind_ok, R.bind_bad, pd_nil, pd_c, sl_d, sl_s, okD_d, okD_l, okS_d, okS_l, rf_val, rf_own, fz_val, fz_own, tr_bl, t_bl, t_int, p_add, p_sub, p_neg, p_eq, p_ne, p_lt, p_le, p_gt, p_ge, p_abs, p_int, p_gcd, p_i0, p_i1, p_i2, p_i3, p_len2, p_len3, p_len4, p_t3, p_t4, p_t2, List.map, List.cons_append, List.nil_append, List.append_nil, List.length_cons, List.length_nil, List.replicate, if_true, if_false, Bool.false_eq_true, Nat.reduceAdd, Nat.reduceSub, decide_eq_true_eq, eq_self, decide_true, Bool.not_true, Bool.not_false, Int.reduceEq, Int.reduceLT, Int.reduceLE, decide_false]⟩
    · refine stepE_iff (P := fun R => ∃ l, Dig base n l ∧ R = .ok (.rt (.own (nsD l)))) (e2 := [some (.val (.int c)), some (.val (.int base)), some (.val (.int (n : Int))), some (.val (.int rest)), some (.own []), none]) (by simp only [es_nil, es_cons, es_asgN, es_asgT, es_par, es_if, es_for, es_ret, es_retN, o_prim, o_call, o_var, o_con, o_glob, o_isi, o_and, o_or, o_not, o_ite, o_chain, e_var, e_rd, e_int, e_bl, e_non, e_str, e_glob, e_prim, e_isi, e_call, e_and, e_or, e_not, e_ite, ea_nil, ea_rd, ea_var, ea_con, ea_glob, ea_prim, ea_isi, ea_call, ea_and, ea_or, ea_not, ea_ite, ea_chain, ea_slc, ea_comp, ea_compif, r_var, r_prim, r_con, r_glob, r_call, r_isi, r_and, r_or, r_not, r_ite, r_chain, r_comp, r_compif, r_slc, ld_nil, ld_val, ld_own, ld_bor, ld_none, wp_nil, wp_c, tg_nm, tg_tup, tg_nil, tg_c, e_chain, es_cont, es_brk, es_pass, p_min2, p_max2, p_l0, p_l1, p_l2, p_l3, p_l4, p_is0, p_not0, n_non, n_tup, i_seq, q_lst, q_tup, q_ro, y_tt, y_tn, y_ii, y_bi, y_bb, y_lv, y_lb, oO_some, slotR, l_0, l_s, v_0, v_s, R.bind_ok, R.bind_bad, pd_nil, pd_c, sl_d, sl_s, okD_d, okD_l, okS_d, okS_l, rf_val, rf_own, fz_val, fz_own, tr_bl, t_bl, t_int, p_add, p_sub, p_neg, p_eq, p_ne, p_lt, p_le, p_gt, p_ge, p_abs, p_int, p_gcd, p_i0, p_i1, p_i2, p_i3, p_len2, p_len3, p_len4, p_t3, p_t4, p_t2, List.map, List.cons_append, List.nil_append, List.append_nil, List.length_cons, List.length_nil, List.replicate, if_true, if_false, Bool.false_eq_true, Nat.reduceAdd, Nat.reduceSub, decide_eq_true_eq, eq_self, decide_true, Bool.not_true, Bool.not_false, Int.reduceEq, Int.reduceLT, Int.reduceLE, decide_false, pow18, big]) ?_
      refine stepE_count (P := fun R => ∃ l, Dig base n l ∧ R = .ok (.rt (.own (nsD l)))) (fun (k : Nat) => D.int (k : Int)) (fun m e => ∃ rest l k, Dig base m l ∧ e = [some (.val (.int c)), some (.val (.int base)), some (.val (.int (n : Int))), some (.val (.int rest)), some (.own (nsD l)), k]) (List.range n)
        (e1 := [some (.val (.int c)), some (.val (.int base)), some (.val (.int (n : Int))), some (.val (.int rest)), some (.own (nsD [])), none]) (i_rngN (q := [.d (.int (n : Int))]) (by simp only [es_nil, es_cons, es_asgN, es_asgT, es_par, es_if, es_for, es_ret, es_retN, o_prim, o_call, o_var, o_con, o_glob, o_isi, o_and, o_or, o_not, o_ite, o_chain, e_var, e_rd, e_int, e_bl, e_non, e_str, e_glob, e_prim, e_isi, e_call, e_and, e_or, e_not, e_ite, ea_nil, ea_rd, ea_var, ea_con, ea_glob, ea_prim, ea_isi, ea_call, ea_and, ea_or, ea_not, ea_ite, ea_chain, ea_slc, ea_comp, ea_compif, r_var, r_prim, r_con, r_glob, r_call, r_isi, r_and, r_or, r_not, r_ite, r_chain, r_comp, r_compif, r_slc, ld_nil, ld_val, ld_own, ld_bor, ld_none, wp_nil, wp_c, tg_nm, tg_tup, tg_nil, tg_c, e_chain, es_cont, es_brk, es_pass, p_min2, p_max2, p_l0, p_l1, p_l2, p_l3, p_l4, p_is0, p_not0, n_non, n_tup, i_seq, q_lst, q_tup, q_ro, y_tt, y_tn, y_ii, y_bi, y_bb, y_lv, y_lb, oO_some, slotR, l_0, l_s, v_0, v_s, R.bind_ok, R.bind_bad, pd_nil, pd_c, sl_d, sl_s, okD_d, okD_l, okS_d, okS_l, rf_val, rf_own, fz_val, fz_own, tr_bl, t_bl, t_int, p_add, p_sub, p_neg, p_eq, p_ne, p_lt, p_le, p_gt, p_ge, p_abs, p_int, p_gcd, p_i0, p_i1, p_i2, p_i3, p_len2, p_len3, p_len4, p_t3, p_t4, p_t2, List.map, List.cons_append, List.nil_append, List.append_nil, List.length_cons, List.length_nil, List.replicate, if_true, if_false, Bool.false_eq_true, Nat.reduceAdd, Nat.reduceSub, decide_eq_true_eq, eq_self, decide_true, Bool.not_true, Bool.not_false, Int.reduceEq, Int.reduceLT, Int.reduceLE, decide_false]) rfl (by omega)) ?_ ⟨rest, [], none, ⟨rfl, fun x hx => by simp at hx⟩, rfl⟩ ?_
      · rintro i x hx e ⟨rest, l, kk, hl, rfl⟩
        obtain ⟨rfl, hi⟩ := range_at hx
        have ll : (nsD l).length < lim := by rw [List.length_map, hl.len]; simp [lim]; omega
        have m1 : mulOk rest 48271 = true := mulOk_r (by decide)
        have m2 : mulOk (x : Int) 69621 = true := mulOk_r (by decide)
        have m3 : ∀ z : Int, mulOk z 16807 = true := fun z => mulOk_r (by decide)
        have m4 : mulOk 2 (x : Int) = true := mulOk_l (by decide)
        generalize h1 : (rest * 48271 + (x : Int) * 69621 + 17).fmod 2147483647 = r1
        have p1 := p_mod (rest * 48271 + (x : Int) * 69621 + 17) 2147483647 (by decide)
        rw [h1] at p1
        generalize h2 : (r1 * 16807 + 2 * (x : Int) + 5).fmod 2147483629 = r2
        have p2 := p_mod (r1 * 16807 + 2 * (x : Int) + 5) 2147483629 (by decide)
        rw [h2] at p2
        have p3 := p_fdiv r2 64 (by decide)
        have d0 := Int.fmod_nonneg_of_pos (r2.fdiv 64) hb
        have d1 := Int.fmod_lt_of_pos (r2.fdiv 64) hb
        refine ⟨_, [some (.val (.int c)), some (.val (.int base)), some (.val (.int (n : Int))), some (.val (.int r2)), some (.own (nsD l ++ [.int ((r2.fdiv 64).fmod base)])), some (.val (.int (x : Int)))], rfl, .inl ?_, _, _, _, hl.snoc d0 d1, by rw [nsD_snoc l d0]⟩
        refine step (e2 := [some (.val (.int c)), some (.val (.int base)), some (.val (.int (n : Int))), some (.val (.int r1)), some (.own (nsD l)), some (.val (.int (x : Int)))]) (by simp only [es_nil, es_cons, es_asgN, es_asgT, es_par, es_if, es_for, es_ret, es_retN, o_prim, o_call, o_var, o_con, o_glob, o_isi, o_and, o_or, o_not, o_ite, o_chain, e_var, e_rd, e_int, e_bl, e_non, e_str, e_glob, e_prim, e_isi, e_call, e_and, e_or, e_not, e_ite, ea_nil, ea_rd, ea_var, ea_con, ea_glob, ea_prim, ea_isi, ea_call, ea_and, ea_or, ea_not, ea_ite, ea_chain, ea_slc, ea_comp, ea_compif, r_var, r_prim, r_con, r_glob, r_call, r_isi, r_and, r_or, r_not, r_ite, r_chain, r_comp, r_compif, r_slc, ld_nil, ld_val, ld_own, ld_bor, ld_none, wp_nil, wp_c, tg_nm, tg_tup, tg_nil, tg_c, e_chain, es_cont, es_brk, es_pass, p_min2, p_max2, p_l0, p_l1, p_l2, p_l3, p_l4, p_is0, p_not0, n_non, n_tup, i_seq, q_lst, q_tup, q_ro, y_tt, y_tn, y_ii, y_bi, y_bb, y_lv, y_lb, oO_some, slotR, l_0, l_s, v_0, v_s, R.bind_ok, R.bind_bad, pd_nil, pd_c, sl_d, sl_s, okD_d, okD_l, okS_d, okS_l, rf_val, rf_own, fz_val, fz_own, tr_bl, t_bl, t_int, p_add, p_sub, p_neg, p_eq, p_ne, p_lt, p_le, p_gt, p_ge, p_abs, p_int, p_gcd, p_i0, p_i1, p_i2, p_i3, p_len2, p_len3, p_len4, p_t3, p_t4, p_t2, List.map, List.cons_append, List.nil_append, List.append_nil, List.length_cons, List.length_nil, List.replicate, if_true, if_false, Bool.false_eq_true, Nat.reduceAdd, Nat.reduceSub, decide_eq_true_eq, eq_self, decide_true, Bool.not_true, Bool.not_false, Int.reduceEq, Int.reduceLT, Int.reduceLE, decide_false, p_mul _ _ m1, p_mul _ _ m2, p1]) ?_
        refine step (e2 := [some (.val (.int c)), some (.val (.int base)), some (.val (.int (n : Int))), some (.val (.int r2)), some (.own (nsD l)), some (.val (.int (x : Int)))]) (by simp only [es_nil, es_cons, es_asgN, es_asgT, es_par, es_if, es_for, es_ret, es_retN, o_prim, o_call, o_var, o_con, o_glob, o_isi, o_and, o_or, o_not, o_ite, o_chain, e_var, e_rd, e_int, e_bl, e_non, e_str, e_glob, e_prim, e_isi, e_call, e_and, e_or, e_not, e_ite, ea_nil, ea_rd, ea_var, ea_con, ea_glob, ea_prim, ea_isi, ea_call, ea_and, ea_or, ea_not, ea_ite, ea_chain, ea_slc, ea_comp, ea_compif, r_var, r_prim, r_con, r_glob, r_call, r_isi, r_and, r_or, r_not, r_ite, r_chain, r_comp, r_compif, r_slc, ld_nil, ld_val, ld_own, ld_bor, ld_none, wp_nil, wp_c, tg_nm, tg_tup, tg_nil, tg_c, e_chain, es_cont, es_brk, es_pass, p_min2, p_max2, p_l0, p_l1, p_l2, p_l3, p_l4, p_is0, p_not0, n_non, n_tup, i_seq, q_lst, q_tup, q_ro, y_tt, y_tn, y_ii, y_bi, y_bb, y_lv, y_lb, oO_some, slotR, l_0, l_s, v_0, v_s, R.bind_ok, R.bind_bad, pd_nil, pd_c, sl_d, sl_s, okD_d, okD_l, okS_d, okS_l, rf_val, rf_own, fz_val, fz_own, tr_bl, t_bl, t_int, p_add, p_sub, p_neg, p_eq, p_ne, p_lt, p_le, p_gt, p_ge, p_abs, p_int, p_gcd, p_i0, p_i1, p_i2, p_i3, p_len2, p_len3, p_len4, p_t3, p_t4, p_t2, List.map, List.cons_append, List.nil_append, List.append_nil, List.length_cons, List.length_nil, List.replicate, if_true, if_false, Bool.false_eq_true, Nat.reduceAdd, Nat.reduceSub, decide_eq_true_eq, eq_self, decide_true, Bool.not_true, Bool.not_false, Int.reduceEq, Int.reduceLT, Int.reduceLE, decide_false, p_mul _ _ (m3 r1), p_mul _ _ m4, p2]) ?_
        refine step (es_app_of (ds := nsD l) (ds2 := nsD l) (d := .int ((r2.fdiv 64).fmod base)) (e2 := [some (.val (.int c)), some (.val (.int base)), some (.val (.int (n : Int))), some (.val (.int r2)), some (.own (nsD l)), some (.val (.int (x : Int)))]) rfl (by simp only [es_nil, es_cons, es_asgN, es_asgT, es_par, es_if, es_for, es_ret, es_retN, o_prim, o_call, o_var, o_con, o_glob, o_isi, o_and, o_or, o_not, o_ite, o_chain, e_var, e_rd, e_int, e_bl, e_non, e_str, e_glob, e_prim, e_isi, e_call, e_and, e_or, e_not, e_ite, ea_nil, ea_rd, ea_var, ea_con, ea_glob, ea_prim, ea_isi, ea_call, ea_and, ea_or, ea_not, ea_ite, ea_chain, ea_slc, ea_comp, ea_compif, r_var, r_prim, r_con, r_glob, r_call, r_isi, r_and, r_or, r_not, r_ite, r_chain, r_comp, r_compif, r_slc, ld_nil, ld_val, ld_own, ld_bor, ld_none, wp_nil, wp_c, tg_nm, tg_tup, tg_nil, tg_c, e_chain, es_cont, es_brk, es_pass, p_min2, p_max2, p_l0, p_l1, p_l2, p_l3, p_l4, p_is0, p_not0, n_non, n_tup, i_seq, q_lst, q_tup, q_ro, y_tt, y_tn, y_ii, y_bi, y_bb, y_lv, y_lb, oO_some, slotR, l_0, l_s, v_0, v_s, R.bind_ok, R.bind_bad, pd_nil, pd_c, sl_d, sl_s, okD_d, okD_l, okS_d, okS_l, rf_val, rf_own, fz_val, fz_own, tr_bl, t_bl, t_int, p_add, p_sub, p_neg, p_eq, p_ne, p_lt, p_le, p_gt, p_ge, p_abs, p_int, p_gcd, p_i0, p_i1, p_i2, p_i3, p_len2, p_len3, p_len4, p_t3, p_t4, p_t2, List.map, List.cons_append, List.nil_append, List.append_nil, List.length_cons, List.length_nil, List.replicate, if_true, if_false, Bool.false_eq_true, Nat.reduceAdd, Nat.reduceSub, decide_eq_true_eq, eq_self, decide_true, Bool.not_true, Bool.not_false, Int.reduceEq, Int.reduceLT, Int.reduceLE, decide_false, p3, p_mod _ _ hb0]) rfl ll) ?_
        simp only [es_nil, es_cons, es_asgN, es_asgT, es_par, es_if, es_for, es_ret, es_retN, o_prim, o_call, o_var, o_con, o_glob, o_isi, o_and, o_or, o_not, o_ite, o_chain, e_var, e_rd, e_int, e_bl, e_non, e_str, e_glob, e_prim, e_isi, e_call, e_and, e_or, e_not, e_ite, ea_nil, ea_rd, ea_var, ea_con, ea_glob, ea_prim, ea_isi, ea_call, ea_and, ea_or, ea_not, ea_ite, ea_chain, ea_slc, ea_comp, ea_compif, r_var, r_prim, r_con, r_glob, r_call, r_isi, r_and, r_or, r_not, r_ite, r_chain, r_comp, r_compif, r_slc, ld_nil, ld_val, ld_own, ld_bor, ld_none, wp_nil, wp_c, tg_nm, tg_tup, tg_nil, tg_c, e_chain, es_cont, es_brk, es_pass, p_min2, p_max2, p_l0, p_l1, p_l2, p_l3, p_l4, p_is0, p_not0, n_non, n_tup, i_seq, q_lst, q_tup, q_ro, y_tt, y_tn, y_ii, y_bi, y_bb, y_lv, y_lb, oO_some, slotR, l_0, l_s, v_0, v_s, R.bind_ok, R.bind_bad, pd_nil, pd_c, sl_d, sl_s, okD_d, okD_l, okS_d, okS_l, rf_val, rf_own, fz_val, fz_own, tr_bl, t_bl, t_int, p_add, p_sub, p_neg, p_eq, p_ne, p_lt, p_le, p_gt, p_ge, p_abs, p_int, p_gcd, p_i0, p_i1, p_i2, p_i3, p_len2, p_len3, p_len4, p_t3, p_t4, p_t2, List.map, List.cons_append, List.nil_append, List.append_nil, List.length_cons, List.length_nil, List.replicate, if_true, if_false, Bool.false_eq_true, Nat.reduceAdd, Nat.reduceSub, decide_eq_true_eq, eq_self, decide_true, Bool.not_true, Bool.not_false, Int.reduceEq, Int.reduceLT, Int.reduceLE, decide_false]
      · rintro e ⟨rest, l, k, hl, rfl⟩
        rw [List.length_range] at hl
        exact ⟨l, hl, by simp only [es_nil, es_cons, es_asgN, es_asgT, es_par, es_if, es_for, es_ret, es_retN, o_prim, o_call, o_var, o_con, o_glob, o_isi, o_and, o_or, o_not, o_ite, o_chain, e_var, e_rd, e_int, e_bl, e_non, e_str, e_glob, e_prim, e_isi, e_call, e_and, e_or, e_not, e_ite, ea_nil, ea_rd, ea_var, ea_con, ea_glob, ea_prim, ea_isi, ea_call, ea_and, ea_or, ea_not, ea_ite, ea_chain, ea_slc, ea_comp, ea_compif, r_var, r_prim, r_con, r_glob, r_call, r_isi, r_and, r_or, r_not, r_ite, r_chain, r_comp, r_compif, r_slc, ld_nil, ld_val, ld_own, ld_bor, ld_none, wp_nil, wp_c, tg_nm, tg_tup, tg_nil, tg_c, e_chain, es_cont, es_brk, es_pass, p_min2, p_max2, p_l0, p_l1, p_l2, p_l3, p_l4, p_is0, p_not0, n_non, n_tup, i_seq, q_lst, q_tup, q_ro, y_tt, y_tn, y_ii, y_bi, y_bb, y_lv, y_lb, oO_some, slotR, l_0, l_s, v_0, v_s, R.bind_ok, R.bind_bad, pd_nil, pd_c, sl_d, sl_s, okD_d, okD_l, okS_d, okS_l, rf_val, rf_own, fz_val, fz_own, tr_bl, t_bl, t_int, p_add, p_sub, p_neg, p_eq, p_ne, p_lt, p_le, p_gt, p_ge, p_abs, p_int, p_gcd, p_i0, p_i1, p_i2, p_i3, p_len2, p_len3, p_len4, p_t3, p_t4, p_t2, List.map, List.cons_append, List.nil_append, List.append_nil, List.length_cons, List.length_nil, List.replicate, if_true, if_false, Bool.false_eq_true, Nat.reduceAdd, Nat.reduceSub, decide_eq_true_eq, eq_self, decide_true, Bool.not_true, Bool.not_false, Int.reduceEq, Int.reduceLT, Int.reduceLE, decide_false]⟩
  obtain ⟨l, hl, q⟩ := run
  exact ⟨l, hl, den_own rfl q⟩
end K88
set_option Elab.async false
set_option linter.all false
set_option maxRecDepth 100000
namespace K88
open PySem Ev
abbrev T29 : Int := 100000000000000000000000000000
theorem low_lt {x y d : Int} (h : 0 < d) : (low x d).1 * (low y d).2 < (low y d).1 * (low x d).2 ↔ x < y := by
  have c1 := low_cross (n := x) h
  have c2 := low_cross (n := y) h
  have p1 := low_pos (n := x) h
  have p2 := low_pos (n := y) h
  generalize low x d = u at *
  generalize low y d = v at *
  have pp : 0 < u.2 * v.2 := Int.mul_pos p1 p2
  have e1 : u.1 * v.2 * d = x * (u.2 * v.2) := by
    calc u.1 * v.2 * d = (u.1 * d) * v.2 := by grind
      _ = x * u.2 * v.2 := by rw [c1]
      _ = x * (u.2 * v.2) := by grind
  have e2 : v.1 * u.2 * d = y * (u.2 * v.2) := by
    calc v.1 * u.2 * d = (v.1 * d) * u.2 := by grind
      _ = y * v.2 * u.2 := by rw [c2]
      _ = y * (u.2 * v.2) := by grind
  constructor
  · intro q
    have := Int.mul_lt_mul_of_pos_right q h
    rw [e1, e2] at this
    exact Int.lt_of_mul_lt_mul_right this (Int.le_of_lt pp)
  · intro q
    have := Int.mul_lt_mul_of_pos_right q pp
    rw [← e1, ← e2] at this
    exact Int.lt_of_mul_lt_mul_right this (Int.le_of_lt h)
theorem sp_of {s b : Int} (hs : 0 ≤ s ∧ s < 9) (hb : 0 < b ∧ b ≤ T29) : Sp fun k => low (k - 2 * s) (2 * b) := by
  refine ⟨fun i h0 h1 => ?_, fun i j => ?_⟩
  · refine (low_Q (k := 100) (by omega) ?_ ?_).mono (by decide)
    · unfold Bd
      have : (2 : Nat) ^ 100 = 1267650600228229401496703205376 := by decide
      omega
    · unfold Bd
      have : (2 : Nat) ^ 100 = 1267650600228229401496703205376 := by decide
      have : T29 = 100000000000000000000000000000 := rfl
      omega
  · rw [low_lt (by omega)]
    omega
theorem den_spots (ns : List Int) : ∃ sp, Sp sp ∧ f__law_spots.den [.val (.ro (ns.map D.int))] = .ok (.own ((List.range 17).map fun (k : Nat) => fr (sp (k : Int)))) := by
  have c0 := den_cell (ns := ns) (i := 0) (by decide)
  have c1 := den_cell (ns := ns) (i := 1) (by decide)
  generalize cell ns 0 = z0 at c0
  generalize cell ns 1 = z1 at c1
  have q1 := p_fdiv z0 4 (by decide)
  generalize z0.fdiv 4 = y0 at q1
  have q2 := p_mod y0 T29 (by decide)
  have q3 := p_mod z0 4 (by decide)
  have q4 := p_mod y0 3 (by decide)
  have q5 := p_mod z1 9 (by decide)
  have r2 := Int.fmod_nonneg_of_pos y0 (b := T29) (by decide)
  have r2' := Int.fmod_lt_of_pos y0 (b := T29) (by decide)
  have r4 := Int.fmod_nonneg_of_pos y0 (b := 3) (by decide)
  have r4' := Int.fmod_lt_of_pos y0 (b := 3) (by decide)
  have r5 := Int.fmod_nonneg_of_pos z1 (b := 9) (by decide)
  have r5' := Int.fmod_lt_of_pos z1 (b := 9) (by decide)
  generalize y0.fmod T29 = y1 at q2 r2 r2'
  generalize z0.fmod 4 = z2 at q3
  generalize y0.fmod 3 = y3 at q4 r4 r4'
  generalize z1.fmod 9 = s at q5 r5 r5'
  have fin : ∀ b : Int, 0 < b ∧ b ≤ T29 → evSs (.cons (.asg (.nm 2 "shift") (.prim .mod (.cons (.prim .int (.cons (.call "_law_cell" f__law_cell.den [] (.cons (.var 0 "script") (.cons (.con (.int 1)) .nil))) .nil)) (.cons (.con (.int 9)) .nil))))
  (.cons (.ret (.comp [("k", 3)] (.nm 3 "k") (.rng (.cons (.con (.int 17)) .nil)) (.call "_law_lowest" f__law_lowest.den [] (.cons (.prim .sub (.cons (.rd 3 "k") (.cons (.prim .mul (.cons (.con (.int 2)) (.cons (.var 2 "shift") .nil))) .nil))) (.cons (.prim .mul (.cons (.con (.int 2)) (.cons (.var 1 "bottom") .nil))) .nil)))))
  .nil)) [some (.val (.ro (ns.map D.int))), some (.val (.int b)), none, none] = .ok (.rt (.own ((List.range 17).map fun (k : Nat) => fr (low ((k : Int) - 2 * s) (2 * b))))) := by
    intro b hb
    refine step (e2 := [some (.val (.ro (ns.map D.int))), some (.val (.int b)), some (.val (.int s)), none]) (by simp only [es_nil, es_cons, es_asgN, es_asgT, es_par, es_if, es_for, es_ret, es_retN, o_prim, o_call, o_var, o_con, o_glob, o_isi, o_and, o_or, o_not, o_ite, o_chain, e_var, e_rd, e_int, e_bl, e_non, e_str, e_glob, e_prim, e_isi, e_call, e_and, e_or, e_not, e_ite, ea_nil, ea_rd, ea_var, ea_con, ea_glob, ea_prim, ea_isi, ea_call, ea_and, ea_or, ea_not, ea_ite, ea_chain, ea_slc, ea_comp, ea_compif, r_var, r_prim, r_con, r_glob, r_call, r_isi, r_and, r_or, r_not, r_ite, r_chain, r_comp, r_compif, r_slc, ld_nil, ld_val, ld_own, ld_bor, ld_none, wp_nil, wp_c, tg_nm, tg_tup, tg_nil, tg_c, e_chain, es_cont, es_brk, es_pass, p_min2, p_max2, p_l0, p_l1, p_l2, p_l3, p_l4, p_is0, p_not0, n_non, n_tup, i_seq, q_lst, q_tup, q_ro, y_tt, y_tn, y_ii, y_bi, y_bb, y_lv, y_lb, oO_some, slotR, l_0, l_s, v_0, v_s, R.bind_ok, R.bind_bad, pd_nil, pd_c, sl_d, sl_s, okD_d, okD_l, okS_d, okS_l, rf_val, rf_own, fz_val, fz_own, tr_bl, t_bl, t_int, p_add, p_sub, p_neg, p_eq, p_ne, p_lt, p_le, p_gt, p_ge, p_abs, p_int, p_gcd, p_i0, p_i1, p_i2, p_i3, p_len2, p_len3, p_len4, p_t3, p_t4, p_t2, List.map, List.cons_append, List.nil_append, List.append_nil, List.length_cons, List.length_nil, List.replicate, if_true, if_false, Bool.false_eq_true, Nat.reduceAdd, Nat.reduceSub, decide_eq_true_eq, eq_self, decide_true, Bool.not_true, Bool.not_false, Int.reduceEq, Int.reduceLT, Int.reduceLE, decide_false, c1, q5]) ?_
    refine step_rt ?_
    rw [es_ret, r_comp, (comp_of (List.range 17) (fun (k : Nat) => D.int (k : Int)) (fun (k : Nat) => fr (low ((k : Int) - 2 * s) (2 * b))) (rng17 _) (fun k hk => ?_) (by decide)).1]
    · rfl
    · have hk' := List.mem_range.mp hk
      have m1 : mulOk 2 s = true := mulOk_l (by decide)
      have m2 : mulOk 2 b = true := mulOk_l (by decide)
      have lw := den_lowest (k := 100) (n := (k : Int) - 2 * s) (d := 2 * b) (by omega) (by
        unfold Bd
        have : (2 : Nat) ^ 100 = 1267650600228229401496703205376 := by decide
        omega) (by
        unfold Bd
        have : (2 : Nat) ^ 100 = 1267650600228229401496703205376 := by decide
        have : T29 = 100000000000000000000000000000 := rfl
        omega) (by decide)
      refine ⟨[some (.val (.ro (ns.map D.int))), some (.val (.int b)), some (.val (.int s)), some (.val (.int (k : Int)))], [some (.val (.ro (ns.map D.int))), some (.val (.int b)), some (.val (.int s)), some (.val (.int (k : Int)))], rfl, ?_⟩
      simp only [es_nil, es_cons, es_asgN, es_asgT, es_par, es_if, es_for, es_ret, es_retN, o_prim, o_call, o_var, o_con, o_glob, o_isi, o_and, o_or, o_not, o_ite, o_chain, e_var, e_rd, e_int, e_bl, e_non, e_str, e_glob, e_prim, e_isi, e_call, e_and, e_or, e_not, e_ite, ea_nil, ea_rd, ea_var, ea_con, ea_glob, ea_prim, ea_isi, ea_call, ea_and, ea_or, ea_not, ea_ite, ea_chain, ea_slc, ea_comp, ea_compif, r_var, r_prim, r_con, r_glob, r_call, r_isi, r_and, r_or, r_not, r_ite, r_chain, r_comp, r_compif, r_slc, ld_nil, ld_val, ld_own, ld_bor, ld_none, wp_nil, wp_c, tg_nm, tg_tup, tg_nil, tg_c, e_chain, es_cont, es_brk, es_pass, p_min2, p_max2, p_l0, p_l1, p_l2, p_l3, p_l4, p_is0, p_not0, n_non, n_tup, i_seq, q_lst, q_tup, q_ro, y_tt, y_tn, y_ii, y_bi, y_bb, y_lv, y_lb, oO_some, slotR, l_0, l_s, v_0, v_s, R.bind_ok, R.bind_bad, pd_nil, pd_c, sl_d, sl_s, okD_d, okD_l, okS_d, okS_l, rf_val, rf_own, fz_val, fz_own, tr_bl, t_bl, t_int, p_add, p_sub, p_neg, p_eq, p_ne, p_lt, p_le, p_gt, p_ge, p_abs, p_int, p_gcd, p_i0, p_i1, p_i2, p_i3, p_len2, p_len3, p_len4, p_t3, p_t4, p_t2, List.map, List.cons_append, List.nil_append, List.append_nil, List.length_cons, List.length_nil, List.replicate, if_true, if_false, Bool.false_eq_true, Nat.reduceAdd, Nat.reduceSub, decide_eq_true_eq, eq_self, decide_true, Bool.not_true, Bool.not_false, Int.reduceEq, Int.reduceLT, Int.reduceLE, decide_false, p_mul _ _ m1, p_mul _ _ m2, lw]
  have hT : T29 = 100000000000000000000000000000 := rfl
  have s1 : evS (.asg (.nm 1 "bottom") (.prim .add (.cons (.con (.int 1)) (.cons (.prim .mod (.cons (.prim .int (.cons (.prim .fdiv (.cons (.call "_law_cell" f__law_cell.den [] (.cons (.var 0 "script") (.cons (.con (.int 0)) .nil))) (.cons (.con (.int 4)) .nil))) .nil)) (.cons (.prim .pow (.cons (.con (.int 10)) (.cons (.con (.int 29)) .nil))) .nil))) .nil))))
      [some (.val (.ro (ns.map D.int))), none, none, none] = .ok (.nx [some (.val (.ro (ns.map D.int))), some (.val (.int (1 + y1))), none, none]) := by simp only [es_nil, es_cons, es_asgN, es_asgT, es_par, es_if, es_for, es_ret, es_retN, o_prim, o_call, o_var, o_con, o_glob, o_isi, o_and, o_or, o_not, o_ite, o_chain, e_var, e_rd, e_int, e_bl, e_non, e_str, e_glob, e_prim, e_isi, e_call, e_and, e_or, e_not, e_ite, ea_nil, ea_rd, ea_var, ea_con, ea_glob, ea_prim, ea_isi, ea_call, ea_and, ea_or, ea_not, ea_ite, ea_chain, ea_slc, ea_comp, ea_compif, r_var, r_prim, r_con, r_glob, r_call, r_isi, r_and, r_or, r_not, r_ite, r_chain, r_comp, r_compif, r_slc, ld_nil, ld_val, ld_own, ld_bor, ld_none, wp_nil, wp_c, tg_nm, tg_tup, tg_nil, tg_c, e_chain, es_cont, es_brk, es_pass, p_min2, p_max2, p_l0, p_l1, p_l2, p_l3, p_l4, p_is0, p_not0, n_non, n_tup, i_seq, q_lst, q_tup, q_ro, y_tt, y_tn, y_ii, y_bi, y_bb, y_lv, y_lb, oO_some, slotR, l_0, l_s, v_0, v_s, R.bind_ok, R.bind_bad, pd_nil, pd_c, sl_d, sl_s, okD_d, okD_l, okS_d, okS_l, rf_val, rf_own, fz_val, fz_own, tr_bl, t_bl, t_int, p_add, p_sub, p_neg, p_eq, p_ne, p_lt, p_le, p_gt, p_ge, p_abs, p_int, p_gcd, p_i0, p_i1, p_i2, p_i3, p_len2, p_len3, p_len4, p_t3, p_t4, p_t2, List.map, List.cons_append, List.nil_append, List.append_nil, List.length_cons, List.length_nil, List.replicate, if_true, if_false, Bool.false_eq_true, Nat.reduceAdd, Nat.reduceSub, decide_eq_true_eq, eq_self, decide_true, Bool.not_true, Bool.not_false, Int.reduceEq, Int.reduceLT, Int.reduceLE, decide_false, c0, q1, pow29, q2]
  by_cases c : z2 < 3
  · refine ⟨_, sp_of ⟨r5, r5'⟩ (b := 1 + y3) ⟨by omega, by omega⟩, den_own rfl ?_⟩
    unfold b__law_spots
    refine step s1 ?_
    refine step (e2 := [some (.val (.ro (ns.map D.int))), some (.val (.int (1 + y3))), none, none]) (by simp only [es_nil, es_cons, es_asgN, es_asgT, es_par, es_if, es_for, es_ret, es_retN, o_prim, o_call, o_var, o_con, o_glob, o_isi, o_and, o_or, o_not, o_ite, o_chain, e_var, e_rd, e_int, e_bl, e_non, e_str, e_glob, e_prim, e_isi, e_call, e_and, e_or, e_not, e_ite, ea_nil, ea_rd, ea_var, ea_con, ea_glob, ea_prim, ea_isi, ea_call, ea_and, ea_or, ea_not, ea_ite, ea_chain, ea_slc, ea_comp, ea_compif, r_var, r_prim, r_con, r_glob, r_call, r_isi, r_and, r_or, r_not, r_ite, r_chain, r_comp, r_compif, r_slc, ld_nil, ld_val, ld_own, ld_bor, ld_none, wp_nil, wp_c, tg_nm, tg_tup, tg_nil, tg_c, e_chain, es_cont, es_brk, es_pass, p_min2, p_max2, p_l0, p_l1, p_l2, p_l3, p_l4, p_is0, p_not0, n_non, n_tup, i_seq, q_lst, q_tup, q_ro, y_tt, y_tn, y_ii, y_bi, y_bb, y_lv, y_lb, oO_some, slotR, l_0, l_s, v_0, v_s, R.bind_ok, R.bind_bad, pd_nil, pd_c, sl_d, sl_s, okD_d, okD_l, okS_d, okS_l, rf_val, rf_own, fz_val, fz_own, tr_bl, t_bl, t_int, p_add, p_sub, p_neg, p_eq, p_ne, p_lt, p_le, p_gt, p_ge, p_abs, p_int, p_gcd, p_i0, p_i1, p_i2, p_i3, p_len2, p_len3, p_len4, p_t3, p_t4, p_t2, List.map, List.cons_append, List.nil_append, List.append_nil, List.length_cons, List.length_nil, List.replicate, if_true, if_false, Bool.false_eq_true, Nat.reduceAdd, Nat.reduceSub, decide_eq_true_eq, eq_self, decide_true, Bool.not_true, Bool.not_false, Int.reduceEq, Int.reduceLT, Int.reduceLE, decide_false, c0, q1, q3, q4, c]) ?_
    exact fin (1 + y3) ⟨by omega, by omega⟩
  · refine ⟨_, sp_of ⟨r5, r5'⟩ (b := 1 + y1) ⟨by omega, by omega⟩, den_own rfl ?_⟩
    unfold b__law_spots
    refine step s1 ?_
    refine step (e2 := [some (.val (.ro (ns.map D.int))), some (.val (.int (1 + y1))), none, none]) (by simp only [es_nil, es_cons, es_asgN, es_asgT, es_par, es_if, es_for, es_ret, es_retN, o_prim, o_call, o_var, o_con, o_glob, o_isi, o_and, o_or, o_not, o_ite, o_chain, e_var, e_rd, e_int, e_bl, e_non, e_str, e_glob, e_prim, e_isi, e_call, e_and, e_or, e_not, e_ite, ea_nil, ea_rd, ea_var, ea_con, ea_glob, ea_prim, ea_isi, ea_call, ea_and, ea_or, ea_not, ea_ite, ea_chain, ea_slc, ea_comp, ea_compif, r_var, r_prim, r_con, r_glob, r_call, r_isi, r_and, r_or, r_not, r_ite, r_chain, r_comp, r_compif, r_slc, ld_nil, ld_val, ld_own, ld_bor, ld_none, wp_nil, wp_c, tg_nm, tg_tup, tg_nil, tg_c, e_chain, es_cont, es_brk, es_pass, p_min2, p_max2, p_l0, p_l1, p_l2, p_l3, p_l4, p_is0, p_not0, n_non, n_tup, i_seq, q_lst, q_tup, q_ro, y_tt, y_tn, y_ii, y_bi, y_bb, y_lv, y_lb, oO_some, slotR, l_0, l_s, v_0, v_s, R.bind_ok, R.bind_bad, pd_nil, pd_c, sl_d, sl_s, okD_d, okD_l, okS_d, okS_l, rf_val, rf_own, fz_val, fz_own, tr_bl, t_bl, t_int, p_add, p_sub, p_neg, p_eq, p_ne, p_lt, p_le, p_gt, p_ge, p_abs, p_int, p_gcd, p_i0, p_i1, p_i2, p_i3, p_len2, p_len3, p_len4, p_t3, p_t4, p_t2, List.map, List.cons_append, List.nil_append, List.append_nil, List.length_cons, List.length_nil, List.replicate, if_true, if_false, Bool.false_eq_true, Nat.reduceAdd, Nat.reduceSub, decide_eq_true_eq, eq_self, decide_true, Bool.not_true, Bool.not_false, Int.reduceEq, Int.reduceLT, Int.reduceLE, decide_false, c0, q3, c]) ?_
    exact fin (1 + y1) ⟨by omega, by omega⟩
/-! ### the drawn stretches -/
theorem ends_lo {x : Int} {l : Bool} (h0 : 0 ≤ x) (h1 : x ≤ 16) (h2 : x % 2 = 0) : ∃ a, lo a = x ∧ ev a = l ∧ 0 ≤ a ∧ a ≤ 17 := by
  cases l with
  | true => exact ⟨x, by simp only [lo]; omega, decide_eq_true h2, h0, by omega⟩
  | false => exact ⟨x + 1, by simp only [lo]; omega, decide_eq_false (by omega), by omega, by omega⟩
theorem ends_hi {x : Int} {l : Bool} (h0 : 0 ≤ x) (h1 : x ≤ 16) (h2 : x % 2 = 0) : ∃ a, hi a = x ∧ ev a = l ∧ -1 ≤ a ∧ a ≤ 16 := by
  cases l with
  | true => exact ⟨x, by simp only [hi]; omega, decide_eq_true h2, by omega, by omega⟩
  | false => exact ⟨x - 1, by simp only [hi]; omega, decide_eq_false (by omega), by omega, by omega⟩
abbrev eDs (E : List It) : List D := E.map fun p => eD p.1 p.2
theorem p_n0 (a : Nat) (r : List Nat) : evPrim .idx [.bor (nsD (a :: r)), .val (.int 0)] = .d (.int (a : Int)) := by
  rw [p_idxB, show (0 : Int) = ((0 : Nat) : Int) from rfl, atD_nat _ _ (by simp)]; rfl
theorem p_n1 (a b : Nat) (r : List Nat) : evPrim .idx [.bor (nsD (a :: b :: r)), .val (.int 1)] = .d (.int (b : Int)) := by
  rw [p_idxB, show (1 : Int) = ((1 : Nat) : Int) from rfl, atD_nat _ _ (by simp)]; rfl
theorem p_n2 (a b c : Nat) (r : List Nat) : evPrim .idx [.bor (nsD (a :: b :: c :: r)), .val (.int 2)] = .d (.int (c : Int)) := by
  rw [p_idxB, show (2 : Int) = ((2 : Nat) : Int) from rfl, atD_nat _ _ (by simp)]; rfl
theorem p_n3 (a b c d : Nat) (r : List Nat) : evPrim .idx [.bor (nsD (a :: b :: c :: d :: r)), .val (.int 3)] = .d (.int (d : Int)) := by
  rw [p_idxB, show (3 : Int) = ((3 : Nat) : Int) from rfl, atD_nat _ _ (by simp)]; rfl
theorem den_drawn (ns : List Int) : ∃ E : List It, (∀ p ∈ E, Rg p.1 p.2) ∧ E.length ≤ 12 ∧ f__law_drawn.den [.val (.ro (ns.map D.int))] = .ok (.own (eDs E)) := by
  have run : ∃ E : List It, ((∀ p ∈ E, Rg p.1 p.2) ∧ E.length ≤ 12) ∧ evSs b__law_drawn ([.val (.ro (ns.map D.int))].map some ++ List.replicate (8 - 1) none) = .ok (.rt (.own (eDs E))) := by
    have c2 := den_cell (ns := ns) (i := 2) (by decide)
    generalize cell ns 2 = z at c2
    have q1 := p_mod z 12 (by decide)
    have q2 := p_fdiv z 12 (by decide)
    have r1 := Int.fmod_nonneg_of_pos z (b := 12) (by decide)
    have r1' := Int.fmod_lt_of_pos z (b := 12) (by decide)
    generalize z.fmod 12 = m at q1 r1 r1'
    generalize z.fdiv 12 = t at q2
    have q3 := p_mod t 3 (by decide)
    generalize t.fmod 3 = t3 at q3
    obtain ⟨n, rfl⟩ : ∃ n : Nat, m = n := ⟨m.toNat, by omega⟩
    generalize hb : decide (t3 = 0) = tight
    unfold b__law_drawn
    refine stepE (P := fun R => ∃ E : List It, ((∀ p ∈ E, Rg p.1 p.2) ∧ E.length ≤ 12) ∧ R = .ok (.rt (.own (eDs E)))) (e2 := [some (.val (.ro (ns.map D.int))), some (.val (.int (((1 + n : Nat)) : Int))), none, none, none, none, none, none]) (by simp only [es_nil, es_cons, es_asgN, es_asgT, es_par, es_if, es_for, es_ret, es_retN, o_prim, o_call, o_var, o_con, o_glob, o_isi, o_and, o_or, o_not, o_ite, o_chain, e_var, e_rd, e_int, e_bl, e_non, e_str, e_glob, e_prim, e_isi, e_call, e_and, e_or, e_not, e_ite, ea_nil, ea_rd, ea_var, ea_con, ea_glob, ea_prim, ea_isi, ea_call, ea_and, ea_or, ea_not, ea_ite, ea_chain, ea_slc, ea_comp, ea_compif, r_var, r_prim, r_con, r_glob, r_call, r_isi, r_and, r_or, r_not, r_ite, r_chain, r_comp, r_compif, r_slc, ld_nil, ld_val, ld_own, ld_bor, ld_none, wp_nil, wp_c, tg_nm, tg_tup, tg_nil, tg_c, e_chain, es_cont, es_brk, es_pass, p_min2, p_max2, p_l0, p_l1, p_l2, p_l3, p_l4, p_is0, p_not0, n_non, n_tup, i_seq, q_lst, q_tup, q_ro, y_tt, y_tn, y_ii, y_bi, y_bb, y_lv, y_lb, oO_some, slotR, l_0, l_s, v_0, v_s, R.bind_ok, R.bind_bad, pd_nil, pd_c, sl_d, sl_s, okD_d, okD_l, okS_d, okS_l, rf_val, rf_own, fz_val, fz_own, tr_bl, t_bl, t_int, p_add, p_sub, p_neg, p_eq, p_ne, p_lt, p_le, p_gt, p_ge, p_abs, p_int, p_gcd, p_i0, p_i1, p_i2, p_i3, p_len2, p_len3, p_len4, p_t3, p_t4, p_t2, List.map, List.cons_append, List.nil_append, List.append_nil, List.length_cons, List.length_nil, List.replicate, if_true, if_false, Bool.false_eq_true, Nat.reduceAdd, Nat.reduceSub, decide_eq_true_eq, eq_self, decide_true, Bool.not_true, Bool.not_false, Int.reduceEq, Int.reduceLT, Int.reduceLE, decide_false, c2, q1, Int.natCast_add]; rfl) ?_
    refine stepE (P := fun R => ∃ E : List It, ((∀ p ∈ E, Rg p.1 p.2) ∧ E.length ≤ 12) ∧ R = .ok (.rt (.own (eDs E)))) (e2 := [some (.val (.ro (ns.map D.int))), some (.val (.int (((1 + n : Nat)) : Int))), some (.val (.bl tight)), none, none, none, none, none]) (by simp only [es_nil, es_cons, es_asgN, es_asgT, es_par, es_if, es_for, es_ret, es_retN, o_prim, o_call, o_var, o_con, o_glob, o_isi, o_and, o_or, o_not, o_ite, o_chain, e_var, e_rd, e_int, e_bl, e_non, e_str, e_glob, e_prim, e_isi, e_call, e_and, e_or, e_not, e_ite, ea_nil, ea_rd, ea_var, ea_con, ea_glob, ea_prim, ea_isi, ea_call, ea_and, ea_or, ea_not, ea_ite, ea_chain, ea_slc, ea_comp, ea_compif, r_var, r_prim, r_con, r_glob, r_call, r_isi, r_and, r_or, r_not, r_ite, r_chain, r_comp, r_compif, r_slc, ld_nil, ld_val, ld_own, ld_bor, ld_none, wp_nil, wp_c, tg_nm, tg_tup, tg_nil, tg_c, e_chain, es_cont, es_brk, es_pass, p_min2, p_max2, p_l0, p_l1, p_l2, p_l3, p_l4, p_is0, p_not0, n_non, n_tup, i_seq, q_lst, q_tup, q_ro, y_tt, y_tn, y_ii, y_bi, y_bb, y_lv, y_lb, oO_some, slotR, l_0, l_s, v_0, v_s, R.bind_ok, R.bind_bad, pd_nil, pd_c, sl_d, sl_s, okD_d, okD_l, okS_d, okS_l, rf_val, rf_own, fz_val, fz_own, tr_bl, t_bl, t_int, p_add, p_sub, p_neg, p_eq, p_ne, p_lt, p_le, p_gt, p_ge, p_abs, p_int, p_gcd, p_i0, p_i1, p_i2, p_i3, p_len2, p_len3, p_len4, p_t3, p_t4, p_t2, List.map, List.cons_append, List.nil_append, List.append_nil, List.length_cons, List.length_nil, List.replicate, if_true, if_false, Bool.false_eq_true, Nat.reduceAdd, Nat.reduceSub, decide_eq_true_eq, eq_self, decide_true, Bool.not_true, Bool.not_false, Int.reduceEq, Int.reduceLT, Int.reduceLE, decide_false, c2, q2, q3, hb]) ?_
    refine stepE (P := fun R => ∃ E : List It, ((∀ p ∈ E, Rg p.1 p.2) ∧ E.length ≤ 12) ∧ R = .ok (.rt (.own (eDs E)))) (e2 := [some (.val (.ro (ns.map D.int))), some (.val (.int (((1 + n : Nat)) : Int))), some (.val (.bl tight)), some (.own []), none, none, none, none]) (by simp only [es_nil, es_cons, es_asgN, es_asgT, es_par, es_if, es_for, es_ret, es_retN, o_prim, o_call, o_var, o_con, o_glob, o_isi, o_and, o_or, o_not, o_ite, o_chain, e_var, e_rd, e_int, e_bl, e_non, e_str, e_glob, e_prim, e_isi, e_call, e_and, e_or, e_not, e_ite, ea_nil, ea_rd, ea_var, ea_con, ea_glob, ea_prim, ea_isi, ea_call, ea_and, ea_or, ea_not, ea_ite, ea_chain, ea_slc, ea_comp, ea_compif, r_var, r_prim, r_con, r_glob, r_call, r_isi, r_and, r_or, r_not, r_ite, r_chain, r_comp, r_compif, r_slc, ld_nil, ld_val, ld_own, ld_bor, ld_none, wp_nil, wp_c, tg_nm, tg_tup, tg_nil, tg_c, e_chain, es_cont, es_brk, es_pass, p_min2, p_max2, p_l0, p_l1, p_l2, p_l3, p_l4, p_is0, p_not0, n_non, n_tup, i_seq, q_lst, q_tup, q_ro, y_tt, y_tn, y_ii, y_bi, y_bb, y_lv, y_lb, oO_some, slotR, l_0, l_s, v_0, v_s, R.bind_ok, R.bind_bad, pd_nil, pd_c, sl_d, sl_s, okD_d, okD_l, okS_d, okS_l, rf_val, rf_own, fz_val, fz_own, tr_bl, t_bl, t_int, p_add, p_sub, p_neg, p_eq, p_ne, p_lt, p_le, p_gt, p_ge, p_abs, p_int, p_gcd, p_i0, p_i1, p_i2, p_i3, p_len2, p_len3, p_len4, p_t3, p_t4, p_t2, List.map, List.cons_append, List.nil_append, List.append_nil, List.length_cons, List.length_nil, List.replicate, if_true, if_false, Bool.false_eq_true, Nat.reduceAdd, Nat.reduceSub, decide_eq_true_eq, eq_self, decide_true, Bool.not_true, Bool.not_false, Int.reduceEq, Int.reduceLT, Int.reduceLE, decide_false]) ?_
    refine stepE_count (P := fun R => ∃ E : List It, ((∀ p ∈ E, Rg p.1 p.2) ∧ E.length ≤ 12) ∧ R = .ok (.rt (.own (eDs E)))) (fun (k : Nat) => D.int (k : Int)) (fun i e => ∃ (E : List It) (k row low high : Option Sl), E.length = i ∧ (∀ p ∈ E, Rg p.1 p.2) ∧ e = [some (.val (.ro (ns.map D.int))), some (.val (.int (((1 + n : Nat)) : Int))), some (.val (.bl tight)), some (.own (eDs E)), k, row, low, high]) (List.range (1 + n))
      (e1 := [some (.val (.ro (ns.map D.int))), some (.val (.int (((1 + n : Nat)) : Int))), some (.val (.bl tight)), some (.own (eDs [])), none, none, none, none]) (i_rngN (q := [.d (.int (((1 + n : Nat)) : Int))]) (by simp only [es_nil, es_cons, es_asgN, es_asgT, es_par, es_if, es_for, es_ret, es_retN, o_prim, o_call, o_var, o_con, o_glob, o_isi, o_and, o_or, o_not, o_ite, o_chain, e_var, e_rd, e_int, e_bl, e_non, e_str, e_glob, e_prim, e_isi, e_call, e_and, e_or, e_not, e_ite, ea_nil, ea_rd, ea_var, ea_con, ea_glob, ea_prim, ea_isi, ea_call, ea_and, ea_or, ea_not, ea_ite, ea_chain, ea_slc, ea_comp, ea_compif, r_var, r_prim, r_con, r_glob, r_call, r_isi, r_and, r_or, r_not, r_ite, r_chain, r_comp, r_compif, r_slc, ld_nil, ld_val, ld_own, ld_bor, ld_none, wp_nil, wp_c, tg_nm, tg_tup, tg_nil, tg_c, e_chain, es_cont, es_brk, es_pass, p_min2, p_max2, p_l0, p_l1, p_l2, p_l3, p_l4, p_is0, p_not0, n_non, n_tup, i_seq, q_lst, q_tup, q_ro, y_tt, y_tn, y_ii, y_bi, y_bb, y_lv, y_lb, oO_some, slotR, l_0, l_s, v_0, v_s, R.bind_ok, R.bind_bad, pd_nil, pd_c, sl_d, sl_s, okD_d, okD_l, okS_d, okS_l, rf_val, rf_own, fz_val, fz_own, tr_bl, t_bl, t_int, p_add, p_sub, p_neg, p_eq, p_ne, p_lt, p_le, p_gt, p_ge, p_abs, p_int, p_gcd, p_i0, p_i1, p_i2, p_i3, p_len2, p_len3, p_len4, p_t3, p_t4, p_t2, List.map, List.cons_append, List.nil_append, List.append_nil, List.length_cons, List.length_nil, List.replicate, if_true, if_false, Bool.false_eq_true, Nat.reduceAdd, Nat.reduceSub, decide_eq_true_eq, eq_self, decide_true, Bool.not_true, Bool.not_false, Int.reduceEq, Int.reduceLT, Int.reduceLE, decide_false]) rfl (by omega)) ?_ ⟨[], _, _, _, _, rfl, fun p hp => by simp at hp, rfl⟩ ?_
    · rintro i x hx e ⟨E, k, row, lw, hg, hE, hR, rfl⟩
      obtain ⟨rfl, hi⟩ := range_at hx
      have cx := den_cell (ns := ns) (i := 3 + (x : Int)) (by omega)
      have m13 : mulOk 13 (x : Int) = true := mulOk_l (by decide)
      obtain ⟨l, hl, dg⟩ := den_digits (cell ns (3 + (x : Int)) + 13 * (x : Int)) 36 4 (by decide) (by decide)
      obtain ⟨d0, d1, d2, d3, rfl⟩ : ∃ a b c d, l = [a, b, c, d] := by
        match l, hl.len with
        | [a, b, c, d], _ => exact ⟨a, b, c, d, rfl⟩
      rw [show ((4 : Nat) : Int) = 4 from rfl] at dg
      have ll : (eDs E).length < lim := by rw [List.length_map, hE]; simp [lim]; omega
      have u0 := p_mod (d0 : Int) 9 (by decide)
      have u0a := Int.fmod_nonneg_of_pos (d0 : Int) (b := 9) (by decide)
      have u0b := Int.fmod_lt_of_pos (d0 : Int) (b := 9) (by decide)
      have u1 := p_mod (d1 : Int) 9 (by decide)
      have u1a := Int.fmod_nonneg_of_pos (d1 : Int) (b := 9) (by decide)
      have u1b := Int.fmod_lt_of_pos (d1 : Int) (b := 9) (by decide)
      have u3 := p_mod (d3 : Int) 4 (by decide)
      have v2 := p_mod (d2 : Int) 3 (by decide)
      have w2 := p_fdiv (d2 : Int) 3 (by decide)
      generalize (d0 : Int).fmod 9 = x0 at u0 u0a u0b
      generalize (d1 : Int).fmod 9 = x1 at u1 u1a u1b
      generalize (d3 : Int).fmod 4 = x3 at u3
      generalize (d2 : Int).fmod 3 = x2 at v2
      generalize (d2 : Int).fdiv 3 = y2 at w2
      have w3 := p_mod y2 3 (by decide)
      generalize y2.fmod 3 = y3 at w3
      have m0 : mulOk 2 x0 = true := mulOk_l (by decide)
      have m1 : mulOk 2 x1 = true := mulOk_l (by decide)
      have fin : ∀ lw hg : Int, (0 ≤ lw ∧ lw ≤ 16 ∧ lw % 2 = 0) → (0 ≤ hg ∧ hg ≤ 16 ∧ hg % 2 = 0) → ∃ p : It, Rg p.1 p.2 ∧ evS (.append 3 "drawn" (.prim .tup (.cons (.var 6 "low") (.cons (.prim .gt (.cons (.prim .mod (.cons (.prim .idx (.cons (.rd 5 "row") (.cons (.con (.int 2)) .nil))) (.cons (.con (.int 3)) .nil))) (.cons (.con (.int 0)) .nil))) (.cons (.var 7 "high") (.cons (.prim .gt (.cons (.prim .mod (.cons (.prim .fdiv (.cons (.prim .idx (.cons (.rd 5 "row") (.cons (.con (.int 2)) .nil))) (.cons (.con (.int 3)) .nil))) (.cons (.con (.int 3)) .nil))) (.cons (.con (.int 0)) .nil))) .nil))))))
          [some (.val (.ro (ns.map D.int))), some (.val (.int (((1 + n : Nat)) : Int))), some (.val (.bl tight)), some (.own (eDs E)), some (.val (.int (x : Int))), some (.own (nsD [d0, d1, d2, d3])), some (.val (.int lw)), some (.val (.int hg))] =
          .ok (.nx [some (.val (.ro (ns.map D.int))), some (.val (.int (((1 + n : Nat)) : Int))), some (.val (.bl tight)), some (.own (eDs (E ++ [p]))), some (.val (.int (x : Int))), some (.own (nsD [d0, d1, d2, d3])), some (.val (.int lw)), some (.val (.int hg))]) := by
        intro lw hg h1 h2
        obtain ⟨a, a1, a2, a3, a4⟩ := ends_lo (l := decide (0 < x2)) h1.1 h1.2.1 h1.2.2
        obtain ⟨b, b1, b2, b3, b4⟩ := ends_hi (l := decide (0 < y3)) h2.1 h2.2.1 h2.2.2
        refine ⟨(a, b), ⟨a3, a4, b3, b4⟩, ?_⟩
        rw [es_app_of (ds := eDs E) (ds2 := eDs E) (d := eD a b) (e2 := [some (.val (.ro (ns.map D.int))), some (.val (.int (((1 + n : Nat)) : Int))), some (.val (.bl tight)), some (.own (eDs E)), some (.val (.int (x : Int))), some (.own (nsD [d0, d1, d2, d3])), some (.val (.int lw)), some (.val (.int hg))]) rfl ?_ rfl ll]
        · rw [show eDs (E ++ [(a, b)]) = eDs E ++ [eD a b] from List.map_append]
          rfl
        · rw [show eD a b = .tup [.int lw, .bl (decide (0 < x2)), .int hg, .bl (decide (0 < y3))] by rw [← a1, ← a2, ← b1, ← b2]]
          have g2 := p_n2 d0 d1 d2 [d3]
          generalize nsD [d0, d1, d2, d3] = X at *
          simp only [es_nil, es_cons, es_asgN, es_asgT, es_par, es_if, es_for, es_ret, es_retN, o_prim, o_call, o_var, o_con, o_glob, o_isi, o_and, o_or, o_not, o_ite, o_chain, e_var, e_rd, e_int, e_bl, e_non, e_str, e_glob, e_prim, e_isi, e_call, e_and, e_or, e_not, e_ite, ea_nil, ea_rd, ea_var, ea_con, ea_glob, ea_prim, ea_isi, ea_call, ea_and, ea_or, ea_not, ea_ite, ea_chain, ea_slc, ea_comp, ea_compif, r_var, r_prim, r_con, r_glob, r_call, r_isi, r_and, r_or, r_not, r_ite, r_chain, r_comp, r_compif, r_slc, ld_nil, ld_val, ld_own, ld_bor, ld_none, wp_nil, wp_c, tg_nm, tg_tup, tg_nil, tg_c, e_chain, es_cont, es_brk, es_pass, p_min2, p_max2, p_l0, p_l1, p_l2, p_l3, p_l4, p_is0, p_not0, n_non, n_tup, i_seq, q_lst, q_tup, q_ro, y_tt, y_tn, y_ii, y_bi, y_bb, y_lv, y_lb, oO_some, slotR, l_0, l_s, v_0, v_s, R.bind_ok, R.bind_bad, pd_nil, pd_c, sl_d, sl_s, okD_d, okD_l, okS_d, okS_l, rf_val, rf_own, fz_val, fz_own, tr_bl, t_bl, t_int, p_add, p_sub, p_neg, p_eq, p_ne, p_lt, p_le, p_gt, p_ge, p_abs, p_int, p_gcd, p_i0, p_i1, p_i2, p_i3, p_len2, p_len3, p_len4, p_t3, p_t4, p_t2, List.map, List.cons_append, List.nil_append, List.append_nil, List.length_cons, List.length_nil, List.replicate, if_true, if_false, Bool.false_eq_true, Nat.reduceAdd, Nat.reduceSub, decide_eq_true_eq, eq_self, decide_true, Bool.not_true, Bool.not_false, Int.reduceEq, Int.reduceLT, Int.reduceLE, decide_false, g2, v2, w2, w3]
      have bodyE : ∀ (lw hg : Int) (p : It), Rg p.1 p.2 → ∀ e', e' = [some (.val (.ro (ns.map D.int))), some (.val (.int (((1 + n : Nat)) : Int))), some (.val (.bl tight)), some (.own (eDs (E ++ [p]))), some (.val (.int (x : Int))), some (.own (nsD [d0, d1, d2, d3])), some (.val (.int lw)), some (.val (.int hg))] →
          ∃ (E : List It) (k row low high : Option Sl), E.length = x + 1 ∧ (∀ p ∈ E, Rg p.1 p.2) ∧ e' = [some (.val (.ro (ns.map D.int))), some (.val (.int (((1 + n : Nat)) : Int))), some (.val (.bl tight)), some (.own (eDs E)), k, row, low, high] := by
        intro lw hg p hp e' he
        refine ⟨E ++ [p], _, _, _, _, by rw [List.length_append, hE]; rfl, fun y hy => ?_, he⟩
        rcases List.mem_append.mp hy with z | z
        · exact hR y z
        · simp at z
          rw [z]
          exact hp
      have g0 := p_n0 d0 [d1, d2, d3]
      have g1 := p_n1 d0 d1 [d2, d3]
      have g3 := p_n3 d0 d1 d2 d3 []
      by_cases tt : tight = true ∧ x3 < 3
      · obtain ⟨p, hp, hf⟩ := fin (if 8 < 2 * x0 then 8 else 2 * x0) (if 8 > 2 * x1 then 8 else 2 * x1) (by split <;> omega) (by split <;> omega)
        refine ⟨_, [some (.val (.ro (ns.map D.int))), some (.val (.int (((1 + n : Nat)) : Int))), some (.val (.bl tight)), some (.own (eDs (E ++ [p]))), some (.val (.int (x : Int))), some (.own (nsD [d0, d1, d2, d3])), some (.val (.int (if 8 < 2 * x0 then 8 else 2 * x0))), some (.val (.int (if 8 > 2 * x1 then 8 else 2 * x1)))], rfl, .inl ?_, bodyE _ _ p hp _ rfl⟩
        generalize nsD [d0, d1, d2, d3] = X at *
        refine step (e2 := [some (.val (.ro (ns.map D.int))), some (.val (.int (((1 + n : Nat)) : Int))), some (.val (.bl tight)), some (.own (eDs E)), some (.val (.int (x : Int))), some (.own X), lw, hg]) (by simp only [es_nil, es_cons, es_asgN, es_asgT, es_par, es_if, es_for, es_ret, es_retN, o_prim, o_call, o_var, o_con, o_glob, o_isi, o_and, o_or, o_not, o_ite, o_chain, e_var, e_rd, e_int, e_bl, e_non, e_str, e_glob, e_prim, e_isi, e_call, e_and, e_or, e_not, e_ite, ea_nil, ea_rd, ea_var, ea_con, ea_glob, ea_prim, ea_isi, ea_call, ea_and, ea_or, ea_not, ea_ite, ea_chain, ea_slc, ea_comp, ea_compif, r_var, r_prim, r_con, r_glob, r_call, r_isi, r_and, r_or, r_not, r_ite, r_chain, r_comp, r_compif, r_slc, ld_nil, ld_val, ld_own, ld_bor, ld_none, wp_nil, wp_c, tg_nm, tg_tup, tg_nil, tg_c, e_chain, es_cont, es_brk, es_pass, p_min2, p_max2, p_l0, p_l1, p_l2, p_l3, p_l4, p_is0, p_not0, n_non, n_tup, i_seq, q_lst, q_tup, q_ro, y_tt, y_tn, y_ii, y_bi, y_bb, y_lv, y_lb, oO_some, slotR, l_0, l_s, v_0, v_s, R.bind_ok, R.bind_bad, pd_nil, pd_c, sl_d, sl_s, okD_d, okD_l, okS_d, okS_l, rf_val, rf_own, fz_val, fz_own, tr_bl, t_bl, t_int, p_add, p_sub, p_neg, p_eq, p_ne, p_lt, p_le, p_gt, p_ge, p_abs, p_int, p_gcd, p_i0, p_i1, p_i2, p_i3, p_len2, p_len3, p_len4, p_t3, p_t4, p_t2, List.map, List.cons_append, List.nil_append, List.append_nil, List.length_cons, List.length_nil, List.replicate, if_true, if_false, Bool.false_eq_true, Nat.reduceAdd, Nat.reduceSub, decide_eq_true_eq, eq_self, decide_true, Bool.not_true, Bool.not_false, Int.reduceEq, Int.reduceLT, Int.reduceLE, decide_false, cx, p_mul _ _ m13, dg]) ?_
        refine step (e2 := [some (.val (.ro (ns.map D.int))), some (.val (.int (((1 + n : Nat)) : Int))), some (.val (.bl tight)), some (.own (eDs E)), some (.val (.int (x : Int))), some (.own X), some (.val (.int (2 * x0))), hg]) (by simp only [es_nil, es_cons, es_asgN, es_asgT, es_par, es_if, es_for, es_ret, es_retN, o_prim, o_call, o_var, o_con, o_glob, o_isi, o_and, o_or, o_not, o_ite, o_chain, e_var, e_rd, e_int, e_bl, e_non, e_str, e_glob, e_prim, e_isi, e_call, e_and, e_or, e_not, e_ite, ea_nil, ea_rd, ea_var, ea_con, ea_glob, ea_prim, ea_isi, ea_call, ea_and, ea_or, ea_not, ea_ite, ea_chain, ea_slc, ea_comp, ea_compif, r_var, r_prim, r_con, r_glob, r_call, r_isi, r_and, r_or, r_not, r_ite, r_chain, r_comp, r_compif, r_slc, ld_nil, ld_val, ld_own, ld_bor, ld_none, wp_nil, wp_c, tg_nm, tg_tup, tg_nil, tg_c, e_chain, es_cont, es_brk, es_pass, p_min2, p_max2, p_l0, p_l1, p_l2, p_l3, p_l4, p_is0, p_not0, n_non, n_tup, i_seq, q_lst, q_tup, q_ro, y_tt, y_tn, y_ii, y_bi, y_bb, y_lv, y_lb, oO_some, slotR, l_0, l_s, v_0, v_s, R.bind_ok, R.bind_bad, pd_nil, pd_c, sl_d, sl_s, okD_d, okD_l, okS_d, okS_l, rf_val, rf_own, fz_val, fz_own, tr_bl, t_bl, t_int, p_add, p_sub, p_neg, p_eq, p_ne, p_lt, p_le, p_gt, p_ge, p_abs, p_int, p_gcd, p_i0, p_i1, p_i2, p_i3, p_len2, p_len3, p_len4, p_t3, p_t4, p_t2, List.map, List.cons_append, List.nil_append, List.append_nil, List.length_cons, List.length_nil, List.replicate, if_true, if_false, Bool.false_eq_true, Nat.reduceAdd, Nat.reduceSub, decide_eq_true_eq, eq_self, decide_true, Bool.not_true, Bool.not_false, Int.reduceEq, Int.reduceLT, Int.reduceLE, decide_false, g0, u0, p_mul _ _ m0]) ?_
        refine step (e2 := [some (.val (.ro (ns.map D.int))), some (.val (.int (((1 + n : Nat)) : Int))), some (.val (.bl tight)), some (.own (eDs E)), some (.val (.int (x : Int))), some (.own X), some (.val (.int (2 * x0))), some (.val (.int (2 * x1)))]) (by simp only [es_nil, es_cons, es_asgN, es_asgT, es_par, es_if, es_for, es_ret, es_retN, o_prim, o_call, o_var, o_con, o_glob, o_isi, o_and, o_or, o_not, o_ite, o_chain, e_var, e_rd, e_int, e_bl, e_non, e_str, e_glob, e_prim, e_isi, e_call, e_and, e_or, e_not, e_ite, ea_nil, ea_rd, ea_var, ea_con, ea_glob, ea_prim, ea_isi, ea_call, ea_and, ea_or, ea_not, ea_ite, ea_chain, ea_slc, ea_comp, ea_compif, r_var, r_prim, r_con, r_glob, r_call, r_isi, r_and, r_or, r_not, r_ite, r_chain, r_comp, r_compif, r_slc, ld_nil, ld_val, ld_own, ld_bor, ld_none, wp_nil, wp_c, tg_nm, tg_tup, tg_nil, tg_c, e_chain, es_cont, es_brk, es_pass, p_min2, p_max2, p_l0, p_l1, p_l2, p_l3, p_l4, p_is0, p_not0, n_non, n_tup, i_seq, q_lst, q_tup, q_ro, y_tt, y_tn, y_ii, y_bi, y_bb, y_lv, y_lb, oO_some, slotR, l_0, l_s, v_0, v_s, R.bind_ok, R.bind_bad, pd_nil, pd_c, sl_d, sl_s, okD_d, okD_l, okS_d, okS_l, rf_val, rf_own, fz_val, fz_own, tr_bl, t_bl, t_int, p_add, p_sub, p_neg, p_eq, p_ne, p_lt, p_le, p_gt, p_ge, p_abs, p_int, p_gcd, p_i0, p_i1, p_i2, p_i3, p_len2, p_len3, p_len4, p_t3, p_t4, p_t2, List.map, List.cons_append, List.nil_append, List.append_nil, List.length_cons, List.length_nil, List.replicate, if_true, if_false, Bool.false_eq_true, Nat.reduceAdd, Nat.reduceSub, decide_eq_true_eq, eq_self, decide_true, Bool.not_true, Bool.not_false, Int.reduceEq, Int.reduceLT, Int.reduceLE, decide_false, g1, u1, p_mul _ _ m1]) ?_
        refine step (e2 := [some (.val (.ro (ns.map D.int))), some (.val (.int (((1 + n : Nat)) : Int))), some (.val (.bl tight)), some (.own (eDs E)), some (.val (.int (x : Int))), some (.own X), some (.val (.int (if 8 < 2 * x0 then 8 else 2 * x0))), some (.val (.int (if 8 > 2 * x1 then 8 else 2 * x1)))]) (by simp only [es_nil, es_cons, es_asgN, es_asgT, es_par, es_if, es_for, es_ret, es_retN, o_prim, o_call, o_var, o_con, o_glob, o_isi, o_and, o_or, o_not, o_ite, o_chain, e_var, e_rd, e_int, e_bl, e_non, e_str, e_glob, e_prim, e_isi, e_call, e_and, e_or, e_not, e_ite, ea_nil, ea_rd, ea_var, ea_con, ea_glob, ea_prim, ea_isi, ea_call, ea_and, ea_or, ea_not, ea_ite, ea_chain, ea_slc, ea_comp, ea_compif, r_var, r_prim, r_con, r_glob, r_call, r_isi, r_and, r_or, r_not, r_ite, r_chain, r_comp, r_compif, r_slc, ld_nil, ld_val, ld_own, ld_bor, ld_none, wp_nil, wp_c, tg_nm, tg_tup, tg_nil, tg_c, e_chain, es_cont, es_brk, es_pass, p_min2, p_max2, p_l0, p_l1, p_l2, p_l3, p_l4, p_is0, p_not0, n_non, n_tup, i_seq, q_lst, q_tup, q_ro, y_tt, y_tn, y_ii, y_bi, y_bb, y_lv, y_lb, oO_some, slotR, l_0, l_s, v_0, v_s, R.bind_ok, R.bind_bad, pd_nil, pd_c, sl_d, sl_s, okD_d, okD_l, okS_d, okS_l, rf_val, rf_own, fz_val, fz_own, tr_bl, t_bl, t_int, p_add, p_sub, p_neg, p_eq, p_ne, p_lt, p_le, p_gt, p_ge, p_abs, p_int, p_gcd, p_i0, p_i1, p_i2, p_i3, p_len2, p_len3, p_len4, p_t3, p_t4, p_t2, List.map, List.cons_append, List.nil_append, List.append_nil, List.length_cons, List.length_nil, List.replicate, if_true, if_false, Bool.false_eq_true, Nat.reduceAdd, Nat.reduceSub, decide_eq_true_eq, eq_self, decide_true, Bool.not_true, Bool.not_false, Int.reduceEq, Int.reduceLT, Int.reduceLE, decide_false, g3, u3, tt.1, tt.2]) ?_
        exact step hf rfl
      · obtain ⟨p, hp, hf⟩ := fin (2 * x0) (2 * x1) ⟨by omega, by omega, by omega⟩ ⟨by omega, by omega, by omega⟩
        refine ⟨_, [some (.val (.ro (ns.map D.int))), some (.val (.int (((1 + n : Nat)) : Int))), some (.val (.bl tight)), some (.own (eDs (E ++ [p]))), some (.val (.int (x : Int))), some (.own (nsD [d0, d1, d2, d3])), some (.val (.int (2 * x0))), some (.val (.int (2 * x1)))], rfl, .inl ?_, bodyE _ _ p hp _ rfl⟩
        generalize nsD [d0, d1, d2, d3] = X at *
        refine step (e2 := [some (.val (.ro (ns.map D.int))), some (.val (.int (((1 + n : Nat)) : Int))), some (.val (.bl tight)), some (.own (eDs E)), some (.val (.int (x : Int))), some (.own X), lw, hg]) (by simp only [es_nil, es_cons, es_asgN, es_asgT, es_par, es_if, es_for, es_ret, es_retN, o_prim, o_call, o_var, o_con, o_glob, o_isi, o_and, o_or, o_not, o_ite, o_chain, e_var, e_rd, e_int, e_bl, e_non, e_str, e_glob, e_prim, e_isi, e_call, e_and, e_or, e_not, e_ite, ea_nil, ea_rd, ea_var, ea_con, ea_glob, ea_prim, ea_isi, ea_call, ea_and, ea_or, ea_not, ea_ite, ea_chain, ea_slc, ea_comp, ea_compif, r_var, r_prim, r_con, r_glob, r_call, r_isi, r_and, r_or, r_not, r_ite, r_chain, r_comp, r_compif, r_slc, ld_nil, ld_val, ld_own, ld_bor, ld_none, wp_nil, wp_c, tg_nm, tg_tup, tg_nil, tg_c, e_chain, es_cont, es_brk, es_pass, p_min2, p_max2, p_l0, p_l1, p_l2, p_l3, p_l4, p_is0, p_not0, n_non, n_tup, i_seq, q_lst, q_tup, q_ro, y_tt, y_tn, y_ii, y_bi, y_bb, y_lv, y_lb, oO_some, slotR, l_0, l_s, v_0, v_s, R.bind_ok, R.bind_bad, pd_nil, pd_c, sl_d, sl_s, okD_d, okD_l, okS_d, okS_l, rf_val, rf_own, fz_val, fz_own, tr_bl, t_bl, t_int, p_add, p_sub, p_neg, p_eq, p_ne, p_lt, p_le, p_gt, p_ge, p_abs, p_int, p_gcd, p_i0, p_i1, p_i2, p_i3, p_len2, p_len3, p_len4, p_t3, p_t4, p_t2, List.map, List.cons_append, List.nil_append, List.append_nil, List.length_cons, List.length_nil, List.replicate, if_true, if_false, Bool.false_eq_true, Nat.reduceAdd, Nat.reduceSub, decide_eq_true_eq, eq_self, decide_true, Bool.not_true, Bool.not_false, Int.reduceEq, Int.reduceLT, Int.reduceLE, decide_false, cx, p_mul _ _ m13, dg]) ?_
        refine step (e2 := [some (.val (.ro (ns.map D.int))), some (.val (.int (((1 + n : Nat)) : Int))), some (.val (.bl tight)), some (.own (eDs E)), some (.val (.int (x : Int))), some (.own X), some (.val (.int (2 * x0))), hg]) (by simp only [es_nil, es_cons, es_asgN, es_asgT, es_par, es_if, es_for, es_ret, es_retN, o_prim, o_call, o_var, o_con, o_glob, o_isi, o_and, o_or, o_not, o_ite, o_chain, e_var, e_rd, e_int, e_bl, e_non, e_str, e_glob, e_prim, e_isi, e_call, e_and, e_or, e_not, e_ite, ea_nil, ea_rd, ea_var, ea_con, ea_glob, ea_prim, ea_isi, ea_call, ea_and, ea_or, ea_not, ea_ite, ea_chain, ea_slc, ea_comp, ea_compif, r_var, r_prim, r_con, r_glob, r_call, r_isi, r_and, r_or, r_not, r_ite, r_chain, r_comp, r_compif, r_slc, ld_nil, ld_val, ld_own, ld_bor, ld_none, wp_nil, wp_c, tg_nm, tg_tup, tg_nil, tg_c, e_chain, es_cont, es_brk, es_pass, p_min2, p_max2, p_l0, p_l1, p_l2, p_l3, p_l4, p_is0, p_not0, n_non, n_tup, i_seq, q_lst, q_tup, q_ro, y_tt, y_tn, y_ii, y_bi, y_bb, y_lv, y_lb, oO_some, slotR, l_0, l_s, v_0, v_s, R.bind_ok, R.bind_bad, pd_nil, pd_c, sl_d, sl_s, okD_d, okD_l, okS_d, okS_l, rf_val, rf_own, fz_val, fz_own, tr_bl, t_bl, t_int, p_add, p_sub, p_neg, p_eq, p_ne, p_lt, p_le, p_gt, p_ge, p_abs, p_int, p_gcd, p_i0, p_i1, p_i2, p_i3, p_len2, p_len3, p_len4, p_t3, p_t4, p_t2, List.map, List.cons_append, List.nil_append, List.append_nil, List.length_cons, List.length_nil, List.replicate, if_true, if_false, Bool.false_eq_true, Nat.reduceAdd, Nat.reduceSub, decide_eq_true_eq, eq_self, decide_true, Bool.not_true, Bool.not_false, Int.reduceEq, Int.reduceLT, Int.reduceLE, decide_false, g0, u0, p_mul _ _ m0]) ?_
        refine step (e2 := [some (.val (.ro (ns.map D.int))), some (.val (.int (((1 + n : Nat)) : Int))), some (.val (.bl tight)), some (.own (eDs E)), some (.val (.int (x : Int))), some (.own X), some (.val (.int (2 * x0))), some (.val (.int (2 * x1)))]) (by simp only [es_nil, es_cons, es_asgN, es_asgT, es_par, es_if, es_for, es_ret, es_retN, o_prim, o_call, o_var, o_con, o_glob, o_isi, o_and, o_or, o_not, o_ite, o_chain, e_var, e_rd, e_int, e_bl, e_non, e_str, e_glob, e_prim, e_isi, e_call, e_and, e_or, e_not, e_ite, ea_nil, ea_rd, ea_var, ea_con, ea_glob, ea_prim, ea_isi, ea_call, ea_and, ea_or, ea_not, ea_ite, ea_chain, ea_slc, ea_comp, ea_compif, r_var, r_prim, r_con, r_glob, r_call, r_isi, r_and, r_or, r_not, r_ite, r_chain, r_comp, r_compif, r_slc, ld_nil, ld_val, ld_own, ld_bor, ld_none, wp_nil, wp_c, tg_nm, tg_tup, tg_nil, tg_c, e_chain, es_cont, es_brk, es_pass, p_min2, p_max2, p_l0, p_l1, p_l2, p_l3, p_l4, p_is0, p_not0, n_non, n_tup, i_seq, q_lst, q_tup, q_ro, y_tt, y_tn, y_ii, y_bi, y_bb, y_lv, y_lb, oO_some, slotR, l_0, l_s, v_0, v_s, R.bind_ok, R.bind_bad, pd_nil, pd_c, sl_d, sl_s, okD_d, okD_l, okS_d, okS_l, rf_val, rf_own, fz_val, fz_own, tr_bl, t_bl, t_int, p_add, p_sub, p_neg, p_eq, p_ne, p_lt, p_le, p_gt, p_ge, p_abs, p_int, p_gcd, p_i0, p_i1, p_i2, p_i3, p_len2, p_len3, p_len4, p_t3, p_t4, p_t2, List.map, List.cons_append, List.nil_append, List.append_nil, List.length_cons, List.length_nil, List.replicate, if_true, if_false, Bool.false_eq_true, Nat.reduceAdd, Nat.reduceSub, decide_eq_true_eq, eq_self, decide_true, Bool.not_true, Bool.not_false, Int.reduceEq, Int.reduceLT, Int.reduceLE, decide_false, g1, u1, p_mul _ _ m1]) ?_
        refine step (e2 := [some (.val (.ro (ns.map D.int))), some (.val (.int (((1 + n : Nat)) : Int))), some (.val (.bl tight)), some (.own (eDs E)), some (.val (.int (x : Int))), some (.own X), some (.val (.int (2 * x0))), some (.val (.int (2 * x1)))]) ?_ ?_
        · cases tight with
          | false => simp only [es_nil, es_cons, es_asgN, es_asgT, es_par, es_if, es_for, es_ret, es_retN, o_prim, o_call, o_var, o_con, o_glob, o_isi, o_and, o_or, o_not, o_ite, o_chain, e_var, e_rd, e_int, e_bl, e_non, e_str, e_glob, e_prim, e_isi, e_call, e_and, e_or, e_not, e_ite, ea_nil, ea_rd, ea_var, ea_con, ea_glob, ea_prim, ea_isi, ea_call, ea_and, ea_or, ea_not, ea_ite, ea_chain, ea_slc, ea_comp, ea_compif, r_var, r_prim, r_con, r_glob, r_call, r_isi, r_and, r_or, r_not, r_ite, r_chain, r_comp, r_compif, r_slc, ld_nil, ld_val, ld_own, ld_bor, ld_none, wp_nil, wp_c, tg_nm, tg_tup, tg_nil, tg_c, e_chain, es_cont, es_brk, es_pass, p_min2, p_max2, p_l0, p_l1, p_l2, p_l3, p_l4, p_is0, p_not0, n_non, n_tup, i_seq, q_lst, q_tup, q_ro, y_tt, y_tn, y_ii, y_bi, y_bb, y_lv, y_lb, oO_some, slotR, l_0, l_s, v_0, v_s, R.bind_ok, R.bind_bad, pd_nil, pd_c, sl_d, sl_s, okD_d, okD_l, okS_d, okS_l, rf_val, rf_own, fz_val, fz_own, tr_bl, t_bl, t_int, p_add, p_sub, p_neg, p_eq, p_ne, p_lt, p_le, p_gt, p_ge, p_abs, p_int, p_gcd, p_i0, p_i1, p_i2, p_i3, p_len2, p_len3, p_len4, p_t3, p_t4, p_t2, List.map, List.cons_append, List.nil_append, List.append_nil, List.length_cons, List.length_nil, List.replicate, if_true, if_false, Bool.false_eq_true, Nat.reduceAdd, Nat.reduceSub, decide_eq_true_eq, eq_self, decide_true, Bool.not_true, Bool.not_false, Int.reduceEq, Int.reduceLT, Int.reduceLE, decide_false]
          | true =>
            have t3 : ¬ x3 < 3 := fun z => tt ⟨rfl, z⟩
            simp only [es_nil, es_cons, es_asgN, es_asgT, es_par, es_if, es_for, es_ret, es_retN, o_prim, o_call, o_var, o_con, o_glob, o_isi, o_and, o_or, o_not, o_ite, o_chain, e_var, e_rd, e_int, e_bl, e_non, e_str, e_glob, e_prim, e_isi, e_call, e_and, e_or, e_not, e_ite, ea_nil, ea_rd, ea_var, ea_con, ea_glob, ea_prim, ea_isi, ea_call, ea_and, ea_or, ea_not, ea_ite, ea_chain, ea_slc, ea_comp, ea_compif, r_var, r_prim, r_con, r_glob, r_call, r_isi, r_and, r_or, r_not, r_ite, r_chain, r_comp, r_compif, r_slc, ld_nil, ld_val, ld_own, ld_bor, ld_none, wp_nil, wp_c, tg_nm, tg_tup, tg_nil, tg_c, e_chain, es_cont, es_brk, es_pass, p_min2, p_max2, p_l0, p_l1, p_l2, p_l3, p_l4, p_is0, p_not0, n_non, n_tup, i_seq, q_lst, q_tup, q_ro, y_tt, y_tn, y_ii, y_bi, y_bb, y_lv, y_lb, oO_some, slotR, l_0, l_s, v_0, v_s, R.bind_ok, R.bind_bad, pd_nil, pd_c, sl_d, sl_s, okD_d, okD_l, okS_d, okS_l, rf_val, rf_own, fz_val, fz_own, tr_bl, t_bl, t_int, p_add, p_sub, p_neg, p_eq, p_ne, p_lt, p_le, p_gt, p_ge, p_abs, p_int, p_gcd, p_i0, p_i1, p_i2, p_i3, p_len2, p_len3, p_len4, p_t3, p_t4, p_t2, List.map, List.cons_append, List.nil_append, List.append_nil, List.length_cons, List.length_nil, List.replicate, if_true, if_false, Bool.false_eq_true, Nat.reduceAdd, Nat.reduceSub, decide_eq_true_eq, eq_self, decide_true, Bool.not_true, Bool.not_false, Int.reduceEq, Int.reduceLT, Int.reduceLE, decide_false, g3, u3, t3]
        exact step hf rfl
    · rintro e ⟨E, k, row, lw, hg, hE, hR, rfl⟩
      rw [List.length_range] at hE
      exact ⟨E, ⟨hR, by omega⟩, by simp only [es_nil, es_cons, es_asgN, es_asgT, es_par, es_if, es_for, es_ret, es_retN, o_prim, o_call, o_var, o_con, o_glob, o_isi, o_and, o_or, o_not, o_ite, o_chain, e_var, e_rd, e_int, e_bl, e_non, e_str, e_glob, e_prim, e_isi, e_call, e_and, e_or, e_not, e_ite, ea_nil, ea_rd, ea_var, ea_con, ea_glob, ea_prim, ea_isi, ea_call, ea_and, ea_or, ea_not, ea_ite, ea_chain, ea_slc, ea_comp, ea_compif, r_var, r_prim, r_con, r_glob, r_call, r_isi, r_and, r_or, r_not, r_ite, r_chain, r_comp, r_compif, r_slc, ld_nil, ld_val, ld_own, ld_bor, ld_none, wp_nil, wp_c, tg_nm, tg_tup, tg_nil, tg_c, e_chain, es_cont, es_brk, es_pass, p_min2, p_max2, p_l0, p_l1, p_l2, p_l3, p_l4, p_is0, p_not0, n_non, n_tup, i_seq, q_lst, q_tup, q_ro, y_tt, y_tn, y_ii, y_bi, y_bb, y_lv, y_lb, oO_some, slotR, l_0, l_s, v_0, v_s, R.bind_ok, R.bind_bad, pd_nil, pd_c, sl_d, sl_s, okD_d, okD_l, okS_d, okS_l, rf_val, rf_own, fz_val, fz_own, tr_bl, t_bl, t_int, p_add, p_sub, p_neg, p_eq, p_ne, p_lt, p_le, p_gt, p_ge, p_abs, p_int, p_gcd, p_i0, p_i1, p_i2, p_i3, p_len2, p_len3, p_len4, p_t3, p_t4, p_t2, List.map, List.cons_append, List.nil_append, List.append_nil, List.length_cons, List.length_nil, List.replicate, if_true, if_false, Bool.false_eq_true, Nat.reduceAdd, Nat.reduceSub, decide_eq_true_eq, eq_self, decide_true, Bool.not_true, Bool.not_false, Int.reduceEq, Int.reduceLT, Int.reduceLE, decide_false]⟩
  obtain ⟨E, ⟨h1, h2⟩, q⟩ := run
  exact ⟨E, h1, h2, den_own rfl q⟩
end K88
set_option Elab.async false
set_option linter.all false
set_option maxRecDepth 100000
namespace K88
open PySem Ev
theorem ite_t {c : Ex} {a b : Stms} {e e2 : En} {r : R Fl} (h : (R.bind (evE c e) fun p => truthR p.1 p.2) = .ok (true, e2)) (k : evSs a e2 = r) : evS (.ite c a b) e = r := by
  rw [es_if, h, R.bind_ok]
  exact k
abbrev spl (sp : Int → Int × Int) : List D := (List.range 17).map fun (k : Nat) => fr (sp (k : Int))
theorem none_find {α β γ : Type} (xs : List α) (ys : α → List β) : xs.findSome? (fun x => (ys x).findSome? (fun _ => (none : Option γ))) = none := by
  rw [List.findSome?_eq_none_iff]
  intro x _
  rw [List.findSome?_eq_none_iff]
  intro y _
  rfl
theorem p_atB {L : List It} {i : Nat} (g : It → D) (h : i < L.length) : evPrim .idx [.bor (L.map g), .val (.int (i : Int))] = .d (g (L.getD i (0, 0))) := p_at g h
theorem p_atN {l : List Nat} {i : Nat} (h : i < l.length) : evPrim .idx [.bor (nsD l), .val (.int (i : Int))] = .d (.int ((l.getD i 0 : Nat) : Int)) := by
  rw [p_idxB, at_map (fun (k : Nat) => D.int (k : Int)) (k := i) (x := l.getD i 0) (by rw [List.getD_eq_getElem?_getD, List.getElem?_eq_getElem h]; rfl)]
  rfl
theorem law_den : ∀ ns : List Int, ns.length ≤ 63 → (∀ z ∈ ns, Builtin.Int.intBits z ≤ 1048576) → f_law.den [.val (.ro (ns.map D.int))] = .ok (.val (.bl true)) := by
  intro ns _ _
  obtain ⟨sp, Z, ds⟩ := den_spots ns
  obtain ⟨E, hE, lE, dd⟩ := den_drawn ns
  obtain ⟨r0, hr0, mm0⟩ := den_most_met Z (M := []) ⟨fun p hp => by simp at hp⟩ (by simp)
  obtain ⟨r1, hr1, mm1⟩ := den_most_met Z (M := [none]) ⟨fun p hp => by simp at hp⟩ (by simp)
  replace mm0 : f_most_met.den [.val (.lst [])] = .ok r0 := mm0
  replace mm1 : f_most_met.den [.val (.lst [.non])] = .ok r1 := mm1
  replace hr0 : r0 = .val (.lst []) ∨ r0 = .own [] := hr0
  replace hr1 : r1 = .val (.lst []) ∨ r1 = .own [] := hr1
  have c15 := den_cell (ns := ns) (i := 15) (by decide)
  generalize cell ns 15 = z15 at c15
  refine den_of rfl ?_
  unfold b_law
  generalize hSC : (D.ro (ns.map D.int)) = sc at *
  refine step (e2 := [some (.val sc), some (.own (spl sp)), none, none, none, none, none, none, none, none, none, none]) (by simp only [es_nil, es_cons, es_asgN, es_asgT, es_par, es_if, es_for, es_ret, es_retN, o_prim, o_call, o_var, o_con, o_glob, o_isi, o_and, o_or, o_not, o_ite, o_chain, e_var, e_rd, e_int, e_bl, e_non, e_str, e_glob, e_prim, e_isi, e_call, e_and, e_or, e_not, e_ite, ea_nil, ea_rd, ea_var, ea_con, ea_glob, ea_prim, ea_isi, ea_call, ea_and, ea_or, ea_not, ea_ite, ea_chain, ea_slc, ea_comp, ea_compif, r_var, r_prim, r_con, r_glob, r_call, r_isi, r_and, r_or, r_not, r_ite, r_chain, r_comp, r_compif, r_slc, ld_nil, ld_val, ld_own, ld_bor, ld_none, wp_nil, wp_c, tg_nm, tg_tup, tg_nil, tg_c, e_chain, es_cont, es_brk, es_pass, p_min2, p_max2, p_l0, p_l1, p_l2, p_l3, p_l4, p_is0, p_not0, n_non, n_tup, i_seq, q_lst, q_tup, q_ro, y_tt, y_tn, y_ii, y_bi, y_bb, y_lv, y_lb, oO_some, slotR, l_0, l_s, v_0, v_s, R.bind_ok, R.bind_bad, pd_nil, pd_c, sl_d, sl_s, okD_d, okD_l, okS_d, okS_l, rf_val, rf_own, fz_val, fz_own, tr_bl, t_bl, t_int, p_add, p_sub, p_neg, p_eq, p_ne, p_lt, p_le, p_gt, p_ge, p_abs, p_int, p_gcd, p_i0, p_i1, p_i2, p_i3, p_len2, p_len3, p_len4, p_t3, p_t4, p_t2, List.map, List.cons_append, List.nil_append, List.append_nil, List.length_cons, List.length_nil, List.replicate, if_true, if_false, Bool.false_eq_true, Nat.reduceAdd, Nat.reduceSub, decide_eq_true_eq, eq_self, decide_true, Bool.not_true, Bool.not_false, Int.reduceEq, Int.reduceLT, Int.reduceLE, decide_false, ds]) ?_
  refine step (e2 := [some (.val sc), some (.own (spl sp)), some (.own (eDs E)), none, none, none, none, none, none, none, none, none]) (by simp only [es_nil, es_cons, es_asgN, es_asgT, es_par, es_if, es_for, es_ret, es_retN, o_prim, o_call, o_var, o_con, o_glob, o_isi, o_and, o_or, o_not, o_ite, o_chain, e_var, e_rd, e_int, e_bl, e_non, e_str, e_glob, e_prim, e_isi, e_call, e_and, e_or, e_not, e_ite, ea_nil, ea_rd, ea_var, ea_con, ea_glob, ea_prim, ea_isi, ea_call, ea_and, ea_or, ea_not, ea_ite, ea_chain, ea_slc, ea_comp, ea_compif, r_var, r_prim, r_con, r_glob, r_call, r_isi, r_and, r_or, r_not, r_ite, r_chain, r_comp, r_compif, r_slc, ld_nil, ld_val, ld_own, ld_bor, ld_none, wp_nil, wp_c, tg_nm, tg_tup, tg_nil, tg_c, e_chain, es_cont, es_brk, es_pass, p_min2, p_max2, p_l0, p_l1, p_l2, p_l3, p_l4, p_is0, p_not0, n_non, n_tup, i_seq, q_lst, q_tup, q_ro, y_tt, y_tn, y_ii, y_bi, y_bb, y_lv, y_lb, oO_some, slotR, l_0, l_s, v_0, v_s, R.bind_ok, R.bind_bad, pd_nil, pd_c, sl_d, sl_s, okD_d, okD_l, okS_d, okS_l, rf_val, rf_own, fz_val, fz_own, tr_bl, t_bl, t_int, p_add, p_sub, p_neg, p_eq, p_ne, p_lt, p_le, p_gt, p_ge, p_abs, p_int, p_gcd, p_i0, p_i1, p_i2, p_i3, p_len2, p_len3, p_len4, p_t3, p_t4, p_t2, List.map, List.cons_append, List.nil_append, List.append_nil, List.length_cons, List.length_nil, List.replicate, if_true, if_false, Bool.false_eq_true, Nat.reduceAdd, Nat.reduceSub, decide_eq_true_eq, eq_self, decide_true, Bool.not_true, Bool.not_false, Int.reduceEq, Int.reduceLT, Int.reduceLE, decide_false, dd]) ?_
  refine step (e2 := [some (.val sc), some (.own (spl sp)), some (.own (eDs E)), some (.own []), none, none, none, none, none, none, none, none]) (by simp only [es_nil, es_cons, es_asgN, es_asgT, es_par, es_if, es_for, es_ret, es_retN, o_prim, o_call, o_var, o_con, o_glob, o_isi, o_and, o_or, o_not, o_ite, o_chain, e_var, e_rd, e_int, e_bl, e_non, e_str, e_glob, e_prim, e_isi, e_call, e_and, e_or, e_not, e_ite, ea_nil, ea_rd, ea_var, ea_con, ea_glob, ea_prim, ea_isi, ea_call, ea_and, ea_or, ea_not, ea_ite, ea_chain, ea_slc, ea_comp, ea_compif, r_var, r_prim, r_con, r_glob, r_call, r_isi, r_and, r_or, r_not, r_ite, r_chain, r_comp, r_compif, r_slc, ld_nil, ld_val, ld_own, ld_bor, ld_none, wp_nil, wp_c, tg_nm, tg_tup, tg_nil, tg_c, e_chain, es_cont, es_brk, es_pass, p_min2, p_max2, p_l0, p_l1, p_l2, p_l3, p_l4, p_is0, p_not0, n_non, n_tup, i_seq, q_lst, q_tup, q_ro, y_tt, y_tn, y_ii, y_bi, y_bb, y_lv, y_lb, oO_some, slotR, l_0, l_s, v_0, v_s, R.bind_ok, R.bind_bad, pd_nil, pd_c, sl_d, sl_s, okD_d, okD_l, okS_d, okS_l, rf_val, rf_own, fz_val, fz_own, tr_bl, t_bl, t_int, p_add, p_sub, p_neg, p_eq, p_ne, p_lt, p_le, p_gt, p_ge, p_abs, p_int, p_gcd, p_i0, p_i1, p_i2, p_i3, p_len2, p_len3, p_len4, p_t3, p_t4, p_t2, List.map, List.cons_append, List.nil_append, List.append_nil, List.length_cons, List.length_nil, List.replicate, if_true, if_false, Bool.false_eq_true, Nat.reduceAdd, Nat.reduceSub, decide_eq_true_eq, eq_self, decide_true, Bool.not_true, Bool.not_false, Int.reduceEq, Int.reduceLT, Int.reduceLE, decide_false]) ?_
  refine step (e2 := [some (.val sc), some (.own (spl sp)), some (.own (eDs E)), some (.own []), some (.own []), none, none, none, none, none, none, none]) (by simp only [es_nil, es_cons, es_asgN, es_asgT, es_par, es_if, es_for, es_ret, es_retN, o_prim, o_call, o_var, o_con, o_glob, o_isi, o_and, o_or, o_not, o_ite, o_chain, e_var, e_rd, e_int, e_bl, e_non, e_str, e_glob, e_prim, e_isi, e_call, e_and, e_or, e_not, e_ite, ea_nil, ea_rd, ea_var, ea_con, ea_glob, ea_prim, ea_isi, ea_call, ea_and, ea_or, ea_not, ea_ite, ea_chain, ea_slc, ea_comp, ea_compif, r_var, r_prim, r_con, r_glob, r_call, r_isi, r_and, r_or, r_not, r_ite, r_chain, r_comp, r_compif, r_slc, ld_nil, ld_val, ld_own, ld_bor, ld_none, wp_nil, wp_c, tg_nm, tg_tup, tg_nil, tg_c, e_chain, es_cont, es_brk, es_pass, p_min2, p_max2, p_l0, p_l1, p_l2, p_l3, p_l4, p_is0, p_not0, n_non, n_tup, i_seq, q_lst, q_tup, q_ro, y_tt, y_tn, y_ii, y_bi, y_bb, y_lv, y_lb, oO_some, slotR, l_0, l_s, v_0, v_s, R.bind_ok, R.bind_bad, pd_nil, pd_c, sl_d, sl_s, okD_d, okD_l, okS_d, okS_l, rf_val, rf_own, fz_val, fz_own, tr_bl, t_bl, t_int, p_add, p_sub, p_neg, p_eq, p_ne, p_lt, p_le, p_gt, p_ge, p_abs, p_int, p_gcd, p_i0, p_i1, p_i2, p_i3, p_len2, p_len3, p_len4, p_t3, p_t4, p_t2, List.map, List.cons_append, List.nil_append, List.append_nil, List.length_cons, List.length_nil, List.replicate, if_true, if_false, Bool.false_eq_true, Nat.reduceAdd, Nat.reduceSub, decide_eq_true_eq, eq_self, decide_true, Bool.not_true, Bool.not_false, Int.reduceEq, Int.reduceLT, Int.reduceLE, decide_false]) ?_
  refine stepE_count (P := fun R => R = .ok (.rt (.val (.bl true)))) (fun p : It => eD p.1 p.2) (fun i e => ∃ (L : List It) (sl : Sl) (en : Option Sl), L.length ≤ i ∧ (∀ p ∈ L, Ok p) ∧ (sl = .own (spl sp) ∨ sl = .val (pD sp)) ∧
      e = [some (.val sc), some sl, some (.val (.lst (eDs E))), some (.own (stD sp L)), some (.own (seD L)), en, none, none, none, none, none, none]) E
    (e1 := [some (.val sc), some (.own (spl sp)), some (.val (.lst (eDs E))), some (.own (stD sp [])), some (.own (seD [])), none, none, none, none, none, none, none]) rfl ?_ ⟨[], _, _, Nat.le_refl _, fun p hp => by simp at hp, .inl rfl, rfl⟩ ?_
  · rintro i p hp e ⟨L, sl, en, hL, oL, hs, rfl⟩
    have rg := hE p (List.mem_of_getElem? hp)
    have hi : i < E.length := by
      by_cases q : i < E.length
      · exact q
      · rw [List.getElem?_eq_none (by omega)] at hp; cases hp
    have s1 : ∀ (c : Stm) (W : R Fl), evSs (.cons c .nil) [some (.val sc), some (.val (pD sp)), some (.val (.lst (eDs E))), some (.own (stD sp L)), some (.own (seD L)), some (.val (eD p.1 p.2)), none, none, none, none, none, none] = W →
        evSs (.cons (.ite (.not (.call "_law_single" f__law_single.den [] (.cons (.var 5 "ends") (.cons (.var 1 "spots") .nil)))) (.cons (.ret (.con (.bool false))) .nil) .nil) (.cons c .nil))
          [some (.val sc), some sl, some (.val (.lst (eDs E))), some (.own (stD sp L)), some (.own (seD L)), some (.val (eD p.1 p.2)), none, none, none, none, none, none] = W := by
      intro c W q
      refine step ?_ q
      rcases hs with rfl | rfl <;> simp only [es_nil, es_cons, es_asgN, es_asgT, es_par, es_if, es_for, es_ret, es_retN, o_prim, o_call, o_var, o_con, o_glob, o_isi, o_and, o_or, o_not, o_ite, o_chain, e_var, e_rd, e_int, e_bl, e_non, e_str, e_glob, e_prim, e_isi, e_call, e_and, e_or, e_not, e_ite, ea_nil, ea_rd, ea_var, ea_con, ea_glob, ea_prim, ea_isi, ea_call, ea_and, ea_or, ea_not, ea_ite, ea_chain, ea_slc, ea_comp, ea_compif, r_var, r_prim, r_con, r_glob, r_call, r_isi, r_and, r_or, r_not, r_ite, r_chain, r_comp, r_compif, r_slc, ld_nil, ld_val, ld_own, ld_bor, ld_none, wp_nil, wp_c, tg_nm, tg_tup, tg_nil, tg_c, e_chain, es_cont, es_brk, es_pass, p_min2, p_max2, p_l0, p_l1, p_l2, p_l3, p_l4, p_is0, p_not0, n_non, n_tup, i_seq, q_lst, q_tup, q_ro, y_tt, y_tn, y_ii, y_bi, y_bb, y_lv, y_lb, oO_some, slotR, l_0, l_s, v_0, v_s, R.bind_ok, R.bind_bad, pd_nil, pd_c, sl_d, sl_s, okD_d, okD_l, okS_d, okS_l, rf_val, rf_own, fz_val, fz_own, tr_bl, t_bl, t_int, p_add, p_sub, p_neg, p_eq, p_ne, p_lt, p_le, p_gt, p_ge, p_abs, p_int, p_gcd, p_i0, p_i1, p_i2, p_i3, p_len2, p_len3, p_len4, p_t3, p_t4, p_t2, List.map, List.cons_append, List.nil_append, List.append_nil, List.length_cons, List.length_nil, List.replicate, if_true, if_false, Bool.false_eq_true, Nat.reduceAdd, Nat.reduceSub, decide_eq_true_eq, eq_self, decide_true, Bool.not_true, Bool.not_false, Int.reduceEq, Int.reduceLT, Int.reduceLE, decide_false, den_single Z rg]
    have ne := ne_nil (a := .val (.lst (nsD (S p.1 p.2)))) rfl (nsD_plain _)
    rw [nsD_empty, S_empty rg] at ne
    by_cases q : p.1 ≤ p.2
    · refine ⟨_, [some (.val sc), some (.val (pD sp)), some (.val (.lst (eDs E))), some (.own (stD sp (L ++ [p]))), some (.own (seD (L ++ [p]))), some (.val (eD p.1 p.2)), none, none, none, none, none, none], rfl, .inl (s1 _ _ ?_), L ++ [p], _, _, by rw [List.length_append]; simp; omega, fun y hy => ?_, .inr rfl, rfl⟩
      · rw [decide_eq_false (by simpa using q)] at ne
        have l1 : (stD sp L).length < lim := by rw [List.length_map]; simp [lim]; omega
        have l2 : (seD L).length < lim := by rw [List.length_map]; simp [lim]; omega
        refine step (ite_t (e2 := [some (.val sc), some (.val (pD sp)), some (.val (.lst (eDs E))), some (.own (stD sp L)), some (.own (seD L)), some (.val (eD p.1 p.2)), none, none, none, none, none, none]) (by simp only [es_nil, es_cons, es_asgN, es_asgT, es_par, es_if, es_for, es_ret, es_retN, o_prim, o_call, o_var, o_con, o_glob, o_isi, o_and, o_or, o_not, o_ite, o_chain, e_var, e_rd, e_int, e_bl, e_non, e_str, e_glob, e_prim, e_isi, e_call, e_and, e_or, e_not, e_ite, ea_nil, ea_rd, ea_var, ea_con, ea_glob, ea_prim, ea_isi, ea_call, ea_and, ea_or, ea_not, ea_ite, ea_chain, ea_slc, ea_comp, ea_compif, r_var, r_prim, r_con, r_glob, r_call, r_isi, r_and, r_or, r_not, r_ite, r_chain, r_comp, r_compif, r_slc, ld_nil, ld_val, ld_own, ld_bor, ld_none, wp_nil, wp_c, tg_nm, tg_tup, tg_nil, tg_c, e_chain, es_cont, es_brk, es_pass, p_min2, p_max2, p_l0, p_l1, p_l2, p_l3, p_l4, p_is0, p_not0, n_non, n_tup, i_seq, q_lst, q_tup, q_ro, y_tt, y_tn, y_ii, y_bi, y_bb, y_lv, y_lb, oO_some, slotR, l_0, l_s, v_0, v_s, R.bind_ok, R.bind_bad, pd_nil, pd_c, sl_d, sl_s, okD_d, okD_l, okS_d, okS_l, rf_val, rf_own, fz_val, fz_own, tr_bl, t_bl, t_int, p_add, p_sub, p_neg, p_eq, p_ne, p_lt, p_le, p_gt, p_ge, p_abs, p_int, p_gcd, p_i0, p_i1, p_i2, p_i3, p_len2, p_len3, p_len4, p_t3, p_t4, p_t2, List.map, List.cons_append, List.nil_append, List.append_nil, List.length_cons, List.length_nil, List.replicate, if_true, if_false, Bool.false_eq_true, Nat.reduceAdd, Nat.reduceSub, decide_eq_true_eq, eq_self, decide_true, Bool.not_true, Bool.not_false, Int.reduceEq, Int.reduceLT, Int.reduceLE, decide_false, den_set, ne]) ?_) rfl
        refine step (es_app_of (ds := stD sp L) (ds2 := stD sp L) (d := sD sp p.1 p.2) (e2 := [some (.val sc), some (.val (pD sp)), some (.val (.lst (eDs E))), some (.own (stD sp L)), some (.own (seD L)), some (.val (eD p.1 p.2)), none, none, none, none, none, none]) rfl (by simp only [es_nil, es_cons, es_asgN, es_asgT, es_par, es_if, es_for, es_ret, es_retN, o_prim, o_call, o_var, o_con, o_glob, o_isi, o_and, o_or, o_not, o_ite, o_chain, e_var, e_rd, e_int, e_bl, e_non, e_str, e_glob, e_prim, e_isi, e_call, e_and, e_or, e_not, e_ite, ea_nil, ea_rd, ea_var, ea_con, ea_glob, ea_prim, ea_isi, ea_call, ea_and, ea_or, ea_not, ea_ite, ea_chain, ea_slc, ea_comp, ea_compif, r_var, r_prim, r_con, r_glob, r_call, r_isi, r_and, r_or, r_not, r_ite, r_chain, r_comp, r_compif, r_slc, ld_nil, ld_val, ld_own, ld_bor, ld_none, wp_nil, wp_c, tg_nm, tg_tup, tg_nil, tg_c, e_chain, es_cont, es_brk, es_pass, p_min2, p_max2, p_l0, p_l1, p_l2, p_l3, p_l4, p_is0, p_not0, n_non, n_tup, i_seq, q_lst, q_tup, q_ro, y_tt, y_tn, y_ii, y_bi, y_bb, y_lv, y_lb, oO_some, slotR, l_0, l_s, v_0, v_s, R.bind_ok, R.bind_bad, pd_nil, pd_c, sl_d, sl_s, okD_d, okD_l, okS_d, okS_l, rf_val, rf_own, fz_val, fz_own, tr_bl, t_bl, t_int, p_add, p_sub, p_neg, p_eq, p_ne, p_lt, p_le, p_gt, p_ge, p_abs, p_int, p_gcd, p_i0, p_i1, p_i2, p_i3, p_len2, p_len3, p_len4, p_t3, p_t4, p_t2, List.map, List.cons_append, List.nil_append, List.append_nil, List.length_cons, List.length_nil, List.replicate, if_true, if_false, Bool.false_eq_true, Nat.reduceAdd, Nat.reduceSub, decide_eq_true_eq, eq_self, decide_true, Bool.not_true, Bool.not_false, Int.reduceEq, Int.reduceLT, Int.reduceLE, decide_false, den_told rg]) rfl l1) ?_
        refine step (es_app_of (ds := seD L) (ds2 := seD L) (d := .lst (nsD (S p.1 p.2))) (e2 := [some (.val sc), some (.val (pD sp)), some (.val (.lst (eDs E))), some (.own (stD sp L ++ [sD sp p.1 p.2])), some (.own (seD L)), some (.val (eD p.1 p.2)), none, none, none, none, none, none]) rfl (by simp only [es_nil, es_cons, es_asgN, es_asgT, es_par, es_if, es_for, es_ret, es_retN, o_prim, o_call, o_var, o_con, o_glob, o_isi, o_and, o_or, o_not, o_ite, o_chain, e_var, e_rd, e_int, e_bl, e_non, e_str, e_glob, e_prim, e_isi, e_call, e_and, e_or, e_not, e_ite, ea_nil, ea_rd, ea_var, ea_con, ea_glob, ea_prim, ea_isi, ea_call, ea_and, ea_or, ea_not, ea_ite, ea_chain, ea_slc, ea_comp, ea_compif, r_var, r_prim, r_con, r_glob, r_call, r_isi, r_and, r_or, r_not, r_ite, r_chain, r_comp, r_compif, r_slc, ld_nil, ld_val, ld_own, ld_bor, ld_none, wp_nil, wp_c, tg_nm, tg_tup, tg_nil, tg_c, e_chain, es_cont, es_brk, es_pass, p_min2, p_max2, p_l0, p_l1, p_l2, p_l3, p_l4, p_is0, p_not0, n_non, n_tup, i_seq, q_lst, q_tup, q_ro, y_tt, y_tn, y_ii, y_bi, y_bb, y_lv, y_lb, oO_some, slotR, l_0, l_s, v_0, v_s, R.bind_ok, R.bind_bad, pd_nil, pd_c, sl_d, sl_s, okD_d, okD_l, okS_d, okS_l, rf_val, rf_own, fz_val, fz_own, tr_bl, t_bl, t_int, p_add, p_sub, p_neg, p_eq, p_ne, p_lt, p_le, p_gt, p_ge, p_abs, p_int, p_gcd, p_i0, p_i1, p_i2, p_i3, p_len2, p_len3, p_len4, p_t3, p_t4, p_t2, List.map, List.cons_append, List.nil_append, List.append_nil, List.length_cons, List.length_nil, List.replicate, if_true, if_false, Bool.false_eq_true, Nat.reduceAdd, Nat.reduceSub, decide_eq_true_eq, eq_self, decide_true, Bool.not_true, Bool.not_false, Int.reduceEq, Int.reduceLT, Int.reduceLE, decide_false, den_set]) rfl l2) ?_
        rw [show stD sp (L ++ [p]) = stD sp L ++ [sD sp p.1 p.2] from List.map_append, show seD (L ++ [p]) = seD L ++ [.lst (nsD (S p.1 p.2))] from List.map_append]
        rfl
      · rcases List.mem_append.mp hy with z | z
        · exact oL y z
        · simp at z
          rw [z]
          exact ⟨rg, q⟩
    · refine ⟨_, [some (.val sc), some (.val (pD sp)), some (.val (.lst (eDs E))), some (.own (stD sp L)), some (.own (seD L)), some (.val (eD p.1 p.2)), none, none, none, none, none, none], rfl, .inl (s1 _ _ ?_), L, _, _, by omega, oL, .inr rfl, rfl⟩
      rw [decide_eq_true q] at ne
      simp only [es_nil, es_cons, es_asgN, es_asgT, es_par, es_if, es_for, es_ret, es_retN, o_prim, o_call, o_var, o_con, o_glob, o_isi, o_and, o_or, o_not, o_ite, o_chain, e_var, e_rd, e_int, e_bl, e_non, e_str, e_glob, e_prim, e_isi, e_call, e_and, e_or, e_not, e_ite, ea_nil, ea_rd, ea_var, ea_con, ea_glob, ea_prim, ea_isi, ea_call, ea_and, ea_or, ea_not, ea_ite, ea_chain, ea_slc, ea_comp, ea_compif, r_var, r_prim, r_con, r_glob, r_call, r_isi, r_and, r_or, r_not, r_ite, r_chain, r_comp, r_compif, r_slc, ld_nil, ld_val, ld_own, ld_bor, ld_none, wp_nil, wp_c, tg_nm, tg_tup, tg_nil, tg_c, e_chain, es_cont, es_brk, es_pass, p_min2, p_max2, p_l0, p_l1, p_l2, p_l3, p_l4, p_is0, p_not0, n_non, n_tup, i_seq, q_lst, q_tup, q_ro, y_tt, y_tn, y_ii, y_bi, y_bb, y_lv, y_lb, oO_some, slotR, l_0, l_s, v_0, v_s, R.bind_ok, R.bind_bad, pd_nil, pd_c, sl_d, sl_s, okD_d, okD_l, okS_d, okS_l, rf_val, rf_own, fz_val, fz_own, tr_bl, t_bl, t_int, p_add, p_sub, p_neg, p_eq, p_ne, p_lt, p_le, p_gt, p_ge, p_abs, p_int, p_gcd, p_i0, p_i1, p_i2, p_i3, p_len2, p_len3, p_len4, p_t3, p_t4, p_t2, List.map, List.cons_append, List.nil_append, List.append_nil, List.length_cons, List.length_nil, List.replicate, if_true, if_false, Bool.false_eq_true, Nat.reduceAdd, Nat.reduceSub, decide_eq_true_eq, eq_self, decide_true, Bool.not_true, Bool.not_false, Int.reduceEq, Int.reduceLT, Int.reduceLE, decide_false, den_set, ne]
  · rintro e ⟨L, sl, en, hL, oL, hs, rfl⟩
    have n0 : evPrim .ne [.val (.lst []), .val (.lst [])] = .d (.bl false) := by rfl
    refine step (e2 := [some (.val sc), some sl, some (.val (.lst (eDs E))), some (.own (stD sp L)), some (.own (seD L)), en, none, none, none, none, none, none]) (by
      rcases hr0 with rfl | rfl <;> rcases hr1 with rfl | rfl <;> simp only [es_nil, es_cons, es_asgN, es_asgT, es_par, es_if, es_for, es_ret, es_retN, o_prim, o_call, o_var, o_con, o_glob, o_isi, o_and, o_or, o_not, o_ite, o_chain, e_var, e_rd, e_int, e_bl, e_non, e_str, e_glob, e_prim, e_isi, e_call, e_and, e_or, e_not, e_ite, ea_nil, ea_rd, ea_var, ea_con, ea_glob, ea_prim, ea_isi, ea_call, ea_and, ea_or, ea_not, ea_ite, ea_chain, ea_slc, ea_comp, ea_compif, r_var, r_prim, r_con, r_glob, r_call, r_isi, r_and, r_or, r_not, r_ite, r_chain, r_comp, r_compif, r_slc, ld_nil, ld_val, ld_own, ld_bor, ld_none, wp_nil, wp_c, tg_nm, tg_tup, tg_nil, tg_c, e_chain, es_cont, es_brk, es_pass, p_min2, p_max2, p_l0, p_l1, p_l2, p_l3, p_l4, p_is0, p_not0, n_non, n_tup, i_seq, q_lst, q_tup, q_ro, y_tt, y_tn, y_ii, y_bi, y_bb, y_lv, y_lb, oO_some, slotR, l_0, l_s, v_0, v_s, R.bind_ok, R.bind_bad, pd_nil, pd_c, sl_d, sl_s, okD_d, okD_l, okS_d, okS_l, rf_val, rf_own, fz_val, fz_own, tr_bl, t_bl, t_int, p_add, p_sub, p_neg, p_eq, p_ne, p_lt, p_le, p_gt, p_ge, p_abs, p_int, p_gcd, p_i0, p_i1, p_i2, p_i3, p_len2, p_len3, p_len4, p_t3, p_t4, p_t2, List.map, List.cons_append, List.nil_append, List.append_nil, List.length_cons, List.length_nil, List.replicate, if_true, if_false, Bool.false_eq_true, Nat.reduceAdd, Nat.reduceSub, decide_eq_true_eq, eq_self, decide_true, Bool.not_true, Bool.not_false, Int.reduceEq, Int.reduceLT, Int.reduceLE, decide_false, mm0, mm1, n0]) ?_
    have en0 := eq_nil (a := .bor (stD sp L)) rfl (stD_plain L)
    by_cases hn : L = []
    · subst hn
      refine step_rt ?_
      have en1 : evPrim .eq [.bor [], .val (.lst [])] = .d (.bl true) := en0
      simp only [es_nil, es_cons, es_asgN, es_asgT, es_par, es_if, es_for, es_ret, es_retN, o_prim, o_call, o_var, o_con, o_glob, o_isi, o_and, o_or, o_not, o_ite, o_chain, e_var, e_rd, e_int, e_bl, e_non, e_str, e_glob, e_prim, e_isi, e_call, e_and, e_or, e_not, e_ite, ea_nil, ea_rd, ea_var, ea_con, ea_glob, ea_prim, ea_isi, ea_call, ea_and, ea_or, ea_not, ea_ite, ea_chain, ea_slc, ea_comp, ea_compif, r_var, r_prim, r_con, r_glob, r_call, r_isi, r_and, r_or, r_not, r_ite, r_chain, r_comp, r_compif, r_slc, ld_nil, ld_val, ld_own, ld_bor, ld_none, wp_nil, wp_c, tg_nm, tg_tup, tg_nil, tg_c, e_chain, es_cont, es_brk, es_pass, p_min2, p_max2, p_l0, p_l1, p_l2, p_l3, p_l4, p_is0, p_not0, n_non, n_tup, i_seq, q_lst, q_tup, q_ro, y_tt, y_tn, y_ii, y_bi, y_bb, y_lv, y_lb, oO_some, slotR, l_0, l_s, v_0, v_s, R.bind_ok, R.bind_bad, pd_nil, pd_c, sl_d, sl_s, okD_d, okD_l, okS_d, okS_l, rf_val, rf_own, fz_val, fz_own, tr_bl, t_bl, t_int, p_add, p_sub, p_neg, p_eq, p_ne, p_lt, p_le, p_gt, p_ge, p_abs, p_int, p_gcd, p_i0, p_i1, p_i2, p_i3, p_len2, p_len3, p_len4, p_t3, p_t4, p_t2, List.map, List.cons_append, List.nil_append, List.append_nil, List.length_cons, List.length_nil, List.replicate, if_true, if_false, Bool.false_eq_true, Nat.reduceAdd, Nat.reduceSub, decide_eq_true_eq, eq_self, decide_true, Bool.not_true, Bool.not_false, Int.reduceEq, Int.reduceLT, Int.reduceLE, decide_false, en1]
    · rw [show (stD sp L).isEmpty = false by cases L with | nil => exact absurd rfl hn | cons a r => rfl] at en0
      have nn : 0 < L.length := List.length_pos_iff.mpr hn
      refine step (e2 := [some (.val sc), some sl, some (.val (.lst (eDs E))), some (.own (stD sp L)), some (.own (seD L)), en, none, none, none, none, none, none]) (by simp only [es_nil, es_cons, es_asgN, es_asgT, es_par, es_if, es_for, es_ret, es_retN, o_prim, o_call, o_var, o_con, o_glob, o_isi, o_and, o_or, o_not, o_ite, o_chain, e_var, e_rd, e_int, e_bl, e_non, e_str, e_glob, e_prim, e_isi, e_call, e_and, e_or, e_not, e_ite, ea_nil, ea_rd, ea_var, ea_con, ea_glob, ea_prim, ea_isi, ea_call, ea_and, ea_or, ea_not, ea_ite, ea_chain, ea_slc, ea_comp, ea_compif, r_var, r_prim, r_con, r_glob, r_call, r_isi, r_and, r_or, r_not, r_ite, r_chain, r_comp, r_compif, r_slc, ld_nil, ld_val, ld_own, ld_bor, ld_none, wp_nil, wp_c, tg_nm, tg_tup, tg_nil, tg_c, e_chain, es_cont, es_brk, es_pass, p_min2, p_max2, p_l0, p_l1, p_l2, p_l3, p_l4, p_is0, p_not0, n_non, n_tup, i_seq, q_lst, q_tup, q_ro, y_tt, y_tn, y_ii, y_bi, y_bb, y_lv, y_lb, oO_some, slotR, l_0, l_s, v_0, v_s, R.bind_ok, R.bind_bad, pd_nil, pd_c, sl_d, sl_s, okD_d, okD_l, okS_d, okS_l, rf_val, rf_own, fz_val, fz_own, tr_bl, t_bl, t_int, p_add, p_sub, p_neg, p_eq, p_ne, p_lt, p_le, p_gt, p_ge, p_abs, p_int, p_gcd, p_i0, p_i1, p_i2, p_i3, p_len2, p_len3, p_len4, p_t3, p_t4, p_t2, List.map, List.cons_append, List.nil_append, List.append_nil, List.length_cons, List.length_nil, List.replicate, if_true, if_false, Bool.false_eq_true, Nat.reduceAdd, Nat.reduceSub, decide_eq_true_eq, eq_self, decide_true, Bool.not_true, Bool.not_false, Int.reduceEq, Int.reduceLT, Int.reduceLE, decide_false, en0]) ?_
      have lnB : evPrim .len [.bor (seD L)] = .d (.int (L.length : Int)) := by rw [p_lenB, List.length_map]
      have lsB : evPrim .len [.val (.lst (stD sp L))] = .d (.int (L.length : Int)) := by rw [p_lenL, List.length_map]
      refine step_find2 (fun (k : Nat) => D.int (k : Int)) (fun _ (j : Nat) => D.int (j : Int)) (fun e => ∃ sl i j sh td, (sl = .own (spl sp) ∨ sl = .val (pD sp)) ∧ e = [some (.val sc), some sl, some (.val (.lst (eDs E))), some (.own (stD sp L)), some (.own (seD L)), en, i, none, j, sh, td, none])
        (fun i e => ∃ sl j sh td, (sl = .own (spl sp) ∨ sl = .val (pD sp)) ∧ e = [some (.val sc), some sl, some (.val (.lst (eDs E))), some (.own (stD sp L)), some (.own (seD L)), en, some (.val (.int (i : Int))), none, j, sh, td, none])
        (fun _ _ => none) (List.range L.length) (fun i => [0, i / 2, L.length - 1]) (e1 := [some (.val sc), some sl, some (.val (.lst (eDs E))), some (.own (stD sp L)), some (.own (seD L)), en, none, none, none, none, none, none])
        (i_rngN (q := [.d (.int (L.length : Int))]) (by simp only [es_nil, es_cons, es_asgN, es_asgT, es_par, es_if, es_for, es_ret, es_retN, o_prim, o_call, o_var, o_con, o_glob, o_isi, o_and, o_or, o_not, o_ite, o_chain, e_var, e_rd, e_int, e_bl, e_non, e_str, e_glob, e_prim, e_isi, e_call, e_and, e_or, e_not, e_ite, ea_nil, ea_rd, ea_var, ea_con, ea_glob, ea_prim, ea_isi, ea_call, ea_and, ea_or, ea_not, ea_ite, ea_chain, ea_slc, ea_comp, ea_compif, r_var, r_prim, r_con, r_glob, r_call, r_isi, r_and, r_or, r_not, r_ite, r_chain, r_comp, r_compif, r_slc, ld_nil, ld_val, ld_own, ld_bor, ld_none, wp_nil, wp_c, tg_nm, tg_tup, tg_nil, tg_c, e_chain, es_cont, es_brk, es_pass, p_min2, p_max2, p_l0, p_l1, p_l2, p_l3, p_l4, p_is0, p_not0, n_non, n_tup, i_seq, q_lst, q_tup, q_ro, y_tt, y_tn, y_ii, y_bi, y_bb, y_lv, y_lb, oO_some, slotR, l_0, l_s, v_0, v_s, R.bind_ok, R.bind_bad, pd_nil, pd_c, sl_d, sl_s, okD_d, okD_l, okS_d, okS_l, rf_val, rf_own, fz_val, fz_own, tr_bl, t_bl, t_int, p_add, p_sub, p_neg, p_eq, p_ne, p_lt, p_le, p_gt, p_ge, p_abs, p_int, p_gcd, p_i0, p_i1, p_i2, p_i3, p_len2, p_len3, p_len4, p_t3, p_t4, p_t2, List.map, List.cons_append, List.nil_append, List.append_nil, List.length_cons, List.length_nil, List.replicate, if_true, if_false, Bool.false_eq_true, Nat.reduceAdd, Nat.reduceSub, decide_eq_true_eq, eq_self, decide_true, Bool.not_true, Bool.not_false, Int.reduceEq, Int.reduceLT, Int.reduceLE, decide_false, lnB]) rfl (by omega)) ?_ ?_ (fun i e ⟨sl, j, sh, td, h1, h2⟩ => ⟨sl, _, j, sh, td, h1, h2⟩) ⟨_, _, _, _, _, hs, rfl⟩ (fun s q => by rw [none_find] at q; cases q) ?_
      · rintro i hi e ⟨sl, i0, j0, sh, td, hs, rfl⟩
        have hi' := List.mem_range.mp hi
        refine ⟨[some (.val sc), some sl, some (.val (.lst (eDs E))), some (.own (stD sp L)), some (.own (seD L)), en, some (.val (.int (i : Int))), none, j0, sh, td, none], [some (.val sc), some sl, some (.val (.lst (eDs E))), some (.own (stD sp L)), some (.own (seD L)), en, some (.val (.int (i : Int))), none, j0, sh, td, none], rfl, ?_, _, _, _, _, hs, rfl⟩
        have f2 : ((i : Int)).fdiv 2 = ((i / 2 : Nat) : Int) := by rw [Int.fdiv_eq_ediv_of_nonneg _ (by decide)]; omega
        have f3 : (L.length : Int) - 1 = ((L.length - 1 : Nat) : Int) := by omega
        simp only [es_nil, es_cons, es_asgN, es_asgT, es_par, es_if, es_for, es_ret, es_retN, o_prim, o_call, o_var, o_con, o_glob, o_isi, o_and, o_or, o_not, o_ite, o_chain, e_var, e_rd, e_int, e_bl, e_non, e_str, e_glob, e_prim, e_isi, e_call, e_and, e_or, e_not, e_ite, ea_nil, ea_rd, ea_var, ea_con, ea_glob, ea_prim, ea_isi, ea_call, ea_and, ea_or, ea_not, ea_ite, ea_chain, ea_slc, ea_comp, ea_compif, r_var, r_prim, r_con, r_glob, r_call, r_isi, r_and, r_or, r_not, r_ite, r_chain, r_comp, r_compif, r_slc, ld_nil, ld_val, ld_own, ld_bor, ld_none, wp_nil, wp_c, tg_nm, tg_tup, tg_nil, tg_c, e_chain, es_cont, es_brk, es_pass, p_min2, p_max2, p_l0, p_l1, p_l2, p_l3, p_l4, p_is0, p_not0, n_non, n_tup, i_seq, q_lst, q_tup, q_ro, y_tt, y_tn, y_ii, y_bi, y_bb, y_lv, y_lb, oO_some, slotR, l_0, l_s, v_0, v_s, R.bind_ok, R.bind_bad, pd_nil, pd_c, sl_d, sl_s, okD_d, okD_l, okS_d, okS_l, rf_val, rf_own, fz_val, fz_own, tr_bl, t_bl, t_int, p_add, p_sub, p_neg, p_eq, p_ne, p_lt, p_le, p_gt, p_ge, p_abs, p_int, p_gcd, p_i0, p_i1, p_i2, p_i3, p_len2, p_len3, p_len4, p_t3, p_t4, p_t2, List.map, List.cons_append, List.nil_append, List.append_nil, List.length_cons, List.length_nil, List.replicate, if_true, if_false, Bool.false_eq_true, Nat.reduceAdd, Nat.reduceSub, decide_eq_true_eq, eq_self, decide_true, Bool.not_true, Bool.not_false, Int.reduceEq, Int.reduceLT, Int.reduceLE, decide_false, p_fdiv (i : Int) 2 (by decide), lnB, f2, f3]
        rfl
      · rintro i hi j hj e ⟨sl, j0, sh, td, hs, rfl⟩
        have hi' := List.mem_range.mp hi
        have hj' : j < L.length := by
          simp at hj
          omega
        have o1 := ok_getD oL hi'
        have o2 := ok_getD oL hj'
        have a1 := p_atB (L := L) (fun p => D.lst (nsD (S p.1 p.2))) hi'
        have a2 := p_atB (L := L) (fun p => D.lst (nsD (S p.1 p.2))) hj'
        have b1 := p_atB (L := L) (fun p => sD sp p.1 p.2) hi'
        have b2 := p_atB (L := L) (fun p => sD sp p.1 p.2) hj'
        generalize L.getD i (0, 0) = x at *
        generalize L.getD j (0, 0) = y at *
        have sh1 := den_shared x.1 x.2 y.1 y.2
        have mt := den_meet Z o1.rg o2.rg
        have rc : Rg (max x.1 y.1) (min x.2 y.2) := rg_cut o1.rg o2.rg
        generalize max x.1 y.1 = A at *
        generalize min x.2 y.2 = B at *
        have e1 := eq_nil (a := .bor (nsD (S A B))) rfl (nsD_plain _)
        have e2 := ne_nil (a := .bor (nsD (S A B))) rfl (nsD_plain _)
        rw [nsD_empty, S_empty rc] at e1 e2
        refine ⟨_, [some (.val sc), some (if A ≤ B then .val (pD sp) else sl), some (.val (.lst (eDs E))), some (.own (stD sp L)), some (.own (seD L)), en, some (.val (.int (i : Int))), none, some (.val (.int (j : Int))), some (if A ≤ B then .val (.lst (nsD (S A B))) else .own (nsD (S A B))), some (.val (sR sp A B)), none], rfl, .inl ?_, _, _, _, _, ?_, rfl⟩
        · refine step (e2 := [some (.val sc), some sl, some (.val (.lst (eDs E))), some (.own (stD sp L)), some (.own (seD L)), en, some (.val (.int (i : Int))), none, some (.val (.int (j : Int))), some (.own (nsD (S A B))), td, none]) (by simp only [es_nil, es_cons, es_asgN, es_asgT, es_par, es_if, es_for, es_ret, es_retN, o_prim, o_call, o_var, o_con, o_glob, o_isi, o_and, o_or, o_not, o_ite, o_chain, e_var, e_rd, e_int, e_bl, e_non, e_str, e_glob, e_prim, e_isi, e_call, e_and, e_or, e_not, e_ite, ea_nil, ea_rd, ea_var, ea_con, ea_glob, ea_prim, ea_isi, ea_call, ea_and, ea_or, ea_not, ea_ite, ea_chain, ea_slc, ea_comp, ea_compif, r_var, r_prim, r_con, r_glob, r_call, r_isi, r_and, r_or, r_not, r_ite, r_chain, r_comp, r_compif, r_slc, ld_nil, ld_val, ld_own, ld_bor, ld_none, wp_nil, wp_c, tg_nm, tg_tup, tg_nil, tg_c, e_chain, es_cont, es_brk, es_pass, p_min2, p_max2, p_l0, p_l1, p_l2, p_l3, p_l4, p_is0, p_not0, n_non, n_tup, i_seq, q_lst, q_tup, q_ro, y_tt, y_tn, y_ii, y_bi, y_bb, y_lv, y_lb, oO_some, slotR, l_0, l_s, v_0, v_s, R.bind_ok, R.bind_bad, pd_nil, pd_c, sl_d, sl_s, okD_d, okD_l, okS_d, okS_l, rf_val, rf_own, fz_val, fz_own, tr_bl, t_bl, t_int, p_add, p_sub, p_neg, p_eq, p_ne, p_lt, p_le, p_gt, p_ge, p_abs, p_int, p_gcd, p_i0, p_i1, p_i2, p_i3, p_len2, p_len3, p_len4, p_t3, p_t4, p_t2, List.map, List.cons_append, List.nil_append, List.append_nil, List.length_cons, List.length_nil, List.replicate, if_true, if_false, Bool.false_eq_true, Nat.reduceAdd, Nat.reduceSub, decide_eq_true_eq, eq_self, decide_true, Bool.not_true, Bool.not_false, Int.reduceEq, Int.reduceLT, Int.reduceLE, decide_false, a1, a2, sh1]) ?_
          refine step (e2 := [some (.val sc), some sl, some (.val (.lst (eDs E))), some (.own (stD sp L)), some (.own (seD L)), en, some (.val (.int (i : Int))), none, some (.val (.int (j : Int))), some (.own (nsD (S A B))), some (.val (sR sp A B)), none]) (by simp only [es_nil, es_cons, es_asgN, es_asgT, es_par, es_if, es_for, es_ret, es_retN, o_prim, o_call, o_var, o_con, o_glob, o_isi, o_and, o_or, o_not, o_ite, o_chain, e_var, e_rd, e_int, e_bl, e_non, e_str, e_glob, e_prim, e_isi, e_call, e_and, e_or, e_not, e_ite, ea_nil, ea_rd, ea_var, ea_con, ea_glob, ea_prim, ea_isi, ea_call, ea_and, ea_or, ea_not, ea_ite, ea_chain, ea_slc, ea_comp, ea_compif, r_var, r_prim, r_con, r_glob, r_call, r_isi, r_and, r_or, r_not, r_ite, r_chain, r_comp, r_compif, r_slc, ld_nil, ld_val, ld_own, ld_bor, ld_none, wp_nil, wp_c, tg_nm, tg_tup, tg_nil, tg_c, e_chain, es_cont, es_brk, es_pass, p_min2, p_max2, p_l0, p_l1, p_l2, p_l3, p_l4, p_is0, p_not0, n_non, n_tup, i_seq, q_lst, q_tup, q_ro, y_tt, y_tn, y_ii, y_bi, y_bb, y_lv, y_lb, oO_some, slotR, l_0, l_s, v_0, v_s, R.bind_ok, R.bind_bad, pd_nil, pd_c, sl_d, sl_s, okD_d, okD_l, okS_d, okS_l, rf_val, rf_own, fz_val, fz_own, tr_bl, t_bl, t_int, p_add, p_sub, p_neg, p_eq, p_ne, p_lt, p_le, p_gt, p_ge, p_abs, p_int, p_gcd, p_i0, p_i1, p_i2, p_i3, p_len2, p_len3, p_len4, p_t3, p_t4, p_t2, List.map, List.cons_append, List.nil_append, List.append_nil, List.length_cons, List.length_nil, List.replicate, if_true, if_false, Bool.false_eq_true, Nat.reduceAdd, Nat.reduceSub, decide_eq_true_eq, eq_self, decide_true, Bool.not_true, Bool.not_false, Int.reduceEq, Int.reduceLT, Int.reduceLE, decide_false, b1, b2, mt]) ?_
          by_cases q : A ≤ B
          · rw [decide_eq_false (by simpa using q)] at e1 e2
            have is := den_is_stretch (sp := sp) rc.a0 q rc.b1
            rw [if_pos q, if_pos q]
            rw [show sR sp A B = sD sp A B from if_pos q]
            refine step (e2 := [some (.val sc), some sl, some (.val (.lst (eDs E))), some (.own (stD sp L)), some (.own (seD L)), en, some (.val (.int (i : Int))), none, some (.val (.int (j : Int))), some (.own (nsD (S A B))), some (.val (sD sp A B)), none]) (by simp only [es_nil, es_cons, es_asgN, es_asgT, es_par, es_if, es_for, es_ret, es_retN, o_prim, o_call, o_var, o_con, o_glob, o_isi, o_and, o_or, o_not, o_ite, o_chain, e_var, e_rd, e_int, e_bl, e_non, e_str, e_glob, e_prim, e_isi, e_call, e_and, e_or, e_not, e_ite, ea_nil, ea_rd, ea_var, ea_con, ea_glob, ea_prim, ea_isi, ea_call, ea_and, ea_or, ea_not, ea_ite, ea_chain, ea_slc, ea_comp, ea_compif, r_var, r_prim, r_con, r_glob, r_call, r_isi, r_and, r_or, r_not, r_ite, r_chain, r_comp, r_compif, r_slc, ld_nil, ld_val, ld_own, ld_bor, ld_none, wp_nil, wp_c, tg_nm, tg_tup, tg_nil, tg_c, e_chain, es_cont, es_brk, es_pass, p_min2, p_max2, p_l0, p_l1, p_l2, p_l3, p_l4, p_is0, p_not0, n_non, n_tup, i_seq, q_lst, q_tup, q_ro, y_tt, y_tn, y_ii, y_bi, y_bb, y_lv, y_lb, oO_some, slotR, l_0, l_s, v_0, v_s, R.bind_ok, R.bind_bad, pd_nil, pd_c, sl_d, sl_s, okD_d, okD_l, okS_d, okS_l, rf_val, rf_own, fz_val, fz_own, tr_bl, t_bl, t_int, p_add, p_sub, p_neg, p_eq, p_ne, p_lt, p_le, p_gt, p_ge, p_abs, p_int, p_gcd, p_i0, p_i1, p_i2, p_i3, p_len2, p_len3, p_len4, p_t3, p_t4, p_t2, List.map, List.cons_append, List.nil_append, List.append_nil, List.length_cons, List.length_nil, List.replicate, if_true, if_false, Bool.false_eq_true, Nat.reduceAdd, Nat.reduceSub, decide_eq_true_eq, eq_self, decide_true, Bool.not_true, Bool.not_false, Int.reduceEq, Int.reduceLT, Int.reduceLE, decide_false, e1]) ?_
            rcases hs with rfl | rfl <;> simp only [es_nil, es_cons, es_asgN, es_asgT, es_par, es_if, es_for, es_ret, es_retN, o_prim, o_call, o_var, o_con, o_glob, o_isi, o_and, o_or, o_not, o_ite, o_chain, e_var, e_rd, e_int, e_bl, e_non, e_str, e_glob, e_prim, e_isi, e_call, e_and, e_or, e_not, e_ite, ea_nil, ea_rd, ea_var, ea_con, ea_glob, ea_prim, ea_isi, ea_call, ea_and, ea_or, ea_not, ea_ite, ea_chain, ea_slc, ea_comp, ea_compif, r_var, r_prim, r_con, r_glob, r_call, r_isi, r_and, r_or, r_not, r_ite, r_chain, r_comp, r_compif, r_slc, ld_nil, ld_val, ld_own, ld_bor, ld_none, wp_nil, wp_c, tg_nm, tg_tup, tg_nil, tg_c, e_chain, es_cont, es_brk, es_pass, p_min2, p_max2, p_l0, p_l1, p_l2, p_l3, p_l4, p_is0, p_not0, n_non, n_tup, i_seq, q_lst, q_tup, q_ro, y_tt, y_tn, y_ii, y_bi, y_bb, y_lv, y_lb, oO_some, slotR, l_0, l_s, v_0, v_s, R.bind_ok, R.bind_bad, pd_nil, pd_c, sl_d, sl_s, okD_d, okD_l, okS_d, okS_l, rf_val, rf_own, fz_val, fz_own, tr_bl, t_bl, t_int, p_add, p_sub, p_neg, p_eq, p_ne, p_lt, p_le, p_gt, p_ge, p_abs, p_int, p_gcd, p_i0, p_i1, p_i2, p_i3, p_len2, p_len3, p_len4, p_t3, p_t4, p_t2, List.map, List.cons_append, List.nil_append, List.append_nil, List.length_cons, List.length_nil, List.replicate, if_true, if_false, Bool.false_eq_true, Nat.reduceAdd, Nat.reduceSub, decide_eq_true_eq, eq_self, decide_true, Bool.not_true, Bool.not_false, Int.reduceEq, Int.reduceLT, Int.reduceLE, decide_false, e2, is]
          · rw [decide_eq_true q] at e1 e2
            rw [if_neg q, if_neg q]
            rw [show sR sp A B = .non from if_neg q]
            simp only [es_nil, es_cons, es_asgN, es_asgT, es_par, es_if, es_for, es_ret, es_retN, o_prim, o_call, o_var, o_con, o_glob, o_isi, o_and, o_or, o_not, o_ite, o_chain, e_var, e_rd, e_int, e_bl, e_non, e_str, e_glob, e_prim, e_isi, e_call, e_and, e_or, e_not, e_ite, ea_nil, ea_rd, ea_var, ea_con, ea_glob, ea_prim, ea_isi, ea_call, ea_and, ea_or, ea_not, ea_ite, ea_chain, ea_slc, ea_comp, ea_compif, r_var, r_prim, r_con, r_glob, r_call, r_isi, r_and, r_or, r_not, r_ite, r_chain, r_comp, r_compif, r_slc, ld_nil, ld_val, ld_own, ld_bor, ld_none, wp_nil, wp_c, tg_nm, tg_tup, tg_nil, tg_c, e_chain, es_cont, es_brk, es_pass, p_min2, p_max2, p_l0, p_l1, p_l2, p_l3, p_l4, p_is0, p_not0, n_non, n_tup, i_seq, q_lst, q_tup, q_ro, y_tt, y_tn, y_ii, y_bi, y_bb, y_lv, y_lb, oO_some, slotR, l_0, l_s, v_0, v_s, R.bind_ok, R.bind_bad, pd_nil, pd_c, sl_d, sl_s, okD_d, okD_l, okS_d, okS_l, rf_val, rf_own, fz_val, fz_own, tr_bl, t_bl, t_int, p_add, p_sub, p_neg, p_eq, p_ne, p_lt, p_le, p_gt, p_ge, p_abs, p_int, p_gcd, p_i0, p_i1, p_i2, p_i3, p_len2, p_len3, p_len4, p_t3, p_t4, p_t2, List.map, List.cons_append, List.nil_append, List.append_nil, List.length_cons, List.length_nil, List.replicate, if_true, if_false, Bool.false_eq_true, Nat.reduceAdd, Nat.reduceSub, decide_eq_true_eq, eq_self, decide_true, Bool.not_true, Bool.not_false, Int.reduceEq, Int.reduceLT, Int.reduceLE, decide_false, e1, e2]
        · by_cases q : A ≤ B
          · rw [if_pos q]; exact .inr rfl
          · rw [if_neg q]; exact hs
      · rintro _ e ⟨sl, i, j, sh, td, hs, rfl⟩
        have am := den_all Z hn oL (by omega)
        have eM : mDs sp (L.map some) = stD sp L := by simp [mDs, stD, mD, List.map_map, Function.comp_def]
        have lm := den_law_most Z (M := L.map some) (L := L) ⟨fun p hp => by simp at hp; exact oL p hp⟩ (by simp; omega) (by simp) (fun i hi => .inr (by simp [List.getD_eq_getElem?_getD, List.getElem?_eq_getElem hi]))
        rw [eM] at lm
        refine step (e2 := [some (.val sc), some (.val (pD sp)), some (.val (.lst (eDs E))), some (.val (.lst (stD sp L))), some (.val (.lst (seD L))), en, i, none, j, sh, td, none]) (by rcases hs with rfl | rfl <;> simp only [es_nil, es_cons, es_asgN, es_asgT, es_par, es_if, es_for, es_ret, es_retN, o_prim, o_call, o_var, o_con, o_glob, o_isi, o_and, o_or, o_not, o_ite, o_chain, e_var, e_rd, e_int, e_bl, e_non, e_str, e_glob, e_prim, e_isi, e_call, e_and, e_or, e_not, e_ite, ea_nil, ea_rd, ea_var, ea_con, ea_glob, ea_prim, ea_isi, ea_call, ea_and, ea_or, ea_not, ea_ite, ea_chain, ea_slc, ea_comp, ea_compif, r_var, r_prim, r_con, r_glob, r_call, r_isi, r_and, r_or, r_not, r_ite, r_chain, r_comp, r_compif, r_slc, ld_nil, ld_val, ld_own, ld_bor, ld_none, wp_nil, wp_c, tg_nm, tg_tup, tg_nil, tg_c, e_chain, es_cont, es_brk, es_pass, p_min2, p_max2, p_l0, p_l1, p_l2, p_l3, p_l4, p_is0, p_not0, n_non, n_tup, i_seq, q_lst, q_tup, q_ro, y_tt, y_tn, y_ii, y_bi, y_bb, y_lv, y_lb, oO_some, slotR, l_0, l_s, v_0, v_s, R.bind_ok, R.bind_bad, pd_nil, pd_c, sl_d, sl_s, okD_d, okD_l, okS_d, okS_l, rf_val, rf_own, fz_val, fz_own, tr_bl, t_bl, t_int, p_add, p_sub, p_neg, p_eq, p_ne, p_lt, p_le, p_gt, p_ge, p_abs, p_int, p_gcd, p_i0, p_i1, p_i2, p_i3, p_len2, p_len3, p_len4, p_t3, p_t4, p_t2, List.map, List.cons_append, List.nil_append, List.append_nil, List.length_cons, List.length_nil, List.replicate, if_true, if_false, Bool.false_eq_true, Nat.reduceAdd, Nat.reduceSub, decide_eq_true_eq, eq_self, decide_true, Bool.not_true, Bool.not_false, Int.reduceEq, Int.reduceLT, Int.reduceLE, decide_false, am, lm]) ?_
        obtain ⟨l, hl, dg⟩ := den_digits z15 3 L.length (by decide) (by omega)
        refine step (e2 := [some (.val sc), some (.val (pD sp)), some (.val (.lst (eDs E))), some (.val (.lst (stD sp L))), some (.val (.lst (seD L))), en, i, some (.own (nsD l)), j, sh, td, none]) (by simp only [es_nil, es_cons, es_asgN, es_asgT, es_par, es_if, es_for, es_ret, es_retN, o_prim, o_call, o_var, o_con, o_glob, o_isi, o_and, o_or, o_not, o_ite, o_chain, e_var, e_rd, e_int, e_bl, e_non, e_str, e_glob, e_prim, e_isi, e_call, e_and, e_or, e_not, e_ite, ea_nil, ea_rd, ea_var, ea_con, ea_glob, ea_prim, ea_isi, ea_call, ea_and, ea_or, ea_not, ea_ite, ea_chain, ea_slc, ea_comp, ea_compif, r_var, r_prim, r_con, r_glob, r_call, r_isi, r_and, r_or, r_not, r_ite, r_chain, r_comp, r_compif, r_slc, ld_nil, ld_val, ld_own, ld_bor, ld_none, wp_nil, wp_c, tg_nm, tg_tup, tg_nil, tg_c, e_chain, es_cont, es_brk, es_pass, p_min2, p_max2, p_l0, p_l1, p_l2, p_l3, p_l4, p_is0, p_not0, n_non, n_tup, i_seq, q_lst, q_tup, q_ro, y_tt, y_tn, y_ii, y_bi, y_bb, y_lv, y_lb, oO_some, slotR, l_0, l_s, v_0, v_s, R.bind_ok, R.bind_bad, pd_nil, pd_c, sl_d, sl_s, okD_d, okD_l, okS_d, okS_l, rf_val, rf_own, fz_val, fz_own, tr_bl, t_bl, t_int, p_add, p_sub, p_neg, p_eq, p_ne, p_lt, p_le, p_gt, p_ge, p_abs, p_int, p_gcd, p_i0, p_i1, p_i2, p_i3, p_len2, p_len3, p_len4, p_t3, p_t4, p_t2, List.map, List.cons_append, List.nil_append, List.append_nil, List.length_cons, List.length_nil, List.replicate, if_true, if_false, Bool.false_eq_true, Nat.reduceAdd, Nat.reduceSub, decide_eq_true_eq, eq_self, decide_true, Bool.not_true, Bool.not_false, Int.reduceEq, Int.reduceLT, Int.reduceLE, decide_false, c15, lsB, dg]) ?_
        refine step_rt ?_
        let M' : List Mi := (List.range L.length).map fun k => if 0 < l.getD k 0 then some (L.getD k (0, 0)) else none
        have gM : ∀ k, k < L.length → M'.getD k none = if 0 < l.getD k 0 then some (L.getD k (0, 0)) else none := fun k hk => by
          simp only [M', List.getD_eq_getElem?_getD, List.getElem?_map, List.getElem?_range hk]
          rfl
        have lM : M'.length = L.length := by simp [M']
        have l2 := den_law_most Z (M := M') (L := L) ⟨fun p hp => by
            obtain ⟨k, hk, e⟩ := List.mem_map.mp hp
            have hk' := List.mem_range.mp hk
            split at e
            · cases e
              exact ok_getD oL hk'
            · cases e⟩ (by omega) lM (fun i hi => by
          rw [gM i hi]
          split
          · exact .inr rfl
          · exact .inl rfl)
        have eM2 : (List.range L.length).map (fun k => mD sp (M'.getD k none)) = mDs sp M' := by
          rw [show mDs sp M' = (List.range L.length).map fun k => mD sp (if 0 < l.getD k 0 then some (L.getD k (0, 0)) else none) from List.map_map]
          exact List.map_congr_left fun k hk => by rw [gM k (List.mem_range.mp hk)]
        rw [es_ret, r_call, o_call, ea_comp, (comp_of (List.range L.length) (fun (k : Nat) => D.int (k : Int)) (fun k => mD sp (M'.getD k none)) (e1 := [some (.val sc), some (.val (pD sp)), some (.val (.lst (eDs E))), some (.val (.lst (stD sp L))), some (.val (.lst (seD L))), en, i, some (.own (nsD l)), j, sh, td, none])
          (i_rngN (q := [.d (.int (L.length : Int))]) (by simp only [es_nil, es_cons, es_asgN, es_asgT, es_par, es_if, es_for, es_ret, es_retN, o_prim, o_call, o_var, o_con, o_glob, o_isi, o_and, o_or, o_not, o_ite, o_chain, e_var, e_rd, e_int, e_bl, e_non, e_str, e_glob, e_prim, e_isi, e_call, e_and, e_or, e_not, e_ite, ea_nil, ea_rd, ea_var, ea_con, ea_glob, ea_prim, ea_isi, ea_call, ea_and, ea_or, ea_not, ea_ite, ea_chain, ea_slc, ea_comp, ea_compif, r_var, r_prim, r_con, r_glob, r_call, r_isi, r_and, r_or, r_not, r_ite, r_chain, r_comp, r_compif, r_slc, ld_nil, ld_val, ld_own, ld_bor, ld_none, wp_nil, wp_c, tg_nm, tg_tup, tg_nil, tg_c, e_chain, es_cont, es_brk, es_pass, p_min2, p_max2, p_l0, p_l1, p_l2, p_l3, p_l4, p_is0, p_not0, n_non, n_tup, i_seq, q_lst, q_tup, q_ro, y_tt, y_tn, y_ii, y_bi, y_bb, y_lv, y_lb, oO_some, slotR, l_0, l_s, v_0, v_s, R.bind_ok, R.bind_bad, pd_nil, pd_c, sl_d, sl_s, okD_d, okD_l, okS_d, okS_l, rf_val, rf_own, fz_val, fz_own, tr_bl, t_bl, t_int, p_add, p_sub, p_neg, p_eq, p_ne, p_lt, p_le, p_gt, p_ge, p_abs, p_int, p_gcd, p_i0, p_i1, p_i2, p_i3, p_len2, p_len3, p_len4, p_t3, p_t4, p_t2, List.map, List.cons_append, List.nil_append, List.append_nil, List.length_cons, List.length_nil, List.replicate, if_true, if_false, Bool.false_eq_true, Nat.reduceAdd, Nat.reduceSub, decide_eq_true_eq, eq_self, decide_true, Bool.not_true, Bool.not_false, Int.reduceEq, Int.reduceLT, Int.reduceLE, decide_false, lsB]) rfl (by omega)) (fun k hk => ?_) (by simp [lim]; omega)).2, eM2]
        · simp only [es_nil, es_cons, es_asgN, es_asgT, es_par, es_if, es_for, es_ret, es_retN, o_prim, o_call, o_var, o_con, o_glob, o_isi, o_and, o_or, o_not, o_ite, o_chain, e_var, e_rd, e_int, e_bl, e_non, e_str, e_glob, e_prim, e_isi, e_call, e_and, e_or, e_not, e_ite, ea_nil, ea_rd, ea_var, ea_con, ea_glob, ea_prim, ea_isi, ea_call, ea_and, ea_or, ea_not, ea_ite, ea_chain, ea_slc, ea_comp, ea_compif, r_var, r_prim, r_con, r_glob, r_call, r_isi, r_and, r_or, r_not, r_ite, r_chain, r_comp, r_compif, r_slc, ld_nil, ld_val, ld_own, ld_bor, ld_none, wp_nil, wp_c, tg_nm, tg_tup, tg_nil, tg_c, e_chain, es_cont, es_brk, es_pass, p_min2, p_max2, p_l0, p_l1, p_l2, p_l3, p_l4, p_is0, p_not0, n_non, n_tup, i_seq, q_lst, q_tup, q_ro, y_tt, y_tn, y_ii, y_bi, y_bb, y_lv, y_lb, oO_some, slotR, l_0, l_s, v_0, v_s, R.bind_ok, R.bind_bad, pd_nil, pd_c, sl_d, sl_s, okD_d, okD_l, okS_d, okS_l, rf_val, rf_own, fz_val, fz_own, tr_bl, t_bl, t_int, p_add, p_sub, p_neg, p_eq, p_ne, p_lt, p_le, p_gt, p_ge, p_abs, p_int, p_gcd, p_i0, p_i1, p_i2, p_i3, p_len2, p_len3, p_len4, p_t3, p_t4, p_t2, List.map, List.cons_append, List.nil_append, List.append_nil, List.length_cons, List.length_nil, List.replicate, if_true, if_false, Bool.false_eq_true, Nat.reduceAdd, Nat.reduceSub, decide_eq_true_eq, eq_self, decide_true, Bool.not_true, Bool.not_false, Int.reduceEq, Int.reduceLT, Int.reduceLE, decide_false, l2]
        · have hk' := List.mem_range.mp hk
          have ak := p_at (L := L) (fun p => sD sp p.1 p.2) hk'
          have rk := p_atN (l := l) (i := k) (by rw [hl.len]; exact hk')
          rw [gM k hk']
          refine ⟨[some (.val sc), some (.val (pD sp)), some (.val (.lst (eDs E))), some (.val (.lst (stD sp L))), some (.val (.lst (seD L))), en.map Sl.lend, i.map Sl.lend, some (.bor (nsD l)), j.map Sl.lend, sh.map Sl.lend, td.map Sl.lend, some (.val (.int (k : Int)))],
            [some (.val sc), some (.val (pD sp)), some (.val (.lst (eDs E))), some (.val (.lst (stD sp L))), some (.val (.lst (seD L))), en.map Sl.lend, i.map Sl.lend, some (.bor (nsD l)), j.map Sl.lend, sh.map Sl.lend, td.map Sl.lend, some (.val (.int (k : Int)))], rfl, ?_⟩
          by_cases q : 0 < l.getD k 0
          · have q' : (0 : Int) < ((l.getD k 0 : Nat) : Int) := by omega
            rw [if_pos q]
            simp only [es_nil, es_cons, es_asgN, es_asgT, es_par, es_if, es_for, es_ret, es_retN, o_prim, o_call, o_var, o_con, o_glob, o_isi, o_and, o_or, o_not, o_ite, o_chain, e_var, e_rd, e_int, e_bl, e_non, e_str, e_glob, e_prim, e_isi, e_call, e_and, e_or, e_not, e_ite, ea_nil, ea_rd, ea_var, ea_con, ea_glob, ea_prim, ea_isi, ea_call, ea_and, ea_or, ea_not, ea_ite, ea_chain, ea_slc, ea_comp, ea_compif, r_var, r_prim, r_con, r_glob, r_call, r_isi, r_and, r_or, r_not, r_ite, r_chain, r_comp, r_compif, r_slc, ld_nil, ld_val, ld_own, ld_bor, ld_none, wp_nil, wp_c, tg_nm, tg_tup, tg_nil, tg_c, e_chain, es_cont, es_brk, es_pass, p_min2, p_max2, p_l0, p_l1, p_l2, p_l3, p_l4, p_is0, p_not0, n_non, n_tup, i_seq, q_lst, q_tup, q_ro, y_tt, y_tn, y_ii, y_bi, y_bb, y_lv, y_lb, oO_some, slotR, l_0, l_s, v_0, v_s, R.bind_ok, R.bind_bad, pd_nil, pd_c, sl_d, sl_s, okD_d, okD_l, okS_d, okS_l, rf_val, rf_own, fz_val, fz_own, tr_bl, t_bl, t_int, p_add, p_sub, p_neg, p_eq, p_ne, p_lt, p_le, p_gt, p_ge, p_abs, p_int, p_gcd, p_i0, p_i1, p_i2, p_i3, p_len2, p_len3, p_len4, p_t3, p_t4, p_t2, List.map, List.cons_append, List.nil_append, List.append_nil, List.length_cons, List.length_nil, List.replicate, if_true, if_false, Bool.false_eq_true, Nat.reduceAdd, Nat.reduceSub, decide_eq_true_eq, eq_self, decide_true, Bool.not_true, Bool.not_false, Int.reduceEq, Int.reduceLT, Int.reduceLE, decide_false, rk, q', ak, mD]
          · have q' : ¬ (0 : Int) < ((l.getD k 0 : Nat) : Int) := by omega
            rw [if_neg q]
            simp only [es_nil, es_cons, es_asgN, es_asgT, es_par, es_if, es_for, es_ret, es_retN, o_prim, o_call, o_var, o_con, o_glob, o_isi, o_and, o_or, o_not, o_ite, o_chain, e_var, e_rd, e_int, e_bl, e_non, e_str, e_glob, e_prim, e_isi, e_call, e_and, e_or, e_not, e_ite, ea_nil, ea_rd, ea_var, ea_con, ea_glob, ea_prim, ea_isi, ea_call, ea_and, ea_or, ea_not, ea_ite, ea_chain, ea_slc, ea_comp, ea_compif, r_var, r_prim, r_con, r_glob, r_call, r_isi, r_and, r_or, r_not, r_ite, r_chain, r_comp, r_compif, r_slc, ld_nil, ld_val, ld_own, ld_bor, ld_none, wp_nil, wp_c, tg_nm, tg_tup, tg_nil, tg_c, e_chain, es_cont, es_brk, es_pass, p_min2, p_max2, p_l0, p_l1, p_l2, p_l3, p_l4, p_is0, p_not0, n_non, n_tup, i_seq, q_lst, q_tup, q_ro, y_tt, y_tn, y_ii, y_bi, y_bb, y_lv, y_lb, oO_some, slotR, l_0, l_s, v_0, v_s, R.bind_ok, R.bind_bad, pd_nil, pd_c, sl_d, sl_s, okD_d, okD_l, okS_d, okS_l, rf_val, rf_own, fz_val, fz_own, tr_bl, t_bl, t_int, p_add, p_sub, p_neg, p_eq, p_ne, p_lt, p_le, p_gt, p_ge, p_abs, p_int, p_gcd, p_i0, p_i1, p_i2, p_i3, p_len2, p_len3, p_len4, p_t3, p_t4, p_t2, List.map, List.cons_append, List.nil_append, List.append_nil, List.length_cons, List.length_nil, List.replicate, if_true, if_false, Bool.false_eq_true, Nat.reduceAdd, Nat.reduceSub, decide_eq_true_eq, eq_self, decide_true, Bool.not_true, Bool.not_false, Int.reduceEq, Int.reduceLT, Int.reduceLE, decide_false, rk, q', mD]
end K88
set_option Elab.async false
set_option linter.all false
set_option maxRecDepth 100000
set_option maxHeartbeats 0
namespace K88
open PySem PySem.Spec PyProof.Rows L2 Ev
def top (i : Nat) : Stmt := PySem.Challenge.pw_whattwosettle_k88_stretches_that_share_a.main.body.getD i (.Pass ⟨0, 0, 0, 0⟩)
abbrev st_below : Stmt := top 1
abbrev N_below : List Str := ["a", "b"]
abbrev P_below : List Str := ["a", "b"]
def dd_below : He.DefD := ⟨("below", none), "below", "below", defArgs st_below, defBody st_below, defScope st_below, [], []⟩
theorem sc_below : FnScope N_below P_below (defScope st_below) := ⟨rfl, rfl, rfl, by decide +kernel, rfl, by decide +kernel, by decide +kernel⟩
theorem ok_below : okSts N_below (defScope st_below) b_below (defBody st_below) = true := by kernel_rfl
abbrev st_stretch : Stmt := top 3
abbrev N_stretch : List Str := ["low", "low_in", "high", "high_in"]
abbrev P_stretch : List Str := ["low", "low_in", "high", "high_in"]
def dd_stretch : He.DefD := ⟨("stretch", none), "stretch", "stretch", defArgs st_stretch, defBody st_stretch, defScope st_stretch, [], []⟩
theorem sc_stretch : FnScope N_stretch P_stretch (defScope st_stretch) := ⟨rfl, rfl, rfl, by decide +kernel, rfl, by decide +kernel, by decide +kernel⟩
theorem ok_stretch : okSts N_stretch (defScope st_stretch) b_stretch (defBody st_stretch) = true := by kernel_rfl
abbrev st_in_stretch : Stmt := top 4
abbrev N_in_stretch : List Str := ["number", "one"]
abbrev P_in_stretch : List Str := ["number", "one"]
def dd_in_stretch : He.DefD := ⟨("in_stretch", none), "in_stretch", "in_stretch", defArgs st_in_stretch, defBody st_in_stretch, defScope st_in_stretch, [], []⟩
theorem sc_in_stretch : FnScope N_in_stretch P_in_stretch (defScope st_in_stretch) := ⟨rfl, rfl, rfl, by decide +kernel, rfl, by decide +kernel, by decide +kernel⟩
theorem ok_in_stretch : okSts N_in_stretch (defScope st_in_stretch) b_in_stretch (defBody st_in_stretch) = true := by kernel_rfl
abbrev st_meet : Stmt := top 5
abbrev N_meet : List Str := ["one", "other", "low", "low_in", "high", "high_in"]
abbrev P_meet : List Str := ["one", "other"]
def dd_meet : He.DefD := ⟨("meet", none), "meet", "meet", defArgs st_meet, defBody st_meet, defScope st_meet, [], []⟩
theorem sc_meet : FnScope N_meet P_meet (defScope st_meet) := ⟨rfl, rfl, rfl, by decide +kernel, rfl, by decide +kernel, by decide +kernel⟩
theorem ok_meet : okSts N_meet (defScope st_meet) b_meet (defBody st_meet) = true := by kernel_rfl
abbrev st_meet_all : Stmt := top 6
abbrev N_meet_all : List Str := ["stretches", "common", "one", "i", "j"]
abbrev P_meet_all : List Str := ["stretches"]
def dd_meet_all : He.DefD := ⟨("meet_all", none), "meet_all", "meet_all", defArgs st_meet_all, defBody st_meet_all, defScope st_meet_all, [], []⟩
theorem sc_meet_all : FnScope N_meet_all P_meet_all (defScope st_meet_all) := ⟨rfl, rfl, rfl, by decide +kernel, rfl, by decide +kernel, by decide +kernel⟩
theorem ok_meet_all : okSts N_meet_all (defScope st_meet_all) b_meet_all (defBody st_meet_all) = true := by kernel_rfl
abbrev st_begins_earlier : Stmt := top 7
abbrev N_begins_earlier : List Str := ["one", "other"]
abbrev P_begins_earlier : List Str := ["one", "other"]
def dd_begins_earlier : He.DefD := ⟨("begins_earlier", none), "begins_earlier", "begins_earlier", defArgs st_begins_earlier, defBody st_begins_earlier, defScope st_begins_earlier, [], []⟩
theorem sc_begins_earlier : FnScope N_begins_earlier P_begins_earlier (defScope st_begins_earlier) := ⟨rfl, rfl, rfl, by decide +kernel, rfl, by decide +kernel, by decide +kernel⟩
theorem ok_begins_earlier : okSts N_begins_earlier (defScope st_begins_earlier) b_begins_earlier (defBody st_begins_earlier) = true := by kernel_rfl
abbrev st_covers_begin : Stmt := top 8
abbrev N_covers_begin : List Str := ["one", "other"]
abbrev P_covers_begin : List Str := ["one", "other"]
def dd_covers_begin : He.DefD := ⟨("covers_begin", none), "covers_begin", "covers_begin", defArgs st_covers_begin, defBody st_covers_begin, defScope st_covers_begin, [], []⟩
theorem sc_covers_begin : FnScope N_covers_begin P_covers_begin (defScope st_covers_begin) := ⟨rfl, rfl, rfl, by decide +kernel, rfl, by decide +kernel, by decide +kernel⟩
theorem ok_covers_begin : okSts N_covers_begin (defScope st_covers_begin) b_covers_begin (defBody st_covers_begin) = true := by kernel_rfl
abbrev st_most_met : Stmt := top 9
abbrev N_most_met : List Str := ["stretches", "kept", "start", "one", "met", "k", "other"]
abbrev P_most_met : List Str := ["stretches"]
def dd_most_met : He.DefD := ⟨("most_met", none), "most_met", "most_met", defArgs st_most_met, defBody st_most_met, defScope st_most_met, [], []⟩
theorem sc_most_met : FnScope N_most_met P_most_met (defScope st_most_met) := ⟨rfl, rfl, rfl, by decide +kernel, rfl, by decide +kernel, by decide +kernel⟩
theorem ok_most_met : okSts N_most_met (defScope st_most_met) b_most_met (defBody st_most_met) = true := by kernel_rfl
abbrev st__law_cell : Stmt := top 11
abbrev N__law_cell : List Str := ["script", "k"]
abbrev P__law_cell : List Str := ["script", "k"]
def dd__law_cell : He.DefD := ⟨("_law_cell", none), "_law_cell", "_law_cell", defArgs st__law_cell, defBody st__law_cell, defScope st__law_cell, [], []⟩
theorem sc__law_cell : FnScope N__law_cell P__law_cell (defScope st__law_cell) := ⟨rfl, rfl, rfl, by decide +kernel, rfl, by decide +kernel, by decide +kernel⟩
theorem ok__law_cell : okSts N__law_cell (defScope st__law_cell) b__law_cell (defBody st__law_cell) = true := by kernel_rfl
abbrev st__law_digits : Stmt := top 12
abbrev N__law_digits : List Str := ["cell", "base", "count", "rest", "digits", "k"]
abbrev P__law_digits : List Str := ["cell", "base", "count"]
def dd__law_digits : He.DefD := ⟨("_law_digits", none), "_law_digits", "_law_digits", defArgs st__law_digits, defBody st__law_digits, defScope st__law_digits, [], []⟩
theorem sc__law_digits : FnScope N__law_digits P__law_digits (defScope st__law_digits) := ⟨rfl, rfl, rfl, by decide +kernel, rfl, by decide +kernel, by decide +kernel⟩
theorem ok__law_digits : okSts N__law_digits (defScope st__law_digits) b__law_digits (defBody st__law_digits) = true := by kernel_rfl
abbrev st__law_lowest : Stmt := top 13
abbrev N__law_lowest : List Str := ["n", "d", "a", "b", "c"]
abbrev P__law_lowest : List Str := ["n", "d"]
def dd__law_lowest : He.DefD := ⟨("_law_lowest", none), "_law_lowest", "_law_lowest", defArgs st__law_lowest, defBody st__law_lowest, defScope st__law_lowest, [], []⟩
theorem sc__law_lowest : FnScope N__law_lowest P__law_lowest (defScope st__law_lowest) := ⟨rfl, rfl, rfl, by decide +kernel, rfl, by decide +kernel, by decide +kernel⟩
theorem ok__law_lowest : okSts N__law_lowest (defScope st__law_lowest) b__law_lowest (defBody st__law_lowest) = true := by kernel_rfl
abbrev st__law_spots : Stmt := top 14
abbrev N__law_spots : List Str := ["script", "bottom", "shift", "k"]
abbrev P__law_spots : List Str := ["script"]
def dd__law_spots : He.DefD := ⟨("_law_spots", none), "_law_spots", "_law_spots", defArgs st__law_spots, defBody st__law_spots, defScope st__law_spots, [], []⟩
theorem sc__law_spots : FnScope N__law_spots P__law_spots (defScope st__law_spots) := ⟨rfl, rfl, rfl, by decide +kernel, rfl, by decide +kernel, by decide +kernel⟩
theorem ok__law_spots : okSts N__law_spots (defScope st__law_spots) b__law_spots (defBody st__law_spots) = true := by kernel_rfl
abbrev st__law_has : Stmt := top 15
abbrev N__law_has : List Str := ["ends", "k"]
abbrev P__law_has : List Str := ["ends", "k"]
def dd__law_has : He.DefD := ⟨("_law_has", none), "_law_has", "_law_has", defArgs st__law_has, defBody st__law_has, defScope st__law_has, [], []⟩
theorem sc__law_has : FnScope N__law_has P__law_has (defScope st__law_has) := ⟨rfl, rfl, rfl, by decide +kernel, rfl, by decide +kernel, by decide +kernel⟩
theorem ok__law_has : okSts N__law_has (defScope st__law_has) b__law_has (defBody st__law_has) = true := by kernel_rfl
abbrev st__law_set : Stmt := top 16
abbrev N__law_set : List Str := ["ends", "k"]
abbrev P__law_set : List Str := ["ends"]
def dd__law_set : He.DefD := ⟨("_law_set", none), "_law_set", "_law_set", defArgs st__law_set, defBody st__law_set, defScope st__law_set, [], []⟩
theorem sc__law_set : FnScope N__law_set P__law_set (defScope st__law_set) := ⟨rfl, rfl, rfl, by decide +kernel, rfl, by decide +kernel, by decide +kernel⟩
theorem ok__law_set : okSts N__law_set (defScope st__law_set) b__law_set (defBody st__law_set) = true := by kernel_rfl
abbrev st__law_shared : Stmt := top 17
abbrev N__law_shared : List Str := ["one", "other", "k"]
abbrev P__law_shared : List Str := ["one", "other"]
def dd__law_shared : He.DefD := ⟨("_law_shared", none), "_law_shared", "_law_shared", defArgs st__law_shared, defBody st__law_shared, defScope st__law_shared, [], []⟩
theorem sc__law_shared : FnScope N__law_shared P__law_shared (defScope st__law_shared) := ⟨rfl, rfl, rfl, by decide +kernel, rfl, by decide +kernel, by decide +kernel⟩
theorem ok__law_shared : okSts N__law_shared (defScope st__law_shared) b__law_shared (defBody st__law_shared) = true := by kernel_rfl
abbrev st__law_drawn : Stmt := top 18
abbrev N__law_drawn : List Str := ["script", "many", "tight", "drawn", "k", "row", "low", "high"]
abbrev P__law_drawn : List Str := ["script"]
def dd__law_drawn : He.DefD := ⟨("_law_drawn", none), "_law_drawn", "_law_drawn", defArgs st__law_drawn, defBody st__law_drawn, defScope st__law_drawn, [], []⟩
theorem sc__law_drawn : FnScope N__law_drawn P__law_drawn (defScope st__law_drawn) := ⟨rfl, rfl, rfl, by decide +kernel, rfl, by decide +kernel, by decide +kernel⟩
theorem ok__law_drawn : okSts N__law_drawn (defScope st__law_drawn) b__law_drawn (defBody st__law_drawn) = true := by kernel_rfl
abbrev st__law_told : Stmt := top 19
abbrev N__law_told : List Str := ["ends", "spots"]
abbrev P__law_told : List Str := ["ends", "spots"]
def dd__law_told : He.DefD := ⟨("_law_told", none), "_law_told", "_law_told", defArgs st__law_told, defBody st__law_told, defScope st__law_told, [], []⟩
theorem sc__law_told : FnScope N__law_told P__law_told (defScope st__law_told) := ⟨rfl, rfl, rfl, by decide +kernel, rfl, by decide +kernel, by decide +kernel⟩
theorem ok__law_told : okSts N__law_told (defScope st__law_told) b__law_told (defBody st__law_told) = true := by kernel_rfl
abbrev st__law_due : Stmt := top 20
abbrev N__law_due : List Str := ["numbers", "spots", "low", "high"]
abbrev P__law_due : List Str := ["numbers", "spots"]
def dd__law_due : He.DefD := ⟨("_law_due", none), "_law_due", "_law_due", defArgs st__law_due, defBody st__law_due, defScope st__law_due, [], []⟩
theorem sc__law_due : FnScope N__law_due P__law_due (defScope st__law_due) := ⟨rfl, rfl, rfl, by decide +kernel, rfl, by decide +kernel, by decide +kernel⟩
theorem ok__law_due : okSts N__law_due (defScope st__law_due) b__law_due (defBody st__law_due) = true := by kernel_rfl
abbrev st__law_is_stretch : Stmt := top 21
abbrev N__law_is_stretch : List Str := ["value", "spots", "due", "number"]
abbrev P__law_is_stretch : List Str := ["value", "spots", "due"]
def dd__law_is_stretch : He.DefD := ⟨("_law_is_stretch", none), "_law_is_stretch", "_law_is_stretch", defArgs st__law_is_stretch, defBody st__law_is_stretch, defScope st__law_is_stretch, [], []⟩
theorem sc__law_is_stretch : FnScope N__law_is_stretch P__law_is_stretch (defScope st__law_is_stretch) := ⟨rfl, rfl, rfl, by decide +kernel, rfl, by decide +kernel, by decide +kernel⟩
theorem ok__law_is_stretch : okSts N__law_is_stretch (defScope st__law_is_stretch) b__law_is_stretch (defBody st__law_is_stretch) = true := by kernel_rfl
abbrev st__law_single : Stmt := top 22
abbrev N__law_single : List Str := ["ends", "spots", "told", "k", "answer"]
abbrev P__law_single : List Str := ["ends", "spots"]
def dd__law_single : He.DefD := ⟨("_law_single", none), "_law_single", "_law_single", defArgs st__law_single, defBody st__law_single, defScope st__law_single, [], []⟩
theorem sc__law_single : FnScope N__law_single P__law_single (defScope st__law_single) := ⟨rfl, rfl, rfl, by decide +kernel, rfl, by decide +kernel, by decide +kernel⟩
theorem ok__law_single : okSts N__law_single (defScope st__law_single) b__law_single (defBody st__law_single) = true := by kernel_rfl
abbrev st__law_is_index : Stmt := top 23
abbrev N__law_is_index : List Str := ["value", "many"]
abbrev P__law_is_index : List Str := ["value", "many"]
def dd__law_is_index : He.DefD := ⟨("_law_is_index", none), "_law_is_index", "_law_is_index", defArgs st__law_is_index, defBody st__law_is_index, defScope st__law_is_index, [], []⟩
theorem sc__law_is_index : FnScope N__law_is_index P__law_is_index (defScope st__law_is_index) := ⟨rfl, rfl, rfl, by decide +kernel, rfl, by decide +kernel, by decide +kernel⟩
theorem ok__law_is_index : okSts N__law_is_index (defScope st__law_is_index) b__law_is_index (defBody st__law_is_index) = true := by kernel_rfl
abbrev st__law_all_due : Stmt := top 24
abbrev N__law_all_due : List Str := ["sets", "shared", "one", "i", "j"]
abbrev P__law_all_due : List Str := ["sets"]
def dd__law_all_due : He.DefD := ⟨("_law_all_due", none), "_law_all_due", "_law_all_due", defArgs st__law_all_due, defBody st__law_all_due, defScope st__law_all_due, [], []⟩
theorem sc__law_all_due : FnScope N__law_all_due P__law_all_due (defScope st__law_all_due) := ⟨rfl, rfl, rfl, by decide +kernel, rfl, by decide +kernel, by decide +kernel⟩
theorem ok__law_all_due : okSts N__law_all_due (defScope st__law_all_due) b__law_all_due (defBody st__law_all_due) = true := by kernel_rfl
abbrev st__law_all : Stmt := top 25
abbrev N__law_all : List Str := ["stretches", "sets", "spots", "handed", "told", "due", "k"]
abbrev P__law_all : List Str := ["stretches", "sets", "spots"]
def dd__law_all : He.DefD := ⟨("_law_all", none), "_law_all", "_law_all", defArgs st__law_all, defBody st__law_all, defScope st__law_all, [], []⟩
theorem sc__law_all : FnScope N__law_all P__law_all (defScope st__law_all) := ⟨rfl, rfl, rfl, by decide +kernel, rfl, by decide +kernel, by decide +kernel⟩
theorem ok__law_all : okSts N__law_all (defScope st__law_all) b__law_all (defBody st__law_all) = true := by kernel_rfl
abbrev st__law_most : Stmt := top 26
abbrev N__law_most : List Str := ["mixed", "sets", "handed", "told", "best", "k", "i", "met"]
abbrev P__law_most : List Str := ["mixed", "sets"]
def dd__law_most : He.DefD := ⟨("_law_most", none), "_law_most", "_law_most", defArgs st__law_most, defBody st__law_most, defScope st__law_most, [], []⟩
theorem sc__law_most : FnScope N__law_most P__law_most (defScope st__law_most) := ⟨rfl, rfl, rfl, by decide +kernel, rfl, by decide +kernel, by decide +kernel⟩
theorem ok__law_most : okSts N__law_most (defScope st__law_most) b__law_most (defBody st__law_most) = true := by kernel_rfl
abbrev st_law : Stmt := top 27
abbrev N_law : List Str := ["script", "spots", "drawn", "stretches", "sets", "ends", "i", "row", "j", "shared", "told", "k"]
abbrev P_law : List Str := ["script"]
def dd_law : He.DefD := ⟨("law", none), "law", "law", defArgs st_law, defBody st_law, defScope st_law, [], []⟩
theorem sc_law : FnScope N_law P_law (defScope st_law) := ⟨rfl, rfl, rfl, by decide +kernel, rfl, by decide +kernel, by decide +kernel⟩
theorem ok_law : okSts N_law (defScope st_law) b_law (defBody st_law) = true := by kernel_rfl
def fns : List He.DefD := [dd_below, dd_stretch, dd_in_stretch, dd_meet, dd_meet_all, dd_begins_earlier, dd_covers_begin, dd_most_met, dd__law_cell, dd__law_digits, dd__law_lowest, dd__law_spots, dd__law_has, dd__law_set, dd__law_shared, dd__law_drawn, dd__law_told, dd__law_due, dd__law_is_stretch, dd__law_single, dd__law_is_index, dd__law_all_due, dd__law_all, dd__law_most, dd_law]
def fas : List He.Fa := [.glo "below", .glo "stretch", .glo "in_stretch", .glo "meet", .glo "meet_all", .glo "begins_earlier", .glo "covers_begin", .glo "most_met", .glo "_law_cell", .glo "_law_digits", .glo "_law_lowest", .glo "_law_spots", .glo "_law_has", .glo "_law_set", .glo "_law_shared", .glo "_law_drawn", .glo "_law_told", .glo "_law_due", .glo "_law_is_stretch", .glo "_law_single", .glo "_law_is_index", .glo "_law_all_due", .glo "_law_all", .glo "_law_most", .glo "law", .free "len", .free "abs", .free "int", .free "bool", .free "tuple", .free "list", .free "str", .free "min", .free "max", .free "sum", .free "any", .free "all", .free "range", .free "enumerate", .free "zip", .free "isinstance", .free "sorted", .free "reversed"]
def xf (K : PySem.W.Frag) : Bool := true
abbrev R : PySem.W.OpenRow := PySem.W.OpenLaw.row PySem.Challenge.rw_whattwosettle_k88_stretches_that_share_a
abbrev loose0 : List Str := ["__name__", "below", "stretch", "in_stretch", "meet", "meet_all", "begins_earlier", "covers_begin", "most_met", "_law_cell", "_law_digits", "_law_lowest", "_law_spots", "_law_has", "_law_set", "_law_shared", "_law_drawn", "_law_told", "_law_due", "_law_is_stretch", "_law_single", "_law_is_index", "_law_all_due", "_law_all", "_law_most"]
abbrev loose : List Str := loose0
abbrev hk : PySem.W.Hook := hkX 4 fas fns xf
def ob (s : PySem.W.SharedT) := obX 4 fas fns xf (HeadRun.getT s)
theorem ob_eq (s : PySem.W.SharedT) : ob s = hk.obs s.abs := obX_eq (HeadRun.getT_eq s)
theorem run (w : World) : HeadRun.RunEq R (PySem.W.view R.prog [27]) hk ob 20000 loose w := by
  intro os
  kernel_rfl
section
variable {P : Program} {w : World} {K : PySem.W.Frag} {h : Heap} {mg : Str → Option Value}
theorem facts (X : K.In h) (M : h.Ns mainGlobals mg) (c : He.SaysD fas fns K) (cx : xf K = true) : (∀ x ∈ bltFree, mg x = none) ∧
  ∃ fd : FuncData, (∀ (s : Shared) (v : Value), BindsTo s fd ⟨[v], []⟩ [("script", v)]) ∧ ∀ base : Heap, Ground P mg base → FnOk P w K mg base (L2.CX P w) 38 (He.ga K "law") fd ["script"] (spOf K mg f_law.den) := by
  have fr : ∀ x ∈ bltFree, mg x = none := by
    intro x hx
    simp only [bltFree, List.mem_cons, List.not_mem_nil, or_false] at hx
    rcases hx with rfl | rfl | rfl | rfl | rfl | rfl | rfl | rfl | rfl | rfl | rfl | rfl | rfl | rfl | rfl | rfl | rfl | rfl
    · exact He.free_ok X M (c.fact 25 (f := .free "len") rfl)
    · exact He.free_ok X M (c.fact 26 (f := .free "abs") rfl)
    · exact He.free_ok X M (c.fact 27 (f := .free "int") rfl)
    · exact He.free_ok X M (c.fact 28 (f := .free "bool") rfl)
    · exact He.free_ok X M (c.fact 29 (f := .free "tuple") rfl)
    · exact He.free_ok X M (c.fact 30 (f := .free "list") rfl)
    · exact He.free_ok X M (c.fact 31 (f := .free "str") rfl)
    · exact He.free_ok X M (c.fact 32 (f := .free "min") rfl)
    · exact He.free_ok X M (c.fact 33 (f := .free "max") rfl)
    · exact He.free_ok X M (c.fact 34 (f := .free "sum") rfl)
    · exact He.free_ok X M (c.fact 35 (f := .free "any") rfl)
    · exact He.free_ok X M (c.fact 36 (f := .free "all") rfl)
    · exact He.free_ok X M (c.fact 37 (f := .free "range") rfl)
    · exact He.free_ok X M (c.fact 38 (f := .free "enumerate") rfl)
    · exact He.free_ok X M (c.fact 39 (f := .free "zip") rfl)
    · exact He.free_ok X M (c.fact 40 (f := .free "isinstance") rfl)
    · exact He.free_ok X M (c.fact 41 (f := .free "sorted") rfl)
    · exact He.free_ok X M (c.fact 42 (f := .free "reversed") rfl)
  obtain ⟨fd_below, F_below⟩ := c.def_ 0 (d := dd_below) rfl
  obtain ⟨fd_stretch, F_stretch⟩ := c.def_ 1 (d := dd_stretch) rfl
  obtain ⟨fd_in_stretch, F_in_stretch⟩ := c.def_ 2 (d := dd_in_stretch) rfl
  obtain ⟨fd_meet, F_meet⟩ := c.def_ 3 (d := dd_meet) rfl
  obtain ⟨fd_meet_all, F_meet_all⟩ := c.def_ 4 (d := dd_meet_all) rfl
  obtain ⟨fd_begins_earlier, F_begins_earlier⟩ := c.def_ 5 (d := dd_begins_earlier) rfl
  obtain ⟨fd_covers_begin, F_covers_begin⟩ := c.def_ 6 (d := dd_covers_begin) rfl
  obtain ⟨fd_most_met, F_most_met⟩ := c.def_ 7 (d := dd_most_met) rfl
  obtain ⟨fd__law_cell, F__law_cell⟩ := c.def_ 8 (d := dd__law_cell) rfl
  obtain ⟨fd__law_digits, F__law_digits⟩ := c.def_ 9 (d := dd__law_digits) rfl
  obtain ⟨fd__law_lowest, F__law_lowest⟩ := c.def_ 10 (d := dd__law_lowest) rfl
  obtain ⟨fd__law_spots, F__law_spots⟩ := c.def_ 11 (d := dd__law_spots) rfl
  obtain ⟨fd__law_has, F__law_has⟩ := c.def_ 12 (d := dd__law_has) rfl
  obtain ⟨fd__law_set, F__law_set⟩ := c.def_ 13 (d := dd__law_set) rfl
  obtain ⟨fd__law_shared, F__law_shared⟩ := c.def_ 14 (d := dd__law_shared) rfl
  obtain ⟨fd__law_drawn, F__law_drawn⟩ := c.def_ 15 (d := dd__law_drawn) rfl
  obtain ⟨fd__law_told, F__law_told⟩ := c.def_ 16 (d := dd__law_told) rfl
  obtain ⟨fd__law_due, F__law_due⟩ := c.def_ 17 (d := dd__law_due) rfl
  obtain ⟨fd__law_is_stretch, F__law_is_stretch⟩ := c.def_ 18 (d := dd__law_is_stretch) rfl
  obtain ⟨fd__law_single, F__law_single⟩ := c.def_ 19 (d := dd__law_single) rfl
  obtain ⟨fd__law_is_index, F__law_is_index⟩ := c.def_ 20 (d := dd__law_is_index) rfl
  obtain ⟨fd__law_all_due, F__law_all_due⟩ := c.def_ 21 (d := dd__law_all_due) rfl
  obtain ⟨fd__law_all, F__law_all⟩ := c.def_ 22 (d := dd__law_all) rfl
  obtain ⟨fd__law_most, F__law_most⟩ := c.def_ 23 (d := dd__law_most) rfl
  obtain ⟨fd_law, F_law⟩ := c.def_ 24 (d := dd_law) rfl
  have bl := FunD.bindsA (ps := ["script"]) F_law fun _ _ _ _ _ _ us hl => match us, hl with | [_], _ => rfl
  refine ⟨fr, fd_law, fun s v => bl s [v] rfl, fun base G => ?_⟩
  have q_below : b_below.good ⟨P, w, K, mg, base, 32⟩ := by
    simp only [b_below, Stms.good, Stm.good, Ex.good, Exs.good, Oe.good, Itr.good, goodP, and_true, true_and, and_self]
  have g_below_0 : ∀ m, 33 ≤ m → FnG ⟨P, w, K, mg, base, m⟩ "below" f_below.den [] := fun m hm => fnG_mono hm (fnG_of (d := dd_below) (n := 32) f_below (vs := []) F_below rfl sc_below rfl rfl G (by decide) q_below ok_below (He.glo_ok X M (c.fact 0 (f := .glo "below") rfl)) ⟨[], .nil, F_below.bindsN fun _ _ _ _ _ _ us hl => match us, hl with | [_, _], _ => rfl⟩ (fun _ => .nil))
  have q_stretch : b_stretch.good ⟨P, w, K, mg, base, 33⟩ := by
    simp only [b_stretch, Stms.good, Stm.good, Ex.good, Exs.good, Oe.good, Itr.good, goodP, and_true, true_and, and_self, g_below_0 33 (by decide)]
  have g_stretch_0 : ∀ m, 34 ≤ m → FnG ⟨P, w, K, mg, base, m⟩ "stretch" f_stretch.den [] := fun m hm => fnG_mono hm (fnG_of (d := dd_stretch) (n := 33) f_stretch (vs := []) F_stretch rfl sc_stretch rfl rfl G (by decide) q_stretch ok_stretch (He.glo_ok X M (c.fact 1 (f := .glo "stretch") rfl)) ⟨[], .nil, F_stretch.bindsN fun _ _ _ _ _ _ us hl => match us, hl with | [_, _, _, _], _ => rfl⟩ (fun _ => .nil))
  have q_in_stretch : b_in_stretch.good ⟨P, w, K, mg, base, 33⟩ := by
    simp only [b_in_stretch, Stms.good, Stm.good, Ex.good, Exs.good, Oe.good, Itr.good, goodP, and_true, true_and, and_self, g_below_0 33 (by decide)]
  have g_in_stretch_0 : ∀ m, 34 ≤ m → FnG ⟨P, w, K, mg, base, m⟩ "in_stretch" f_in_stretch.den [] := fun m hm => fnG_mono hm (fnG_of (d := dd_in_stretch) (n := 33) f_in_stretch (vs := []) F_in_stretch rfl sc_in_stretch rfl rfl G (by decide) q_in_stretch ok_in_stretch (He.glo_ok X M (c.fact 2 (f := .glo "in_stretch") rfl)) ⟨[], .nil, F_in_stretch.bindsN fun _ _ _ _ _ _ us hl => match us, hl with | [_, _], _ => rfl⟩ (fun _ => .nil))
  have q_meet : b_meet.good ⟨P, w, K, mg, base, 34⟩ := by
    simp only [b_meet, Stms.good, Stm.good, Ex.good, Exs.good, Oe.good, Itr.good, goodP, and_true, true_and, and_self, g_stretch_0 34 (by decide), g_below_0 34 (by decide)]
  have g_meet_0 : ∀ m, 35 ≤ m → FnG ⟨P, w, K, mg, base, m⟩ "meet" f_meet.den [] := fun m hm => fnG_mono hm (fnG_of (d := dd_meet) (n := 34) f_meet (vs := []) F_meet rfl sc_meet rfl rfl G (by decide) q_meet ok_meet (He.glo_ok X M (c.fact 3 (f := .glo "meet") rfl)) ⟨[], .nil, F_meet.bindsN fun _ _ _ _ _ _ us hl => match us, hl with | [_, _], _ => rfl⟩ (fun _ => .nil))
  have q_meet_all : b_meet_all.good ⟨P, w, K, mg, base, 35⟩ := by
    simp only [b_meet_all, Stms.good, Stm.good, Ex.good, Exs.good, Oe.good, Itr.good, goodP, and_true, true_and, and_self, g_meet_0 35 (by decide)]
  have g_meet_all_0 : ∀ m, 36 ≤ m → FnG ⟨P, w, K, mg, base, m⟩ "meet_all" f_meet_all.den [] := fun m hm => fnG_mono hm (fnG_of (d := dd_meet_all) (n := 35) f_meet_all (vs := []) F_meet_all rfl sc_meet_all rfl rfl G (by decide) q_meet_all ok_meet_all (He.glo_ok X M (c.fact 4 (f := .glo "meet_all") rfl)) ⟨[], .nil, F_meet_all.bindsN fun _ _ _ _ _ _ us hl => match us, hl with | [_], _ => rfl⟩ (fun _ => .nil))
  have q_begins_earlier : b_begins_earlier.good ⟨P, w, K, mg, base, 33⟩ := by
    simp only [b_begins_earlier, Stms.good, Stm.good, Ex.good, Exs.good, Oe.good, Itr.good, goodP, and_true, true_and, and_self, g_below_0 33 (by decide)]
  have g_begins_earlier_0 : ∀ m, 34 ≤ m → FnG ⟨P, w, K, mg, base, m⟩ "begins_earlier" f_begins_earlier.den [] := fun m hm => fnG_mono hm (fnG_of (d := dd_begins_earlier) (n := 33) f_begins_earlier (vs := []) F_begins_earlier rfl sc_begins_earlier rfl rfl G (by decide) q_begins_earlier ok_begins_earlier (He.glo_ok X M (c.fact 5 (f := .glo "begins_earlier") rfl)) ⟨[], .nil, F_begins_earlier.bindsN fun _ _ _ _ _ _ us hl => match us, hl with | [_, _], _ => rfl⟩ (fun _ => .nil))
  have q_covers_begin : b_covers_begin.good ⟨P, w, K, mg, base, 34⟩ := by
    simp only [b_covers_begin, Stms.good, Stm.good, Ex.good, Exs.good, Oe.good, Itr.good, goodP, and_true, true_and, and_self, g_below_0 34 (by decide), g_begins_earlier_0 34 (by decide)]
  have g_covers_begin_0 : ∀ m, 35 ≤ m → FnG ⟨P, w, K, mg, base, m⟩ "covers_begin" f_covers_begin.den [] := fun m hm => fnG_mono hm (fnG_of (d := dd_covers_begin) (n := 34) f_covers_begin (vs := []) F_covers_begin rfl sc_covers_begin rfl rfl G (by decide) q_covers_begin ok_covers_begin (He.glo_ok X M (c.fact 6 (f := .glo "covers_begin") rfl)) ⟨[], .nil, F_covers_begin.bindsN fun _ _ _ _ _ _ us hl => match us, hl with | [_, _], _ => rfl⟩ (fun _ => .nil))
  have q_most_met : b_most_met.good ⟨P, w, K, mg, base, 35⟩ := by
    simp only [b_most_met, Stms.good, Stm.good, Ex.good, Exs.good, Oe.good, Itr.good, goodP, and_true, true_and, and_self, g_begins_earlier_0 35 (by decide), g_covers_begin_0 35 (by decide)]
  have g_most_met_0 : ∀ m, 36 ≤ m → FnG ⟨P, w, K, mg, base, m⟩ "most_met" f_most_met.den [] := fun m hm => fnG_mono hm (fnG_of (d := dd_most_met) (n := 35) f_most_met (vs := []) F_most_met rfl sc_most_met rfl rfl G (by decide) q_most_met ok_most_met (He.glo_ok X M (c.fact 7 (f := .glo "most_met") rfl)) ⟨[], .nil, F_most_met.bindsN fun _ _ _ _ _ _ us hl => match us, hl with | [_], _ => rfl⟩ (fun _ => .nil))
  have q__law_cell : b__law_cell.good ⟨P, w, K, mg, base, 32⟩ := by
    simp only [b__law_cell, Stms.good, Stm.good, Ex.good, Exs.good, Oe.good, Itr.good, goodP, and_true, true_and, and_self]
  have g__law_cell_0 : ∀ m, 33 ≤ m → FnG ⟨P, w, K, mg, base, m⟩ "_law_cell" f__law_cell.den [] := fun m hm => fnG_mono hm (fnG_of (d := dd__law_cell) (n := 32) f__law_cell (vs := []) F__law_cell rfl sc__law_cell rfl rfl G (by decide) q__law_cell ok__law_cell (He.glo_ok X M (c.fact 8 (f := .glo "_law_cell") rfl)) ⟨[], .nil, F__law_cell.bindsN fun _ _ _ _ _ _ us hl => match us, hl with | [_, _], _ => rfl⟩ (fun _ => .nil))
  have q__law_digits : b__law_digits.good ⟨P, w, K, mg, base, 32⟩ := by
    simp only [b__law_digits, Stms.good, Stm.good, Ex.good, Exs.good, Oe.good, Itr.good, goodP, and_true, true_and, and_self]
  have g__law_digits_0 : ∀ m, 33 ≤ m → FnG ⟨P, w, K, mg, base, m⟩ "_law_digits" f__law_digits.den [] := fun m hm => fnG_mono hm (fnG_of (d := dd__law_digits) (n := 32) f__law_digits (vs := []) F__law_digits rfl sc__law_digits rfl rfl G (by decide) q__law_digits ok__law_digits (He.glo_ok X M (c.fact 9 (f := .glo "_law_digits") rfl)) ⟨[], .nil, F__law_digits.bindsN fun _ _ _ _ _ _ us hl => match us, hl with | [_, _, _], _ => rfl⟩ (fun _ => .nil))
  have q__law_lowest : b__law_lowest.good ⟨P, w, K, mg, base, 32⟩ := by
    simp only [b__law_lowest, Stms.good, Stm.good, Ex.good, Exs.good, Oe.good, Itr.good, goodP, and_true, true_and, and_self]
  have g__law_lowest_0 : ∀ m, 33 ≤ m → FnG ⟨P, w, K, mg, base, m⟩ "_law_lowest" f__law_lowest.den [] := fun m hm => fnG_mono hm (fnG_of (d := dd__law_lowest) (n := 32) f__law_lowest (vs := []) F__law_lowest rfl sc__law_lowest rfl rfl G (by decide) q__law_lowest ok__law_lowest (He.glo_ok X M (c.fact 10 (f := .glo "_law_lowest") rfl)) ⟨[], .nil, F__law_lowest.bindsN fun _ _ _ _ _ _ us hl => match us, hl with | [_, _], _ => rfl⟩ (fun _ => .nil))
  have q__law_spots : b__law_spots.good ⟨P, w, K, mg, base, 33⟩ := by
    simp only [b__law_spots, Stms.good, Stm.good, Ex.good, Exs.good, Oe.good, Itr.good, goodP, and_true, true_and, and_self, g__law_lowest_0 33 (by decide), g__law_cell_0 33 (by decide)]
  have g__law_spots_0 : ∀ m, 34 ≤ m → FnG ⟨P, w, K, mg, base, m⟩ "_law_spots" f__law_spots.den [] := fun m hm => fnG_mono hm (fnG_of (d := dd__law_spots) (n := 33) f__law_spots (vs := []) F__law_spots rfl sc__law_spots rfl rfl G (by decide) q__law_spots ok__law_spots (He.glo_ok X M (c.fact 11 (f := .glo "_law_spots") rfl)) ⟨[], .nil, F__law_spots.bindsN fun _ _ _ _ _ _ us hl => match us, hl with | [_], _ => rfl⟩ (fun _ => .nil))
  have q__law_has : b__law_has.good ⟨P, w, K, mg, base, 32⟩ := by
    simp only [b__law_has, Stms.good, Stm.good, Ex.good, Exs.good, Oe.good, Itr.good, goodP, and_true, true_and, and_self]
  have g__law_has_0 : ∀ m, 33 ≤ m → FnG ⟨P, w, K, mg, base, m⟩ "_law_has" f__law_has.den [] := fun m hm => fnG_mono hm (fnG_of (d := dd__law_has) (n := 32) f__law_has (vs := []) F__law_has rfl sc__law_has rfl rfl G (by decide) q__law_has ok__law_has (He.glo_ok X M (c.fact 12 (f := .glo "_law_has") rfl)) ⟨[], .nil, F__law_has.bindsN fun _ _ _ _ _ _ us hl => match us, hl with | [_, _], _ => rfl⟩ (fun _ => .nil))
  have q__law_set : b__law_set.good ⟨P, w, K, mg, base, 33⟩ := by
    simp only [b__law_set, Stms.good, Stm.good, Ex.good, Exs.good, Oe.good, Itr.good, goodP, and_true, true_and, and_self, g__law_has_0 33 (by decide)]
  have g__law_set_0 : ∀ m, 34 ≤ m → FnG ⟨P, w, K, mg, base, m⟩ "_law_set" f__law_set.den [] := fun m hm => fnG_mono hm (fnG_of (d := dd__law_set) (n := 33) f__law_set (vs := []) F__law_set rfl sc__law_set rfl rfl G (by decide) q__law_set ok__law_set (He.glo_ok X M (c.fact 13 (f := .glo "_law_set") rfl)) ⟨[], .nil, F__law_set.bindsN fun _ _ _ _ _ _ us hl => match us, hl with | [_], _ => rfl⟩ (fun _ => .nil))
  have q__law_shared : b__law_shared.good ⟨P, w, K, mg, base, 32⟩ := by
    simp only [b__law_shared, Stms.good, Stm.good, Ex.good, Exs.good, Oe.good, Itr.good, goodP, and_true, true_and, and_self]
  have g__law_shared_0 : ∀ m, 33 ≤ m → FnG ⟨P, w, K, mg, base, m⟩ "_law_shared" f__law_shared.den [] := fun m hm => fnG_mono hm (fnG_of (d := dd__law_shared) (n := 32) f__law_shared (vs := []) F__law_shared rfl sc__law_shared rfl rfl G (by decide) q__law_shared ok__law_shared (He.glo_ok X M (c.fact 14 (f := .glo "_law_shared") rfl)) ⟨[], .nil, F__law_shared.bindsN fun _ _ _ _ _ _ us hl => match us, hl with | [_, _], _ => rfl⟩ (fun _ => .nil))
  have q__law_drawn : b__law_drawn.good ⟨P, w, K, mg, base, 33⟩ := by
    simp only [b__law_drawn, Stms.good, Stm.good, Ex.good, Exs.good, Oe.good, Itr.good, goodP, and_true, true_and, and_self, g__law_digits_0 33 (by decide), g__law_cell_0 33 (by decide)]
  have g__law_drawn_0 : ∀ m, 34 ≤ m → FnG ⟨P, w, K, mg, base, m⟩ "_law_drawn" f__law_drawn.den [] := fun m hm => fnG_mono hm (fnG_of (d := dd__law_drawn) (n := 33) f__law_drawn (vs := []) F__law_drawn rfl sc__law_drawn rfl rfl G (by decide) q__law_drawn ok__law_drawn (He.glo_ok X M (c.fact 15 (f := .glo "_law_drawn") rfl)) ⟨[], .nil, F__law_drawn.bindsN fun _ _ _ _ _ _ us hl => match us, hl with | [_], _ => rfl⟩ (fun _ => .nil))
  have q__law_told : b__law_told.good ⟨P, w, K, mg, base, 32⟩ := by
    simp only [b__law_told, Stms.good, Stm.good, Ex.good, Exs.good, Oe.good, Itr.good, goodP, and_true, true_and, and_self]
  have g__law_told_0 : ∀ m, 33 ≤ m → FnG ⟨P, w, K, mg, base, m⟩ "_law_told" f__law_told.den [] := fun m hm => fnG_mono hm (fnG_of (d := dd__law_told) (n := 32) f__law_told (vs := []) F__law_told rfl sc__law_told rfl rfl G (by decide) q__law_told ok__law_told (He.glo_ok X M (c.fact 16 (f := .glo "_law_told") rfl)) ⟨[], .nil, F__law_told.bindsN fun _ _ _ _ _ _ us hl => match us, hl with | [_, _], _ => rfl⟩ (fun _ => .nil))
  have q__law_due : b__law_due.good ⟨P, w, K, mg, base, 32⟩ := by
    simp only [b__law_due, Stms.good, Stm.good, Ex.good, Exs.good, Oe.good, Itr.good, goodP, and_true, true_and, and_self]
  have g__law_due_0 : ∀ m, 33 ≤ m → FnG ⟨P, w, K, mg, base, m⟩ "_law_due" f__law_due.den [] := fun m hm => fnG_mono hm (fnG_of (d := dd__law_due) (n := 32) f__law_due (vs := []) F__law_due rfl sc__law_due rfl rfl G (by decide) q__law_due ok__law_due (He.glo_ok X M (c.fact 17 (f := .glo "_law_due") rfl)) ⟨[], .nil, F__law_due.bindsN fun _ _ _ _ _ _ us hl => match us, hl with | [_, _], _ => rfl⟩ (fun _ => .nil))
  have q__law_is_stretch : b__law_is_stretch.good ⟨P, w, K, mg, base, 33⟩ := by
    simp only [b__law_is_stretch, Stms.good, Stm.good, Ex.good, Exs.good, Oe.good, Itr.good, goodP, and_true, true_and, and_self, g__law_due_0 33 (by decide)]
  have g__law_is_stretch_0 : ∀ m, 34 ≤ m → FnG ⟨P, w, K, mg, base, m⟩ "_law_is_stretch" f__law_is_stretch.den [] := fun m hm => fnG_mono hm (fnG_of (d := dd__law_is_stretch) (n := 33) f__law_is_stretch (vs := []) F__law_is_stretch rfl sc__law_is_stretch rfl rfl G (by decide) q__law_is_stretch ok__law_is_stretch (He.glo_ok X M (c.fact 18 (f := .glo "_law_is_stretch") rfl)) ⟨[], .nil, F__law_is_stretch.bindsN fun _ _ _ _ _ _ us hl => match us, hl with | [_, _, _], _ => rfl⟩ (fun _ => .nil))
  have q__law_single : b__law_single.good ⟨P, w, K, mg, base, 34⟩ := by
    simp only [b__law_single, Stms.good, Stm.good, Ex.good, Exs.good, Oe.good, Itr.good, goodP, and_true, true_and, and_self, g__law_has_0 34 (by decide), g_in_stretch_0 34 (by decide), g__law_told_0 34 (by decide), g__law_set_0 34 (by decide), g_stretch_0 34 (by decide)]
  have g__law_single_0 : ∀ m, 35 ≤ m → FnG ⟨P, w, K, mg, base, m⟩ "_law_single" f__law_single.den [] := fun m hm => fnG_mono hm (fnG_of (d := dd__law_single) (n := 34) f__law_single (vs := []) F__law_single rfl sc__law_single rfl rfl G (by decide) q__law_single ok__law_single (He.glo_ok X M (c.fact 19 (f := .glo "_law_single") rfl)) ⟨[], .nil, F__law_single.bindsN fun _ _ _ _ _ _ us hl => match us, hl with | [_, _], _ => rfl⟩ (fun _ => .nil))
  have q__law_is_index : b__law_is_index.good ⟨P, w, K, mg, base, 32⟩ := by
    simp only [b__law_is_index, Stms.good, Stm.good, Ex.good, Exs.good, Oe.good, Itr.good, goodP, and_true, true_and, and_self]
  have g__law_is_index_0 : ∀ m, 33 ≤ m → FnG ⟨P, w, K, mg, base, m⟩ "_law_is_index" f__law_is_index.den [] := fun m hm => fnG_mono hm (fnG_of (d := dd__law_is_index) (n := 32) f__law_is_index (vs := []) F__law_is_index rfl sc__law_is_index rfl rfl G (by decide) q__law_is_index ok__law_is_index (He.glo_ok X M (c.fact 20 (f := .glo "_law_is_index") rfl)) ⟨[], .nil, F__law_is_index.bindsN fun _ _ _ _ _ _ us hl => match us, hl with | [_, _], _ => rfl⟩ (fun _ => .nil))
  have q__law_all_due : b__law_all_due.good ⟨P, w, K, mg, base, 33⟩ := by
    simp only [b__law_all_due, Stms.good, Stm.good, Ex.good, Exs.good, Oe.good, Itr.good, goodP, and_true, true_and, and_self, g__law_shared_0 33 (by decide)]
  have g__law_all_due_0 : ∀ m, 34 ≤ m → FnG ⟨P, w, K, mg, base, m⟩ "_law_all_due" f__law_all_due.den [] := fun m hm => fnG_mono hm (fnG_of (d := dd__law_all_due) (n := 33) f__law_all_due (vs := []) F__law_all_due rfl sc__law_all_due rfl rfl G (by decide) q__law_all_due ok__law_all_due (He.glo_ok X M (c.fact 21 (f := .glo "_law_all_due") rfl)) ⟨[], .nil, F__law_all_due.bindsN fun _ _ _ _ _ _ us hl => match us, hl with | [_], _ => rfl⟩ (fun _ => .nil))
  have q__law_all : b__law_all.good ⟨P, w, K, mg, base, 36⟩ := by
    simp only [b__law_all, Stms.good, Stm.good, Ex.good, Exs.good, Oe.good, Itr.good, goodP, and_true, true_and, and_self, g__law_is_index_0 36 (by decide), g__law_is_stretch_0 36 (by decide), g__law_all_due_0 36 (by decide), g_meet_all_0 36 (by decide)]
  have g__law_all_0 : ∀ m, 37 ≤ m → FnG ⟨P, w, K, mg, base, m⟩ "_law_all" f__law_all.den [] := fun m hm => fnG_mono hm (fnG_of (d := dd__law_all) (n := 36) f__law_all (vs := []) F__law_all rfl sc__law_all rfl rfl G (by decide) q__law_all ok__law_all (He.glo_ok X M (c.fact 22 (f := .glo "_law_all") rfl)) ⟨[], .nil, F__law_all.bindsN fun _ _ _ _ _ _ us hl => match us, hl with | [_, _, _], _ => rfl⟩ (fun _ => .nil))
  have q__law_most : b__law_most.good ⟨P, w, K, mg, base, 36⟩ := by
    simp only [b__law_most, Stms.good, Stm.good, Ex.good, Exs.good, Oe.good, Itr.good, goodP, and_true, true_and, and_self, g__law_is_index_0 36 (by decide), g_most_met_0 36 (by decide)]
  have g__law_most_0 : ∀ m, 37 ≤ m → FnG ⟨P, w, K, mg, base, m⟩ "_law_most" f__law_most.den [] := fun m hm => fnG_mono hm (fnG_of (d := dd__law_most) (n := 36) f__law_most (vs := []) F__law_most rfl sc__law_most rfl rfl G (by decide) q__law_most ok__law_most (He.glo_ok X M (c.fact 23 (f := .glo "_law_most") rfl)) ⟨[], .nil, F__law_most.bindsN fun _ _ _ _ _ _ us hl => match us, hl with | [_, _], _ => rfl⟩ (fun _ => .nil))
  have q_law : b_law.good ⟨P, w, K, mg, base, 37⟩ := by
    simp only [b_law, Stms.good, Stm.good, Ex.good, Exs.good, Oe.good, Itr.good, goodP, and_true, true_and, and_self, g__law_most_0 37 (by decide), g__law_digits_0 37 (by decide), g__law_cell_0 37 (by decide), g__law_all_0 37 (by decide), g__law_is_stretch_0 37 (by decide), g_meet_0 37 (by decide), g__law_shared_0 37 (by decide), g_most_met_0 37 (by decide), g__law_set_0 37 (by decide), g__law_told_0 37 (by decide), g__law_single_0 37 (by decide), g__law_drawn_0 37 (by decide), g__law_spots_0 37 (by decide)]
  exact fn_sound f_law F_law sc_law rfl rfl G (by decide) q_law ok_law
end
end K88
open PySem PySem.W PySem.Calls PyProof.Rows
theorem PySem.Challenge.cw_whattwosettle_k88_stretches_that_share_a_holds : PySem.Challenge.rw_whattwosettle_k88_stretches_that_share_a.Holds := by
  w_on; o_law
  refine HeadRun.head_any (r := K88.R) (q := view K88.R.prog [27]) (H := K88.hk) (ob := K88.ob) (M := 20000) (loose := K88.loose) (d := HeadRun.topDef K88.R.prog 27) (kwd := []) K88.ob_eq (by kernel_rfl) (fun s => by kernel_rfl)
    K88.run (by kernel_rfl) (by kernel_rfl) (by kernel_rfl) (by rfl) (by first | assumption | decide +kernel) (by decide +kernel) ⟨rfl, rfl, rfl, rfl, rfl, by decide +kernel⟩ ?hw ?hc
  case hw => w_witness2
  case hc =>
    refine Ev.walk_law (l := PySem.Challenge.rw_whattwosettle_k88_stretches_that_share_a) (n := 63) (k := 38) (x := "script") (den := K88.f_law.den) rfl (by decide) (by kernel_rfl) ⟨rfl, by decide, by decide⟩ (by kernel_rfl) (by rfl) K88.law_den ?F
    intro w mg fa h Y G hmg0
    obtain ⟨K, KX, c, cx⟩ := Y
    have hmg : mg ("law" : PySem.Str) = some (.ref fa) := by
      have e : (HeadRun.topDef K88.R.prog 27).name = ("law" : PySem.Str) := by kernel_rfl
      rw [← e]
      exact hmg0
    have e := hmg.symm.trans (He.glo_ok KX G (c.fact 24 (f := .glo "law") rfl))
    cases e
    obtain ⟨fr, fd, hb, hF⟩ := K88.facts (P := (PySem.Challenge.rw_whattwosettle_k88_stretches_that_share_a).prog) (w := w) KX G c cx
    exact ⟨K, fd, KX, hb, fr, fun base _ _ gr => hF base gr⟩
