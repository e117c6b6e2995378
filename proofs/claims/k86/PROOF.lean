import PyProof.Rows.All
import Wide.All
import OpenK.AllK
import Wide.FinOn
import HandS.ForMost
import HandS.Wide
import HandS.Gcd
import HandS.Flow
import HandS.WordsExc
import HandS.ExcOwn
import HandS.Conv
import HandS.Zip
import HandS.ExcInit
import HandS.ExcIs
import HandS.ExcField
import HandS.TryOnly
import HandS.HotCalls
import KE.KExcIs
import HandS.Lambda
import HandS.HeadHook4
import KE.KMathGC
import HandS.Deep
import HandS.IsInst
import KE.KSortKeySt
import HandS.Defaults
import HandS.HeadEnd
import HandS.EndBits
import HandS.HeadHook1
import HandS.HeadHook2
import KE.KNestM
import KE.HD3
import PySem.Challenge.RW_whattwosettle_k86_exact_fractions
set_option Elab.async false
set_option linter.all false
set_option maxRecDepth 100000
namespace Ev
open PySem PySem.Spec PyProof.Rows L2

/-! ### data as trees -/
inductive D where
  | non | bl (b : Bool) | int (i : Int) | str (s : Str)
  | tup (xs : List D) | lst (xs : List D)
  /-- a list that is read only (the script) -/
  | ro (xs : List D)
  | obj (C : Str) (ns : List Str) (vs : List D)
  /-- an error that is handled: its class, its fields -/
  | err (C : Str) (ns : List Str) (vs : List D)
  deriving Inhabited
/-- the module's names; er: at an address stands an error that is handled, of that class, with that dict -/
structure Mg where
  f : Str → Option Value
  er : Addr → Str → Option Addr → Prop
/-- no error is handled -/
abbrev m0 (f : Str → Option Value) : Mg := ⟨f, fun _ _ _ => False⟩
/-- an error that is handled, by what the context pins -/
def erP (K : PySem.W.Frag) (f : Str → Option Value) (pn : List (Addr × Obj)) (a : Addr) (c : Str) (dd : Option Addr) : Prop :=
  ∃ oe C, (a, oe) ∈ pn ∧ f c = some (.ref C) ∧ Zc (.ref C) dd oe ∧ ∃ vs, oe.data = .fields vs
abbrev mP (K : PySem.W.Frag) (f : Str → Option Value) (pn : List (Addr × Obj)) : Mg := ⟨f, erP K f pn⟩
/-- a context's names -/
def mX (X : Cx) : Mg := ⟨X.mg, fun a c dd => X.calm = false ∧ erP X.K X.mg X.pn a c dd⟩
theorem mX_cool {X : Cx} (h : X.calm = true) : mX X = m0 X.mg := by
  unfold mX m0
  congr
  funext a c dd
  rw [h]
  exact propext ⟨fun z => Bool.noConfusion z.1, fun z => z.elim⟩
theorem mX_hot {X : Cx} (h : X.calm = false) : mX X = mP X.K X.mg X.pn := by
  unfold mX mP
  congr
  funext a c dd
  rw [h]
  exact propext ⟨fun z => z.2, fun z => ⟨rfl, z⟩⟩
@[simp] theorem mX_f {X : Cx} : (mX X).f = X.mg := rfl
/-- the fields of an error -/
def FldsAt (F : Hp) (dd : Option Addr) (fs : List (Str × V)) : Prop := match dd with
  | none => fs = []
  | some dx => F dx = some (.xd fs)
theorem FldsAt.mono {F F' : Hp} {dd : Option Addr} {fs : List (Str × V)} (s : Same F F') (h : FldsAt F dd fs) : FldsAt F' dd fs := by
  cases dd with
  | none => exact h
  | some dx => exact s _ _ h

mutual
/-- v stands for d, by what is frozen in F -/
inductive Is (K : PySem.W.Frag) (mg : Mg) (F : Hp) : V → D → Prop
  | non : Is K mg F .non .non
  | bl (b : Bool) : Is K mg F (.bl b) (.bl b)
  | int (i : Int) : Is K mg F (.int i) (.int i)
  | str (x : Str) : Is K mg F (.str x) (.str x)
  | tup {a : Addr} {vs : List V} {ds : List D} : SqT K F a vs → IsAll K mg F vs ds → Is K mg F (.ref a) (.tup ds)
  | lst {a : Addr} {vs : List V} {ds : List D} : Rd F a (.lst vs) → IsAll K mg F vs ds → Is K mg F (.ref a) (.lst ds)
  | ro {a : Addr} {vs : List V} {ds : List D} : SqL K F a vs → IsAll K mg F vs ds → Is K mg F (.ref a) (.ro ds)
  | obj {a A dx : Addr} {C : Str} {ns : List Str} {vs : List V} {ds : List D} : mg.f C = some (.ref A) → F a = some (.ins A dx (ns.zip vs)) → F dx = some (.own a) → ns.length = vs.length →
      IsAll K mg F vs ds → Is K mg F (.ref a) (.obj C ns ds)
  | err {a : Addr} {C : Str} {dd : Option Addr} {ns : List Str} {vs : List V} {ds : List D} : mg.er a C dd → FldsAt F dd (ns.zip vs) → ns.length = vs.length →
      IsAll K mg F vs ds → Is K mg F (.ref a) (.err C ns ds)
inductive IsAll (K : PySem.W.Frag) (mg : Mg) (F : Hp) : List V → List D → Prop
  | nil : IsAll K mg F [] []
  | cons {v : V} {vs : List V} {d : D} {ds : List D} : Is K mg F v d → IsAll K mg F vs ds → IsAll K mg F (v :: vs) (d :: ds)
end

section
variable {K : PySem.W.Frag} {mg : Mg} {F F' : Hp}
theorem Same.rd {H H' : Hp} {a : Addr} {o : HO} (e : Same H H') (h : Rd H a o) : Rd H' a o := by
  rcases h with h | ⟨o, h⟩
  · exact .inl (e _ _ h)
  · exact .inr ⟨o, e _ _ h⟩
theorem Same.seqT {H H' : Hp} {a : Addr} {xs : List V} (e : Same H H') (h : SqT K H a xs) : SqT K H' a xs := by
  rcases h with (h | ⟨o, h⟩) | h
  · exact .inl (.inl (e _ _ h))
  · exact .inl (.inr ⟨o, e _ _ h⟩)
  · exact .inr h
mutual
theorem Is.mono (s : Same F F') : ∀ {v : V} {d : D}, Is K mg F v d → Is K mg F' v d
  | _, _, .non => .non
  | _, _, .bl b => .bl b
  | _, _, .int i => .int i
  | _, _, .str x => .str x
  | _, _, .tup h r => .tup (Same.seqT s h) (IsAll.mono s r)
  | _, _, .lst h r => .lst (Same.rd s h) (IsAll.mono s r)
  | _, _, .ro h r => .ro (L2.Same.seq s h) (IsAll.mono s r)
  | _, _, .obj c h1 h2 l r => .obj c (s _ _ h1) (s _ _ h2) l (IsAll.mono s r)
  | _, _, .err c h l r => .err c (h.mono s) l (IsAll.mono s r)
theorem IsAll.mono (s : Same F F') : ∀ {vs : List V} {ds : List D}, IsAll K mg F vs ds → IsAll K mg F' vs ds
  | _, _, .nil => .nil
  | _, _, .cons h r => .cons (Is.mono s h) (IsAll.mono s r)
end
/-! errors that are handled: more of them, or none -/
mutual
def D.cool : D → Bool
  | .tup xs => D.coolAll xs
  | .lst xs => D.coolAll xs
  | .ro xs => D.coolAll xs
  | .obj _ _ xs => D.coolAll xs
  | .err _ _ _ => false
  | _ => true
def D.coolAll : List D → Bool
  | [] => true
  | x :: xs => D.cool x && D.coolAll xs
end
section
variable {mg' : Mg}
mutual
theorem Is.up (hf : mg'.f = mg.f) (he : ∀ a c dd, mg.er a c dd → mg'.er a c dd) : ∀ {v : V} {d : D}, Is K mg F v d → Is K mg' F v d
  | _, _, .non => .non
  | _, _, .bl b => .bl b
  | _, _, .int i => .int i
  | _, _, .str x => .str x
  | _, _, .tup h r => .tup h (IsAll.up hf he r)
  | _, _, .lst h r => .lst h (IsAll.up hf he r)
  | _, _, .ro h r => .ro h (IsAll.up hf he r)
  | _, _, .obj c h1 h2 l r => .obj (by rw [hf]; exact c) h1 h2 l (IsAll.up hf he r)
  | _, _, .err c h l r => .err (he _ _ _ c) h l (IsAll.up hf he r)
theorem IsAll.up (hf : mg'.f = mg.f) (he : ∀ a c dd, mg.er a c dd → mg'.er a c dd) : ∀ {vs : List V} {ds : List D}, IsAll K mg F vs ds → IsAll K mg' F vs ds
  | _, _, .nil => .nil
  | _, _, .cons h r => .cons (Is.up hf he h) (IsAll.up hf he r)
end
mutual
theorem Is.down (hf : mg'.f = mg.f) : ∀ {v : V} {d : D}, Is K mg F v d → d.cool = true → Is K mg' F v d
  | _, _, .non, _ => .non
  | _, _, .bl b, _ => .bl b
  | _, _, .int i, _ => .int i
  | _, _, .str x, _ => .str x
  | _, _, .tup h r, q => .tup h (IsAll.down hf r (by simpa [D.cool] using q))
  | _, _, .lst h r, q => .lst h (IsAll.down hf r (by simpa [D.cool] using q))
  | _, _, .ro h r, q => .ro h (IsAll.down hf r (by simpa [D.cool] using q))
  | _, _, .obj c h1 h2 l r, q => .obj (by rw [hf]; exact c) h1 h2 l (IsAll.down hf r (by simpa [D.cool] using q))
  | _, _, .err c h l r, q => by simp [D.cool] at q
theorem IsAll.down (hf : mg'.f = mg.f) : ∀ {vs : List V} {ds : List D}, IsAll K mg F vs ds → D.coolAll ds = true → IsAll K mg' F vs ds
  | _, _, .nil, _ => .nil
  | _, _, .cons h r, q => by
    simp only [D.coolAll, Bool.and_eq_true] at q
    exact .cons (Is.down hf h q.1) (IsAll.down hf r q.2)
end
end
theorem IsAll.length : ∀ {vs : List V} {ds : List D}, IsAll K mg F vs ds → vs.length = ds.length
  | _, _, .nil => rfl
  | _, _, .cons _ r => congrArg (· + 1) (IsAll.length r)
theorem IsAll.get : ∀ {vs : List V} {ds : List D} {i : Nat} {d : D}, IsAll K mg F vs ds → ds[i]? = some d → ∃ v, vs[i]? = some v ∧ Is K mg F v d
  | _, _, _, _, .nil, e => by simp at e
  | _, _, 0, _, .cons h _, e => by simp at e; subst e; exact ⟨_, rfl, h⟩
  | _, _, i + 1, _, .cons _ r, e => by
    obtain ⟨v, h1, h2⟩ := IsAll.get (i := i) r (by simpa using e)
    exact ⟨v, by simpa using h1, h2⟩
theorem IsAll.getV : ∀ {vs : List V} {ds : List D} {i : Nat} {v : V}, IsAll K mg F vs ds → vs[i]? = some v → ∃ d, ds[i]? = some d ∧ Is K mg F v d
  | _, _, _, _, .nil, e => by simp at e
  | _, _, 0, _, .cons h _, e => by simp at e; subst e; exact ⟨_, rfl, h⟩
  | _, _, i + 1, _, .cons _ r, e => by
    obtain ⟨v, h1, h2⟩ := IsAll.getV (i := i) r (by simpa using e)
    exact ⟨v, by simpa using h1, h2⟩
theorem IsAll.append : ∀ {vs ws : List V} {ds es : List D}, IsAll K mg F vs ds → IsAll K mg F ws es → IsAll K mg F (vs ++ ws) (ds ++ es)
  | _, _, _, _, .nil, s => s
  | _, _, _, _, .cons h r, s => .cons h (IsAll.append r s)
theorem IsAll.take : ∀ {vs : List V} {ds : List D} (n : Nat), IsAll K mg F vs ds → IsAll K mg F (vs.take n) (ds.take n)
  | _, _, 0, _ => .nil
  | _, _, _ + 1, .nil => .nil
  | _, _, n + 1, .cons h r => .cons h (IsAll.take n r)
theorem IsAll.drop : ∀ {vs : List V} {ds : List D} (n : Nat), IsAll K mg F vs ds → IsAll K mg F (vs.drop n) (ds.drop n)
  | _, _, 0, r => r
  | _, _, _ + 1, .nil => .nil
  | _, _, n + 1, .cons _ r => IsAll.drop n r
theorem IsAll.set : ∀ {vs : List V} {ds : List D} {v : V} {d : D} (i : Nat), IsAll K mg F vs ds → Is K mg F v d → IsAll K mg F (vs.set i v) (ds.set i d)
  | _, _, _, _, _, .nil, _ => .nil
  | _, _, _, _, 0, .cons _ r, q => .cons q r
  | _, _, _, _, i + 1, .cons h r, q => .cons h (IsAll.set i r q)
theorem IsAll.ints : ∀ ns : List Int, IsAll K mg F (ns.map V.int) (ns.map D.int)
  | [] => .nil
  | n :: ns => .cons (.int n) (IsAll.ints ns)
theorem IsAll.dropLast : ∀ {vs : List V} {ds : List D}, IsAll K mg F vs ds → IsAll K mg F vs.dropLast ds.dropLast
  | _, _, .nil => .nil
  | _, _, .cons _ .nil => .nil
  | _, _, .cons h (.cons h2 r) => .cons h (IsAll.dropLast (.cons h2 r))
end

/-! ### equality -/
mutual
def D.py : D → PyData
  | .non => .none
  | .bl b => .bool b
  | .int i => .int i
  | .str s => .str s
  | .tup xs => .tuple (D.pyAll xs)
  | .lst xs => .list (D.pyAll xs)
  | .ro _ => .none
  | .obj _ _ _ => .none
  | .err _ _ _ => .none
def D.pyAll : List D → List PyData
  | [] => []
  | x :: xs => D.py x :: D.pyAll xs
end
mutual
/-- plain data of at most that depth -/
def D.plain : Nat → D → Bool
  | _, .non => true
  | _, .bl _ => true
  | _, .int _ => true
  | _, .str s => PyData.strOk s
  | 0, .tup _ => false
  | 0, .lst _ => false
  | n + 1, .tup xs => D.plainAll n xs
  | n + 1, .lst xs => D.plainAll n xs
  | _, .ro _ => false
  | _, .obj _ _ _ => false
  | _, .err _ _ _ => false
def D.plainAll : Nat → List D → Bool
  | _, [] => true
  | n, x :: xs => D.plain n x && D.plainAll n xs
end
section
variable {K : PySem.W.Frag} {mg : Mg} {F F' : Hp}
mutual
theorem Is.dp : ∀ {n : Nat} {v : V} {d : D}, Is K mg F v d → d.plain n = true → Dp K F v d.py
  | _, _, _, .non, _ => .non
  | _, _, _, .bl b, _ => .bl b
  | _, _, _, .int i, _ => .int i
  | _, _, _, .str x, _ => .str x
  | 0, _, _, .tup _ _, h => by simp [D.plain] at h
  | n + 1, _, _, .tup h r, p => .tup h (IsAll.dp (n := n) r (by simpa [D.plain] using p))
  | 0, _, _, .lst _ _, h => by simp [D.plain] at h
  | n + 1, _, _, .lst h r, p => .lst (.inl h) (IsAll.dp (n := n) r (by simpa [D.plain] using p))
  | n, _, _, .ro _ _, p => by cases n <;> simp [D.plain] at p
  | n, _, _, .obj _ _ _ _ _, p => by cases n <;> simp [D.plain] at p
  | n, _, _, .err _ _ _ _, p => by cases n <;> simp [D.plain] at p
theorem IsAll.dp : ∀ {n : Nat} {vs : List V} {ds : List D}, IsAll K mg F vs ds → D.plainAll n ds = true → DpAll K F vs (D.pyAll ds)
  | _, _, _, .nil, _ => .nil
  | n, _, _, .cons h r, p => by
    simp only [D.plainAll, Bool.and_eq_true] at p
    exact .cons (Is.dp (n := n) h p.1) (IsAll.dp (n := n) r p.2)
end
end
mutual
theorem D.plain_lay : ∀ (n : Nat) (d : D), d.plain n = true → PyData.canLay0 d.py = true ∧ d.py.depth ≤ n
  | _, .non, _ => by simp [D.py, PyData.canLay0, PyData.depth]
  | _, .bl _, _ => by simp [D.py, PyData.canLay0, PyData.depth]
  | _, .int _, _ => by simp [D.py, PyData.canLay0, PyData.depth]
  | n, .str s, h => by
    have h' : PyData.strOk s = true := by cases n <;> simpa [D.plain] using h
    simp [D.py, PyData.canLay0, PyData.depth, h']
  | 0, .tup _, h => by simp [D.plain] at h
  | n + 1, .tup xs, h => by
    have := D.plainAll_lay n xs (by simpa [D.plain] using h)
    simp only [D.py, PyData.canLay0, PyData.depth]
    exact ⟨this.1, by have := this.2; omega⟩
  | 0, .lst _, h => by simp [D.plain] at h
  | n + 1, .lst xs, h => by
    have := D.plainAll_lay n xs (by simpa [D.plain] using h)
    simp only [D.py, PyData.canLay0, PyData.depth]
    exact ⟨this.1, by have := this.2; omega⟩
  | n, .ro _, h => by cases n <;> simp [D.plain] at h
  | n, .obj _ _ _, h => by cases n <;> simp [D.plain] at h
  | n, .err _ _ _, h => by cases n <;> simp [D.plain] at h
theorem D.plainAll_lay : ∀ (n : Nat) (ds : List D), D.plainAll n ds = true → PyData.canLayAll0 (D.pyAll ds) = true ∧ PyData.depthAll (D.pyAll ds) ≤ n
  | _, [], _ => by simp [D.pyAll, PyData.canLayAll0, PyData.depthAll]
  | n, x :: xs, h => by
    simp only [D.plainAll, Bool.and_eq_true] at h
    have h1 := D.plain_lay n x h.1
    have h2 := D.plainAll_lay n xs h.2
    simp only [D.pyAll, PyData.canLayAll0, PyData.depthAll, Bool.and_eq_true]
    exact ⟨⟨h1.1, h2.1⟩, by have := h1.2; have := h2.2; omega⟩
end
theorem D.plain_shaped {d : D} (h : d.plain 60 = true) : SeqAt.shaped d.py = true := by
  have := D.plain_lay 60 d h
  unfold SeqAt.shaped
  rw [this.1, decide_eq_true (by have := this.2; omega : d.py.depth ≤ 64)]
  rfl

/-! ### slots -/
inductive Sl where
  /-- frozen data -/
  | val (d : D)
  /-- a list of one's own -/
  | own (ds : List D)
  /-- a list of somebody else's, lent -/
  | bor (ds : List D)
  deriving Inhabited
abbrev En := List (Option Sl)
structure Exn where
  cls : Str
  ns : List Str
  vs : List D
inductive R (α : Type) where
  | ok (a : α)
  | exc (x : Exn) (e : En)
  | bad
def R.bind {α β : Type} (x : R α) (f : α → R β) : R β := match x with
  | .ok a => f a
  | .exc x e => .exc x e
  | .bad => .bad
@[simp] theorem R.bind_ok {α β : Type} (a : α) (f : α → R β) : R.bind (.ok a) f = f a := rfl
@[simp] theorem R.bind_bad {α β : Type} (f : α → R β) : R.bind (.bad : R α) f = .bad := rfl
@[simp] theorem R.bind_exc {α β : Type} (x : Exn) (e : En) (f : α → R β) : R.bind (.exc x e : R α) f = .exc x e := rfl

def lk : En → Nat → Option Sl
  | [], _ => none
  | s :: _, 0 => s
  | _ :: r, i + 1 => lk r i
def sv : En → Nat → Option Sl → En
  | [], _, _ => []
  | _ :: r, 0, x => x :: r
  | s :: r, i + 1, x => s :: sv r i x
theorem lk_eq : ∀ (e : En) (i : Nat), lk e i = (e[i]?).join
  | [], i => by simp [lk]
  | s :: r, 0 => by simp [lk]
  | s :: r, i + 1 => by simp [lk, lk_eq r i]
theorem sv_eq : ∀ (e : En) (i : Nat) (x : Option Sl), sv e i x = e.set i x
  | [], i, _ => by simp [sv]
  | s :: r, 0, _ => by simp [sv]
  | s :: r, i + 1, _ => by simp [sv, sv_eq r i]
theorem sv_length (e : En) (i : Nat) (x : Option Sl) : (sv e i x).length = e.length := by rw [sv_eq, List.length_set]
theorem lk_sv {e : En} {i j : Nat} {x : Option Sl} (h : i < e.length) : lk (sv e i x) j = if j = i then x else lk e j := by
  rw [lk_eq, sv_eq, lk_eq]
  by_cases q : j = i
  · subst q; rw [List.getElem?_set_self h, if_pos rfl]; rfl
  · rw [List.getElem?_set_ne (Ne.symm q), if_neg q]
theorem lk_lt {e : En} {i : Nat} {s : Sl} (h : lk e i = some s) : i < e.length := by
  rw [lk_eq] at h
  by_cases q : i < e.length
  · exact q
  · rw [List.getElem?_eq_none (by omega)] at h; cases h

/-! ### tables of code objects -/
/-- the def that makes a lambda: its frame's name -/
def lamQ : Str := "ascending.<locals>."
def lamD : He.Defn := ("ascending", none)
/-- P is the table of that def's code object -/
def IsTab (K : PySem.W.Frag) (P : Addr) (q : Str) : Prop := PySem.W.nsIn K mainGlobals "ascending" = some (some (.ref (He.ga K "ascending"))) ∧ P = (He.cT K lamD).2 ∧ q = lamQ ++ "<lambda>"
def TB (K : PySem.W.Frag) (H : Hp) : Prop := ∀ P q, IsTab K P q → LamX.TabS H P q
/-- what is frozen holds no table -/
def NT (K : PySem.W.Frag) (F : Hp) : Prop := ∀ P q, IsTab K P q → F P = none
theorem NT.upd {K : PySem.W.Frag} {F H : Hp} {p : Addr} {o : HO} (n : NT K F) (t : TB K H) (hp : H p = none ∨ ∃ vs, H p = some (.lst vs)) : NT K (L2.upd F p o) := fun P q h => by
  obtain ⟨ps, h1, _⟩ := t P q h
  rw [upd_ne (fun z => by
    subst z
    rcases hp with e | ⟨vs, e⟩ <;> (rw [e] at h1; cases h1))]
  exact n P q h
section
variable {K : PySem.W.Frag}
theorem TB.ext {H H' : Hp} (t : TB K H) (s : Same H H') : TB K H' := fun P q h => (t P q h).ext s
theorem TB.upd {H : Hp} {p : Addr} {o : HO} (t : TB K H) (n : H p = none ∨ ∃ vs, H p = some (.lst vs)) : TB K (L2.upd H p o) := fun P q h => by
  obtain ⟨ps, h1, h2, h3⟩ := t P q h
  have ne : ∀ b u, H b = some u → (∀ vs, u ≠ .lst vs) → b ≠ p := fun b u e w z => by
    subst z
    rcases n with n | ⟨vs, n⟩
    · rw [n] at e; cases e
    · rw [n] at e; cases e; exact w vs rfl
  refine ⟨ps, by rw [upd_ne (ne _ _ h1 fun _ z => by cases z)]; exact h1, h2, fun pos cv hc => ?_⟩
  obtain ⟨c, e1, e2⟩ := h3 pos cv hc
  exact ⟨c, e1, by rw [upd_ne (ne _ _ e2 fun _ z => by unfold LamX.CodeO at z; cases z)]; exact e2⟩
/-- a list less: the tables are there all the same -/
theorem TB.less {H : Hp} {p : Addr} {vs : List V} (t : TB K (L2.upd H p (.lst vs))) : TB K H := fun P q h => by
  obtain ⟨ps, h1, h2, h3⟩ := t P q h
  have at_ : ∀ b u, L2.upd H p (.lst vs) b = some u → (u ≠ .lst vs) → H b = some u := fun b u e w => by
    by_cases z : b = p
    · subst z; rw [upd_same] at e; cases e; exact (w rfl).elim
    · rw [upd_ne z] at e; exact e
  refine ⟨ps, at_ _ _ h1 (fun z => by cases z), h2, fun pos cv hc => ?_⟩
  obtain ⟨c, e1, e2⟩ := h3 pos cv hc
  exact ⟨c, e1, at_ _ _ e2 fun z => by unfold LamX.CodeO at z; cases z⟩
/-! ### each object stays, a table may become another -/
def Sm (K : PySem.W.Frag) (H H' : Hp) : Prop := (∀ b o, H b = some o → H' b = some o ∨ ∃ ps ps', o = .tbl ps ∧ H' b = some (.tbl ps')) ∧ TB K H ∧ TB K H'
theorem Sm.of {H H' : Hp} (s : Same H H') (t : TB K H) : Sm K H H' := ⟨fun b o e => .inl (s b o e), t, t.ext s⟩
theorem Sm.refl {H : Hp} (t : TB K H) : Sm K H H := .of (Same.refl _) t
theorem Sm.trans {H H' H'' : Hp} (a : Sm K H H') (c : Sm K H' H'') : Sm K H H'' := ⟨fun b o e => by
  rcases a.1 b o e with h | ⟨ps, ps', rfl, h⟩
  · exact c.1 b o h
  · rcases c.1 b _ h with h2 | ⟨_, ps2, _, h2⟩
    · exact .inr ⟨ps, ps', rfl, h2⟩
    · exact .inr ⟨ps, ps2, rfl, h2⟩, a.2.1, c.2.2⟩
theorem Sm.ext {H H' H'' : Hp} (a : Sm K H H') (s : Same H' H'') : Sm K H H'' := a.trans (.of s a.2.2)
theorem Sm.free {H H' : Hp} {b : Addr} (a : Sm K H H') (n : H' b = none) : H b = none := by
  cases e : H b with
  | none => rfl
  | some o =>
    rcases a.1 b o e with h | ⟨_, _, _, h⟩ <;> (rw [n] at h; cases h)
theorem Sm.at_ {H H' : Hp} {b : Addr} {o : HO} (a : Sm K H H') (e : H b = some o) (n : ∀ ps, o ≠ .tbl ps) : H' b = some o := by
  rcases a.1 b o e with h | ⟨ps, _, z, _⟩
  · exact h
  · exact (n ps z).elim
theorem Sm.rd {H H' : Hp} {a : Addr} {vs : List V} (s : Sm K H H') (h : Rd H a (.lst vs)) : Rd H' a (.lst vs) := by
  rcases h with h | ⟨o, h⟩
  · exact .inl (s.at_ h fun _ z => by cases z)
  · exact .inr ⟨o, s.at_ h fun _ z => by cases z⟩
theorem Sm.upd_ {H₀ H : Hp} {p : Addr} {o : HO} (a : Sm K H₀ H) (zp : H₀ p = none) (nt : H p = none ∨ ∃ vs, H p = some (.lst vs)) : Sm K H₀ (upd H p o) := ⟨fun b x q => by
  rw [upd_ne (fun z => by subst z; rw [zp] at q; cases q)]
  exact a.1 b x q, a.2.1, a.2.2.upd nt⟩
end
section
variable (K : PySem.W.Frag) (mg : Mg)
/-- what a slot's value is -/
def SlIs (H₀ F H : Hp) : Sl → V → Prop
  | .val d, v => Is K mg F v d
  | .own ds, v => ∃ p vs, v = .ref p ∧ H₀ p = none ∧ F p = none ∧ H p = some (.lst vs) ∧ IsAll K mg F vs ds
  | .bor ds, v => ∃ p vs, v = .ref p ∧ Rd H₀ p (.lst vs) ∧ IsAll K mg F vs ds
/-- the frame's slots and the heap: H₀ is what must stay, F what is frozen -/
structure Rep (H₀ F : Hp) (env : En) (σ : L2.St) (H : Hp) : Prop where
  h0 : Sm K H₀ H
  hf : Same F H
  len : env.length = σ.length
  sl : ∀ i s, lk env i = some s → ∃ v, σ[i]? = some (some v) ∧ SlIs K mg H₀ F H s v
  nt : NT K F
  dis : ∀ i j ds es p, lk env i = some (.own ds) → lk env j = some (.own es) → σ[i]? = some (some (.ref p)) → σ[j]? = some (some (.ref p)) → i = j
/-- F' has more than F, but nothing of H₀ -/
def Grow (H₀ F F' : Hp) : Prop := Same F F' ∧ ∀ b, H₀ b ≠ none → F b = none → F' b = none
end
section
variable {K : PySem.W.Frag} {mg : Mg} {H₀ F F' F'' H H' : Hp} {env : En} {σ : L2.St}
theorem Grow.refl : Grow H₀ F F := ⟨Same.refl _, fun _ _ h => h⟩
theorem NT.grow (n : NT K F) (g : Grow H₀ F F') (t : TB K H₀) : NT K F' := fun P q h => by
  obtain ⟨ps, h1, _⟩ := t P q h
  exact g.2 P (by rw [h1]; simp) (n P q h)
theorem Grow.trans (a : Grow H₀ F F') (b : Grow H₀ F' F'') : Grow H₀ F F'' := ⟨a.1.trans b.1, fun c h n => b.2 c h (a.2 c h n)⟩
/-- a new object, frozen -/
theorem Rep.alloc (R : Rep K mg H₀ F env σ H) {p : Addr} {o : HO} (hp : H p = none) : Grow H₀ F (upd F p o) ∧ Rep K mg H₀ (upd F p o) env σ (upd H p o) := by
  have fp : F p = none := R.hf.free hp
  have zp : H₀ p = none := R.h0.free hp
  have sF : Same F (upd F p o) := fun b x e => by rw [upd_ne (ne_of_none e fp)]; exact e
  have sH : Same H (upd H p o) := fun b x e => by rw [upd_ne (ne_of_none e hp)]; exact e
  refine ⟨⟨sF, fun b h n => by rw [upd_ne (fun z => by subst z; exact h zp)]; exact n⟩, ⟨R.h0.ext sH, fun b x e => ?_, R.len, fun i s e => ?_, R.nt.upd R.h0.2.2 (.inl hp), R.dis⟩⟩
  · by_cases q : b = p
    · subst q; rw [upd_same] at e ⊢; exact e
    · rw [upd_ne q] at e; rw [upd_ne q]; exact R.hf _ _ e
  · obtain ⟨v, h1, h2⟩ := R.sl i s e
    refine ⟨v, h1, ?_⟩
    cases s with
    | val d => exact Is.mono sF h2
    | own ds =>
      obtain ⟨q, vs, rfl, a, b, c, d⟩ := h2
      have qp : q ≠ p := fun z => by subst z; rw [hp] at c; cases c
      exact ⟨q, vs, rfl, a, by rw [upd_ne qp]; exact b, sH _ _ c, IsAll.mono sF d⟩
    | bor ds =>
      obtain ⟨q, vs, rfl, a, d⟩ := h2
      exact ⟨q, vs, rfl, a, IsAll.mono sF d⟩
/-- a new list of one's own, not in a slot yet -/
theorem Rep.allocOwn (R : Rep K mg H₀ F env σ H) {p : Addr} {o : HO} (hp : H p = none) : Rep K mg H₀ F env σ (upd H p o) := by
  have fp : F p = none := R.hf.free hp
  have sH : Same H (upd H p o) := fun b x e => by rw [upd_ne (ne_of_none e hp)]; exact e
  refine ⟨R.h0.ext sH, R.hf.trans sH, R.len, fun i s e => ?_, R.nt, R.dis⟩
  obtain ⟨v, h1, h2⟩ := R.sl i s e
  refine ⟨v, h1, ?_⟩
  cases s with
  | val d => exact h2
  | own ds =>
    obtain ⟨q, vs, rfl, a, b, c, d⟩ := h2
    exact ⟨q, vs, rfl, a, b, sH _ _ c, d⟩
  | bor ds => exact h2
/-- a list of one's own is frozen in its slot -/
theorem Rep.freeze (R : Rep K mg H₀ F env σ H) {i : Nat} {ds : List D} (e : lk env i = some (.own ds)) :
    ∃ p vs, σ[i]? = some (some (.ref p)) ∧ Grow H₀ F (upd F p (.lst vs)) ∧ Rep K mg H₀ (upd F p (.lst vs)) (sv env i (some (.val (.lst ds)))) σ H ∧ Is K mg (upd F p (.lst vs)) (.ref p) (.lst ds) := by
  obtain ⟨v, h1, p, vs, rfl, zp, fp, hp, all⟩ := R.sl i _ e
  have sF : Same F (upd F p (.lst vs)) := fun b x e => by rw [upd_ne (ne_of_none e fp)]; exact e
  have hl := lk_lt e
  have isp : Is K mg (upd F p (.lst vs)) (.ref p) (.lst ds) := .lst (Rd.of upd_same) (IsAll.mono sF all)
  refine ⟨p, vs, h1, ⟨sF, fun b h n => by rw [upd_ne (fun z => by subst z; exact h zp)]; exact n⟩, ⟨R.h0, fun b x e => ?_, by rw [sv_length]; exact R.len, fun j s e' => ?_, R.nt.upd R.h0.2.2 (.inr ⟨_, hp⟩), fun j k ds' es q a b c d => ?_⟩, isp⟩
  · by_cases q : b = p
    · subst q; rw [upd_same] at e; cases e; exact hp
    · rw [upd_ne q] at e; exact R.hf _ _ e
  · rw [lk_sv hl] at e'
    split at e'
    · next z => subst z; cases e'; exact ⟨_, h1, isp⟩
    · next z =>
      obtain ⟨w, g1, g2⟩ := R.sl j s e'
      refine ⟨w, g1, ?_⟩
      cases s with
      | val d => exact Is.mono sF g2
      | own es =>
        obtain ⟨q, ws, rfl, a, b, c, d⟩ := g2
        have qp : q ≠ p := fun y => by subst y; exact z (R.dis j i _ _ q e' e g1 h1)
        exact ⟨q, ws, rfl, a, by rw [upd_ne qp]; exact b, c, IsAll.mono sF d⟩
      | bor es =>
        obtain ⟨q, ws, rfl, a, d⟩ := g2
        exact ⟨q, ws, rfl, a, IsAll.mono sF d⟩
  · rw [lk_sv hl] at a b
    split at a
    · cases a
    · split at b
      · cases b
      · exact R.dis j k _ _ q a b c d
/-- a slot is stored: frozen data -/
theorem Rep.setVal (R : Rep K mg H₀ F env σ H) {i : Nat} {v : V} {d : D} (h : Is K mg F v d) : Rep K mg H₀ F (sv env i (some (.val d))) (σ.set i (some v)) H := by
  refine ⟨R.h0, R.hf, by rw [sv_length, List.length_set]; exact R.len, fun j s e => ?_, R.nt, fun j k ds es p a b c d' => ?_⟩
  · have hi : j < (sv env i (some (.val d))).length := lk_lt e
    rw [sv_length] at hi
    by_cases q : i < env.length
    · rw [lk_sv q] at e
      split at e
      · next z => subst z; cases e; exact ⟨v, by rw [List.getElem?_set_self (by rw [← R.len]; exact q)], h⟩
      · next z => rw [List.getElem?_set_ne (fun y => z y.symm)]; exact R.sl j s e
    · rw [sv_eq, List.set_eq_of_length_le (by omega)] at e
      rw [List.set_eq_of_length_le (by rw [← R.len]; omega)]
      exact R.sl j s e
  · by_cases q : i < env.length
    · rw [lk_sv q] at a b
      split at a
      · cases a
      · split at b
        · cases b
        · next z1 z2 =>
          rw [List.getElem?_set_ne (fun y => z1 y.symm)] at c
          rw [List.getElem?_set_ne (fun y => z2 y.symm)] at d'
          exact R.dis j k _ _ p a b c d'
    · rw [sv_eq, List.set_eq_of_length_le (by omega)] at a b
      rw [List.set_eq_of_length_le (by rw [← R.len]; omega)] at c d'
      exact R.dis j k _ _ p a b c d'
/-- .. a new list of one's own -/
theorem Rep.setOwn (R : Rep K mg H₀ F env σ H) {i : Nat} {p : Addr} {vs : List V} {ds : List D} (zp : H₀ p = none) (fp : F p = none) (hp : H p = some (.lst vs)) (all : IsAll K mg F vs ds)
    (new : ∀ j es, lk env j = some (.own es) → σ[j]? = some (some (.ref p)) → False) : Rep K mg H₀ F (sv env i (some (.own ds))) (σ.set i (some (.ref p))) H := by
  refine ⟨R.h0, R.hf, by rw [sv_length, List.length_set]; exact R.len, fun j s e => ?_, R.nt, fun j k ds' es q a b c d' => ?_⟩
  · by_cases q : i < env.length
    · rw [lk_sv q] at e
      split at e
      · next z => subst z; cases e; exact ⟨.ref p, by rw [List.getElem?_set_self (by rw [← R.len]; exact q)], p, vs, rfl, zp, fp, hp, all⟩
      · next z => rw [List.getElem?_set_ne (fun y => z y.symm)]; exact R.sl j s e
    · rw [sv_eq, List.set_eq_of_length_le (by omega)] at e
      rw [List.set_eq_of_length_le (by rw [← R.len]; omega)]
      exact R.sl j s e
  · by_cases q' : i < env.length
    · have ql : i < σ.length := by rw [← R.len]; exact q'
      rw [lk_sv q'] at a b
      by_cases ji : j = i
      · by_cases ki : k = i
        · rw [ji, ki]
        · rw [if_neg ki] at b
          subst ji
          rw [List.getElem?_set_self ql] at c
          rw [List.getElem?_set_ne (fun y => ki y.symm)] at d'
          cases c
          exact (new k _ b d').elim
      · rw [if_neg ji] at a
        rw [List.getElem?_set_ne (fun y => ji y.symm)] at c
        by_cases ki : k = i
        · subst ki
          rw [List.getElem?_set_self ql] at d'
          cases d'
          exact (new j _ a c).elim
        · rw [if_neg ki] at b
          rw [List.getElem?_set_ne (fun y => ki y.symm)] at d'
          exact R.dis j k _ _ q a b c d'
    · rw [sv_eq, List.set_eq_of_length_le (by omega)] at a b
      rw [List.set_eq_of_length_le (by rw [← R.len]; omega)] at c d'
      exact R.dis j k _ _ q a b c d'
/-- a list of one's own is changed -/
theorem Rep.write (R : Rep K mg H₀ F env σ H) {i : Nat} {p : Addr} {ds ds' : List D} {vs' : List V} (e : lk env i = some (.own ds)) (hv : σ[i]? = some (some (.ref p))) (all : IsAll K mg F vs' ds') :
    Rep K mg H₀ F (sv env i (some (.own ds'))) σ (upd H p (.lst vs')) := by
  obtain ⟨v, h1, p', vs, rfl, zp, fp, hp, _⟩ := R.sl i _ e
  rw [hv] at h1; cases h1
  have hl := lk_lt e
  refine ⟨R.h0.upd_ zp (.inr ⟨_, hp⟩), fun b x q => by rw [upd_ne (fun z => by subst z; rw [fp] at q; cases q)]; exact R.hf _ _ q, by rw [sv_length]; exact R.len, fun j s e' => ?_, R.nt, fun j k es es' q a b c d => ?_⟩
  · rw [lk_sv hl] at e'
    split at e'
    · next z => subst z; cases e'; exact ⟨_, hv, p, vs', rfl, zp, fp, upd_same, all⟩
    · next z =>
      obtain ⟨w, g1, g2⟩ := R.sl j s e'
      refine ⟨w, g1, ?_⟩
      cases s with
      | val d => exact g2
      | own es =>
        obtain ⟨q, ws, rfl, a, b, c, d⟩ := g2
        have qp : q ≠ p := fun y => by subst y; exact z (R.dis j i _ _ q e' e g1 hv)
        exact ⟨q, ws, rfl, a, b, by rw [upd_ne qp]; exact c, d⟩
      | bor es => exact g2
  · rw [lk_sv hl] at a b
    by_cases ji : j = i
    · by_cases ki : k = i
      · rw [ji, ki]
      · rw [if_neg ki] at b
        subst ji
        exact R.dis j k _ _ q e b c d
    · rw [if_neg ji] at a
      by_cases ki : k = i
      · subst ki; exact R.dis j k _ _ q a e c d
      · rw [if_neg ki] at b; exact R.dis j k _ _ q a b c d
/-- a slot is forgotten -/
theorem Rep.drop (R : Rep K mg H₀ F env σ H) (i : Nat) : Rep K mg H₀ F (sv env i none) σ H := by
  have key : ∀ j s, lk (sv env i none) j = some s → lk env j = some s := fun j s e => by
    by_cases q : i < env.length
    · rw [lk_sv q] at e
      split at e
      · cases e
      · exact e
    · rw [sv_eq, List.set_eq_of_length_le (by omega)] at e; exact e
  exact ⟨R.h0, R.hf, by rw [sv_length]; exact R.len, fun j s e => R.sl j s (key j s e), R.nt, fun j k ds es p a b c d => R.dis j k _ _ p (key _ _ a) (key _ _ b) c d⟩
/-- a slot has no value any more -/
theorem Rep.unset (R : Rep K mg H₀ F env σ H) (i : Nat) : Rep K mg H₀ F (sv env i none) (σ.set i none) H := by
  have key : ∀ j s, lk (sv env i none) j = some s → lk env j = some s ∧ (j ≠ i ∨ ¬ i < env.length) := fun j s e => by
    by_cases q : i < env.length
    · rw [lk_sv q] at e
      split at e
      · cases e
      · next z => exact ⟨e, .inl z⟩
    · rw [sv_eq, List.set_eq_of_length_le (by omega)] at e; exact ⟨e, .inr q⟩
  have at_ : ∀ j s, lk (sv env i none) j = some s → (σ.set i none)[j]? = σ[j]? := fun j s e => by
    obtain ⟨_, z | z⟩ := key j s e
    · rw [List.getElem?_set_ne (fun y => z y.symm)]
    · rw [List.set_eq_of_length_le (by rw [← R.len]; omega)]
  refine ⟨R.h0, R.hf, by rw [sv_length, List.length_set]; exact R.len, fun j s e => by rw [at_ j s e]; exact R.sl j s (key j s e).1, R.nt, fun j k ds es p a b c d => ?_⟩
  rw [at_ _ _ a] at c
  rw [at_ _ _ b] at d
  exact R.dis j k _ _ p (key _ _ a).1 (key _ _ b).1 c d
def Sl.cool : Sl → Bool
  | .val d => d.cool
  | .own ds => D.coolAll ds
  | .bor ds => D.coolAll ds
def coolE : En → Bool
  | [] => true
  | some s :: r => s.cool && coolE r
  | none :: r => coolE r
theorem coolE_at : ∀ {e : En} {i : Nat} {s : Sl}, coolE e = true → lk e i = some s → s.cool = true
  | [], i, _, _, h => by simp [lk] at h
  | some x :: r, 0, s, q, h => by
    simp only [lk, Option.some.injEq] at h
    subst h
    simp only [coolE, Bool.and_eq_true] at q
    exact q.1
  | none :: r, 0, s, q, h => by simp [lk] at h
  | some x :: r, i + 1, s, q, h => by
    simp only [coolE, Bool.and_eq_true] at q
    exact coolE_at q.2 (by simpa [lk] using h)
  | none :: r, i + 1, s, q, h => by
    simp only [coolE] at q
    exact coolE_at q (by simpa [lk] using h)
theorem SlIs.up {mg' : Mg} (hf : mg'.f = mg.f) (he : ∀ a c dd, mg.er a c dd → mg'.er a c dd) {s : Sl} {v : V} (h : SlIs K mg H₀ F H s v) : SlIs K mg' H₀ F H s v := by
  cases s with
  | val d => exact Is.up hf he h
  | own ds => obtain ⟨p, vs, a, b, c, d, e⟩ := h; exact ⟨p, vs, a, b, c, d, IsAll.up hf he e⟩
  | bor ds => obtain ⟨p, vs, a, b, e⟩ := h; exact ⟨p, vs, a, b, IsAll.up hf he e⟩
theorem SlIs.down {mg' : Mg} (hf : mg'.f = mg.f) {s : Sl} {v : V} (h : SlIs K mg H₀ F H s v) (q : s.cool = true) : SlIs K mg' H₀ F H s v := by
  cases s with
  | val d => exact Is.down hf h q
  | own ds => obtain ⟨p, vs, a, b, c, d, e⟩ := h; exact ⟨p, vs, a, b, c, d, IsAll.down hf e q⟩
  | bor ds => obtain ⟨p, vs, a, b, e⟩ := h; exact ⟨p, vs, a, b, IsAll.down hf e q⟩
theorem Rep.up {mg' : Mg} (hf : mg'.f = mg.f) (he : ∀ a c dd, mg.er a c dd → mg'.er a c dd) (R : Rep K mg H₀ F env σ H) : Rep K mg' H₀ F env σ H :=
  ⟨R.h0, R.hf, R.len, fun i s e => by obtain ⟨v, a, b⟩ := R.sl i s e; exact ⟨v, a, b.up hf he⟩, R.nt, R.dis⟩
theorem Rep.down {mg' : Mg} (hf : mg'.f = mg.f) (R : Rep K mg H₀ F env σ H) (q : coolE env = true) : Rep K mg' H₀ F env σ H :=
  ⟨R.h0, R.hf, R.len, fun i s e => by obtain ⟨v, a, b⟩ := R.sl i s e; exact ⟨v, a, b.down hf (coolE_at q e)⟩, R.nt, R.dis⟩
end
end Ev
set_option Elab.async false
set_option linter.all false
set_option maxRecDepth 100000
namespace Ev
open PySem PySem.Spec PyProof.Rows L2

/-! ### operations on data -/
inductive Prim where
  | add | sub | mul | fdiv | mod | pow | neg
  | eq | ne | lt | le | gt | ge | isN | notN | inn | notin
  | idx
  | tup | lst
  | len | abs | int | gcd | lcm | min2 | max2 | minl | maxl | suml | anyl | alll | tuple | list | sortI
  deriving DecidableEq

inductive Pr where
  | d (x : D) | l (xs : List D) | bad
def Sl.ls : Sl → Option (List D)
  | .val (.lst ds) => some ds
  | .own ds => some ds
  | .bor ds => some ds
  | _ => none
def Sl.rs : Sl → Option (List D)
  | .val (.lst ds) => some ds
  | .val (.ro ds) => some ds
  | .own ds => some ds
  | .bor ds => some ds
  | _ => none
def lim : Nat := 1000000
def mulOk (a b : Int) : Bool := decide (a.natAbs < 2 ^ 64) || decide (b.natAbs < 2 ^ 64) || decide (a.natAbs.log2 + b.natAbs.log2 < 100000000)
def atD (xs : List D) (i : Int) : Option D := atI xs i
def cutD (xs : List D) (lo hi : Option Int) : List D :=
  (xs.drop (HT.sIx xs.length 0 lo)).take (HT.sIx xs.length xs.length hi - HT.sIx xs.length 0 lo)
def intsOf : List D → Option (List Int)
  | [] => some []
  | .int i :: r => match intsOf r with
    | some l => some (i :: l)
    | none => none
  | _ :: _ => none
def boolsOf : List D → Option (List Bool)
  | [] => some []
  | .bl i :: r => match boolsOf r with
    | some l => some (i :: l)
    | none => none
  | _ :: _ => none
def maxOf : List Int → Int
  | [] => 0
  | [x] => x
  | x :: r => max x (maxOf r)
def minOf : List Int → Int
  | [] => 0
  | [x] => x
  | x :: r => min x (minOf r)
/-- the truth of a value -/
def truth : D → Option Bool
  | .non => some false
  | .bl b => some b
  | .int i => some (i != 0)
  | .tup xs => some (!xs.isEmpty)
  | .lst xs => some (!xs.isEmpty)
  | _ => none
def eqB (a b : D) : Option Bool := if a.plain 60 && b.plain 60 then some (PyData.eqv a.py b.py) else none
def inB (a : D) (xs : List D) : Option Bool := if a.plain 60 && D.plainAll 59 xs then some (xs.any fun z => PyData.eqv z.py a.py) else none
def asD : Sl → Option D
  | .val d => some d
  | .bor ds => some (.lst ds)
  | .own ds => some (.lst ds)
def ofB (b : Option Bool) : Pr := match b with
  | some b => .d (.bl b)
  | none => .bad
def notB (b : Option Bool) : Pr := match b with
  | some b => .d (.bl (!b))
  | none => .bad
def ofO (b : Option D) : Pr := match b with
  | some b => Pr.d b
  | none => .bad
def newL (xs : List D) : Pr := if xs.length ≤ lim then .l xs else .bad
def newT (xs : List D) : Pr := if xs.length ≤ lim then .d (.tup xs) else .bad
def allD : List Sl → Option (List D)
  | [] => some []
  | .val d :: r => match allD r with
    | some l => some (d :: l)
    | none => none
  | _ :: _ => none
def evEq (as : List Sl) : Option Bool := match as with
  | [a, b] => match asD a, asD b with
    | some x, some y => eqB x y
    | _, _ => none
  | _ => none
def evIn (as : List Sl) : Option Bool := match as with
  | [.val a, b] => match b.ls with
    | some xs => inB a xs
    | none => none
  | _ => none
def pAdd : List Sl → Pr
  | [.val (.int a), .val (.int b)] => .d (.int (a + b))
  | [.val (.tup a), .val (.tup b)] => if a.isEmpty || b.isEmpty then .bad else newT (a ++ b)
  | [a, b] => match a.ls, b.ls with
    | some x, some y => newL (x ++ y)
    | _, _ => .bad
  | _ => .bad
def pSub : List Sl → Pr
  | [.val (.int a), .val (.int b)] => .d (.int (a - b))
  | _ => .bad
def pMul : List Sl → Pr
  | [.val (.int a), .val (.int b)] => if mulOk a b then .d (.int (a * b)) else .bad
  | [.val (.lst x), .val (.int b)] => if decide (-(2 ^ 63) ≤ b) && decide (b < 2 ^ 63) && decide (x.length * b.toNat ≤ lim) then newL (List.replicate b.toNat x).flatten else .bad
  | _ => .bad
def pFdiv : List Sl → Pr
  | [.val (.int a), .val (.int b)] => if b = 0 then .bad else .d (.int (a.fdiv b))
  | _ => .bad
def pMod : List Sl → Pr
  | [.val (.int a), .val (.int b)] => if b = 0 then .bad else .d (.int (a.fmod b))
  | _ => .bad
def pPow : List Sl → Pr
  | [.val (.int a), .val (.int b)] => if decide (0 ≤ b) && decide (b ≤ 1000000) && decide (a.natAbs < 2 ^ 64) then .d (.int (a ^ b.toNat)) else .bad
  | _ => .bad
def pNeg : List Sl → Pr
  | [.val (.int a)] => .d (.int (-a))
  | _ => .bad
def pCmp (f : Int → Int → Bool) : List Sl → Pr
  | [.val (.int a), .val (.int b)] => .d (.bl (f a b))
  | _ => .bad
def D.isNon : D → Bool
  | .non => true
  | _ => false
def pIsN : List Sl → Pr
  | [.val a, .val .non] => .d (.bl a.isNon)
  | _ => .bad
def pNotN : List Sl → Pr
  | [.val a, .val .non] => .d (.bl (!a.isNon))
  | _ => .bad
def pIdx : List Sl → Pr
  | [.val (.tup x), .val (.int i)] => ofO (atD x i)
  | [a, .val (.int i)] => match a.rs with
    | some x => ofO (atD x i)
    | none => .bad
  | _ => .bad
def pCut (a : Sl) (lo hi : Option Int) : Pr := match a.rs with
  | some x => newL (cutD x lo hi)
  | none => .bad
def pTup (as : List Sl) : Pr := match allD as with
  | some xs => newT xs
  | none => .bad
def pLst (as : List Sl) : Pr := match allD as with
  | some xs => newL xs
  | none => .bad
def pLen : List Sl → Pr
  | [.val (.tup x)] => .d (.int x.length)
  | [a] => match a.rs with
    | some x => .d (.int x.length)
    | none => .bad
  | _ => .bad
def pAbs : List Sl → Pr
  | [.val (.int a)] => .d (.int (if a < 0 then -a else a))
  | _ => .bad
def pInt : List Sl → Pr
  | [.val (.int a)] => .d (.int a)
  | _ => .bad
def pGcd : List Sl → Pr
  | [.val (.int a), .val (.int b)] => .d (.int (Int.gcd a b))
  | _ => .bad
def pLcm : List Sl → Pr
  | [.val (.int a), .val (.int b)] => if decide (a.natAbs.log2 < 13000) && decide (b.natAbs.log2 < 13000) then .d (.int (Int.lcm a b)) else .bad
  | _ => .bad
def pMin2 : List Sl → Pr
  | [.val (.int i), .val (.int j)] => .d (.int (if j < i then j else i))
  | _ => .bad
def pMax2 : List Sl → Pr
  | [.val (.int i), .val (.int j)] => .d (.int (if j > i then j else i))
  | _ => .bad
def onInts (f : List Int → Pr) : List Sl → Pr
  | [a] => match a.ls with
    | some x => match intsOf x with
      | some r => f r
      | none => .bad
    | none => .bad
  | _ => .bad
def onBools (f : List Bool → Pr) : List Sl → Pr
  | [a] => match a.ls with
    | some x => match boolsOf x with
      | some r => f r
      | none => .bad
    | none => .bad
  | _ => .bad
def pTuple : List Sl → Pr
  | [.val (.tup x)] => .d (.tup x)
  | [a] => match a.rs with
    | some x => newT x
    | none => .bad
  | _ => .bad
def pList : List Sl → Pr
  | [.val (.tup x)] => newL x
  | [a] => match a.rs with
    | some x => newL x
    | none => .bad
  | _ => .bad
def evPrim (p : Prim) (as : List Sl) : Pr := match p with
  | .add => pAdd as
  | .sub => pSub as
  | .mul => pMul as
  | .fdiv => pFdiv as
  | .mod => pMod as
  | .pow => pPow as
  | .neg => pNeg as
  | .eq => ofB (evEq as)
  | .ne => notB (evEq as)
  | .lt => pCmp (fun a b => decide (a < b)) as
  | .le => pCmp (fun a b => decide (a ≤ b)) as
  | .gt => pCmp (fun a b => decide (b < a)) as
  | .ge => pCmp (fun a b => decide (b ≤ a)) as
  | .isN => pIsN as
  | .notN => pNotN as
  | .inn => ofB (evIn as)
  | .notin => notB (evIn as)
  | .idx => pIdx as
  | .tup => pTup as
  | .lst => pLst as
  | .len => pLen as
  | .abs => pAbs as
  | .int => pInt as
  | .gcd => pGcd as
  | .lcm => pLcm as
  | .min2 => pMin2 as
  | .max2 => pMax2 as
  | .minl => onInts (fun r => match r with | [] => .bad | i :: r => .d (.int (minOf (i :: r)))) as
  | .maxl => onInts (fun r => match r with | [] => .bad | i :: r => .d (.int (maxOf (i :: r)))) as
  | .suml => onInts (fun r => .d (.int r.sum)) as
  | .anyl => onBools (fun r => .d (.bl (r.any id))) as
  | .alll => onBools (fun r => .d (.bl (r.all id))) as
  | .tuple => pTuple as
  | .list => pList as
  | .sortI => .bad
inductive Ty where
  | int | bool | tuple | list | str
  deriving DecidableEq
def isiD : Ty → Sl → Option Bool
  | .int, .val (.int _) => some true
  | .int, .val (.bl _) => some true
  | .bool, .val (.bl _) => some true
  | .tuple, .val (.tup _) => some true
  | .list, .val (.lst _) => some true
  | _, .val (.ro _) => none
  | .list, .own _ => some true
  | .list, .bor _ => some true
  | .str, .val (.str _) => some true
  | _, .val (.obj _ _ _) => none
  | _, .val (.err _ _ _) => none
  | _, _ => some false

def isCD (tbl : List (Str × Bool)) : Sl → Option Bool
  | .val (.err c _ _) => tbl.lookup c
  | _ => none

/-! ### sorted by whole-number keys -/
def insK {α : Type} (x : Int × α) : List (Int × α) → List (Int × α)
  | [] => [x]
  | y :: r => if x.1 ≤ y.1 then x :: y :: r else y :: insK x r
def sortK {α : Type} : List (Int × α) → List (Int × α)
  | [] => []
  | x :: r => insK x (sortK r)
/-- n[0] * (c // n[1]) -/
def keyD (c : Int) : D → Option Int
  | .tup [.int a, .int b] => if decide (b ≠ 0) && mulOk a (c.fdiv b) then some (a * c.fdiv b) else none
  | _ => none
def keysD (c : Int) : List D → Option (List Int)
  | [] => some []
  | d :: r => match keyD c d, keysD c r with
    | some k, some ks => some (k :: ks)
    | _, _ => none
def srtD (c : Int) (ds : List D) : Pr := match keysD c ds with
  | some ks => if ds.length ≤ lim then .l ((sortK (ks.zip ds)).map (·.2)) else .bad
  | none => .bad

/-! ### the terms -/
inductive Rf where
  | ok (s : Sl) | exc (x : Exn) | bad
mutual
inductive Tgt where
  | nm (i : Nat) (x : Str)
  | tup (ts : Tgts)
inductive Tgts where
  | nil | cons (t : Tgt) (ts : Tgts)
end
mutual
inductive Ex where
  | var (i : Nat) (x : Str)
  | rd (i : Nat) (x : Str)
  | con (c : Const)
  | glob (x : Str) (d : D)
  | prim (p : Prim) (as : Exs)
  | isi (t : Ty) (as : Exs)
  /-- isinstance of a class; tbl: the answers, class by class -/
  | isC (c : Str) (tbl : List (Str × Bool)) (as : Exs)
  | call (f : Str) (den : List Sl → Rf) (dfl : List D) (as : Exs)
  | and (a b : Ex) | or (a b : Ex) | not (a : Ex) | ite (c a b : Ex)
  | chain (p q : Prim) (a b c : Ex)
  | slc (a : Ex) (lo hi : Oe)
  /-- sorted(x, key=lambda n: n[0] * (y // n[1])) -/
  | srt (i : Nat) (x : Str) (j : Nat) (y : Str)
  | comp (own : List (Str × Nat)) (tg : Tgt) (it : Itr) (elt : Ex)
  | compif (own : List (Str × Nat)) (tg : Tgt) (it : Itr) (c : Ex) (elt : Ex)
inductive Oe where
  | none | some (a : Ex)
inductive Exs where
  | nil | cons (a : Ex) (as : Exs)
inductive Itr where
  | seq (a : Ex)
  | rng (as : Exs)
  | enum (as : Exs) | zip (as : Exs)
end
mutual
inductive Stm where
  | asg (t : Tgt) (a : Ex)
  | setI (i : Nat) (x : Str) (k a : Ex)
  | par (i : Nat) (x : Str) (j : Nat) (y : Str) (a b : Ex)
  | ite (c : Ex) (a b : Stms)
  | while (c : Ex) (a : Stms)
  | for (t : Tgt) (it : Itr) (a : Stms)
  | ret (a : Ex) | retN
  | expr (a : Ex)
  | append (i : Nat) (x : Str) (a : Ex)
  | pop (i : Nat) (x : Str)
  | pass | brk | cont
  /-- not reached -/
  | never
  /-- an error of an own class, with a text -/
  | raise (c : Str)
  /-- try .. except c as x; tbl: the classes that may fly, each with whether it is caught -/
  | tryC (c : Str) (tbl : List (Str × Bool)) (i : Option (Nat × Str)) (a b : Stms)
inductive Stms where
  | nil | cons (a : Stm) (as : Stms)
end

/-! ### what they say -/
def rdIx : Ex → Option Nat
  | .rd i _ => some i
  | _ => none
def varIx : Ex → Option Nat
  | .var i _ => some i
  | _ => none
/-- an argument: a value, or a slot that is read at the end -/
inductive Pd where
  | d (x : D) | slot (i : Nat)
def Pd.sl (e : En) : Pd → Option Sl
  | .d x => some (.val x)
  | .slot i => match lk e i with
    | some (.val y) => some (.val y)
    | some (.own ds) => some (.bor ds)
    | some (.bor ds) => some (.bor ds)
    | none => none
def slotR (i : Nat) (e : En) : R (Pd × En) := match lk e i with
  | some _ => .ok (.slot i, e)
  | none => .bad
def pds (e : En) : List Pd → Option (List Sl)
  | [] => some []
  | p :: r => match p.sl e, pds e r with
    | some s, some l => some (s :: l)
    | _, _ => none
/-- a list of one's own, when it is handed on -/
def Sl.froz : Sl → Option D
  | .val d => some d
  | .own ds => some (.lst ds)
  | .bor _ => none
mutual
def setT : Tgt → D → En → Option En
  | .nm i _, d, e => some (sv e i (some (.val d)))
  | .tup ts, .tup ds, e => setTs ts ds e
  | .tup _, _, _ => none
def setTs : Tgts → List D → En → Option En
  | .nil, [], e => some e
  | .cons t ts, d :: ds, e => match setT t d e with
    | some e1 => setTs ts ds e1
    | none => none
  | _, _, _ => none
end
def Sl.lend : Sl → Sl
  | .own ds => .bor ds
  | s => s
def lend (e : En) : En := e.map (Option.map Sl.lend)
def wipeE (e : En) : List Nat → En
  | [] => e
  | i :: r => sv (wipeE e r) i none
def conD : Const → Option D
  | .none => some .non
  | .bool b => some (.bl b)
  | .int i => some (.int i)
  | .str s => some (.str s)
  | _ => none
/-- a comprehension's turns -/
def compD (turn : D → R (Option D)) : List D → R (List D)
  | [] => .ok []
  | x :: r => R.bind (turn x) fun o => R.bind (compD turn r) fun l => match o with
    | some d => .ok (d :: l)
    | none => .ok l
def okD (e : En) (p : Pr) : R (D × En) := match p with
  | .d d => .ok (d, e)
  | .l ds => .ok (.lst ds, e)
  | .bad => .bad
def okS (e : En) (p : Pr) : R (Sl × En) := match p with
  | .d d => .ok (.val d, e)
  | .l ds => .ok (.own ds, e)
  | .bad => .bad
def rfS (e : En) : Rf → R (Sl × En)
  | .ok (.bor _) => .bad
  | .ok s => .ok (s, e)
  | .exc x => .exc x e
  | .bad => .bad
def truthR (d : D) (e : En) : R (Bool × En) := match truth d with
  | some b => .ok (b, e)
  | none => .bad
def ofOpt {α : Type} : Option α → R α
  | some a => .ok a
  | none => .bad
def frozR (p : Sl × En) : R (D × En) := match p.1.froz with
  | some d => .ok (d, p.2)
  | none => .bad
def rngD (lo n : Int) : R (List D) := if decide (-(2 ^ 62) ≤ lo) && decide (lo < 2 ^ 62) && decide (-(2 ^ 62) ≤ n) && decide (n < 2 ^ 62) then .ok ((List.range (n - lo).toNat).map fun (k : Nat) => D.int (lo + (k : Int))) else .bad
def srtP (i j : Nat) (e : En) : Pr := match lk e i, lk e j with
  | some s, some (.val (.int c)) => match s.ls with
    | some ds => srtD c ds
    | none => .bad
  | _, _ => .bad
def compEnd (r : R (List D)) (e : En) : R (D × En) := match r with
  | .ok l => if l.length ≤ lim then .ok (.lst l, e) else .bad
  | _ => .bad
def seqD : D → Option (List D)
  | .lst ds => some ds
  | .ro ds => some ds
  | .tup ds => some ds
  | _ => none
def enumD (ds : List D) : List D := ds.zipIdx.map fun p => .tup [.int (p.2 : Int), p.1]
def rngOf : List Sl → R (List D)
  | [.val (.int n)] => rngD 0 n
  | [.val (.int m), .val (.int n)] => rngD m n
  | _ => .bad
def enumOf : List Sl → R (List D)
  | [.val (.lst ds)] => .ok (enumD ds)
  | _ => .bad
def zipD (as bs : List D) : List D := (as.zip bs).map fun p => .tup [p.1, p.2]
def zipOf : List Sl → R (List D)
  | [.val (.lst as), .val (.lst bs)] => .ok (zipD as bs)
  | [.val (.tup as), .val (.tup bs)] => .ok (zipD as bs)
  | _ => .bad
mutual
/-- an expression: its value, lists frozen -/
def evE : Ex → En → R (D × En)
  | .var i _, e => match lk e i with
    | some (.val d) => .ok (d, e)
    | some (.own ds) => .ok (.lst ds, sv e i (some (.val (.lst ds))))
    | _ => .bad
  | .rd i _, e => match lk e i with
    | some (.val d) => .ok (d, e)
    | _ => .bad
  | .con c, e => match conD c with
    | some d => .ok (d, e)
    | none => .bad
  | .glob _ d, e => .ok (d, e)
  | .prim p as, e => R.bind (evA as e) fun q => match pds q.2 q.1 with
    | some l => okD q.2 (evPrim p l)
    | none => .bad
  | .isi t as, e => R.bind (evA as e) fun q => match pds q.2 q.1 with
    | some [s] => match isiD t s with
      | some b => .ok (.bl b, q.2)
      | none => .bad
    | _ => .bad
  | .isC _ tbl as, e => R.bind (evA as e) fun q => match pds q.2 q.1 with
    | some [s] => match isCD tbl s with
      | some b => .ok (.bl b, q.2)
      | none => .bad
    | _ => .bad
  | .call _ den dfl as, e => R.bind (evA as e) fun q => match pds q.2 q.1 with
    | some l => R.bind (rfS q.2 (den (l ++ dfl.map Sl.val))) frozR
    | none => .bad
  | .and a b, e => R.bind (evE a e) fun p => match truth p.1 with
    | some true => evE b p.2
    | some false => .ok p
    | none => .bad
  | .or a b, e => R.bind (evE a e) fun p => match truth p.1 with
    | some true => .ok p
    | some false => evE b p.2
    | none => .bad
  | .not a, e => R.bind (evE a e) fun p => match truth p.1 with
    | some b => .ok (.bl (!b), p.2)
    | none => .bad
  | .ite c a b, e => R.bind (evE c e) fun p => match truth p.1 with
    | some true => evE a p.2
    | some false => evE b p.2
    | none => .bad
  | .chain p q a b c, e => R.bind (evE a e) fun x => R.bind (evE b x.2) fun y => match evPrim p [.val x.1, .val y.1] with
    | .d (.bl true) => R.bind (evE c y.2) fun z => okD z.2 (evPrim q [.val y.1, .val z.1])
    | .d (.bl false) => .ok (.bl false, y.2)
    | _ => .bad
  | .slc a lo hi, e => R.bind (match rdIx a with
      | some i => slotR i e
      | none => R.bind (evE a e) fun p => .ok (.d p.1, p.2)) fun p => R.bind (evOI lo p.2) fun l => R.bind (evOI hi l.2) fun h => match p.1.sl h.2 with
    | some s => okD h.2 (pCut s l.1 h.1)
    | none => .bad
  | .srt i _ j _, e => okD e (srtP i j e)
  | .comp own tg it elt, e => R.bind (evI it e) fun q =>
      compEnd (compD (fun x => match setT tg x (wipeE (lend q.2) (own.map (·.2))) with
        | some e1 => R.bind (evE elt e1) fun p => .ok (some p.1)
        | none => .bad) q.1) q.2
  | .compif own tg it c elt, e => R.bind (evI it e) fun q =>
      compEnd (compD (fun x => match setT tg x (wipeE (lend q.2) (own.map (·.2))) with
        | some e1 => R.bind (evE c e1) fun p => R.bind (truthR p.1 p.2) fun b => if b.1 then R.bind (evE elt b.2) fun p => .ok (some p.1) else .ok none
        | none => .bad) q.1) q.2
def evOI : Oe → En → R (Option Int × En)
  | .none, e => .ok (none, e)
  | .some a, e => R.bind (evE a e) fun p => match p.1 with
    | .int i => .ok (some i, p.2)
    | _ => .bad
def evA : Exs → En → R (List Pd × En)
  | .nil, e => .ok ([], e)
  | .cons a as, e => match rdIx a with
    | some i => R.bind (slotR i e) fun p => R.bind (evA as p.2) fun q => .ok (p.1 :: q.1, q.2)
    | none => R.bind (evE a e) fun p => R.bind (evA as p.2) fun q => .ok (.d p.1 :: q.1, q.2)
/-- what a for walks -/
def evI : Itr → En → R (List D × En)
  | .seq a, e => R.bind (evE a e) fun p => match seqD p.1 with
    | some l => .ok (l, p.2)
    | none => .bad
  | .rng as, e => R.bind (evA as e) fun q => match pds q.2 q.1 with
    | some l => R.bind (rngOf l) fun l => .ok (l, q.2)
    | none => .bad
  | .enum as, e => R.bind (evA as e) fun q => match pds q.2 q.1 with
    | some l => R.bind (enumOf l) fun l => .ok (l, q.2)
    | none => .bad
  | .zip as, e => R.bind (evA as e) fun q => match pds q.2 q.1 with
    | some l => R.bind (zipOf l) fun l => .ok (l, q.2)
    | none => .bad
end
/-- an expression whose value is stored or returned: a new list is one's own -/
def evO : Ex → En → R (Sl × En)
  | .prim p as, e => R.bind (evA as e) fun q => match pds q.2 q.1 with
    | some l => okS q.2 (evPrim p l)
    | none => .bad
  | .call _ den dfl as, e => R.bind (evA as e) fun q => match pds q.2 q.1 with
    | some l => rfS q.2 (den (l ++ dfl.map Sl.val))
    | none => .bad
  | .slc a lo hi, e => R.bind (match rdIx a with
      | some i => slotR i e
      | none => R.bind (evE a e) fun p => .ok (.d p.1, p.2)) fun p => R.bind (evOI lo p.2) fun l => R.bind (evOI hi l.2) fun h => match p.1.sl h.2 with
    | some s => okS h.2 (pCut s l.1 h.1)
    | none => .bad
  | .srt i _ j _, e => okS e (srtP i j e)
  | a@(.comp own tg it elt), e => R.bind (evE a e) fun p => match p.1 with
    | .lst ds => .ok (.own ds, p.2)
    | _ => .bad
  | a@(.compif own tg it c elt), e => R.bind (evE a e) fun p => match p.1 with
    | .lst ds => .ok (.own ds, p.2)
    | _ => .bad
  | a, e => R.bind (evE a e) fun p => .ok (.val p.1, p.2)

inductive Fl where
  | nx (e : En) | rt (s : Sl) | bk (e : En) | ct (e : En)
def loopN (c : En → R (Bool × En)) (b : En → R Fl) : Nat → En → Option (R Fl)
  | 0, _ => none
  | n + 1, e => match c e with
    | .ok (true, e1) => match b e1 with
      | .ok (.nx e2) => loopN c b n e2
      | .ok (.ct e2) => loopN c b n e2
      | .ok (.bk e2) => some (.ok (.nx e2))
      | .ok (.rt s) => some (.ok (.rt s))
      | .exc x e2 => some (.exc x e2)
      | .bad => some .bad
    | .ok (false, e1) => some (.ok (.nx e1))
    | .exc x e2 => some (.exc x e2)
    | .bad => some .bad
open Classical in
noncomputable def whileD (c : En → R (Bool × En)) (b : En → R Fl) (e : En) : R Fl :=
  if h : ∃ n r, loopN c b n e = some r then h.choose_spec.choose else .bad
def forD (b : D → En → R Fl) : List D → En → R Fl
  | [], e => .ok (.nx e)
  | x :: r, e => match b x e with
    | .ok (.nx e2) => forD b r e2
    | .ok (.ct e2) => forD b r e2
    | .ok (.bk e2) => .ok (.nx e2)
    | .ok (.rt s) => .ok (.rt s)
    | .exc x e2 => .exc x e2
    | .bad => .bad
/-- behind an except suite: its name goes -/
def tryE (i : Option (Nat × Str)) (e : En) : En := match i with
  | some (k, _) => sv e k none
  | none => e
def tryD (i : Option (Nat × Str)) : R Fl → R Fl
  | .ok (.nx e) => if coolE (tryE i e) then .ok (.nx (tryE i e)) else .bad
  | .ok (.bk e) => if coolE (tryE i e) then .ok (.bk (tryE i e)) else .bad
  | .ok (.ct e) => if coolE (tryE i e) then .ok (.ct (tryE i e)) else .bad
  | .ok (.rt s) => if s.cool then .ok (.rt s) else .bad
  | _ => .bad
def setS : Nat → Sl × En → En := fun i p => sv p.2 i (some p.1)
def sqIx (n : Nat) (i : Int) : Option Nat := ixN n i
mutual
noncomputable def evS : Stm → En → R Fl
  | .asg (.nm i _) a, e => R.bind (evO a e) fun p => .ok (.nx (sv p.2 i (some p.1)))
  | .asg (.tup ts) a, e => R.bind (evE a e) fun p => match setT (.tup ts) p.1 p.2 with
    | some e2 => .ok (.nx e2)
    | none => .bad
  | .setI i _ k a, e => R.bind (evE a e) fun q => R.bind (slotR i q.2) fun s => R.bind (evE k s.2) fun p => match lk p.2 i, p.1 with
    | some (.own ds), .int j => match sqIx ds.length j with
      | some m => .ok (.nx (sv p.2 i (some (.own (ds.set m q.1)))))
      | none => .bad
    | _, _ => .bad
  | .par i _ j _ a b, e => R.bind (evE a e) fun p => R.bind (evE b p.2) fun q => .ok (.nx (sv (sv q.2 i (some (.val p.1))) j (some (.val q.1))))
  | .ite c a b, e => R.bind (R.bind (evE c e) fun p => truthR p.1 p.2) fun b1 => if b1.1 then evSs a b1.2 else evSs b b1.2
  | .while c a, e => whileD (fun e => R.bind (evE c e) fun p => truthR p.1 p.2) (fun e => evSs a e) e
  | .for t it a, e => R.bind (evI it e) fun q => forD (fun x e => match setT t x e with
      | some e1 => evSs a e1
      | none => .bad) q.1 q.2
  | .ret a, e => match varIx a with
    | some i => match lk e i with
      | some (.val d) => .ok (.rt (.val d))
      | some (.own ds) => .ok (.rt (.own ds))
      | _ => .bad
    | none => R.bind (evO a e) fun p => .ok (.rt p.1)
  | .retN, e => .ok (.rt (.val .non))
  | .expr a, e => R.bind (evE a e) fun p => .ok (.nx p.2)
  | .append i _ a, e => match lk e i with
    | some (.own _) => R.bind (evE a e) fun p => match lk p.2 i with
      | some (.own ds) => if ds.length < lim then .ok (.nx (sv p.2 i (some (.own (ds ++ [p.1]))))) else .bad
      | _ => .bad
    | _ => .bad
  | .pop i _, e => match lk e i with
    | some (.own ds) => if ds.length = 0 then .bad else .ok (.nx (sv e i (some (.own ds.dropLast))))
    | _ => .bad
  | .pass, e => .ok (.nx e)
  | .brk, e => .ok (.bk e)
  | .cont, e => .ok (.ct e)
  | .never, _ => .bad
  | .raise c, e => .exc ⟨c, [], []⟩ e
  | .tryC _ tbl i a b, e => match evSs a e with
    | .exc x e2 => match tbl.lookup x.cls with
      | some true => tryD i (evSs b (match i with
        | some (k, _) => sv e2 k (some (.val (.err x.cls x.ns x.vs)))
        | none => e2))
      | some false => .exc x e2
      | none => .bad
    | r => r
noncomputable def evSs : Stms → En → R Fl
  | .nil, e => .ok (.nx e)
  | .cons a as, e => match evS a e with
    | .ok (.nx e2) => evSs as e2
    | r => r
end
structure Fn where
  /-- how many parameters, how many slots -/
  ps : Nat
  n : Nat
  body : Stms
/-- a def's meaning -/
noncomputable def Fn.den (f : Fn) (as : List Sl) : Rf :=
  if as.length = f.ps then
    match evSs f.body (as.map some ++ List.replicate (f.n - f.ps) none) with
    | .ok (.rt (.bor _)) => .bad
    | .ok (.rt s) => .ok s
    | .ok (.nx _) => .ok (.val .non)
    | .ok _ => .bad
    | .exc x _ => .exc x
    | .bad => .bad
  else .bad
end Ev
set_option Elab.async false
set_option linter.all false
set_option maxRecDepth 100000
set_option maxHeartbeats 1000000
namespace Ev
open PySem PySem.Spec PyProof.Rows L2

/-! ### arguments and results of an operation -/
section
variable (K : PySem.W.Frag) (mg : Mg)
def ArgIs (F H : Hp) (x : V) : Sl → Prop
  | .val d => Is K mg F x d
  | .bor ds => ∃ p vs, x = .ref p ∧ Rd H p (.lst vs) ∧ IsAll K mg F vs ds
  | .own _ => False
def PK (H₀ F : Hp) (env : En) (σ : L2.St) (Q : VK) : Pr → Prop
  | .d res => ∀ F' H' v, Grow H₀ F F' → Rep K mg H₀ F' env σ H' → Is K mg F' v res → Q v H'
  | .l res => ∀ F' H' p vs, Grow H₀ F F' → Rep K mg H₀ F' env σ H' → H₀ p = none → F' p = none → H' p = some (.lst vs) → IsAll K mg F' vs res →
      (∀ j es, lk env j = some (.own es) → σ[j]? = some (some (.ref p)) → False) → Q (.ref p) H'
  | .bad => False
end
section
variable {K : PySem.W.Frag} {mg : Mg} {H₀ F H : Hp} {env : En} {σ : L2.St} {Q : VK} {x : V} {s : Sl} {ds : List D} {d : D}
theorem Is.inv_int {i : Int} (h : Is K mg F x (.int i)) : x = .int i := by cases h; rfl
theorem Is.inv_bl {i : Bool} (h : Is K mg F x (.bl i)) : x = .bl i := by cases h; rfl
theorem Is.inv_str {i : Str} (h : Is K mg F x (.str i)) : x = .str i := by cases h; rfl
theorem Is.inv_tup (h : Is K mg F x (.tup ds)) : ∃ a vs, x = .ref a ∧ SqT K F a vs ∧ IsAll K mg F vs ds := by
  cases h with | tup h r => exact ⟨_, _, rfl, h, r⟩
theorem Is.inv_lst (h : Is K mg F x (.lst ds)) : ∃ a vs, x = .ref a ∧ Rd F a (.lst vs) ∧ IsAll K mg F vs ds := by
  cases h with | lst h r => exact ⟨_, _, rfl, h, r⟩
theorem ArgIs.ls (R : Rep K mg H₀ F env σ H) (a : ArgIs K mg F H x s) (e : s.ls = some ds) : ∃ p vs, x = .ref p ∧ Rd H p (.lst vs) ∧ IsAll K mg F vs ds := by
  cases s with
  | val d =>
    cases d <;> simp only [Sl.ls, Option.some.injEq, reduceCtorEq] at e
    subst e
    obtain ⟨p, vs, rfl, h, r⟩ := Is.inv_lst a
    exact ⟨p, vs, rfl, Same.rd R.hf h, r⟩
  | own _ => exact a.elim
  | bor _ => simp only [Sl.ls, Option.some.injEq] at e; subst e; exact a
theorem ArgIs.rs (R : Rep K mg H₀ F env σ H) (a : ArgIs K mg F H x s) (e : s.rs = some ds) : ∃ p vs, x = .ref p ∧ SqL K H p vs ∧ IsAll K mg F vs ds := by
  cases s with
  | val d =>
    cases d <;> simp only [Sl.rs, Option.some.injEq, reduceCtorEq] at e
    · subst e
      obtain ⟨p, vs, rfl, h, r⟩ := Is.inv_lst a
      exact ⟨p, vs, rfl, .inl (Same.rd R.hf h), r⟩
    · subst e
      cases a with | ro h r => exact ⟨_, _, rfl, L2.Same.seq R.hf h, r⟩
  | own _ => exact a.elim
  | bor _ =>
    simp only [Sl.rs, Option.some.injEq] at e; subst e
    obtain ⟨p, vs, rfl, h, r⟩ := a
    exact ⟨p, vs, rfl, .inl h, r⟩
theorem ArgIs.asH (R : Rep K mg H₀ F env σ H) (a : ArgIs K mg F H x s) (e : Ev.asD s = some d) : Is K mg H x d := by
  cases s with
  | val d' => simp only [Ev.asD, Option.some.injEq] at e; subst e; exact Is.mono R.hf a
  | own _ => exact a.elim
  | bor ds' =>
    simp only [Ev.asD, Option.some.injEq] at e; subst e
    obtain ⟨p, vs, rfl, h, r⟩ := a
    exact .lst h (IsAll.mono R.hf r)
theorem PK.now (R : Rep K mg H₀ F env σ H) (q : PK K mg H₀ F env σ Q (.d d)) {v : V} (h : Is K mg F v d) : Q v H := q F H v Grow.refl R h
theorem PK.newl {ws : List V} {p : Addr} (R : Rep K mg H₀ F env σ H) (q : PK K mg H₀ F env σ Q (newL ds)) (h : IsAll K mg F ws ds) (hp : H p = none) : Q (.ref p) (upd H p (.lst ws)) := by
  unfold newL at q
  split at q
  · refine q F _ p ws Grow.refl (R.allocOwn hp) (R.h0.free hp) (R.hf.free hp) upd_same h fun j es e hj => ?_
    obtain ⟨v, h1, p', vs, rfl, _, _, h3, _⟩ := R.sl j _ e
    rw [hj] at h1; cases h1
    rw [hp] at h3; cases h3
  · exact q.elim
theorem PK.newL_le (q : PK K mg H₀ F env σ Q (newL ds)) : ds.length ≤ lim := by
  unfold newL at q
  split at q
  · assumption
  · exact q.elim
theorem PK.newT_le (q : PK K mg H₀ F env σ Q (newT ds)) : ds.length ≤ lim := by
  unfold newT at q
  split at q
  · assumption
  · exact q.elim
theorem PK.newt {ws : List V} {p : Addr} (R : Rep K mg H₀ F env σ H) (q : PK K mg H₀ F env σ Q (newT ds)) (h : IsAll K mg F ws ds) (hp : H p = none) : Q (.ref p) (upd H p (.tup ws)) := by
  unfold newT at q
  split at q
  · have a := R.alloc (o := .tup ws) hp
    exact q _ _ _ a.1 a.2 (.tup (SqT.of upd_same) (IsAll.mono a.1.1 h))
  · exact q.elim
theorem lim_line {n : Nat} (h : n ≤ lim) : n ≤ sizeLine := Nat.le_trans h (by decide)
theorem lim_lt {n : Nat} (h : n ≤ lim) : n < sizeLine := Nat.lt_of_le_of_lt h (by decide)
end

/-! ### the operations of two -/
def rP (X : Cx) (p : Prim) : R2 := fun x y H Q => ∃ H₀ F env σ s1 s2, Rep X.K (mX X) H₀ F env σ H ∧ ArgIs X.K (mX X) F H x s1 ∧ ArgIs X.K (mX X) F H y s2 ∧ PK X.K (mX X) H₀ F env σ Q (evPrim p [s1, s2])
/-- what a call of // leans on -/
def DivOk (X : Cx) : Prop := ∀ (pins : List (Addr × Obj)) (σ : L2.St) (H : Hp) (s : Shared), Inv X pins σ H s → PySem.PylongRoom (model X.prog X.w) X.A s
section
variable {X : Cx}
theorem Inv.lstR {pins : List (Addr × Obj)} {σ : L2.St} {H : Hp} {s : Shared} {l : Addr} {xs : List V} (I : Inv X pins σ H s) (hH : Rd H l (.lst xs)) :
    ∃ (its : List Value) (n : Nat), Vals xs its ∧ xs.length = its.length ∧ s.heap.get? l = some { cls := .type "list", data := .seq its.toArray n } := by
  obtain ⟨z, its, n, r, e⟩ := hH.ok I.hok
  exact ⟨its, n, r, r.length, e⟩
theorem op_addS : OpR X (binaryOp .Add) (fun x y H Q => ∃ a b xs ys, x = .ref a ∧ y = .ref b ∧ Rd H a (.lst xs) ∧ Rd H b (.lst ys) ∧ xs.length + ys.length ≤ sizeLine ∧ ∀ p, H p = none → Q (.ref p) (upd H p (.lst (xs ++ ys)))) := by
  intro pins s σ H x y v u Q I rx ry h
  obtain ⟨l, b, xs, zs, rfl, rfl, hH, hB, hz, q⟩ := h
  cases rx
  cases ry
  obtain ⟨its, n, r, hl, e⟩ := Inv.lstR I hH
  obtain ⟨its2, n2, r2, hl2, e2⟩ := Inv.lstR I hB
  refine PySem.P.add_list e e2 ?_ (by rw [List.size_toArray, List.size_toArray]; omega)
  have ea : its.toArray ++ its2.toArray = (its ++ its2).toArray := by simp
  rw [ea]
  exact ⟨.ref _, _, I.lnew (t' := s.toks) (r.append r2) (by rw [List.length_append]; omega), rfl, q _ I.fresh⟩

theorem mulOk_ok {a b : Int} (h : mulOk a b = true) : IntMulOk a b := by
  unfold mulOk at h
  simp only [Bool.or_eq_true, decide_eq_true_eq] at h
  rcases h with (h | h) | h
  · exact .of_left (intBits_le_64 (by omega) (by omega))
  · exact .of_right (intBits_le_64 (by omega) (by omega))
  · have bb : ∀ x : Int, Builtin.Int.intBits x ≤ x.natAbs.log2 + 1 := fun x => by
      unfold Builtin.Int.intBits
      split <;> omega
    have h1 := bb a
    have h2 := bb b
    have e : bitsLine = 134217728 := by decide
    unfold IntMulOk
    intro z
    rw [Bool.and_eq_true] at z
    have z2 := z.2
    unfold Builtin.Int.intTooBig at z2
    have z3 := of_decide_eq_true z2
    rw [e] at z3
    omega
theorem op_mulX : OpR X (binaryOp .Mult) (rI (fun a b => mulOk a b = true) fun i j => .int (i * j)) := opI fun _ _ _ _ _ _ _ hc q => mul_int q (mulOk_ok hc)
theorem op_fdivX (dv : DivOk X) : OpR X (binaryOp .FloorDiv) (rI (fun _ j => j ≠ 0) fun i j => .int (i.fdiv j)) := by
  intro pins s σ H x y v u Q I rx ry h
  obtain ⟨i, j, rfl, rfl, hc, q⟩ := h
  obtain ⟨t, rfl⟩ := rx
  obtain ⟨t', rfl⟩ := ry
  exact floordiv_int hc ⟨.int _, H, I.tok _, ⟨_, rfl⟩, q⟩ (.inr (dv pins σ H s I))
theorem op_repR : OpR X (binaryOp .Mult) (fun x y H Q => ∃ l k xs, x = .ref l ∧ y = .int k ∧ Rd H l (.lst xs) ∧ -(2 ^ 63) ≤ k ∧ k < 2 ^ 63 ∧ xs.length * k.toNat ≤ sizeLine ∧
  ∀ p, H p = none → Q (.ref p) (upd H p (.lst (List.replicate k.toNat xs).flatten))) := by
  intro pins s σ H x y v u Q I rx ry h
  obtain ⟨l, k, xs, rfl, rfl, hH, h1, h2, hz, q⟩ := h
  cases rx
  obtain ⟨t, rfl⟩ := ry
  obtain ⟨its, n, r, hl, e⟩ := Inv.lstR I hH
  have hlen : its.toArray.size * k.toNat ≤ sizeLine := by rw [List.size_toArray, ← hl]; exact hz
  have hcap : ¬ its.toArray.size * k.toNat > (2 ^ 63 - 1) / 8 := by
    have : (sizeLine : Nat) ≤ (2 ^ 63 - 1) / 8 := by decide
    omega
  have hfit : ¬ (!Builtin.List.listFitsIndex k) = true := by
    rw [fitsIndex_both h1 h2]
    exact Bool.false_ne_true
  have hlong : ¬ Builtin.List.listTooLong (its.toArray.size * k.toNat) = true := by
    rw [notLongL hlen]
    exact Bool.false_ne_true
  have hnew : List.foldl (fun x1 x2 => x1 ++ x2) #[] (List.replicate (if its.toArray.isEmpty = true then 0 else k.toNat) its.toArray) = (List.replicate k.toNat its).flatten.toArray := by
    have f0 : ∀ m : Nat, List.foldl (fun x1 x2 => x1 ++ x2) #[] (List.replicate m its.toArray) = (List.replicate m its).flatten.toArray := fun m => by
      have := foldl_rep its m []
      rw [List.nil_append] at this
      exact this
    rw [f0]
    cases its with
    | nil => simp
    | cons a r' => rw [if_neg (by simp)]
  refine wpAny_binaryOp_repeat_ref (T := "list") (U := "int") (by decide) ⟨_, e, rfl⟩ (fun s' => typeIs_int s' k t) noFill_list_mul F.fills_int_mul F.slot_int_rmul repeat_list F.slot_int_index.lookup
    (call_meets F.slot_int_rmul (typeIs_int s k t) F.entry_int_rmul (F.args_int_rmul_2 _ _) (int___rmul___int_list k t l its.toArray n)
      ⟨e, rfl, ⟨_, e, rfl⟩, call_meets F.slot_list_mul ⟨_, e, rfl⟩ F.entry_list_mul (F.args_list_mul_2 _ _) (AutoListH.list___mul___list_int_3 l its.toArray n k t hfit hcap hlong) ⟨e, ?_⟩⟩)
  rw [hnew]
  exact ⟨.ref _, _, I.lnew (t' := s.toks) (r.rep k.toNat) (by rw [PyProof.Rows.lm_len_rep_flat, Nat.mul_comm]; exact hz), rfl, q _ I.fresh⟩
theorem IsAll.rep {K : PySem.W.Frag} {mg : Mg} {F : Hp} {vs : List V} {ds : List D} (h : IsAll K mg F vs ds) : ∀ n : Nat, IsAll K mg F (List.replicate n vs).flatten (List.replicate n ds).flatten
  | 0 => .nil
  | n + 1 => by
    rw [List.replicate_succ, List.replicate_succ, List.flatten_cons, List.flatten_cons]
    exact h.append (IsAll.rep h n)

/-! each operation does what evPrim says -/
theorem opP_add : OpR X (binaryOp .Add) (rP X .add) := by
  intro pins s σ H x y v u Q I rx ry h
  obtain ⟨H₀, F, env, σ', s1, s2, R, a1, a2, q⟩ := h
  replace q : PK X.K (mX X) H₀ F env σ' Q (pAdd [s1, s2]) := q
  unfold pAdd at q
  split at q
  · next heq =>
    cases heq
    cases Is.inv_int a1; cases Is.inv_int a2
    exact op_add pins s σ H _ _ v u Q I rx ry ⟨_, _, rfl, rfl, q.now R (.int _)⟩
  · next heq =>
    cases heq
    obtain ⟨p1, v1, rfl, h1, r1⟩ := Is.inv_tup a1
    obtain ⟨p2, v2, rfl, h2, r2⟩ := Is.inv_tup a2
    split at q
    · exact q.elim
    · next ne =>
      simp only [Bool.or_eq_true, List.isEmpty_iff, not_or] at ne
      have l := q.newT_le
      rw [List.length_append] at l
      have e1 := r1.length
      have e2 := r2.length
      refine op_catT pins s σ H _ _ v u Q I rx ry ⟨p1, p2, v1, v2, rfl, rfl, Same.seqT R.hf h1, Same.seqT R.hf h2, fun z => ne.1 ?_, lim_line (by omega), fun z => (ne.2 ?_).elim, fun _ p hp => q.newt R (r1.append r2) hp⟩
      · subst z; exact List.length_eq_zero_iff.mp e1.symm
      · subst z; exact List.length_eq_zero_iff.mp e2.symm
  · next heq =>
    cases heq
    split at q
    · next h1 h2 =>
      obtain ⟨p1, v1, rfl, g1, r1⟩ := a1.ls R h1
      obtain ⟨p2, v2, rfl, g2, r2⟩ := a2.ls R h2
      have l := q.newL_le
      rw [List.length_append] at l
      have e1 := r1.length
      have e2 := r2.length
      exact op_addS pins s σ H _ _ v u Q I rx ry ⟨p1, p2, v1, v2, rfl, rfl, g1, g2, lim_line (by omega), fun p hp => q.newl R (r1.append r2) hp⟩
    · exact q.elim
  · exact q.elim
theorem opP_sub : OpR X (binaryOp .Sub) (rP X .sub) := by
  intro pins s σ H x y v u Q I rx ry h
  obtain ⟨H₀, F, env, σ', s1, s2, R, a1, a2, q⟩ := h
  replace q : PK X.K (mX X) H₀ F env σ' Q (pSub [s1, s2]) := q
  unfold pSub at q
  split at q
  · next heq =>
    cases heq
    cases Is.inv_int a1; cases Is.inv_int a2
    exact op_sub pins s σ H _ _ v u Q I rx ry ⟨_, _, rfl, rfl, q.now R (.int _)⟩
  · exact q.elim
theorem opP_mul : OpR X (binaryOp .Mult) (rP X .mul) := by
  intro pins s σ H x y v u Q I rx ry h
  obtain ⟨H₀, F, env, σ', s1, s2, R, a1, a2, q⟩ := h
  replace q : PK X.K (mX X) H₀ F env σ' Q (pMul [s1, s2]) := q
  unfold pMul at q
  split at q
  · next heq =>
    cases heq
    cases Is.inv_int a1; cases Is.inv_int a2
    split at q
    · next hm => exact op_mulX pins s σ H _ _ v u Q I rx ry ⟨_, _, rfl, rfl, hm, q.now R (.int _)⟩
    · exact q.elim
  · next heq =>
    cases heq
    cases Is.inv_int a2
    obtain ⟨p1, v1, rfl, g1, r1⟩ := Is.inv_lst a1
    split at q
    · next hm =>
      simp only [Bool.and_eq_true, decide_eq_true_eq] at hm
      exact op_repR pins s σ H _ _ v u Q I rx ry ⟨_, _, v1, rfl, rfl, Same.rd R.hf g1, hm.1.1, hm.1.2, by rw [r1.length]; exact lim_line hm.2, fun p hp => q.newl R (IsAll.rep r1 _) hp⟩
    · exact q.elim
  · exact q.elim
theorem opP_fdiv (dv : DivOk X) : OpR X (binaryOp .FloorDiv) (rP X .fdiv) := by
  intro pins s σ H x y v u Q I rx ry h
  obtain ⟨H₀, F, env, σ', s1, s2, R, a1, a2, q⟩ := h
  replace q : PK X.K (mX X) H₀ F env σ' Q (pFdiv [s1, s2]) := q
  unfold pFdiv at q
  split at q
  · next heq =>
    cases heq
    cases Is.inv_int a1; cases Is.inv_int a2
    split at q
    · exact q.elim
    · next hm => exact op_fdivX dv pins s σ H _ _ v u Q I rx ry ⟨_, _, rfl, rfl, hm, q.now R (.int _)⟩
  · exact q.elim
theorem opP_mod : OpR X (binaryOp .Mod) (rP X .mod) := by
  intro pins s σ H x y v u Q I rx ry h
  obtain ⟨H₀, F, env, σ', s1, s2, R, a1, a2, q⟩ := h
  replace q : PK X.K (mX X) H₀ F env σ' Q (pMod [s1, s2]) := q
  unfold pMod at q
  split at q
  · next heq =>
    cases heq
    cases Is.inv_int a1; cases Is.inv_int a2
    split at q
    · exact q.elim
    · next hm => exact op_modN pins s σ H _ _ v u Q I rx ry ⟨_, _, rfl, rfl, hm, q.now R (.int _)⟩
  · exact q.elim
theorem opP_pow : OpR X (binaryOp .Pow) (rP X .pow) := by
  intro pins s σ H x y v u Q I rx ry h
  obtain ⟨H₀, F, env, σ', s1, s2, R, a1, a2, q⟩ := h
  replace q : PK X.K (mX X) H₀ F env σ' Q (pPow [s1, s2]) := q
  unfold pPow at q
  split at q
  · next heq =>
    cases heq
    cases Is.inv_int a1; cases Is.inv_int a2
    split at q
    · next hm =>
      simp only [Bool.and_eq_true, decide_eq_true_eq] at hm
      exact op_pow pins s σ H _ _ v u Q I rx ry ⟨_, _, rfl, rfl, ⟨hm.1.1, hm.1.2, hm.2⟩, q.now R (.int _)⟩
    · exact q.elim
  · exact q.elim
theorem opP_cmp {op : CmpOp} {p : Prim} {f : Int → Int → Bool} (ho : OpR X (compareOp op) (rI0 fun i j => .bl (f i j))) (hp : ∀ as, evPrim p as = pCmp f as) : OpR X (compareOp op) (rP X p) := by
  intro pins s σ H x y v u Q I rx ry h
  obtain ⟨H₀, F, env, σ', s1, s2, R, a1, a2, q⟩ := h
  rw [hp] at q
  unfold pCmp at q
  split at q
  · next heq =>
    cases heq
    cases Is.inv_int a1; cases Is.inv_int a2
    exact ho pins s σ H _ _ v u Q I rx ry ⟨_, _, rfl, rfl, q.now R (.bl _)⟩
  · exact q.elim
theorem isNon_iff {K : PySem.W.Frag} {mg : Mg} {F : Hp} {x : V} {d : D} (h : Is K mg F x d) : decide (x = .non) = d.isNon := by cases h <;> rfl
theorem opP_isN : OpR X (compareOp .Is) (rP X .isN) := by
  intro pins s σ H x y v u Q I rx ry h
  obtain ⟨H₀, F, env, σ', s1, s2, R, a1, a2, q⟩ := h
  replace q : PK X.K (mX X) H₀ F env σ' Q (pIsN [s1, s2]) := q
  unfold pIsN at q
  split at q
  · next heq =>
    cases heq
    cases (show Is X.K (mX X) F y .non from a2)
    exact op_isN pins s σ H _ _ v u Q I rx ry ⟨rfl, by rw [isNon_iff (show Is X.K (mX X) F x _ from a1)]; exact q.now R (.bl _)⟩
  · exact q.elim
theorem opP_notN : OpR X (compareOp .IsNot) (rP X .notN) := by
  intro pins s σ H x y v u Q I rx ry h
  obtain ⟨H₀, F, env, σ', s1, s2, R, a1, a2, q⟩ := h
  replace q : PK X.K (mX X) H₀ F env σ' Q (pNotN [s1, s2]) := q
  unfold pNotN at q
  split at q
  · next heq =>
    cases heq
    cases (show Is X.K (mX X) F y .non from a2)
    exact op_notN pins s σ H _ _ v u Q I rx ry ⟨rfl, by rw [isNon_iff (show Is X.K (mX X) F x _ from a1)]; exact q.now R (.bl _)⟩
  · exact q.elim
theorem evEq_eq {K : PySem.W.Frag} {mg : Mg} {H₀ F H : Hp} {env : En} {σ : L2.St} {x y : V} {s1 s2 : Sl} {b : Bool} (R : Rep K mg H₀ F env σ H) (a1 : ArgIs K mg F H x s1) (a2 : ArgIs K mg F H y s2) (e : evEq [s1, s2] = some b) :
    ∃ p q, Dp K H x p ∧ Dp K H y q ∧ SeqAt.shaped p = true ∧ SeqAt.shaped q = true ∧ b = PyData.eqv p q := by
  unfold evEq at e
  dsimp only at e
  split at e
  · next d1 d2 e1 e2 =>
    unfold eqB at e
    split at e
    · next hp =>
      rw [Bool.and_eq_true] at hp
      cases e
      exact ⟨_, _, Is.dp (a1.asH R e1) hp.1, Is.dp (a2.asH R e2) hp.2, D.plain_shaped hp.1, D.plain_shaped hp.2, rfl⟩
    · cases e
  · cases e
theorem opP_eq (hu : X.A.units + 64 < cLine) : OpR X (compareOp .Eq) (rP X .eq) := by
  intro pins s σ H x y v u Q I rx ry h
  obtain ⟨H₀, F, env, σ', s1, s2, R, a1, a2, q⟩ := h
  replace q : PK X.K (mX X) H₀ F env σ' Q (ofB (evEq [s1, s2])) := q
  unfold ofB at q
  split at q
  · next b e =>
    obtain ⟨p1, p2, d1, d2, w1, w2, rfl⟩ := evEq_eq R a1 a2 e
    exact op_eqD hu pins s σ H _ _ v u Q I rx ry ⟨_, _, d1, d2, w1, w2, q.now R (.bl _)⟩
  · exact q.elim
theorem opP_ne (hu : X.A.units + 64 < cLine) : OpR X (compareOp .NotEq) (rP X .ne) := by
  intro pins s σ H x y v u Q I rx ry h
  obtain ⟨H₀, F, env, σ', s1, s2, R, a1, a2, q⟩ := h
  replace q : PK X.K (mX X) H₀ F env σ' Q (notB (evEq [s1, s2])) := q
  unfold notB at q
  split at q
  · next b e =>
    obtain ⟨p1, p2, d1, d2, w1, w2, rfl⟩ := evEq_eq R a1 a2 e
    exact op_neD hu pins s σ H _ _ v u Q I rx ry ⟨_, _, d1, d2, w1, w2, q.now R (.bl _)⟩
  · exact q.elim
theorem pyAll_any (p : PyData) : ∀ xs : List D, (xs.any fun z => PyData.eqv z.py p) = ((D.pyAll xs).any fun z => PyData.eqv z p)
  | [] => rfl
  | x :: xs => by simp only [List.any_cons, D.pyAll, pyAll_any p xs]
theorem evIn_eq {K : PySem.W.Frag} {mg : Mg} {H₀ F H : Hp} {env : En} {σ : L2.St} {x y : V} {s1 s2 : Sl} {b : Bool} (R : Rep K mg H₀ F env σ H) (a1 : ArgIs K mg F H x s1) (a2 : ArgIs K mg F H y s2) (e : evIn [s1, s2] = some b) :
    ∃ d ds, Dp K H x d ∧ Dp K H y (.list ds) ∧ SeqAt.shaped d = true ∧ SeqAt.shaped (.list ds) = true ∧ b = ds.any fun z => PyData.eqv z d := by
  unfold evIn at e
  split at e
  · next a b' heq =>
    cases heq
    split at e
    · next xs e2 =>
      unfold inB at e
      split at e
      · next hp =>
        rw [Bool.and_eq_true] at hp
        cases e
        obtain ⟨p, vs, rfl, g, r⟩ := a2.ls R e2
        have pl : (D.lst xs).plain 60 = true := by simpa [D.plain] using hp.2
        have sh := D.plain_shaped pl
        exact ⟨_, D.pyAll xs, Is.dp (Is.mono R.hf a1) hp.1, .lst (.inl g) (IsAll.dp (n := 59) (IsAll.mono R.hf r) hp.2), D.plain_shaped hp.1, by simpa [D.py] using sh, pyAll_any _ _⟩
      · cases e
    · cases e
  · cases e
theorem opP_in (hu : X.A.units + 65 < cLine) : OpR X (compareOp .In) (rP X .inn) := by
  intro pins s σ H x y v u Q I rx ry h
  obtain ⟨H₀, F, env, σ', s1, s2, R, a1, a2, q⟩ := h
  replace q : PK X.K (mX X) H₀ F env σ' Q (ofB (evIn [s1, s2])) := q
  unfold ofB at q
  split at q
  · next b e =>
    obtain ⟨p1, p2, d1, d2, w1, w2, rfl⟩ := evIn_eq R a1 a2 e
    exact op_inD hu pins s σ H _ _ v u Q I rx ry ⟨_, _, d1, d2, w1, w2, q.now R (.bl _)⟩
  · exact q.elim
theorem opP_notin (hu : X.A.units + 65 < cLine) : OpR X (compareOp .NotIn) (rP X .notin) := by
  intro pins s σ H x y v u Q I rx ry h
  obtain ⟨H₀, F, env, σ', s1, s2, R, a1, a2, q⟩ := h
  replace q : PK X.K (mX X) H₀ F env σ' Q (notB (evIn [s1, s2])) := q
  unfold notB at q
  split at q
  · next b e =>
    obtain ⟨p1, p2, d1, d2, w1, w2, rfl⟩ := evIn_eq R a1 a2 e
    exact op_notInD hu pins s σ H _ _ v u Q I rx ry ⟨_, _, d1, d2, w1, w2, q.now R (.bl _)⟩
  · exact q.elim
/-! subscripts -/
theorem IsAll.atI {K : PySem.W.Frag} {mg : Mg} {F : Hp} {vs : List V} {ds : List D} {i : Int} {d : D} (h : IsAll K mg F vs ds) (e : atD ds i = some d) : ∃ v, L2.atI vs i = some v ∧ Is K mg F v d := by
  unfold atD L2.atI at e
  unfold L2.atI
  rw [h.length]
  cases q : ixN ds.length i with
  | none => rw [q] at e; cases e
  | some j =>
    rw [q] at e
    exact h.get (i := j) e
theorem ixP : IxR X (rP X .idx) := by
  intro value slice pins s σ H x y v u Q I rx ry h hs
  obtain ⟨H₀, F, env, σ', s1, s2, R, a1, a2, q⟩ := h
  replace q : PK X.K (mX X) H₀ F env σ' Q (pIdx [s1, s2]) := q
  unfold pIdx at q
  split at q
  · next heq =>
    cases heq
    cases Is.inv_int a2
    obtain ⟨p1, v1, rfl, g1, r1⟩ := Is.inv_tup a1
    unfold ofO at q
    split at q
    · next d e =>
      obtain ⟨w, e1, e2⟩ := IsAll.atI r1 e
      exact ix_tup value slice pins s σ H _ _ v u Q I rx ry ⟨p1, v1, _, w, rfl, rfl, Same.seqT R.hf g1, e1, q.now R e2⟩ hs
    · exact q.elim
  · next heq =>
    cases heq
    cases Is.inv_int a2
    split at q
    · next e0 =>
      obtain ⟨p1, v1, rfl, g1, r1⟩ := a1.rs R e0
      unfold ofO at q
      split at q
      · next d e =>
        obtain ⟨w, e1, e2⟩ := IsAll.atI r1 e
        exact ix_list value slice pins s σ H _ _ v u Q I rx ry ⟨p1, v1, _, w, rfl, rfl, g1, e1, q.now R e2⟩ hs
      · exact q.elim
    · exact q.elim
  · exact q.elim
end
end Ev
set_option Elab.async false
set_option linter.all false
set_option maxRecDepth 100000
set_option maxHeartbeats 1000000
namespace Ev
open PySem PySem.Spec PyProof.Rows L2

section
variable (K : PySem.W.Frag) (mg : Mg)
inductive ArgsIs (F H : Hp) : List V → List Sl → Prop
  | nil : ArgsIs F H [] []
  | cons {x : V} {xs : List V} {s : Sl} {ss : List Sl} : ArgIs K mg F H x s → ArgsIs F H xs ss → ArgsIs F H (x :: xs) (s :: ss)
end
section
variable {K : PySem.W.Frag} {mg : Mg} {F H : Hp}
theorem ArgsIs.one {xs : List V} {s : Sl} (h : ArgsIs K mg F H xs [s]) : ∃ x, xs = [x] ∧ ArgIs K mg F H x s := by
  cases h with | cons a r => cases r; exact ⟨_, rfl, a⟩
theorem ArgsIs.two {xs : List V} {s t : Sl} (h : ArgsIs K mg F H xs [s, t]) : ∃ x y, xs = [x, y] ∧ ArgIs K mg F H x s ∧ ArgIs K mg F H y t := by
  cases h with | cons a r => cases r with | cons b r => cases r; exact ⟨_, _, rfl, a, b⟩
theorem ArgsIs.length : ∀ {xs : List V} {ss : List Sl}, ArgsIs K mg F H xs ss → xs.length = ss.length
  | _, _, .nil => rfl
  | _, _, .cons _ r => congrArg (· + 1) (ArgsIs.length r)
theorem ArgsIs.allD : ∀ {xs : List V} {ss : List Sl} {ds : List D}, ArgsIs K mg F H xs ss → Ev.allD ss = some ds → IsAll K mg F xs ds
  | _, _, _, .nil, e => by simp only [Ev.allD, Option.some.injEq] at e; subst e; exact .nil
  | _, s :: ss, _, .cons a r, e => by
    cases s with
    | val d =>
      simp only [Ev.allD] at e
      split at e
      · next l q => cases e; exact .cons a (ArgsIs.allD r q)
      · cases e
    | own _ => simp [Ev.allD] at e
    | bor _ => simp [Ev.allD] at e
theorem intsOf_is : ∀ {xs : List V} {ds : List D} {ns : List Int}, IsAll K mg F xs ds → intsOf ds = some ns → xs = ns.map V.int
  | _, _, _, .nil, e => by simp only [intsOf, Option.some.injEq] at e; subst e; rfl
  | _, d :: ds, _, .cons a r, e => by
    cases d <;> simp only [intsOf, reduceCtorEq] at e
    split at e
    · next l q => cases e; cases Is.inv_int a; rw [intsOf_is r q]; rfl
    · cases e
theorem boolsOf_is : ∀ {xs : List V} {ds : List D} {ns : List Bool}, IsAll K mg F xs ds → boolsOf ds = some ns → xs = ns.map V.bl
  | _, _, _, .nil, e => by simp only [boolsOf, Option.some.injEq] at e; subst e; rfl
  | _, d :: ds, _, .cons a r, e => by
    cases d <;> simp only [boolsOf, reduceCtorEq] at e
    split at e
    · next l q => cases e; cases Is.inv_bl a; rw [boolsOf_is r q]; rfl
    · cases e
end
theorem maxOf_mem : ∀ (i : Int) (r : List Int), maxOf (i :: r) ∈ i :: r ∧ ∀ y ∈ i :: r, y ≤ maxOf (i :: r)
  | i, [] => by simp [maxOf]
  | i, j :: r => by
    have h := maxOf_mem j r
    have e : maxOf (i :: j :: r) = max i (maxOf (j :: r)) := rfl
    rw [e]
    refine ⟨?_, fun y hy => ?_⟩
    · by_cases q : i ≤ maxOf (j :: r)
      · rw [Int.max_eq_right q]; exact List.mem_cons_of_mem _ h.1
      · rw [Int.max_eq_left (by omega)]; exact List.mem_cons_self
    · rcases List.mem_cons.mp hy with rfl | hy
      · omega
      · have := h.2 y hy; omega
theorem minOf_mem : ∀ (i : Int) (r : List Int), minOf (i :: r) ∈ i :: r ∧ ∀ y ∈ i :: r, minOf (i :: r) ≤ y
  | i, [] => by simp [minOf]
  | i, j :: r => by
    have h := minOf_mem j r
    have e : minOf (i :: j :: r) = min i (minOf (j :: r)) := rfl
    rw [e]
    refine ⟨?_, fun y hy => ?_⟩
    · by_cases q : i ≤ minOf (j :: r)
      · rw [Int.min_eq_left q]; exact List.mem_cons_self
      · rw [Int.min_eq_right (by omega)]; exact List.mem_cons_of_mem _ h.1
    · rcases List.mem_cons.mp hy with rfl | hy
      · omega
      · have := h.2 y hy; omega

def rPs (X : Cx) (p : Prim) : List V → Hp → VK → Prop := fun xs H Q => ∃ H₀ F env σ ss, Rep X.K (mX X) H₀ F env σ H ∧ ArgsIs X.K (mX X) F H xs ss ∧ PK X.K (mX X) H₀ F env σ Q (evPrim p ss)
section
variable {X : Cx}
theorem cP_len : CallR X (.builtin "len") (rPs X .len) := by
  intro pins s σ H xs us Q I r h
  obtain ⟨H₀, F, env, σ', ss, R, a, q⟩ := h
  replace q : PK X.K (mX X) H₀ F env σ' Q (pLen ss) := q
  unfold pLen at q
  split at q
  · obtain ⟨x, rfl, a1⟩ := a.one
    obtain ⟨p1, v1, rfl, g1, r1⟩ := Is.inv_tup a1
    refine call_len pins s σ H _ us Q I r ⟨_, v1.length, rfl, .inr ⟨v1, Same.seqT R.hf g1, rfl⟩, ?_⟩
    rw [r1.length]
    exact q.now R (.int _)
  · obtain ⟨x, rfl, a1⟩ := a.one
    split at q
    · next e =>
      obtain ⟨p1, v1, rfl, g1, r1⟩ := a1.rs R e
      refine call_len pins s σ H _ us Q I r ⟨_, v1.length, rfl, .inl ⟨v1, g1, rfl⟩, ?_⟩
      rw [r1.length]
      exact q.now R (.int _)
    · exact q.elim
  · exact q.elim
theorem cP_abs : CallR X (.builtin "abs") (rPs X .abs) := by
  intro pins s σ H xs us Q I r h
  obtain ⟨H₀, F, env, σ', ss, R, a, q⟩ := h
  replace q : PK X.K (mX X) H₀ F env σ' Q (pAbs ss) := q
  unfold pAbs at q
  split at q
  · obtain ⟨x, rfl, a1⟩ := a.one
    cases Is.inv_int a1
    exact call_abs pins s σ H _ us Q I r ⟨_, rfl, q.now R (.int _)⟩
  · exact q.elim
theorem cP_int : CallR X (.type "int") (rPs X .int) := by
  intro pins s σ H xs us Q I r h
  obtain ⟨H₀, F, env, σ', ss, R, a, q⟩ := h
  replace q : PK X.K (mX X) H₀ F env σ' Q (pInt ss) := q
  unfold pInt at q
  split at q
  · obtain ⟨x, rfl, a1⟩ := a.one
    cases Is.inv_int a1
    exact call_int1 pins s σ H _ us Q I r (.inl ⟨_, rfl, q.now R (.int _)⟩)
  · exact q.elim
theorem cP_gcd : CallR X (.builtin "math.gcd") (rPs X .gcd) := by
  intro pins s σ H xs us Q I r h
  obtain ⟨H₀, F, env, σ', ss, R, a, q⟩ := h
  replace q : PK X.K (mX X) H₀ F env σ' Q (pGcd ss) := q
  unfold pGcd at q
  split at q
  · obtain ⟨x, y, rfl, a1, a2⟩ := a.two
    cases Is.inv_int a1; cases Is.inv_int a2
    exact cr_gcd pins s σ H _ us Q I r ⟨_, _, rfl, q.now R (.int _)⟩
  · exact q.elim
theorem cr_lcm2 {pins : List (Addr × Obj)} {s : Shared} {σ : L2.St} {H : Hp} {us : List Value} {Q : VK} {a b : Int} (I : Inv X pins σ H s) (r : Vals [.int a, .int b] us) (ha : a.natAbs.log2 < 13000) (hb : b.natAbs.log2 < 13000) (q : Q (.int (Int.lcm a b)) H) :
    wpAny (model X.prog X.w) X.A (call (.builtin "math.lcm") us) (EP X pins σ Q) X.xe s := by
  obtain ⟨t, u, rfl⟩ := Vals.int2 r
  have e : ((Nat.lcm 1 a.natAbs).lcm b.natAbs) = Int.lcm a b := by rw [PySem.W.mc_lcm_one]; rfl
  have lt2 : ∀ z : Nat, z.log2 < 13000 → z < 2 ^ 13000 := fun z h => by
    by_cases z0 : z = 0
    · subst z0; exact Nat.pow_pos (by decide)
    · exact (Nat.log2_lt z0).mp h
  have sz : (((Nat.lcm 1 a.natAbs).lcm b.natAbs : Nat) : Int).natAbs.log2 < bitsLine := by
    rw [e, Int.natAbs_natCast, PySem.bitsLine_eq]
    have l1 : Int.lcm a b ≤ a.natAbs * b.natAbs := PySem.W.mc_lcm_le a.natAbs b.natAbs
    have l2 : a.natAbs * b.natAbs < 2 ^ 26000 := by
      rw [show (26000 : Nat) = 13000 + 13000 from rfl, Nat.pow_add]
      exact Nat.lt_of_le_of_lt (Nat.mul_le_mul_left _ (Nat.le_of_lt (lt2 _ hb))) (Nat.mul_lt_mul_of_pos_right (lt2 _ ha) (Nat.pow_pos (by decide)))
    by_cases z0 : Int.lcm a b = 0
    · rw [z0]; decide
    · have := (Nat.log2_lt z0).mpr (Nat.lt_of_le_of_lt l1 l2)
      omega
  have c0 : ¬(max 1 a.natAbs).log2 / 30 + 1 > 450 := by
    have : (max 1 a.natAbs).log2 < 13000 := by
      by_cases h : 1 ≤ a.natAbs
      · rw [Nat.max_eq_right h]; exact ha
      · rw [Nat.max_eq_left (by omega)]; decide
    omega
  have c1 : ¬(max a.natAbs b.natAbs).log2 / 30 + 1 > 450 := by
    have : (max a.natAbs b.natAbs).log2 < 13000 := by
      by_cases h : a.natAbs ≤ b.natAbs
      · rw [Nat.max_eq_right h]; exact hb
      · rw [Nat.max_eq_left (by omega)]; exact ha
    omega
  refine PySem.call_function_meets PySem.W.MGF.kind_lcm PySem.W.MGF.plain_lcm PySem.W.MGF.entry_lcm (PySem.W.MGF.args_lcm _ _) (PySem.W.mg_run_lcm a t b u c0 c1 sz).meets ?_
  exact ⟨.int (Int.lcm a b), H, I.tok _, ⟨s.toks, congrArg (fun z : Nat => Value.int (z : Int) s.toks) e⟩, q⟩
theorem cP_lcm : CallR X (.builtin "math.lcm") (rPs X .lcm) := by
  intro pins s σ H xs us Q I r h
  obtain ⟨H₀, F, env, σ', ss, R, a, q⟩ := h
  replace q : PK X.K (mX X) H₀ F env σ' Q (pLcm ss) := q
  unfold pLcm at q
  split at q
  · obtain ⟨x, y, rfl, a1, a2⟩ := a.two
    cases Is.inv_int a1; cases Is.inv_int a2
    split at q
    · next h =>
      simp only [Bool.and_eq_true, decide_eq_true_eq] at h
      exact cr_lcm2 I r h.1 h.2 (q.now R (.int _))
    · exact q.elim
  · exact q.elim
theorem cP_min2 (hc : X.calm = true) : CallR X (.builtin "min") (rPs X .min2) := by
  intro pins s σ H xs us Q I r h
  obtain ⟨H₀, F, env, σ', ss, R, a, q⟩ := h
  replace q : PK X.K (mX X) H₀ F env σ' Q (pMin2 ss) := q
  unfold pMin2 at q
  split at q
  · obtain ⟨x, y, rfl, a1, a2⟩ := a.two
    cases Is.inv_int a1; cases Is.inv_int a2
    exact call_min2 hc pins s σ H _ us Q I r ⟨_, _, rfl, q.now R (.int _)⟩
  · exact q.elim
theorem cP_max2 (hc : X.calm = true) : CallR X (.builtin "max") (rPs X .max2) := by
  intro pins s σ H xs us Q I r h
  obtain ⟨H₀, F, env, σ', ss, R, a, q⟩ := h
  replace q : PK X.K (mX X) H₀ F env σ' Q (pMax2 ss) := q
  unfold pMax2 at q
  split at q
  · obtain ⟨x, y, rfl, a1, a2⟩ := a.two
    cases Is.inv_int a1; cases Is.inv_int a2
    exact call_max2 hc pins s σ H _ us Q I r ⟨_, _, rfl, q.now R (.int _)⟩
  · exact q.elim
theorem onInts_is {H₀ F H : Hp} {env : En} {σ : L2.St} {Q : VK} {f : List Int → Pr} {xs : List V} {ss : List Sl} (R : Rep X.K (mX X) H₀ F env σ H) (a : ArgsIs X.K (mX X) F H xs ss) (q : PK X.K (mX X) H₀ F env σ Q (onInts f ss)) :
    ∃ p ns, xs = [.ref p] ∧ SqL X.K H p (ns.map V.int) ∧ PK X.K (mX X) H₀ F env σ Q (f ns) := by
  unfold onInts at q
  split at q
  · obtain ⟨x, rfl, a1⟩ := a.one
    split at q
    · next e =>
      split at q
      · next e2 =>
        obtain ⟨p1, v1, rfl, g1, r1⟩ := a1.ls R e
        have := intsOf_is r1 e2
        subst this
        exact ⟨p1, _, rfl, .inl g1, q⟩
      · exact q.elim
    · exact q.elim
  · exact q.elim
theorem onBools_is {H₀ F H : Hp} {env : En} {σ : L2.St} {Q : VK} {f : List Bool → Pr} {xs : List V} {ss : List Sl} (R : Rep X.K (mX X) H₀ F env σ H) (a : ArgsIs X.K (mX X) F H xs ss) (q : PK X.K (mX X) H₀ F env σ Q (onBools f ss)) :
    ∃ p ns, xs = [.ref p] ∧ SqL X.K H p (ns.map V.bl) ∧ PK X.K (mX X) H₀ F env σ Q (f ns) := by
  unfold onBools at q
  split at q
  · obtain ⟨x, rfl, a1⟩ := a.one
    split at q
    · next e =>
      split at q
      · next e2 =>
        obtain ⟨p1, v1, rfl, g1, r1⟩ := a1.ls R e
        have := boolsOf_is r1 e2
        subst this
        exact ⟨p1, _, rfl, .inl g1, q⟩
      · exact q.elim
    · exact q.elim
  · exact q.elim
theorem cP_sum (hc : X.calm = true) : CallR X (.builtin "sum") (rPs X .suml) := by
  intro pins s σ H xs us Q I r h
  obtain ⟨H₀, F, env, σ', ss, R, a, q⟩ := h
  obtain ⟨p, ns, rfl, g, q⟩ := onInts_is R a q
  exact cr_sum hc pins s σ H _ us Q I r ⟨p, ns, rfl, g, q.now R (.int _)⟩
theorem cP_any (hc : X.calm = true) : CallR X (.builtin "any") (rPs X .anyl) := by
  intro pins s σ H xs us Q I r h
  obtain ⟨H₀, F, env, σ', ss, R, a, q⟩ := h
  obtain ⟨p, ns, rfl, g, q⟩ := onBools_is R a q
  exact cr_any hc pins s σ H _ us Q I r ⟨p, ns, rfl, g, q.now R (.bl _)⟩
theorem cP_all (hc : X.calm = true) : CallR X (.builtin "all") (rPs X .alll) := by
  intro pins s σ H xs us Q I r h
  obtain ⟨H₀, F, env, σ', ss, R, a, q⟩ := h
  obtain ⟨p, ns, rfl, g, q⟩ := onBools_is R a q
  exact cr_all hc pins s σ H _ us Q I r ⟨p, ns, rfl, g, q.now R (.bl _)⟩
theorem cP_max (hc : X.calm = true) : CallR X (.builtin "max") (rPs X .maxl) := by
  intro pins s σ H xs us Q I r h
  obtain ⟨H₀, F, env, σ', ss, R, a, q⟩ := h
  obtain ⟨p, ns, rfl, g, q⟩ := onInts_is R a q
  cases ns with
  | nil => exact q.elim
  | cons i r' =>
    refine cr_max hc pins s σ H _ us Q I r ⟨p, _, rfl, g, by simp, fun m h1 h2 => ?_⟩
    have h := maxOf_mem i r'
    have e : m = maxOf (i :: r') := Int.le_antisymm (h.2 m h1) (h2 _ h.1)
    rw [e]
    exact q.now R (.int _)
theorem cP_min (hc : X.calm = true) : CallR X (.builtin "min") (rPs X .minl) := by
  intro pins s σ H xs us Q I r h
  obtain ⟨H₀, F, env, σ', ss, R, a, q⟩ := h
  obtain ⟨p, ns, rfl, g, q⟩ := onInts_is R a q
  cases ns with
  | nil => exact q.elim
  | cons i r' =>
    refine cr_min hc pins s σ H _ us Q I r ⟨p, _, rfl, g, by simp, fun m h1 h2 => ?_⟩
    have h := minOf_mem i r'
    have e : m = minOf (i :: r') := Int.le_antisymm (h2 _ h.1) (h.2 m h1)
    rw [e]
    exact q.now R (.int _)
theorem cP_tuple : CallR X (.type "tuple") (rPs X .tuple) := by
  intro pins s σ H xs us Q I r h
  obtain ⟨H₀, F, env, σ', ss, R, a, q⟩ := h
  replace q : PK X.K (mX X) H₀ F env σ' Q (pTuple ss) := q
  unfold pTuple at q
  split at q
  · obtain ⟨x, rfl, a1⟩ := a.one
    obtain ⟨p1, v1, rfl, g1, r1⟩ := Is.inv_tup a1
    exact call_tuple_of pins s σ H _ us Q I r ⟨_, v1, rfl, .inr ⟨Same.seqT R.hf g1, q.now R a1⟩⟩
  · obtain ⟨x, rfl, a1⟩ := a.one
    split at q
    · next e =>
      obtain ⟨p1, v1, rfl, g1, r1⟩ := a1.rs R e
      exact call_tuple_of pins s σ H _ us Q I r ⟨_, v1, rfl, .inl ⟨g1, fun l hl => q.newt R r1 hl⟩⟩
    · exact q.elim
  · exact q.elim
theorem cP_list : CallR X (.type "list") (rPs X .list) := by
  intro pins s σ H xs us Q I r h
  obtain ⟨H₀, F, env, σ', ss, R, a, q⟩ := h
  replace q : PK X.K (mX X) H₀ F env σ' Q (pList ss) := q
  unfold pList at q
  split at q
  · obtain ⟨x, rfl, a1⟩ := a.one
    obtain ⟨p1, v1, rfl, g1, r1⟩ := Is.inv_tup a1
    exact call_list_of pins s σ H _ us Q I r ⟨_, v1, rfl, .inr (Same.seqT R.hf g1), fun l hl => q.newl R r1 hl⟩
  · obtain ⟨x, rfl, a1⟩ := a.one
    split at q
    · next e =>
      obtain ⟨p1, v1, rfl, g1, r1⟩ := a1.rs R e
      exact call_list_of pins s σ H _ us Q I r ⟨_, v1, rfl, .inl g1, fun l hl => q.newl R r1 hl⟩
    · exact q.elim
  · exact q.elim

/-! isinstance -/
def Ty.nm : Ty → String
  | .int => "int" | .bool => "bool" | .tuple => "tuple" | .list => "list" | .str => "str"
theorem tyLst {K : PySem.W.Frag} {H : Hp} {a : Addr} {vs : List V} (h : Rd H a (.lst vs)) : TyX K H (.ref a) (.type "list") := by
  rcases h with h | ⟨o, h⟩
  · exact .base (.lst h)
  · exact .base (.frz h)
theorem tyTup {K : PySem.W.Frag} {H : Hp} {a : Addr} {vs : List V} (h : SqT K H a vs) : TyX K H (.ref a) (.type "tuple") := by
  rcases h with (h | ⟨o, h⟩) | ⟨o, its, n, h, c, _⟩
  · exact .base (.tup h)
  · exact .fTuple h
  · exact .kTuple h c
def Sl.ty : Sl → Option String
  | .val .non => some "NoneType"
  | .val (.bl _) => some "bool"
  | .val (.int _) => some "int"
  | .val (.str _) => some "str"
  | .val (.tup _) => some "tuple"
  | .val (.lst _) => some "list"
  | .own _ => some "list"
  | .bor _ => some "list"
  | _ => none
theorem tyX {H₀ F H : Hp} {env : En} {σ : L2.St} {x : V} {s : Sl} {t : String} (R : Rep X.K (mX X) H₀ F env σ H) (a : ArgIs X.K (mX X) F H x s) (e : s.ty = some t) : TyX X.K H x (.type t) := by
  cases s with
  | own _ => exact a.elim
  | bor ds =>
    cases e
    obtain ⟨p, vs, rfl, h, _⟩ := a
    exact tyLst h
  | val d =>
    cases d <;> simp only [Sl.ty, Option.some.injEq, reduceCtorEq] at e <;> subst e
    · cases (show Is _ _ _ x .non from a); exact .base .non
    · cases Is.inv_bl a; exact .base (.bl _)
    · cases Is.inv_int a; exact .base (.int _)
    · cases Is.inv_str a; exact .base (.str _)
    · obtain ⟨p, vs, rfl, h, _⟩ := Is.inv_tup a; exact tyTup (Same.seqT R.hf h)
    · obtain ⟨p, vs, rfl, h, _⟩ := Is.inv_lst a; exact tyLst (Same.rd R.hf h)
theorem kit_isi {K : PySem.W.Frag} (t : Ty) (s : Sl) (b : Bool) (h : isiD t s = some b) : ∃ n, s.ty = some n ∧ PySem.W.kitOne K (.type n) (.type t.nm) = some b := by
  have fin : ∀ n, s.ty = some n → kitB n t.nm = some b → ∃ n, s.ty = some n ∧ PySem.W.kitOne K (.type n) (.type t.nm) = some b := fun n e k => ⟨n, e, kit_ty k⟩
  cases s with
  | own _ => cases t <;> simp only [isiD, Option.some.injEq] at h <;> subst h <;> exact fin _ rfl (by decide +kernel)
  | bor _ => cases t <;> simp only [isiD, Option.some.injEq] at h <;> subst h <;> exact fin _ rfl (by decide +kernel)
  | val d => cases d <;> cases t <;> simp only [isiD, Option.some.injEq, reduceCtorEq] at h <;> subst h <;> exact fin _ rfl (by decide +kernel)
def rIs (X : Cx) (t : Ty) : List V → Hp → VK → Prop := fun xs H Q => ∃ H₀ F env σ x s b, xs = [x, .ty t.nm] ∧ Rep X.K (mX X) H₀ F env σ H ∧ ArgIs X.K (mX X) F H x s ∧ isiD t s = some b ∧ PK X.K (mX X) H₀ F env σ Q (.d (.bl b))
theorem cP_isi (t : Ty) : CallR X (.builtin "isinstance") (rIs X t) := by
  intro pins s σ H xs us Q I r h
  obtain ⟨H₀, F, env, σ', x, sl, b, rfl, R, a, e, q⟩ := h
  obtain ⟨n, e1, e2⟩ := kit_isi (K := X.K) t sl b e
  exact call_isi pins s σ H _ us Q I r ⟨x, _, _, _, b, rfl, .ty _, tyX R a e1, e2, q.now R (.bl b)⟩
end
end Ev
set_option Elab.async false
set_option linter.all false
set_option maxRecDepth 100000
set_option maxHeartbeats 1000000
namespace Ev
open PySem PySem.Spec PyProof.Rows L2

/-! ### context -/
def DivOkB (X : Cx) : Prop := ∀ (hv : Option Value) (s : Shared), X.A.frames = some X.stack → (∀ b o, X.base.get? b = some o → s.heap.get? b = some o) → PySem.PylongRoom (model X.prog X.w) { X.A with handled := hv } s
theorem DivOkB.div {X : Cx} (d : DivOkB X) : DivOk X := fun _ _ _ s I => d X.A.handled s I.ok.frames I.bk
def bltFree : List Str := ["len", "abs", "int", "bool", "tuple", "list", "str", "min", "max", "sum", "any", "all", "range", "enumerate", "zip", "isinstance", "sorted", "reversed"]
structure Xt (X : Cx) (n : Nat) (W : WX) : Prop where
  nd : X.N.Nodup
  tk : Takes X W
  pass : PassesOwn (model X.prog X.w) X.A X.env X.xe
  room : X.calm = true → Room n X.A
  roomH : L2H.RoomH n X.A
  pins : X.calm = false → ∃ p, p ∈ X.pn
  dv : DivOkB X
  free : ∀ x ∈ bltFree, X.mg x = none
  seer : X.base.NoSeer
  lim : X.base.NoLimit
  big : 32 ≤ n
  tree : X.prog.given.tree = none
  /-- the maker's code object -/
  code : X.env.qual = lamQ → X.env.code = .ref (He.cT X.K lamD).1
section
variable (K : PySem.W.Frag) (mg : Mg)
/-- an exception's class and fields -/
def XIs (F H : Hp) (x : Exn) (cls : Value) (dd : Option Addr) : Prop := ∃ C vs, mg.f x.cls = some (.ref C) ∧ cls = .ref C ∧ FldsAt F dd (x.ns.zip vs) ∧ x.ns.length = vs.length ∧ IsAll K mg F vs x.vs ∧ D.coolAll x.vs = true
def spOf (den : List Sl → Rf) : Sp := fun vs H Q E => ∃ F ss, Same F H ∧ TB K H ∧ NT K F ∧ ArgsIs K mg F H vs ss ∧ match den ss with
  | .ok (.val d) => ∀ F' H' v, Grow H F F' → Sm K H H' → Same F' H' → Is K mg F' v d → Q v H'
  | .ok (.own ds) => ∀ F' H' p vs, Grow H F F' → Sm K H H' → Same F' H' → H p = none → F' p = none → H' p = some (.lst vs) → IsAll K mg F' vs ds → Q (.ref p) H'
  | .ok (.bor _) => False
  | .exc x => ∀ F' H' cls dd, Grow H F F' → Sm K H H' → Same F' H' → XIs K mg F' H' x cls dd → E cls dd H'
  | .bad => False
end
structure Gd where
  P : Program
  w : World
  K : PySem.W.Frag
  mg : Str → Option Value
  base : Heap
  n : Nat
  /-- an error is handled -/
  hot : Bool
  /-- the frame's name -/
  me : Str
abbrev gd (X : Cx) (n : Nat) : Gd := ⟨X.prog, X.w, X.K, X.mg, X.base, n, !X.calm, X.env.qual⟩
/-- what a def promises while an error is handled; pn: what is pinned -/
structure FnE (P : Program) (w : World) (K : PySem.W.Frag) (mg : Str → Option Value) (base : Heap) (CX : CXT) (k : Nat) (f : Addr) (fd : FuncData) (ps : List Str) (sp : List (Addr × Obj) → Sp) : Prop where
  ln : ∀ pn vs H Q E, sp pn vs H Q E → vs.length = ps.length
  go : ∀ pn A outer s H args us vs Q E, (∃ p, p ∈ pn) → (∀ p ∈ pn, L2H.PinOk outer H s p) → L2H.RoomH k A → Env0 P w K mg base A outer s H → sp pn vs H Q E → Vals vs us → BindsTo s fd args (ps.zip us) → codeAny (model P w) A (.call (.ref f) args) (CR CX outer P w H s Q E) s
theorem FnE.mono {P : Program} {w : World} {K : PySem.W.Frag} {mg : Str → Option Value} {base : Heap} {CX : CXT} {j k : Nat} {f : Addr} {fd : FuncData} {ps : List Str} {sp : List (Addr × Obj) → Sp} (F : FnE P w K mg base CX j f fd ps sp) (h : j ≤ k) : FnE P w K mg base CX k f fd ps sp :=
  ⟨F.ln, fun pn A outer s H args us vs Q E z a r => F.go pn A outer s H args us vs Q E z a (r.mono h)⟩
/-- a def of the module means den; dfl: the defaults at the end -/
def FnG (G : Gd) (f : Str) (den : List Sl → Rf) (dfl : List D) : Prop := ∃ fa fd ps ds dvs, G.mg f = some (.ref fa) ∧ PySem.W.keepIn G.K (.ref fa) = true ∧
  (G.hot = false → FnOk G.P G.w G.K G.mg G.base (L2.CX G.P G.w) G.n fa fd ps (spOf G.K (m0 G.mg) den)) ∧
  (G.hot = true → FnE G.P G.w G.K G.mg G.base (L2.CX G.P G.w) G.n fa fd ps fun pn => spOf G.K (mP G.K G.mg pn) den) ∧ Binds G.K fd ps ds ∧ Vals dvs ds ∧ ∀ er F, IsAll G.K ⟨G.mg, er⟩ F dvs dfl
/-- isinstance's answers, class by class -/
def IsCG (G : Gd) (c : Str) (tbl : List (Str × Bool)) : Prop := ∃ u : Value, (G.mg c = some u ∧ (∃ A, u = .ref A) ∨ G.mg c = none ∧ bootBuiltins c = some u ∧ c ≠ "__name__" ∧ ∃ t, u = .type t) ∧
  ∀ q ∈ tbl, ∃ D, G.mg q.1 = some (.ref D) ∧ ExcC G.K D ∧ PySem.W.kitOne G.K (.ref D) u = some q.2
def goodP (G : Gd) : Prim → Prop
  | .min2 => G.hot = false
  | .max2 => G.hot = false
  | .minl => G.hot = false
  | .maxl => G.hot = false
  | .suml => G.hot = false
  | .anyl => G.hot = false
  | .alll => G.hot = false
  | .gcd => G.mg "gcd" = some (.builtin "math.gcd")
  | .lcm => G.mg "lcm" = some (.builtin "math.lcm")
  | _ => True
mutual
def Ex.good (G : Gd) : Ex → Prop
  | .var _ _ => True
  | .rd _ _ => True
  | .con _ => True
  | .glob x d => ∃ u v, G.mg x = some u ∧ RelV v u ∧ ∀ er F, Is G.K ⟨G.mg, er⟩ F v d
  | .prim p as => goodP G p ∧ as.good G
  | .isi _ as => as.good G
  | .isC c tbl as => IsCG G c tbl ∧ as.good G
  | .call f den dfl as => FnG G f den dfl ∧ as.good G
  | .and a b => a.good G ∧ b.good G
  | .or a b => a.good G ∧ b.good G
  | .not a => a.good G
  | .ite c a b => c.good G ∧ a.good G ∧ b.good G
  | .chain _ _ a b c => a.good G ∧ b.good G ∧ c.good G
  | .slc a lo hi => a.good G ∧ lo.good G ∧ hi.good G
  | .srt _ _ _ _ => G.me = lamQ ∧ IsTab G.K (He.cT G.K lamD).2 (lamQ ++ "<lambda>") ∧ LamX.TabB G.base G.mg (He.cT G.K lamD).1 (He.cT G.K lamD).2
  | .comp _ _ it e => G.hot = false ∧ it.good G ∧ e.good G
  | .compif _ _ it c e => G.hot = false ∧ it.good G ∧ c.good G ∧ e.good G
def Oe.good (G : Gd) : Oe → Prop
  | .none => True
  | .some a => a.good G
def Exs.good (G : Gd) : Exs → Prop
  | .nil => True
  | .cons a as => a.good G ∧ as.good G
def Itr.good (G : Gd) : Itr → Prop
  | .seq a => a.good G
  | .rng as => as.good G
  | .enum as => as.good G
  | .zip as => as.good G
end

/-! ### the syntax that a term stands for -/
def visB (N : List Str) (sc : Scope) (i : Nat) (x : Str) : Bool := decide (N[i]? = some x) && (decide (sc.names.lookup x = some .local) || decide (sc.names.lookup x = some .cell) || decide (sc.names.lookup x = some .free)) && !(x == ("__debug__" : Str)) && !(x == ("__classdict__" : Str))
def locB (N : List Str) (sc : Scope) (i : Nat) (x : Str) : Bool := decide (N[i]? = some x) && (decide (sc.names.lookup x = some .local) || decide (sc.names.lookup x = some .cell))
def glB (sc : Scope) (x : Str) : Bool := decide (sc.names.lookup x = some .globalImplicit) && !(x == ("__debug__" : Str))
def notStar : Expr → Bool
  | .Starred _ _ => false
  | _ => true
def plainIx : Expr → Bool
  | .Slice _ _ _ _ => false
  | .Tuple _ _ _ => false
  | _ => true
def plainT : Expr → Bool
  | .BoolOp _ _ _ => false
  | .UnaryOp .Not _ _ => false
  | .Compare _ _ _ _ => false
  | .NamedExpr _ _ _ => false
  | .IfExp _ _ _ _ => false
  | _ => true
def binP : Operator → Option Prim
  | .Add => some .add | .Sub => some .sub | .Mult => some .mul | .FloorDiv => some .fdiv | .Mod => some .mod | .Pow => some .pow
  | _ => none
def cmpP : CmpOp → Option Prim
  | .Eq => some .eq | .NotEq => some .ne | .Lt => some .lt | .LtE => some .le | .Gt => some .gt | .GtE => some .ge | .Is => some .isN | .IsNot => some .notN | .In => some .inn | .NotIn => some .notin
def bltP (n : Nat) (x : Str) : Option Prim :=
  if x = "len" then some .len else if x = "abs" then some .abs else if x = "int" then some .int else if x = "gcd" then some .gcd
  else if x = "min" then (if n = 2 then some .min2 else some .minl) else if x = "max" then (if n = 2 then some .max2 else some .maxl)
  else if x = "sum" then some .suml else if x = "any" then some .anyl else if x = "all" then some .alll else if x = "tuple" then some .tuple else if x = "list" then some .list else if x = "lcm" then some .lcm else none
def tyOf (t : Ty) (x : Str) : Bool := decide (x = (t.nm : Str))
mutual
def okT (N : List Str) (sc : Scope) : Tgt → Expr → Bool
  | .nm i x, .Name y _ => decide (x = y) && locB N sc i x
  | .tup ts, .Tuple es _ _ => okTs N sc ts es
  | _, _ => false
def okTs (N : List Str) (sc : Scope) : Tgts → List Expr → Bool
  | .nil, [] => true
  | .cons t ts, e :: es => okT N sc t e && okTs N sc ts es
  | _, _ => false
end
/-- the scope of a comprehension's block -/
def reSc (sc scope : Scope) : Scope := { scope with names := scope.names.map fun (n, k) => if (k == NameKind.free && sc.kind == .function && sc.names.lookup n == some .cell) then (n, NameKind.cell) else (n, k) }
/-- may stand as a test -/
def tst : Ex → Bool
  | .ite _ _ _ => false
  | .and a b => tst a && tst b
  | .or a b => tst a && tst b
  | .not a => tst a
  | _ => true
mutual
def inT (vs : List Nat) : Tgt → Bool
  | .nm i _ => decide (i ∈ vs)
  | .tup ts => inTs vs ts
def inTs (vs : List Nat) : Tgts → Bool
  | .nil => true
  | .cons t ts => inT vs t && inTs vs ts
end
/-- the lambda n: n[0] * (y // n[1]) -/
def lamB (sc scope : Scope) (n y : Str) : Bool := decide (scope.kind = .function) && !scope.isCoroutine && !scope.isGenerator && decide (n = "number") && decide (scope.names.lookup n = some .local) && decide (scope.names.lookup y = some .free) && !(n == ("__debug__" : Str)) && !(y == ("__debug__" : Str)) && !(y == ("__classdict__" : Str)) &&
  scope.names.all fun z => !decide (z.2 = .cell) && (!decide (z.2 = .free) || decide (sc.names.lookup z.1 = some .cell))
mutual
def okE (N : List Str) (sc : Scope) : Ex → Expr → Bool
  | .var i x, .Name y _ => decide (x = y) && visB N sc i x
  | .rd i x, .Name y _ => decide (x = y) && visB N sc i x
  | .con c, .Constant c' _ _ => decide (c = c') && (conD c).isSome
  | .glob x _, .Name y _ => decide (x = y) && glB sc x
  | .prim p as, e => match e with
    | .BinOp a op b _ => decide (binP op = some p) && okA N sc as [a, b]
    | .UnaryOp .USub a _ => decide (p = .neg) && okA N sc as [a]
    | .Compare a [op] [b] _ => decide (cmpP op = some p) && !behindInMarks op b && okA N sc as [a, b]
    | .Subscript a b _ => decide (p = .idx) && plainIx b && okA N sc as [a, b]
    | .Tuple es _ _ => decide (p = .tup) && okA N sc as es
    | .List es _ => decide (p = .lst) && okA N sc as es
    | .Call (.Name f _) (a :: es) [] _ => decide (bltP (es.length + 1) f = some p) && glB sc f && okA N sc as (a :: es)
    | _ => false
  | .isi t as, .Call (.Name f _) [a, .Name g _] [] _ => decide (f = "isinstance") && glB sc f && tyOf t g && glB sc g && okA N sc as [a]
  | .isC c _ as, .Call (.Name f _) [a, .Name g _] [] _ => decide (f = "isinstance") && glB sc f && decide (c = g) && glB sc g && okA N sc as [a]
  | .call f _ _ as, .Call (.Name g _) es [] _ => decide (f = g) && glB sc f && okA N sc as es
  | .and a b, e => match e with
    | .BoolOp .And [x, y] _ => okE N sc a x && okE N sc b y
    | .BoolOp .And (x :: y :: z :: r) p => okE N sc a x && okE N sc b (.BoolOp .And (y :: z :: r) p)
    | _ => false
  | .or a b, e => match e with
    | .BoolOp .Or [x, y] _ => okE N sc a x && okE N sc b y
    | .BoolOp .Or (x :: y :: z :: r) p => okE N sc a x && okE N sc b (.BoolOp .Or (y :: z :: r) p)
    | _ => false
  | .not a, .UnaryOp .Not x _ => okE N sc a x
  | .ite c a b, .IfExp x y z _ => tst c && okE N sc c x && okE N sc a y && okE N sc b z
  | .chain p q a b c, .Compare x [op, op'] [y, z] _ => decide (cmpP op = some p) && decide (cmpP op' = some q) && !lastMarks [op, op'] [y, z] && okE N sc a x && okE N sc b y && okE N sc c z
  | .slc a lo hi, .Subscript x (.Slice l h none _) _ => okE N sc a x && okO N sc lo l && okO N sc hi h
  | .srt i x j y, .Call (.Name f _) [.Name x' _] [⟨some k, .Lambda ⟨[], [⟨n, none, _⟩], none, [], [], none, []⟩ (.BinOp (.Subscript (.Name n1 _) (.Constant (.int 0) _ _) _) .Mult (.BinOp (.Name y1 _) .FloorDiv (.Subscript (.Name n2 _) (.Constant (.int 1) _ _) _) _) _) scope _, _⟩] _ =>
      decide (f = "sorted") && glB sc f && decide (k = "key") && decide (x = x') && visB N sc i x && decide (n1 = n) && decide (n2 = n) && decide (y1 = y) && decide (N[j]? = some y) && decide (sc.names.lookup y = some .cell) && lamB sc scope n y
  | .comp own tg it e, .ListComp x [⟨t, i, [], 0⟩] scope _ => blkC N sc scope own && inT (own.map (·.2)) tg && okT N scope tg t && okI N sc it t i && okE N (reSc sc scope) e x
  | .compif own tg it c e, .ListComp x [⟨t, i, [y], 0⟩] scope _ => blkC N sc scope own && inT (own.map (·.2)) tg && okT N scope tg t && okI N sc it t i && tst c && okE N (reSc sc scope) c y && okE N (reSc sc scope) e x
  | _, _ => false
def okO (N : List Str) (sc : Scope) : Oe → Option Expr → Bool
  | .none, none => true
  | .some a, some x => okE N sc a x
  | _, _ => false
def okA (N : List Str) (sc : Scope) : Exs → List Expr → Bool
  | .nil, [] => true
  | .cons a as, e :: es => notStar e && okE N sc a e && okA N sc as es
  | _, _ => false
def okI (N : List Str) (sc : Scope) : Itr → Expr → Expr → Bool
  | .seq a, _, e => okE N sc a e
  | .rng as, _, .Call (.Name f _) es [] _ => decide (f = "range") && glB sc f && (decide (es.length = 1) || decide (es.length = 2)) && okA N sc as es
  | .enum as, .Tuple _ _ _, .Call (.Name f _) es [] _ => decide (f = "enumerate") && glB sc f && decide (es.length = 1) && okA N sc as es
  | .zip as, .Tuple _ _ _, .Call (.Name f _) es [] _ => decide (f = "zip") && glB sc f && decide (es.length = 2) && okA N sc as es
  | _, _, _ => false
end
end Ev
set_option Elab.async false
set_option linter.all false
set_option maxRecDepth 100000
set_option maxHeartbeats 1000000
namespace Ev
open PySem PySem.Spec PyProof.Rows L2

/-! ### what is wanted behind a term -/
def RP (X : Cx) (W : WX) (H₀ F : Hp) (σ : L2.St) {α : Type} (r : R α) (ok : α → Prop) : Prop := match r with
  | .ok a => ok a
  | .exc x e => ∀ F' H' cls dd, Grow H₀ F F' → Rep X.K (mX X) H₀ F' e σ H' → XIs X.K (mX X) F' H' x cls dd → W cls dd σ H'
  | .bad => False
section
variable {X : Cx} {W : WX} {H₀ F F' H : Hp} {σ : L2.St} {env : En} {α β : Type}
theorem RP.bind {r : R α} {f : α → R β} {ok : β → Prop} (h : RP X W H₀ F σ (R.bind r f) ok) : RP X W H₀ F σ r fun a => RP X W H₀ F σ (f a) ok := by
  cases r with
  | ok a => exact h
  | exc x e => exact h
  | bad => exact h
theorem RP.mono {r : R α} {ok ok' : α → Prop} (h : RP X W H₀ F σ r ok) (hi : ∀ a, ok a → ok' a) : RP X W H₀ F σ r ok' := by
  cases r with
  | ok a => exact hi _ h
  | exc x e => exact h
  | bad => exact h
theorem RP.grow {r : R α} {ok : α → Prop} (h : RP X W H₀ F σ r ok) (g : Grow H₀ F F') : RP X W H₀ F' σ r ok := by
  cases r with
  | ok a => exact h
  | exc x e => exact fun F2 H' cls dd g2 => h F2 H' cls dd (g.trans g2)
  | bad => exact h
theorem RP.of_ok {r : R α} {a : α} {ok : α → Prop} (e : r = .ok a) (h : RP X W H₀ F σ r ok) : ok a := by subst e; exact h
end
def PdIs (K : PySem.W.Frag) (mg : Mg) (F : Hp) (σ : L2.St) (v : V) : Pd → Prop
  | .d x => Is K mg F v x
  | .slot i => σ[i]? = some (some v)
inductive PdsIs (K : PySem.W.Frag) (mg : Mg) (F : Hp) (σ : L2.St) : List V → List Pd → Prop
  | nil : PdsIs K mg F σ [] []
  | cons {x : V} {xs : List V} {s : Pd} {ss : List Pd} : PdIs K mg F σ x s → PdsIs K mg F σ xs ss → PdsIs K mg F σ (x :: xs) (s :: ss)
section
variable {K : PySem.W.Frag} {mg : Mg} {H₀ F F' H : Hp} {σ : L2.St} {env : En}
theorem PdIs.mono {v : V} {p : Pd} (s : Same F F') (h : PdIs K mg F σ v p) : PdIs K mg F' σ v p := by
  cases p with
  | d x => exact Is.mono s h
  | slot i => exact h
theorem PdIs.arg {v : V} {p : Pd} {s : Sl} (R : Rep K mg H₀ F env σ H) (h : PdIs K mg F σ v p) (e : p.sl env = some s) : ArgIs K mg F H v s := by
  cases p with
  | d x => cases e; exact h
  | slot i =>
    unfold Pd.sl at e
    dsimp only at e
    split at e
    · next y q =>
      cases e
      obtain ⟨w, h1, h2⟩ := R.sl i _ q
      have : w = v := by have := h.symm.trans h1; simp at this; exact this.symm
      subst this
      exact h2
    · next ds q =>
      cases e
      obtain ⟨w, h1, p, vs, rfl, _, _, h2, h3⟩ := R.sl i _ q
      have : V.ref p = v := by have := h.symm.trans h1; simp at this; exact this.symm
      exact ⟨p, vs, this.symm, Rd.of h2, h3⟩
    · next ds q =>
      cases e
      obtain ⟨w, h1, p, vs, rfl, h2, h3⟩ := R.sl i _ q
      have : V.ref p = v := by have := h.symm.trans h1; simp at this; exact this.symm
      exact ⟨p, vs, this.symm, Sm.rd R.h0 h2, h3⟩
    · cases e
theorem PdsIs.args (R : Rep K mg H₀ F env σ H) : ∀ {vs : List V} {ps : List Pd} {ss : List Sl}, PdsIs K mg F σ vs ps → pds env ps = some ss → ArgsIs K mg F H vs ss
  | _, _, _, .nil, e => by simp only [pds, Option.some.injEq] at e; subst e; exact .nil
  | _, _, _, .cons a r, e => by
    simp only [pds] at e
    split at e
    · next q1 q2 => cases e; exact .cons (a.arg R q1) (PdsIs.args R r q2)
    · cases e
theorem Rep.freezeNew {p : Addr} {vs : List V} {ds : List D} (R : Rep K mg H₀ F env σ H) (zp : H₀ p = none) (fp : F p = none) (hp : H p = some (.lst vs)) (all : IsAll K mg F vs ds)
    (new : ∀ j es, lk env j = some (.own es) → σ[j]? = some (some (.ref p)) → False) : Grow H₀ F (upd F p (.lst vs)) ∧ Rep K mg H₀ (upd F p (.lst vs)) env σ H ∧ Is K mg (upd F p (.lst vs)) (.ref p) (.lst ds) := by
  have sF : Same F (upd F p (.lst vs)) := fun b x e => by rw [upd_ne (ne_of_none e fp)]; exact e
  refine ⟨⟨sF, fun b h n => by rw [upd_ne (fun z => by subst z; exact h zp)]; exact n⟩, ⟨R.h0, fun b x e => ?_, R.len, fun j s e' => ?_, R.nt.upd R.h0.2.2 (.inr ⟨_, hp⟩), R.dis⟩, .lst (Rd.of upd_same) (IsAll.mono sF all)⟩
  · by_cases q : b = p
    · subst q; rw [upd_same] at e; cases e; exact hp
    · rw [upd_ne q] at e; exact R.hf _ _ e
  · obtain ⟨w, g1, g2⟩ := R.sl j s e'
    refine ⟨w, g1, ?_⟩
    cases s with
    | val d => exact Is.mono sF g2
    | own es =>
      obtain ⟨q, ws, rfl, a, b, c, d⟩ := g2
      have qp : q ≠ p := fun y => by subst y; exact new j _ e' g1
      exact ⟨q, ws, rfl, a, by rw [upd_ne qp]; exact b, c, IsAll.mono sF d⟩
    | bor es =>
      obtain ⟨q, ws, rfl, a, d⟩ := g2
      exact ⟨q, ws, rfl, a, IsAll.mono sF d⟩
end
/-- behind an expression: its value -/
def VPost (X : Cx) (H₀ F : Hp) (σ : L2.St) (Q : VK) (p : D × En) : Prop := ∀ F' H' v, Grow H₀ F F' → Rep X.K (mX X) H₀ F' p.2 σ H' → Is X.K (mX X) F' v p.1 → Q v H'
/-- behind an expression that is stored: its value, a new list one's own -/
def SPost (X : Cx) (H₀ F : Hp) (σ : L2.St) (Q : VK) (p : Sl × En) : Prop := match p.1 with
  | .val d => ∀ F' H' v, Grow H₀ F F' → Rep X.K (mX X) H₀ F' p.2 σ H' → Is X.K (mX X) F' v d → Q v H'
  | .own ds => ∀ F' H' a vs, Grow H₀ F F' → Rep X.K (mX X) H₀ F' p.2 σ H' → H₀ a = none → F' a = none → H' a = some (.lst vs) → IsAll X.K (mX X) F' vs ds →
      (∀ j es, lk p.2 j = some (.own es) → σ[j]? = some (some (.ref a)) → False) → Q (.ref a) H'
  | .bor _ => False
abbrev Po (β : Type) := Hp → Hp → L2.St → VK → β → Prop
def tG (X : Cx) (W : WX) {β : Type} (post : Po β) (f : En → R β) : TE := fun σ H Q => ∃ H₀ F env, Rep X.K (mX X) H₀ F env σ H ∧ RP X W H₀ F σ (f env) (post H₀ F σ Q)
abbrev tE (X : Cx) (W : WX) (f : En → R (D × En)) : TE := tG X W (VPost X) f
abbrev tS (X : Cx) (W : WX) (f : En → R (Sl × En)) : TE := tG X W (SPost X) f
/-- a way to end an operation -/
structure KOk (X : Cx) (W : WX) {β : Type} (k : En → Pr → R β) (post : Po β) : Prop where
  pk : ∀ {H₀ F : Hp} {env : En} {σ : L2.St} {Q : VK} {r : Pr}, RP X W H₀ F σ (k env r) (post H₀ F σ Q) → PK X.K (mX X) H₀ F env σ Q r
  gr : ∀ {H₀ F F' : Hp} {σ : L2.St} {Q : VK} {b : β}, post H₀ F σ Q b → Grow H₀ F F' → post H₀ F' σ Q b
def primF {β : Type} (k : En → Pr → R β) (p : Prim) (as : Exs) (e : En) : R β := R.bind (evA as e) fun q => match pds q.2 q.1 with
  | some l => k q.2 (evPrim p l)
  | none => .bad
theorem evE_prim (p : Prim) (as : Exs) : evE (.prim p as) = primF okD p as := rfl
theorem evO_prim (p : Prim) (as : Exs) : evO (.prim p as) = primF okS p as := rfl
def OPost (X : Cx) (H₀ F : Hp) (σ : L2.St) (Q : VK) (p : Pd × En) : Prop := ∀ F' H' v, Grow H₀ F F' → Rep X.K (mX X) H₀ F' p.2 σ H' → PdIs X.K (mX X) F' σ v p.1 → Q v H'
def tO (X : Cx) (W : WX) (f : En → R (Pd × En)) : TE := fun σ H Q => ∃ H₀ F env, Rep X.K (mX X) H₀ F env σ H ∧ RP X W H₀ F σ (f env) (OPost X H₀ F σ Q)
def APost (X : Cx) (H₀ F : Hp) (σ : L2.St) (Q : List V → Hp → Prop) (p : List Pd × En) : Prop := ∀ F' H' vs, Grow H₀ F F' → Rep X.K (mX X) H₀ F' p.2 σ H' → PdsIs X.K (mX X) F' σ vs p.1 → Q vs H'
def tA (X : Cx) (W : WX) (f : En → R (List Pd × En)) : TA := fun σ H Q => ∃ H₀ F env, Rep X.K (mX X) H₀ F env σ H ∧ RP X W H₀ F σ (f env) (APost X H₀ F σ Q)
def evOp (a : Ex) (e : En) : R (Pd × En) := match rdIx a with
  | some i => slotR i e
  | none => R.bind (evE a e) fun p => .ok (.d p.1, p.2)
theorem evA_nil (e : En) : evA .nil e = .ok ([], e) := rfl
theorem evA_cons (a : Ex) (as : Exs) (e : En) : evA (.cons a as) e = R.bind (evOp a e) fun p => R.bind (evA as p.2) fun q => .ok (p.1 :: q.1, q.2) := by
  show (match rdIx a with | some i => _ | none => _) = _
  unfold evOp
  cases rdIx a with
  | some i => rfl
  | none =>
    dsimp only
    cases evE a e with
    | ok p => rfl
    | exc x e => rfl
    | bad => rfl
section
variable {X : Cx} {W : WX} {H₀ F H : Hp} {σ : L2.St} {env : En}
theorem PE.imp {e : Expr} {t t' : TE} (h : PE X e t) (hi : ∀ σ H Q, t' σ H Q → t σ H Q) : PE X e t' := ⟨fun pins s σ H Q I q => h.run pins s σ H Q I (hi _ _ _ q)⟩
theorem PT.imp {e : Expr} {t t' : TT} (h : PT X e t) (hi : ∀ σ H Q, t' σ H Q → t σ H Q) : PT X e t' := ⟨fun pins s σ H Q I q => h.run pins s σ H Q I (hi _ _ _ q)⟩
theorem PA.imp {e : List Expr} {t t' : TA} (h : PA X e t) (hi : ∀ σ H Q, t' σ H Q → t σ H Q) : PA X e t' := ⟨fun pos pins s σ H Q I q => h.run pos pins s σ H Q I (hi _ _ _ q)⟩
/-- an operation's result, lists frozen -/
theorem okD_PK {Q : VK} {r : Pr} (h : RP X W H₀ F σ (okD env r) (VPost X H₀ F σ Q)) : PK X.K (mX X) H₀ F env σ Q r := by
  cases r with
  | d x => exact h
  | l xs =>
    intro F' H' p vs g R zp fp hp all new
    obtain ⟨g2, R2, is⟩ := R.freezeNew zp fp hp all new
    exact h _ _ _ (g.trans g2) R2 is
  | bad => exact h.elim
theorem PK.grow {Q : VK} {r : Pr} {F' : Hp} (h : PK X.K (mX X) H₀ F env σ Q r) (g : Grow H₀ F F') : PK X.K (mX X) H₀ F' env σ Q r := by
  cases r with
  | d x => exact fun F2 H' v g2 => h F2 H' v (g.trans g2)
  | l xs => exact fun F2 H' p vs g2 => h F2 H' p vs (g.trans g2)
  | bad => exact h
theorem VPost.grow {Q : VK} {p : D × En} {F' : Hp} (h : VPost X H₀ F σ Q p) (g : Grow H₀ F F') : VPost X H₀ F' σ Q p := fun F2 H' v g2 => h F2 H' v (g.trans g2)
theorem OPost.grow {Q : VK} {p : Pd × En} {F' : Hp} (h : OPost X H₀ F σ Q p) (g : Grow H₀ F F') : OPost X H₀ F' σ Q p := fun F2 H' v g2 => h F2 H' v (g.trans g2)
theorem APost.grow {Q : List V → Hp → Prop} {p : List Pd × En} {F' : Hp} (h : APost X H₀ F σ Q p) (g : Grow H₀ F F') : APost X H₀ F' σ Q p := fun F2 H' v g2 => h F2 H' v (g.trans g2)
theorem RP.vgrow {Q : VK} {r : R (D × En)} {F' : Hp} (h : RP X W H₀ F σ r (VPost X H₀ F σ Q)) (g : Grow H₀ F F') : RP X W H₀ F' σ r (VPost X H₀ F' σ Q) := (h.grow g).mono fun _ q => q.grow g
/-- an expression as an operand -/
theorem tO_of {a : Ex} {e : Expr} (hn : rdIx a = none) (h : PE X e (tE X W (evE a))) : PE X e (tO X W (evOp a)) := PE.imp h fun σ H Q ⟨H₀, F, env, R, q⟩ => by
  unfold evOp at q
  rw [hn] at q
  exact ⟨H₀, F, env, R, (RP.bind q).mono fun p hp F' H' v g R' is => hp F' H' v g R' is⟩
theorem RP.kgrow {β : Type} {k : En → Pr → R β} {post : Po β} (kk : KOk X W k post) {Q : VK} {r : R β} {F' : Hp} (h : RP X W H₀ F σ r (post H₀ F σ Q)) (g : Grow H₀ F F') : RP X W H₀ F' σ r (post H₀ F' σ Q) := (h.grow g).mono fun _ q => kk.gr q g
theorem kD : KOk X W okD (VPost X) := ⟨okD_PK, VPost.grow⟩
theorem okS_PK {Q : VK} {r : Pr} (h : RP X W H₀ F σ (okS env r) (SPost X H₀ F σ Q)) : PK X.K (mX X) H₀ F env σ Q r := by
  cases r with
  | d x => exact h
  | l xs => exact h
  | bad => exact h.elim
theorem SPost.grow {Q : VK} {p : Sl × En} {F' : Hp} (h : SPost X H₀ F σ Q p) (g : Grow H₀ F F') : SPost X H₀ F' σ Q p := by
  obtain ⟨s, e⟩ := p
  cases s with
  | val d => exact fun F2 H' v g2 => h F2 H' v (g.trans g2)
  | own ds => exact fun F2 H' a vs g2 => h F2 H' a vs (g.trans g2)
  | bor ds => exact h.elim
theorem kS : KOk X W okS (SPost X) := ⟨okS_PK, SPost.grow⟩
/-- two operands -/
theorem two {β : Type} {k : En → Pr → R β} {post : Po β} (kk : KOk X W k post) {p : Prim} {a b : Ex} : ∀ σ H Q, tG X W post (primF k p (.cons a (.cons b .nil))) σ H Q → tOp (rP X p) (tO X W (evOp a)) (tO X W (evOp b)) σ H Q := by
  intro σ H Q ⟨H₀, F, env, R0, h⟩
  unfold primF at h
  rw [evA_cons] at h
  refine ⟨H₀, F, env, R0, (RP.bind (RP.bind h)).mono fun q1 h1 F1 H1 x g1 R1 is1 => ?_⟩
  rw [evA_cons] at h1
  refine ⟨H₀, F1, q1.2, R1, ((RP.bind (RP.bind h1)).grow g1).mono fun q2 h2 F2 H2 y g2 R2 is2 => ?_⟩
  rw [evA_nil] at h2
  simp only [R.bind_ok] at h2
  replace h2 : RP X W H₀ F σ (match pds q2.2 [q1.1, q2.1] with | some l => k q2.2 (evPrim p l) | none => .bad) (post H₀ F σ Q) := h2
  split at h2
  · next l e =>
    have as := PdsIs.args R2 (.cons (is1.mono g2.1) (.cons is2 .nil)) e
    have hk := kk.pk (RP.kgrow kk h2 (g1.trans g2))
    cases as with
    | cons a1 r =>
      cases r with
      | cons a2 r => cases r; exact ⟨H₀, F2, q2.2, σ, _, _, R2, a1, a2, hk⟩
  · exact h2.elim
/-- one operand, by what stands behind it -/
theorem one {a : Ex} {g : List Pd × En → R (D × En)} {Q : VK} (h : RP X W H₀ F σ (R.bind (evA (.cons a .nil) env) g) (VPost X H₀ F σ Q)) :
    RP X W H₀ F σ (evOp a env) fun q => RP X W H₀ F σ (g ([q.1], q.2)) (VPost X H₀ F σ Q) := by
  rw [evA_cons] at h
  exact (RP.bind (RP.bind h)).mono fun q hq => hq
end
end Ev
set_option Elab.async false
set_option linter.all false
set_option maxRecDepth 100000
set_option maxHeartbeats 1000000
namespace Ev
open PySem PySem.Spec PyProof.Rows L2

def evB (a : Ex) (e : En) : R (Bool × En) := R.bind (evE a e) fun p => truthR p.1 p.2
def TPost (X : Cx) (H₀ F : Hp) (σ : L2.St) (Q : Bool → Hp → Prop) (p : Bool × En) : Prop := ∀ F' H', Grow H₀ F F' → Rep X.K (mX X) H₀ F' p.2 σ H' → Q p.1 H'
def tB' (X : Cx) (W : WX) (f : En → R (Bool × En)) : TT := fun σ H Q => ∃ H₀ F env, Rep X.K (mX X) H₀ F env σ H ∧ RP X W H₀ F σ (f env) (TPost X H₀ F σ Q)
section
variable {X : Cx} {W : WX} {n : Nat}
theorem vis_of {N : List Str} {sc : Scope} {i : Nat} {x : Str} (h : visB N sc i x = true) : N[i]? = some x ∧ Vis sc x ∧ (x == ("__debug__" : Str)) = false ∧ (x == ("__classdict__" : Str)) = false := by
  unfold visB at h
  simp only [Bool.and_eq_true, Bool.or_eq_true, decide_eq_true_eq, Bool.not_eq_true'] at h
  obtain ⟨⟨⟨h1, h2⟩, h3⟩, h4⟩ := h
  refine ⟨h1, ?_, h3, h4⟩
  rcases h2 with (h | h) | h
  · exact .inl h
  · exact .inr (.inl h)
  · exact .inr (.inr h)
theorem gl_of {sc : Scope} {x : Str} (h : glB sc x = true) (hs : sc = X.env.scope) : Gl X x ∧ (x == ("__debug__" : Str)) = false := by
  unfold glB at h
  simp only [Bool.and_eq_true, decide_eq_true_eq, Bool.not_eq_true'] at h
  subst hs
  exact h
theorem l_var {i : Nat} {x : Str} {pos : Pos} (h : visB X.N X.env.scope i x = true) : PE X (.Name x pos) (tE X W (evE (.var i x))) := by
  obtain ⟨h1, h2, h3, h4⟩ := vis_of h
  refine PE.imp (pe_var h1 h2 h3 h4) fun σ H Q ⟨H₀, F, env, Rp, q⟩ => ?_
  unfold evE at q
  split at q
  · next d e =>
    obtain ⟨v, g1, g2⟩ := Rp.sl i _ e
    exact ⟨v, g1, q F H v Grow.refl Rp g2⟩
  · next ds e =>
    obtain ⟨p, vs, g1, g2, R2, is⟩ := Rp.freeze e
    exact ⟨_, g1, q _ H _ g2 R2 is⟩
  · exact q.elim
theorem l_rd {i : Nat} {x : Str} {pos : Pos} (h : visB X.N X.env.scope i x = true) : PE X (.Name x pos) (tE X W (evE (.rd i x))) := by
  obtain ⟨h1, h2, h3, h4⟩ := vis_of h
  refine PE.imp (pe_var h1 h2 h3 h4) fun σ H Q ⟨H₀, F, env, Rp, q⟩ => ?_
  unfold evE at q
  split at q
  · next d e =>
    obtain ⟨v, g1, g2⟩ := Rp.sl i _ e
    exact ⟨v, g1, q F H v Grow.refl Rp g2⟩
  · exact q.elim
theorem l_rdO {i : Nat} {x : Str} {pos : Pos} (h : visB X.N X.env.scope i x = true) : PE X (.Name x pos) (tO X W (evOp (.rd i x))) := by
  obtain ⟨h1, h2, h3, h4⟩ := vis_of h
  refine PE.imp (pe_var h1 h2 h3 h4) fun σ H Q ⟨H₀, F, env, Rp, q⟩ => ?_
  replace q : RP X W H₀ F σ (slotR i env) (OPost X H₀ F σ Q) := q
  unfold slotR at q
  split at q
  · next s e =>
    obtain ⟨v, g1, g2⟩ := Rp.sl i _ e
    exact ⟨v, g1, q F H v Grow.refl Rp g1⟩
  · exact q.elim
theorem l_con {c : Const} {k : Nat} {pos : Pos} (h : (conD c).isSome = true) : PE X (.Constant c k pos) (tE X W (evE (.con c))) := by
  cases c <;> simp only [conD, Option.isSome_some, Option.isSome_none, reduceCtorEq] at h
  · exact PE.imp pe_non fun σ H Q ⟨H₀, F, env, Rp, q⟩ => q F H _ Grow.refl Rp .non
  · exact PE.imp pe_bl fun σ H Q ⟨H₀, F, env, Rp, q⟩ => q F H _ Grow.refl Rp (.bl _)
  · exact PE.imp pe_int fun σ H Q ⟨H₀, F, env, Rp, q⟩ => q F H _ Grow.refl Rp (.int _)
  · exact PE.imp pe_str fun σ H Q ⟨H₀, F, env, Rp, q⟩ => q F H _ Grow.refl Rp (.str _)
theorem l_glob {x : Str} {d : D} {pos : Pos} (h : glB X.env.scope x = true) (g : (Ex.glob x d).good (gd X n)) : PE X (.Name x pos) (tE X W (evE (.glob x d))) := by
  obtain ⟨h1, h2⟩ := gl_of h rfl
  obtain ⟨u, v, hm, r, is⟩ := g
  exact PE.imp (pe_glob h1 hm r h2) fun σ H Q ⟨H₀, F, env, Rp, q⟩ => q F H _ Grow.refl Rp (is _ F)

/-! ### operations -/
theorem pe_bin {β : Type} {k : En → Pr → R β} {post : Po β} (kk : KOk X W k post) (t : Xt X n W) {a b : Ex} {x y : Expr} {op : Operator} {p : Prim} {pos : Pos} (hp : binP op = some p) (ha : PE X x (tO X W (evOp a))) (hb : PE X y (tO X W (evOp b))) :
    PE X (.BinOp x op y pos) (tG X W post (primF k p (.cons a (.cons b .nil)))) := by
  have fin : OpR X (binaryOp op) (rP X p) → PE X (.BinOp x op y pos) (tG X W post (primF k p (.cons a (.cons b .nil)))) := fun ho => PE.imp (pe_op ho ha hb) (two kk)
  cases op <;> simp only [binP, Option.some.injEq, reduceCtorEq] at hp <;> subst hp
  · exact fin opP_add
  · exact fin opP_sub
  · exact fin opP_mul
  · exact fin opP_mod
  · exact fin opP_pow
  · exact fin (opP_fdiv t.dv.div)
theorem cmp_ok (t : Xt X n W) {op : CmpOp} {p : Prim} (hp : cmpP op = some p) : OpR X (compareOp op) (rP X p) := by
  have h64 : X.A.units + 64 < cLine := by have := t.roomH.un; omega
  have h65 : X.A.units + 65 < cLine := by have := t.roomH.un; omega
  cases op <;> simp only [cmpP, Option.some.injEq] at hp <;> subst hp
  · exact opP_eq h64
  · exact opP_ne h64
  · exact opP_cmp op_lt fun _ => rfl
  · exact opP_cmp op_le fun _ => rfl
  · exact opP_cmp op_gt fun _ => rfl
  · exact opP_cmp op_ge fun _ => rfl
  · exact opP_isN
  · exact opP_notN
  · exact opP_in h65
  · exact opP_notin h65
theorem ofB_bl {b : Option Bool} {d : D} (h : ofB b = .d d) : ∃ k, d = .bl k := by
  cases b with
  | none => cases h
  | some k => cases h; exact ⟨k, rfl⟩
theorem notB_bl {b : Option Bool} {d : D} (h : notB b = .d d) : ∃ k, d = .bl k := by
  cases b with
  | none => cases h
  | some k => cases h; exact ⟨_, rfl⟩
theorem pCmp_bl {f : Int → Int → Bool} {l : List Sl} {r : Pr} (h : pCmp f l = r) : r = .bad ∨ ∃ k, r = .d (.bl k) := by
  subst h
  unfold pCmp
  split
  · exact .inr ⟨_, rfl⟩
  · exact .inl rfl
theorem cmp_bl {op : CmpOp} {p : Prim} (hp : cmpP op = some p) (l : List Sl) : evPrim p l = .bad ∨ ∃ k, evPrim p l = .d (.bl k) := by
  have h1 : ∀ b, ofB b = .bad ∨ ∃ k, ofB b = .d (.bl k) := fun b => by cases b with | none => exact .inl rfl | some k => exact .inr ⟨k, rfl⟩
  have h2 : ∀ b, notB b = .bad ∨ ∃ k, notB b = .d (.bl k) := fun b => by cases b with | none => exact .inl rfl | some k => exact .inr ⟨_, rfl⟩
  cases op <;> simp only [cmpP, Option.some.injEq] at hp <;> subst hp
  · exact h1 _
  · exact h2 _
  · exact pCmp_bl rfl
  · exact pCmp_bl rfl
  · exact pCmp_bl rfl
  · exact pCmp_bl rfl
  · show pIsN l = _ ∨ ∃ k, pIsN l = _
    unfold pIsN; split
    · exact .inr ⟨_, rfl⟩
    · exact .inl rfl
  · show pNotN l = _ ∨ ∃ k, pNotN l = _
    unfold pNotN; split
    · exact .inr ⟨_, rfl⟩
    · exact .inl rfl
  · exact h1 _
  · exact h2 _
theorem pe_comp {β : Type} {k : En → Pr → R β} {post : Po β} (kk : KOk X W k post) (t : Xt X n W) {a b : Ex} {x y : Expr} {op : CmpOp} {p : Prim} {pos : Pos} (hp : cmpP op = some p) (hm : behindInMarks op y = false) (ha : PE X x (tO X W (evOp a))) (hb : PE X y (tO X W (evOp b))) :
    PE X (.Compare x [op] [y] pos) (tG X W post (primF k p (.cons a (.cons b .nil)))) := PE.imp (pe_cmpR (cmp_ok t hp) ha hb hm) (two kk)
theorem tB_bool {a : Ex} (hb : ∀ env d e', evE a env = .ok (d, e') → ∃ k, d = .bl k) {σ : L2.St} {H : Hp} {Q : Bool → Hp → Prop} (h : tB' X W (evB a) σ H Q) : tE X W (evE a) σ H fun x H' => ∃ k, x = .bl k ∧ Q k H' := by
  obtain ⟨H₀, F, env, Rp, q⟩ := h
  refine ⟨H₀, F, env, Rp, ?_⟩
  have q1 := RP.bind q
  cases e : evE a env with
  | ok p =>
    obtain ⟨d, e'⟩ := p
    obtain ⟨k, rfl⟩ := hb _ _ _ e
    rw [e] at q1
    intro F' H' v g R' is
    cases Is.inv_bl is
    exact ⟨k, rfl, q1 F' H' g R'⟩
  | exc x e2 => rw [e] at q1; exact q1
  | bad => rw [e] at q1; exact q1
theorem evPrim_bool {p : Prim} {as : Exs} (hp : ∀ l, evPrim p l = .bad ∨ ∃ k, evPrim p l = .d (.bl k)) : ∀ env d e', evE (.prim p as) env = .ok (d, e') → ∃ k, d = .bl k := by
  intro env d e' h
  unfold evE at h
  cases ea : evA as env with
  | ok q =>
    rw [ea] at h
    simp only [R.bind_ok] at h
    split at h
    · next l e =>
      rcases hp l with z | ⟨k, z⟩
      · rw [z] at h; cases h
      · rw [z] at h; cases h; exact ⟨k, rfl⟩
    · cases h
  | exc x e2 => rw [ea] at h; cases h
  | bad => rw [ea] at h; cases h
theorem pt_comp (t : Xt X n W) {a b : Ex} {x y : Expr} {op : CmpOp} {p : Prim} {pos : Pos} (hp : cmpP op = some p) (hm : behindInMarks op y = false) (ha : PE X x (tO X W (evOp a))) (hb : PE X y (tO X W (evOp b))) :
    PT X (.Compare x [op] [y] pos) (tB' X W (evB (.prim p (.cons a (.cons b .nil))))) :=
  PT.imp (pt_cmpR (cmp_ok t hp) ha hb hm) fun σ H Q q => two kD _ _ _ (tB_bool (evPrim_bool (cmp_bl hp)) q)
theorem plainIx_of {b : Expr} (h : plainIx b = true) : PlainIx b := by
  intro o i
  cases b <;> first | rfl | (simp [plainIx] at h)
theorem pe_sub' {β : Type} {k : En → Pr → R β} {post : Po β} (kk : KOk X W k post) {a b : Ex} {x y : Expr} {pos : Pos} (hp : plainIx y = true) (ha : PE X x (tO X W (evOp a))) (hb : PE X y (tO X W (evOp b))) :
    PE X (.Subscript x y pos) (tG X W post (primF k .idx (.cons a (.cons b .nil)))) := PE.imp (pe_ix ixP ha hb (plainIx_of hp)) (two kk)
/-- a value's truth -/
theorem emp_of {K : PySem.W.Frag} {mg : Mg} {F : Hp} {vs : List V} {ds : List D} (r : IsAll K mg F vs ds) : (!ds.isEmpty) = !vs.isEmpty := by cases r <;> rfl
theorem truV_of {H₀ F H : Hp} {env : En} {σ : L2.St} {v : V} {d : D} {b : Bool} (Rp : Rep X.K (mX X) H₀ F env σ H) (is : Is X.K (mX X) F v d) (h : truth d = some b) : TruV X.K v H b := by
  cases is with
  | non => cases h; rfl
  | bl b => cases h; rfl
  | int i => cases h; rfl
  | str x => cases h
  | tup q r => cases h; exact .inr (.inl ⟨_, Same.seqT Rp.hf q, emp_of r⟩)
  | lst q r => cases h; exact .inl ⟨_, .inl (Same.rd Rp.hf q), emp_of r⟩
  | ro q r => cases h
  | obj _ _ _ _ _ => cases h
  | err _ _ _ _ => cases h
theorem l_not {a : Ex} {x : Expr} {pos : Pos} (ha : PE X x (tE X W (evE a))) : PE X (.UnaryOp .Not x pos) (tE X W (evE (.not a))) := by
  refine PE.imp (pe_notT ha) fun σ H Q ⟨H₀, F, env, Rp, q⟩ => ?_
  unfold evE at q
  refine ⟨H₀, F, env, Rp, (RP.bind q).mono fun p hp F' H' v g R' is => ?_⟩
  split at hp
  · next b e => exact ⟨b, truV_of R' is e, hp F' H' _ g R' (.bl _)⟩
  · exact hp.elim
theorem l_and {a b : Ex} {x y : Expr} {r : List Expr} {pos : Pos} (ha : PE X x (tE X W (evE a))) (hb : PE X (.BoolOp .And (y :: r) pos) (tE X W (evE b))) : PE X (.BoolOp .And (x :: y :: r) pos) (tE X W (evE (.and a b))) := by
  refine PE.imp (pe_andT ha hb) fun σ H Q ⟨H₀, F, env, Rp, q⟩ => ?_
  unfold evE at q
  refine ⟨H₀, F, env, Rp, (RP.bind q).mono fun p hp F' H' v g R' is => ?_⟩
  split at hp
  · next e => exact ⟨true, truV_of R' is e, by rw [if_pos rfl]; exact ⟨H₀, F', p.2, R', hp.vgrow g⟩⟩
  · next e => exact ⟨false, truV_of R' is e, by rw [if_neg Bool.false_ne_true]; exact hp F' H' v g R' is⟩
  · exact hp.elim
theorem l_or {a b : Ex} {x y : Expr} {r : List Expr} {pos : Pos} (ha : PE X x (tE X W (evE a))) (hb : PE X (.BoolOp .Or (y :: r) pos) (tE X W (evE b))) : PE X (.BoolOp .Or (x :: y :: r) pos) (tE X W (evE (.or a b))) := by
  refine PE.imp (pe_orT ha hb) fun σ H Q ⟨H₀, F, env, Rp, q⟩ => ?_
  unfold evE at q
  refine ⟨H₀, F, env, Rp, (RP.bind q).mono fun p hp F' H' v g R' is => ?_⟩
  split at hp
  · next e => exact ⟨true, truV_of R' is e, by rw [if_pos rfl]; exact hp F' H' v g R' is⟩
  · next e => exact ⟨false, truV_of R' is e, by rw [if_neg Bool.false_ne_true]; exact ⟨H₀, F', p.2, R', hp.vgrow g⟩⟩
  · exact hp.elim
/-! ### tests -/
theorem truthR_ok {d : D} {e : En} {H₀ F : Hp} {σ : L2.St} {ok : Bool × En → Prop} (h : RP X W H₀ F σ (truthR d e) ok) : ∃ b, truth d = some b ∧ ok (b, e) := by
  unfold truthR at h
  split at h
  · next b q => exact ⟨b, q, h⟩
  · exact h.elim
theorem TPost.grow {H₀ F F' : Hp} {σ : L2.St} {Q : Bool → Hp → Prop} {p : Bool × En} (h : TPost X H₀ F σ Q p) (g : Grow H₀ F F') : TPost X H₀ F' σ Q p := fun F2 H' g2 => h F2 H' (g.trans g2)
theorem RP.tgrow {H₀ F F' : Hp} {σ : L2.St} {Q : Bool → Hp → Prop} {r : R (Bool × En)} (h : RP X W H₀ F σ r (TPost X H₀ F σ Q)) (g : Grow H₀ F F') : RP X W H₀ F' σ r (TPost X H₀ F' σ Q) := (h.grow g).mono fun _ q => q.grow g
theorem t_plain {a : Ex} {x : Expr} (ha : PE X x (tE X W (evE a))) (he : ∀ whole, isTrue x X.env whole = (do let v ← whole; standAt x.pos; holding [v] (truthy v))) : PT X x (tB' X W (evB a)) := by
  refine PT.imp (pt_truth ha he) fun σ H Q ⟨H₀, F, env, Rp, q⟩ => ?_
  refine ⟨H₀, F, env, Rp, (RP.bind q).mono fun p hp F' H' v g R' is => ?_⟩
  obtain ⟨b, e, q⟩ := truthR_ok hp
  exact ⟨b, truV_of R' is e, q F' H' g R'⟩
theorem t_not {a : Ex} {x : Expr} {pos : Pos} (ha : PT X x (tB' X W (evB a))) : PT X (.UnaryOp .Not x pos) (tB' X W (evB (.not a))) := by
  refine PT.imp (pt_not ha) fun σ H Q ⟨H₀, F, env, Rp, q⟩ => ?_
  refine ⟨H₀, F, env, Rp, ?_⟩
  unfold evB at q ⊢
  unfold evE at q
  cases e : evE a env with
  | ok p =>
    rw [e] at q
    simp only [R.bind_ok] at q ⊢
    unfold truthR
    cases e2 : truth p.1 with
    | some b => rw [e2] at q; exact fun F' H' g R' => q F' H' g R'
    | none => rw [e2] at q; exact q
  | exc x e2 => rw [e] at q; exact q
  | bad => rw [e] at q; exact q
theorem w_and {a b : Ex} {x y : Expr} {r : List Expr} {pos : Pos} (ha : PT X x (tB' X W (evB a))) (hb : PW X (.BoolOp .And (y :: r) pos) (tB' X W (evB b))) : PW X (.BoolOp .And (x :: y :: r) pos) (tB' X W (evB (.and a b))) := by
  refine ⟨fun wh pins s σ H Q I q => (pw_and ha hb).run wh pins s σ H Q I ?_⟩
  obtain ⟨H₀, F, env, Rp, q⟩ := q
  refine ⟨H₀, F, env, Rp, ?_⟩
  unfold evB at q ⊢
  unfold evE at q
  cases e : evE a env with
  | ok p =>
    rw [e] at q
    simp only [R.bind_ok] at q ⊢
    unfold truthR
    cases e2 : truth p.1 with
    | some k =>
      rw [e2] at q
      intro F' H' g R'
      cases k with
      | true => rw [if_pos rfl]; exact ⟨H₀, F', p.2, R', RP.tgrow q g⟩
      | false =>
        rw [if_neg Bool.false_ne_true]
        simp only [R.bind_ok] at q
        obtain ⟨b, e3, q⟩ := truthR_ok q
        have : b = false := Option.some.inj (e3.symm.trans e2)
        subst this
        exact q F' H' g R'
    | none => rw [e2] at q; exact q
  | exc x e2 => rw [e] at q; exact q
  | bad => rw [e] at q; exact q
theorem w_or {a b : Ex} {x y : Expr} {r : List Expr} {pos : Pos} (ha : PT X x (tB' X W (evB a))) (hb : PW X (.BoolOp .Or (y :: r) pos) (tB' X W (evB b))) : PW X (.BoolOp .Or (x :: y :: r) pos) (tB' X W (evB (.or a b))) := by
  refine ⟨fun wh pins s σ H Q I q => (pw_or ha hb).run wh pins s σ H Q I ?_⟩
  obtain ⟨H₀, F, env, Rp, q⟩ := q
  refine ⟨H₀, F, env, Rp, ?_⟩
  unfold evB at q ⊢
  unfold evE at q
  cases e : evE a env with
  | ok p =>
    rw [e] at q
    simp only [R.bind_ok] at q ⊢
    unfold truthR
    cases e2 : truth p.1 with
    | some k =>
      rw [e2] at q
      intro F' H' g R'
      cases k with
      | false => rw [if_neg Bool.false_ne_true]; exact ⟨H₀, F', p.2, R', RP.tgrow q g⟩
      | true =>
        rw [if_pos rfl]
        simp only [R.bind_ok] at q
        obtain ⟨b, e3, q⟩ := truthR_ok q
        have : b = true := Option.some.inj (e3.symm.trans e2)
        subst this
        exact q F' H' g R'
    | none => rw [e2] at q; exact q
  | exc x e2 => rw [e] at q; exact q
  | bad => rw [e] at q; exact q
theorem l_ite {a b c : Ex} {x y z : Expr} {pos : Pos} (hc : PT X x (tB' X W (evB c))) (ha : PE X y (tE X W (evE a))) (hb : PE X z (tE X W (evE b))) : PE X (.IfExp x y z pos) (tE X W (evE (.ite c a b))) := by
  refine PE.imp (pe_ifExp hc ha hb) fun σ H Q ⟨H₀, F, env, Rp, q⟩ => ?_
  unfold evE at q
  refine ⟨H₀, F, env, Rp, ?_⟩
  unfold evB
  cases e : evE c env with
  | ok p =>
    rw [e] at q
    simp only [R.bind_ok] at q ⊢
    unfold truthR
    cases e2 : truth p.1 with
    | some k =>
      rw [e2] at q
      intro F' H' g R'
      cases k with
      | false => rw [if_neg Bool.false_ne_true]; exact ⟨H₀, F', p.2, R', RP.vgrow q g⟩
      | true => rw [if_pos rfl]; exact ⟨H₀, F', p.2, R', RP.vgrow q g⟩
    | none => rw [e2] at q; exact q
  | exc x e2 => rw [e] at q; exact q
  | bad => rw [e] at q; exact q
theorem isTrue_plainT {x : Expr} (h : plainT x = true) : ∀ whole, isTrue x X.env whole = (do let v ← whole; standAt x.pos; holding [v] (truthy v)) := by
  intro whole
  cases x
  case UnaryOp op _ _ => cases op <;> first | rfl | (simp [plainT] at h)
  all_goals first | rfl | (simp [plainT] at h)
/-! ### chains -/
theorem chain_red {p q : Prim} {a b c : Ex} {op op' : CmpOp} (hp : cmpP op = some p) (hq : cmpP op' = some q) {σ : L2.St} {H : Hp} {Q : VK} (h : tE X W (evE (.chain p q a b c)) σ H Q) :
    tChain (rP X p) (rP X q) (tE X W (evE a)) (tE X W (evE b)) (tE X W (evE c)) σ H Q := by
  obtain ⟨H₀, F, env, Rp, h⟩ := h
  unfold evE at h
  refine ⟨H₀, F, env, Rp, (RP.bind h).mono fun x hx F1 H1 v1 g1 R1 is1 => ?_⟩
  refine ⟨H₀, F1, x.2, R1, ((RP.bind hx).grow g1).mono fun y hy F2 H2 v2 g2 R2 is2 => ?_⟩
  refine ⟨H₀, F2, y.2, σ, .val x.1, .val y.1, R2, Is.mono g2.1 is1, is2, ?_⟩
  split at hy
  · next e =>
    rw [e]
    intro F3 H3 v3 g3 R3 is3
    cases Is.inv_bl is3
    refine ⟨true, rfl, ?_⟩
    rw [if_pos rfl]
    have g := (g1.trans g2).trans g3
    refine ⟨H₀, F3, y.2, R3, ((RP.bind hy).grow g).mono fun z hz F4 H4 v4 g4 R4 is4 => ?_⟩
    exact ⟨H₀, F4, z.2, σ, .val y.1, .val z.1, R4, Is.mono (g3.trans g4).1 is2, is4, okD_PK (hz.vgrow (g.trans g4))⟩
  · next e =>
    rw [e]
    intro F3 H3 v3 g3 R3 is3
    cases Is.inv_bl is3
    refine ⟨false, rfl, ?_⟩
    rw [if_neg Bool.false_ne_true]
    exact hy F3 H3 _ ((g1.trans g2).trans g3) R3 (.bl _)
  · exact hy.elim
theorem l_chain (t : Xt X n W) {p q : Prim} {a b c : Ex} {x y z : Expr} {op op' : CmpOp} {pos : Pos} (hp : cmpP op = some p) (hq : cmpP op' = some q) (hm : lastMarks [op, op'] [y, z] = false) (ha : PE X x (tE X W (evE a))) (hb : PE X y (tE X W (evE b)))
    (hc : PE X z (tE X W (evE c))) : PE X (.Compare x [op, op'] [y, z] pos) (tE X W (evE (.chain p q a b c))) :=
  PE.imp (pe_chain (cmp_ok t hp) (cmp_ok t hq) ha hb hc hm) fun _ _ _ => chain_red hp hq
theorem chain_bool {p q : Prim} {a b c : Ex} {op' : CmpOp} (hq : cmpP op' = some q) : ∀ env d e', evE (.chain p q a b c) env = .ok (d, e') → ∃ k, d = .bl k := by
  intro env d e' h
  unfold evE at h
  cases ea : evE a env with
  | ok x =>
    rw [ea] at h
    simp only [R.bind_ok] at h
    cases eb : evE b x.2 with
    | ok y =>
      rw [eb] at h
      simp only [R.bind_ok] at h
      split at h
      · cases ec : evE c y.2 with
        | ok z =>
          rw [ec] at h
          simp only [R.bind_ok] at h
          rcases cmp_bl hq [.val y.1, .val z.1] with w | ⟨k, w⟩
          · rw [w] at h; cases h
          · rw [w] at h; cases h; exact ⟨k, rfl⟩
        | exc x e2 => rw [ec] at h; cases h
        | bad => rw [ec] at h; cases h
      · cases h; exact ⟨_, rfl⟩
      · cases h
    | exc x e2 => rw [eb] at h; cases h
    | bad => rw [eb] at h; cases h
  | exc x e2 => rw [ea] at h; cases h
  | bad => rw [ea] at h; cases h
theorem t_chain (t : Xt X n W) {p q : Prim} {a b c : Ex} {x y z : Expr} {op op' : CmpOp} {pos : Pos} (hp : cmpP op = some p) (hq : cmpP op' = some q) (hm : lastMarks [op, op'] [y, z] = false) (ha : PE X x (tE X W (evE a))) (hb : PE X y (tE X W (evE b)))
    (hc : PE X z (tE X W (evE c))) : PT X (.Compare x [op, op'] [y, z] pos) (tB' X W (evB (.chain p q a b c))) :=
  PT.imp (pt_chain (cmp_ok t hp) (cmp_ok t hq) ha hb hc hm) fun _ _ _ w => chain_red hp hq (tB_bool (chain_bool hq) w)
end
end Ev
set_option Elab.async false
set_option linter.all false
set_option maxRecDepth 100000
set_option maxHeartbeats 1000000
namespace Ev
open PySem PySem.Spec PyProof.Rows L2

theorem star_cons {e : Expr} {es : List Expr} {env : Env} (h : notStar e = true) : starEach (e :: es) env = (false, eval e env) :: starEach es env := by
  cases e <;> first | rfl | (simp [notStar] at h)
def noStars : List Expr → Bool
  | [] => true
  | e :: es => notStar e && noStars es
theorem stars_plain {pos : Pos} {env : Env} : ∀ {es : List Expr}, noStars es = true → (backTo pos (starEach es env)).any (·.1) = false
  | [], _ => rfl
  | e :: es, h => by
    simp only [noStars, Bool.and_eq_true] at h
    rw [star_cons h.1]
    show (false || (backTo pos (starEach es env)).any (·.1)) = false
    rw [stars_plain h.2]
    rfl
theorem okA_stars {N : List Str} {sc : Scope} : ∀ {as : Exs} {es : List Expr}, okA N sc as es = true → noStars es = true
  | .nil, [], _ => rfl
  | .nil, _ :: _, h => by simp [okA] at h
  | .cons _ _, [], h => by simp [okA] at h
  | .cons a as, e :: es, h => by
    simp only [okA, Bool.and_eq_true] at h
    simp only [noStars, Bool.and_eq_true]
    exact ⟨h.1.1, okA_stars h.2⟩
section
variable {X : Cx} {W : WX} {n : Nat}
theorem a_nil : PA X [] (tA X W (evA .nil)) := PA.imp pa_nil fun σ H Q ⟨H₀, F, env, Rp, q⟩ => q F H [] Grow.refl Rp .nil
theorem a_cons {a : Ex} {as : Exs} {e : Expr} {es : List Expr} (hs : notStar e = true) (ha : PE X e (tO X W (evOp a))) (hr : PA X es (tA X W (evA as))) : PA X (e :: es) (tA X W (evA (.cons a as))) := by
  refine PA.imp (pa_cons ha hr (star_cons hs)) fun σ H Q ⟨H₀, F, env, Rp, q⟩ => ?_
  rw [evA_cons] at q
  refine ⟨H₀, F, env, Rp, (RP.bind q).mono fun p hp F1 H1 x g1 R1 is1 => ?_⟩
  refine ⟨H₀, F1, p.2, R1, ((RP.bind hp).grow g1).mono fun q2 h2 F2 H2 xs g2 R2 is2 => ?_⟩
  exact h2 F2 H2 (x :: xs) (g1.trans g2) R2 (.cons (is1.mono g2.1) is2)
/-- the arguments of an operation -/
theorem prim_args {β : Type} {k : En → Pr → R β} {post : Po β} (kk : KOk X W k post) {p : Prim} {as : Exs} : ∀ σ H Q, tG X W post (primF k p as) σ H Q → tA X W (evA as) σ H fun xs H' => rPs X p xs H' Q := by
  intro σ H Q ⟨H₀, F, env, Rp, q⟩
  unfold primF at q
  refine ⟨H₀, F, env, Rp, (RP.bind q).mono fun q1 h1 F1 H1 xs g1 R1 is1 => ?_⟩
  split at h1
  · next l e => exact ⟨H₀, F1, q1.2, σ, l, R1, PdsIs.args R1 is1 e, kk.pk (RP.kgrow kk h1 g1)⟩
  · exact h1.elim
theorem l_tup {β : Type} {k : En → Pr → R β} {post : Po β} (kk : KOk X W k post) {as : Exs} {es : List Expr} {kn : Nat} {pos : Pos} (ha : PA X es (tA X W (evA as))) : PE X (.Tuple es kn pos) (tG X W post (primF k .tup as)) := by
  refine PE.imp (pe_tup ha) fun σ H Q q => ?_
  obtain ⟨H₀, F, env, Rp, q⟩ := prim_args kk σ H Q q
  refine ⟨H₀, F, env, Rp, q.mono fun p hp F' H' xs g R' is => ?_⟩
  obtain ⟨H₁, F1, env1, σ1, ss, R1, a, q1⟩ := hp F' H' xs g R' is
  replace q1 : PK X.K (mX X) H₁ F1 env1 σ1 Q (pTup ss) := q1
  unfold pTup at q1
  split at q1
  · next ds e =>
    have r := a.allD e
    exact ⟨by rw [r.length]; exact lim_line q1.newT_le, fun p hp => q1.newt R1 r hp⟩
  · exact q1.elim
theorem l_lst {β : Type} {k : En → Pr → R β} {post : Po β} (kk : KOk X W k post) {as : Exs} {es : List Expr} {pos : Pos} (ha : PA X es (tA X W (evA as))) : PE X (.List es pos) (tG X W post (primF k .lst as)) := by
  refine PE.imp (pe_lst ha) fun σ H Q q => ?_
  obtain ⟨H₀, F, env, Rp, q⟩ := prim_args kk σ H Q q
  refine ⟨H₀, F, env, Rp, q.mono fun p hp F' H' xs g R' is => ?_⟩
  obtain ⟨H₁, F1, env1, σ1, ss, R1, a, q1⟩ := hp F' H' xs g R' is
  replace q1 : PK X.K (mX X) H₁ F1 env1 σ1 Q (pLst ss) := q1
  unfold pLst at q1
  split at q1
  · next ds e =>
    have r := a.allD e
    exact ⟨by rw [r.length]; exact lim_line q1.newL_le, fun p hp => q1.newl R1 r hp⟩
  · exact q1.elim
theorem l_neg {β : Type} {k : En → Pr → R β} {post : Po β} (kk : KOk X W k post) {as : Exs} {a : Ex} {x : Expr} {pos : Pos} (has : as = .cons a .nil) (ha : PE X x (tO X W (evOp a))) : PE X (.UnaryOp .USub x pos) (tG X W post (primF k .neg as)) := by
  subst has
  refine PE.imp (pe_un un_neg ha) fun σ H Q q => ?_
  obtain ⟨H₀, F, env, Rp, q⟩ := prim_args kk σ H Q q
  rw [evA_cons] at q
  refine ⟨H₀, F, env, Rp, (RP.bind q).mono fun p hp F' H' x g R' is => ?_⟩
  replace hp := hp F' H' [x] g R' (.cons is .nil)
  obtain ⟨H₁, F1, env1, σ1, ss, R1, a, q1⟩ := hp
  replace q1 : PK X.K (mX X) H₁ F1 env1 σ1 Q (pNeg ss) := q1
  unfold pNeg at q1
  split at q1
  · obtain ⟨y, e, a1⟩ := a.one
    cases e
    cases Is.inv_int a1
    exact ⟨_, rfl, q1.now R1 (.int _)⟩
  · exact q1.elim
theorem bltP_some {m : Nat} {x : Str} {p : Prim} (h : bltP m x = some p) :
    (x = "len" ∧ p = .len) ∨ (x = "abs" ∧ p = .abs) ∨ (x = "int" ∧ p = .int) ∨ (x = "gcd" ∧ p = .gcd) ∨ (x = "min" ∧ (p = .min2 ∨ p = .minl)) ∨ (x = "max" ∧ (p = .max2 ∨ p = .maxl)) ∨ (x = "sum" ∧ p = .suml) ∨ (x = "any" ∧ p = .anyl) ∨ (x = "all" ∧ p = .alll) ∨
      (x = "tuple" ∧ p = .tuple) ∨ (x = "list" ∧ p = .list) ∨ (x = "lcm" ∧ p = .lcm) := by
  unfold bltP at h
  split at h
  · next e => cases h; exact .inl ⟨e, rfl⟩
  split at h
  · next e => cases h; exact .inr (.inl ⟨e, rfl⟩)
  split at h
  · next e => cases h; exact .inr (.inr (.inl ⟨e, rfl⟩))
  split at h
  · next e => cases h; exact .inr (.inr (.inr (.inl ⟨e, rfl⟩)))
  split at h
  · next e => split at h <;> cases h <;> exact .inr (.inr (.inr (.inr (.inl ⟨e, by simp⟩))))
  split at h
  · next e => split at h <;> cases h <;> exact .inr (.inr (.inr (.inr (.inr (.inl ⟨e, by simp⟩)))))
  split at h
  · next e => cases h; exact .inr (.inr (.inr (.inr (.inr (.inr (.inl ⟨e, rfl⟩))))))
  split at h
  · next e => cases h; exact .inr (.inr (.inr (.inr (.inr (.inr (.inr (.inl ⟨e, rfl⟩)))))))
  split at h
  · next e => cases h; exact .inr (.inr (.inr (.inr (.inr (.inr (.inr (.inr (.inl ⟨e, rfl⟩))))))))
  split at h
  · next e => cases h; exact .inr (.inr (.inr (.inr (.inr (.inr (.inr (.inr (.inr (.inl ⟨e, rfl⟩)))))))))
  split at h
  · next e => cases h; exact .inr (.inr (.inr (.inr (.inr (.inr (.inr (.inr (.inr (.inr (.inl ⟨e, rfl⟩))))))))))
  split at h
  · next e => cases h; exact .inr (.inr (.inr (.inr (.inr (.inr (.inr (.inr (.inr (.inr (.inr ⟨e, rfl⟩))))))))))
  · cases h
/-- a built-in function's call -/
theorem l_blt {β : Type} {k : En → Pr → R β} {post : Po β} (kk : KOk X W k post) (t : Xt X n W) {as : Exs} {e : Expr} {es : List Expr} {f : Str} {m : Nat} {p : Prim} {pos p1 : Pos} (hp : bltP m f = some p) (hg : glB X.env.scope f = true) (gp : goodP (gd X n) p) (hs : noStars (e :: es) = true) (ha : PA X (e :: es) (tA X W (evA as))) :
    PE X (.Call (.Name f p1) (e :: es) [] pos) (tG X W post (primF k p as)) := by
  obtain ⟨g1, g2⟩ := gl_of hg rfl
  simp only [noStars, Bool.and_eq_true] at hs
  have he := star_cons (es := es) (env := X.env) hs.1
  have hpl := stars_plain (pos := pos) (env := X.env) hs.2
  have fr : ∀ x ∈ bltFree, X.mg x = none := t.free
  have B : ∀ {id : String} (hv : bootBuiltins f = some (.builtin id)) (hf : f ∈ bltFree) (hn : f ≠ "__name__"), CallR X (.builtin id) (rPs X p) → PE X (.Call (.Name f p1) (e :: es) [] pos) (tG X W post (primF k p as)) :=
    fun hv hf hn hc => PE.imp (pe_callB hc g1 (fr _ hf) hv ha hn g2 he hpl) (prim_args kk)
  have T : ∀ {T : String} (hv : bootBuiltins f = some (.type T)) (hf : f ∈ bltFree) (hn : f ≠ "__name__"), CallR X (.type T) (rPs X p) → PE X (.Call (.Name f p1) (e :: es) [] pos) (tG X W post (primF k p as)) :=
    fun hv hf hn hc => PE.imp (pe_callTy hc g1 (fr _ hf) hv ha hn g2 he hpl) (prim_args kk)
  have hc : (!X.calm) = false → X.calm = true := fun z => by simpa using z
  rcases bltP_some hp with ⟨rfl, rfl⟩ | ⟨rfl, rfl⟩ | ⟨rfl, rfl⟩ | ⟨rfl, rfl⟩ | ⟨rfl, rfl | rfl⟩ | ⟨rfl, rfl | rfl⟩ | ⟨rfl, rfl⟩ | ⟨rfl, rfl⟩ | ⟨rfl, rfl⟩ | ⟨rfl, rfl⟩ | ⟨rfl, rfl⟩ | ⟨rfl, rfl⟩
  · exact B (by decide +kernel) (by decide) (by decide) cP_len
  · exact B (by decide +kernel) (by decide) (by decide) cP_abs
  · exact T (by decide +kernel) (by decide) (by decide) cP_int
  · exact PE.imp (pe_callBfun cP_gcd g1 gp ha g2 he hpl) (prim_args kk)
  · exact B (by decide +kernel) (by decide) (by decide) (cP_min2 (hc gp))
  · exact B (by decide +kernel) (by decide) (by decide) (cP_min (hc gp))
  · exact B (by decide +kernel) (by decide) (by decide) (cP_max2 (hc gp))
  · exact B (by decide +kernel) (by decide) (by decide) (cP_max (hc gp))
  · exact B (by decide +kernel) (by decide) (by decide) (cP_sum (hc gp))
  · exact B (by decide +kernel) (by decide) (by decide) (cP_any (hc gp))
  · exact B (by decide +kernel) (by decide) (by decide) (cP_all (hc gp))
  · exact T (by decide +kernel) (by decide) (by decide) cP_tuple
  · exact T (by decide +kernel) (by decide) (by decide) cP_list
  · exact PE.imp (pe_callBfun cP_lcm g1 gp ha g2 he hpl) (prim_args kk)
/-- isinstance -/
theorem ty_boot (t : Ty) : bootBuiltins (t.nm : Str) = some (.type t.nm) := by cases t <;> decide +kernel
theorem ty_free (t : Ty) : (t.nm : Str) ∈ bltFree ∧ (t.nm : Str) ≠ "__name__" := by cases t <;> decide
theorem l_isi (t : Xt X n W) {ty : Ty} {a : Ex} {e : Expr} {f g : Str} {pos p1 p2 : Pos} (hf : f = "isinstance") (hg : glB X.env.scope f = true) (ht : tyOf ty g = true) (hg2 : glB X.env.scope g = true) (hs : notStar e = true) (ha : PE X e (tO X W (evOp a))) :
    PE X (.Call (.Name f p1) [e, .Name g p2] [] pos) (tE X W (evE (.isi ty (.cons a .nil)))) := by
  obtain ⟨g1, g2⟩ := gl_of hg rfl
  obtain ⟨g3, g4⟩ := gl_of hg2 rfl
  have e2 : g = (ty.nm : Str) := of_decide_eq_true ht
  subst hf
  subst e2
  have P2 : PE X (.Name (ty.nm : Str) p2) (tC (.ty ty.nm)) := pe_bltn g3 (t.free _ (ty_free ty).1) (ty_boot ty) rfl (ty_free ty).2 g4
  refine PE.imp (pe_callB (cP_isi ty) g1 (t.free _ (by decide)) (by decide +kernel) (pa_cons ha (pa_cons P2 pa_nil rfl) (star_cons hs)) (by decide) g2 (star_cons hs) rfl) fun σ H Q ⟨H₀, F, env, Rp, q⟩ => ?_
  unfold evE at q
  rw [evA_cons] at q
  refine ⟨H₀, F, env, Rp, (RP.bind (RP.bind q)).mono fun p hp F' H' x g R' is => ?_⟩
  replace hp : RP X W H₀ F σ (match pds p.2 [p.1] with | some [s] => (match isiD ty s with | some b => .ok (.bl b, p.2) | none => .bad) | _ => .bad) (VPost X H₀ F σ Q) := hp
  split at hp
  · next s e =>
    split at hp
    · next b e2 =>
      have as := PdsIs.args R' (.cons is .nil) e
      obtain ⟨y, e3, a1⟩ := as.one
      cases e3
      refine ⟨H₀, F', p.2, σ, _, s, b, rfl, R', a1, e2, ?_⟩
      exact fun F2 H2 v g2 R2 is2 => hp F2 H2 v (g.trans g2) R2 is2
    · exact hp.elim
  · exact hp.elim
/-- isinstance(x, C), x a pinned error -/
theorem cP_isC {D : Addr} {u : Value} {b : Bool} {a : Addr} {oe : Obj} {dd : Option Addr} (C : ExcC X.K D) (hp : (a, oe) ∈ X.pn) (hz : Zc (.ref D) dd oe) (hf : ∃ vs, oe.data = .fields vs) (hd : ∀ dx, dd = some dx → ∃ fs, H dx = some (.xd fs)) (hk : PySem.W.kitOne X.K (.ref D) u = some b)
    {pins : List (Addr × Obj)} {s : Shared} {Q : VK} (I : Inv X pins σ H s) (q : Q (.bl b) H) : wpAny (model X.prog X.w) X.A (call (.builtin "isinstance") [.ref a, u]) (EP X pins σ Q) X.xe s := by
  have hget := (I.pin (a, oe) (List.mem_append.mpr (.inl hp))).1
  obtain ⟨vs, hv⟩ := hf
  obtain ⟨oc, od, oda, osl⟩ := oe
  obtain ⟨h1, h2⟩ := hz
  dsimp only at h1 h2 hv
  subst h1 h2 hv
  have fin : ∀ {ob : Option Obj}, PySem.W.InstAt s.heap a ⟨.ref D, od, .fields vs, osl⟩ D ob → wpAny (model X.prog X.w) X.A (call (.builtin "isinstance") [.ref a, u]) (EP X pins σ Q) X.xe s := fun J =>
    PySem.W.kia_one (PySem.W.kitx_exc (by obtain ⟨cd, hc, _⟩ := PySem.W.any_some C.hd; rw [hc]; rfl) C.hg C.hk C.hs C.ha C.hn C.ht C.hm) I.kIn J hk (fun z => nomatch z) fun tk => ⟨.bl b, H, I.kept (t' := tk) fun _ _ z => z, rfl, q⟩
  cases od with
  | none => exact fin (ob := none) ⟨hget, rfl, rfl, trivial⟩
  | some dx =>
    obtain ⟨fs, e⟩ := hd dx rfl
    obtain ⟨mA, hns, _⟩ := (show ObjOk X.prog X.w H s.heap dx (.xd fs) from I.hok dx _ e)
    obtain ⟨ob, ho, _⟩ := lookIn_ns hns
    exact fin (ob := some ob) ⟨hget, rfl, rfl, ho⟩
def rIC (X : Cx) : List V → Hp → VK → Prop := fun xs H Q => ∃ (a D : Addr) (oe : Obj) (dd : Option Addr) (cv : V) (u : Value) (b : Bool), xs = [.ref a, cv] ∧ (∀ w, RelV cv w → w = u) ∧ ExcC X.K D ∧ (a, oe) ∈ X.pn ∧ Zc (.ref D) dd oe ∧ (∃ vs, oe.data = .fields vs) ∧
  (∀ dx, dd = some dx → ∃ fs, H dx = some (.xd fs)) ∧ PySem.W.kitOne X.K (.ref D) u = some b ∧ Q (.bl b) H
theorem cR_isC : CallR X (.builtin "isinstance") (rIC X) := by
  intro pins s σ H xs us Q I r h
  obtain ⟨a, D, oe, dd, cv, u, b, rfl, hcv, C, hp, hz, hf, hd, hk, q⟩ := h
  cases r with
  | cons rx rr =>
    cases rr with
    | cons rt rr =>
      cases rr
      cases rx
      cases hcv _ rt
      exact cP_isC C hp hz hf hd hk I q
theorem Is.inv_err {K : PySem.W.Frag} {mg : Mg} {F : Hp} {v : V} {C : Str} {ns : List Str} {ds : List D} (h : Is K mg F v (.err C ns ds)) : ∃ a dd vs, v = .ref a ∧ mg.er a C dd ∧ FldsAt F dd (ns.zip vs) ∧ ns.length = vs.length ∧ IsAll K mg F vs ds := by
  cases h with
  | err a b c d => exact ⟨_, _, _, rfl, a, b, c, d⟩
theorem l_isC (t : Xt X n W) {c : Str} {tbl : List (Str × Bool)} {a : Ex} {e : Expr} {f g : Str} {pos p1 p2 : Pos} (gd' : IsCG (gd X n) c tbl) (hf : f = "isinstance") (hg : glB X.env.scope f = true) (ht : c = g) (hg2 : glB X.env.scope g = true) (hs : notStar e = true) (ha : PE X e (tO X W (evOp a))) :
    PE X (.Call (.Name f p1) [e, .Name g p2] [] pos) (tE X W (evE (.isC c tbl (.cons a .nil)))) := by
  obtain ⟨g1, g2⟩ := gl_of hg rfl
  obtain ⟨g3, g4⟩ := gl_of hg2 rfl
  subst hf
  subst ht
  obtain ⟨u, hu, hT⟩ := gd'
  obtain ⟨cv, P2, hcv⟩ : ∃ cv : V, PE X (.Name c p2) (tC cv) ∧ ∀ w, RelV cv w → w = u := by
    rcases hu with ⟨hm, A, rfl⟩ | ⟨hm, hv, hn, T, rfl⟩
    · exact ⟨.ref A, pe_glob g3 hm rfl g4, fun w r => r⟩
    · exact ⟨.ty T, pe_bltn g3 hm hv rfl hn g4, fun w r => r⟩
  refine PE.imp (pe_callB cR_isC g1 (t.free _ (by decide)) (by decide +kernel) (pa_cons ha (pa_cons P2 pa_nil rfl) (star_cons hs)) (by decide) g2 (star_cons hs) rfl) fun σ H Q ⟨H₀, F, env, Rp, q⟩ => ?_
  unfold evE at q
  rw [evA_cons] at q
  refine ⟨H₀, F, env, Rp, (RP.bind (RP.bind q)).mono fun p hp F' H' x g R' is => ?_⟩
  replace hp : RP X W H₀ F σ (match pds p.2 [p.1] with | some [s] => (match isCD tbl s with | some b => .ok (.bl b, p.2) | none => .bad) | _ => .bad) (VPost X H₀ F σ Q) := hp
  split at hp
  · next s e =>
    split at hp
    · next b e2 =>
      have as := PdsIs.args R' (.cons is .nil) e
      obtain ⟨y, e3, a1⟩ := as.one
      cases e3
      unfold isCD at e2
      split at e2
      · next C ns vs =>
        obtain ⟨a, dd, ws, rfl, er, fl, _, _⟩ := Is.inv_err a1
        obtain ⟨_, oe, D, hp', hm, hz, hf'⟩ := er
        obtain ⟨D', hm', xc, hk⟩ := hT (C, b) (PySem.mem_of_lookup e2)
        obtain rfl : D' = D := by
          have z := hm'.symm.trans hm
          cases z
          rfl
        exact ⟨a, D', oe, dd, cv, u, b, rfl, hcv, xc, hp', hz, hf', fun dx z => by subst z; exact ⟨_, R'.hf _ _ fl⟩, hk, hp F' H' _ g R' (.bl _)⟩
      · cases e2
    · exact hp.elim
  · exact hp.elim
/-! ### calls of the module's defs -/
theorem run_fnD {CX : CXT} {k : Nat} {f : Addr} {fd : FuncData} {ps : List Str} {sp : Sp} {E : XK} {ds : List Value} {dvs : List V} {pins : List (Addr × Obj)} {σ : L2.St} {H : Hp} {s : Shared} {Q : VK} {us : List Value} {vs : List V}
    (F : FnOk X.prog X.w X.K X.mg X.base CX k f fd ps sp) (hr : Room k X.A) (hb : Binds X.K fd ps ds) (hd : Vals dvs ds) (hx : PassesAt CX X σ E)
    (I : Inv X pins σ H s) (r : Vals vs us) (h : sp (vs ++ dvs) H Q E) : wpAny (model X.prog X.w) X.A (call (.ref f) us) (EP X pins σ Q) X.xe s := by
  have r2 : Vals (vs ++ dvs) (us ++ ds) := r.append hd
  have hl : (us ++ ds).length = ps.length := by rw [← r2.length]; exact F.len _ _ _ _ h
  refine wpAny_call (codeAny_mono (F.run X.A X.stack s H ⟨us, []⟩ (us ++ ds) (vs ++ dvs) Q E hr I.env0 (hb s us I.kIn hl) r2 h) fun r s' hq => ?_)
  cases r with
  | error e => exact hx pins H s e s' I hq
  | ok fl =>
    cases fl with
    | ret u => exact I.after hq
    | next => exact False.elim hq
    | brk => exact False.elim hq
    | cont => exact False.elim hq
theorem run_fnE {CX : CXT} {k : Nat} {f : Addr} {fd : FuncData} {ps : List Str} {sp : List (Addr × Obj) → Sp} {E : XK} {ds : List Value} {dvs : List V} {pins : List (Addr × Obj)} {σ : L2.St} {H : Hp} {s : Shared} {Q : VK} {us : List Value} {vs : List V}
    (F : FnE X.prog X.w X.K X.mg X.base CX k f fd ps sp) (hne : ∃ p, p ∈ X.pn) (hr : L2H.RoomH k X.A) (hb : Binds X.K fd ps ds) (hd : Vals dvs ds) (hx : PassesAt CX X σ E)
    (I : Inv X pins σ H s) (r : Vals vs us) (h : sp X.pn (vs ++ dvs) H Q E) : wpAny (model X.prog X.w) X.A (call (.ref f) us) (EP X pins σ Q) X.xe s := by
  have r2 : Vals (vs ++ dvs) (us ++ ds) := r.append hd
  have hl : (us ++ ds).length = ps.length := by rw [← r2.length]; exact F.ln _ _ _ _ _ h
  have hpin : ∀ q ∈ X.pn, L2H.PinOk X.stack H s q := fun q hq => by
    obtain ⟨b1, b2, b3, b4, b5⟩ := I.pin q (List.mem_append_left _ hq)
    refine ⟨b1, b2, fun hm => ?_, b5⟩
    rcases List.mem_cons.mp (I.stkSub q.1 hm) with z | z
    · exact b3 z
    · exact b4 z
  refine wpAny_call (codeAny_mono (F.go X.pn X.A X.stack s H ⟨us, []⟩ (us ++ ds) (vs ++ dvs) Q E hne hpin hr I.env0 h r2 (hb s us I.kIn hl)) fun r s' hq => ?_)
  cases r with
  | error e => exact hx pins H s e s' I hq
  | ok fl =>
    cases fl with
    | ret u => exact I.after hq
    | next => exact False.elim hq
    | brk => exact False.elim hq
    | cont => exact False.elim hq
/-- what is wanted of a callee -/
def Runs (X : Cx) (W : WX) (f : Addr) (sp : Sp) (dvs : List V) : Prop := ∀ (pins : List (Addr × Obj)) (σ : L2.St) (H : Hp) (s : Shared) (Q : VK) (us : List Value) (vs : List V), Inv X pins σ H s → Vals vs us → sp (vs ++ dvs) H Q (WE W σ) →
  wpAny (model X.prog X.w) X.A (call (.ref f) us) (EP X pins σ Q) X.xe s
theorem pe_callD {f : Addr} {sp : Sp} {dvs : List V} {x : Str} {p pos : Pos} {es : List Expr} {ta : TA}
    (F : Runs X W f sp dvs) (hg : Gl X x) (hm : X.mg x = some (.ref f)) (hk : PySem.W.keepIn X.K (.ref f) = true) 
    (ha : PA X es ta) (hdb : (x == ("__debug__" : Str)) = false) (hs : noStars es = true) :
    PE X (.Call (.Name x p) es [] pos) (fun σ H Q => ta σ H fun vs H1 => sp (vs ++ dvs) H1 Q (WE W σ)) := by
  refine ⟨fun pins s σ H Q I h => ?_⟩
  refine wpAny_Call_Name_kw (ld_glob I hg hm ?_ hdb)
  have fin := ha.run pos pins s σ H _ I h
  cases es with
  | nil =>
    refine PySem.W.callWith_K0 I.kIn hk ?_
    have fin' : wpAny (model X.prog X.w) X.A (spliced (backTo pos (starEach [] X.env))) (fun us s' => wpAny (model X.prog X.w) X.A (call (.ref f) us) (EP X pins σ Q) X.xe s') X.xe s :=
      thn fin fun us s1 ⟨vs, H1, I1, r, q⟩ => F _ _ _ _ _ _ _ I1 r q
    exact fun Γ p hΓ => fin' Γ p hΓ Γ p hΓ
  | cons e es =>
    simp only [noStars, Bool.and_eq_true] at hs
    refine PySem.W.callWith_K (h₀ := X.base) I.ok.mod.kin hk (thn fin fun us s1 ⟨vs, H1, I1, r, q⟩ => ⟨I1.kIn, ?_⟩) (star_cons hs.1) (stars_plain hs.2)
    exact F _ _ _ _ _ _ _ I1 r q
end
end Ev
set_option Elab.async false
set_option linter.all false
set_option maxRecDepth 100000
set_option maxHeartbeats 1000000
namespace Ev
open PySem PySem.Spec PyProof.Rows L2

section
variable {K : PySem.W.Frag} {mg : Mg} {H₀ F F' H H' : Hp} {σ : L2.St} {env : En}
theorem Grow.up (s : Sm K H₀ H) (g : Grow H F F') : Grow H₀ F F' := ⟨g.1, fun b h n => g.2 b (fun z => h (s.free z)) n⟩
theorem Grow.upS (s : Same H₀ H) (g : Grow H F F') : Grow H₀ F F' := ⟨g.1, fun b h n => g.2 b (fun z => h (by cases e : H₀ b with | none => rfl | some o => rw [s b o e] at z; cases z)) n⟩
/-- behind a call: what was there is there -/
theorem Rep.later (R : Rep K mg H₀ F env σ H) (g : Grow H F F') (s : Sm K H H') (f : Same F' H') : Rep K mg H₀ F' env σ H' := by
  refine ⟨R.h0.trans s, f, R.len, fun i sl e => ?_, R.nt.grow g R.h0.2.2, R.dis⟩
  obtain ⟨v, h1, h2⟩ := R.sl i sl e
  refine ⟨v, h1, ?_⟩
  cases sl with
  | val d => exact Is.mono g.1 h2
  | own ds =>
    obtain ⟨q, vs, rfl, a, b, c, d⟩ := h2
    exact ⟨q, vs, rfl, a, g.2 q (by rw [c]; simp) b, s.at_ c (fun _ z => by cases z), IsAll.mono g.1 d⟩
  | bor ds =>
    obtain ⟨q, vs, rfl, a, d⟩ := h2
    exact ⟨q, vs, rfl, a, IsAll.mono g.1 d⟩
theorem ArgsIs.append : ∀ {xs : List V} {ss : List Sl} {ys : List V} {ts : List Sl}, ArgsIs K mg F H xs ss → ArgsIs K mg F H ys ts → ArgsIs K mg F H (xs ++ ys) (ss ++ ts)
  | _, _, _, _, .nil, s => s
  | _, _, _, _, .cons a r, s => .cons a (ArgsIs.append r s)
theorem ArgsIs.vals : ∀ {vs : List V} {ds : List D}, IsAll K mg F vs ds → ArgsIs K mg F H vs (ds.map Sl.val)
  | _, _, .nil => .nil
  | _, _, .cons a r => .cons a (ArgsIs.vals r)
end
section
variable {X : Cx} {W : WX} {n : Nat}
/-- a call's end -/
theorem rf_sp {H₀ F H : Hp} {σ : L2.St} {env : En} {Q : VK} {vs : List V} {ss : List Sl} {den : List Sl → Rf} (Rp : Rep X.K (mX X) H₀ F env σ H) (a : ArgsIs X.K (mX X) F H vs ss) (h : RP X W H₀ F σ (rfS env (den ss)) (SPost X H₀ F σ Q)) :
    spOf X.K (mX X) den vs H Q (WE W σ) := by
  refine ⟨F, ss, Rp.hf, Rp.h0.2.2, Rp.nt, a, ?_⟩
  cases e : den ss with
  | ok s =>
    rw [e] at h
    cases s with
    | val d => exact fun F' H' v g s1 s2 is => h F' H' v (g.up Rp.h0) (Rp.later g s1 s2) is
    | own ds =>
      intro F' H' p vs g s1 s2 n1 n2 l all
      refine h F' H' p vs (g.up Rp.h0) (Rp.later g s1 s2) (Rp.h0.free n1) n2 l all fun j es ej hj => ?_
      obtain ⟨v, h1, q, ws, rfl, _, _, c, _⟩ := Rp.sl j _ ej
      rw [hj] at h1; cases h1
      rw [n1] at c; cases c
    | bor _ => exact h
  | exc x =>
    rw [e] at h
    exact fun F' H' cls dd g s1 s2 xi => h F' H' cls dd (g.up Rp.h0) (Rp.later g s1 s2) xi
  | bad => rw [e] at h; exact h
/-- lists frozen at the end -/
theorem froz_post {H₀ F : Hp} {σ : L2.St} {Q : VK} {r : R (Sl × En)} (h : RP X W H₀ F σ (R.bind r frozR) (VPost X H₀ F σ Q)) : RP X W H₀ F σ r (SPost X H₀ F σ Q) := by
  refine (RP.bind h).mono fun p hp => ?_
  obtain ⟨s, e⟩ := p
  cases s with
  | val d => exact hp
  | own ds =>
    intro F' H' a vs g Rp z f l all new
    obtain ⟨g2, R2, is⟩ := Rp.freezeNew z f l all new
    exact hp _ _ _ (g.trans g2) R2 is
  | bor ds => exact hp.elim
theorem tS_of_tE {e : Expr} {f : En → R (Sl × En)} {g : En → R (D × En)} (hg : ∀ env, g env = R.bind (f env) frozR) (h : PE X e (tS X W f)) : PE X e (tE X W g) := by
  refine PE.imp h fun σ H Q ⟨H₀, F, env, Rp, q⟩ => ⟨H₀, F, env, Rp, ?_⟩
  rw [hg] at q
  exact froz_post q
def callF (den : List Sl → Rf) (dfl : List D) (as : Exs) (e : En) : R (Sl × En) := R.bind (evA as e) fun q => match pds q.2 q.1 with
  | some l => rfS q.2 (den (l ++ dfl.map Sl.val))
  | none => .bad
theorem evO_call {f : Str} {den : List Sl → Rf} {dfl : List D} {as : Exs} : evO (.call f den dfl as) = callF den dfl as := rfl
theorem evE_call {f : Str} {den : List Sl → Rf} {dfl : List D} {as : Exs} (env : En) : evE (.call f den dfl as) env = R.bind (callF den dfl as env) frozR := by
  show R.bind (evA as env) _ = R.bind (R.bind (evA as env) _) _
  cases evA as env with
  | ok q =>
    simp only [R.bind_ok]
    cases pds q.2 q.1 with
    | some l => rfl
    | none => rfl
  | exc x e => rfl
  | bad => rfl
theorem runs_of (t : Xt X n W) {den : List Sl → Rf} {f : Addr} {fd : FuncData} {ps : List Str} {ds : List Value} {dvs : List V} (hF : (gd X n).hot = false → FnOk X.prog X.w X.K X.mg X.base (L2.CX X.prog X.w) n f fd ps (spOf X.K (m0 X.mg) den))
    (hF2 : (gd X n).hot = true → FnE X.prog X.w X.K X.mg X.base (L2.CX X.prog X.w) n f fd ps fun pn => spOf X.K (mP X.K X.mg pn) den) (hb : Binds X.K fd ps ds) (hd : Vals dvs ds) : Runs X W f (spOf X.K (mX X) den) dvs := by
  cases hc : X.calm with
  | true =>
    have F := hF (by show (!X.calm) = false; rw [hc]; rfl)
    rw [← mX_cool hc] at F
    exact fun pins σ H s Q us vs I r q => run_fnD F (t.room hc) hb hd (passAt t.tk σ) I r q
  | false =>
    have F := hF2 (by show (!X.calm) = true; rw [hc]; rfl)
    rw [mX_hot hc]
    exact fun pins σ H s Q us vs I r q => run_fnE F (t.pins hc) t.roomH hb hd (passAt t.tk σ) I r q
theorem l_callS (t : Xt X n W) {f : Str} {den : List Sl → Rf} {dfl : List D} {as : Exs} {es : List Expr} {p pos : Pos} (hg : glB X.env.scope f = true) (g : FnG (gd X n) f den dfl) (hs : noStars es = true) (ha : PA X es (tA X W (evA as))) :
    PE X (.Call (.Name f p) es [] pos) (tS X W (evO (.call f den dfl as))) := by
  obtain ⟨g1, g2⟩ := gl_of hg rfl
  obtain ⟨fa, fd, ps, ds, dvs, hm, hk, hF, hF2, hb, hd, his⟩ := g
  refine PE.imp (pe_callD (runs_of t hF hF2 hb hd) g1 hm hk ha g2 hs) fun σ H Q ⟨H₀, F, env, Rp, q⟩ => ?_
  rw [evO_call] at q
  refine ⟨H₀, F, env, Rp, (RP.bind q).mono fun p hp F1 H1 vs g1 R1 is1 => ?_⟩
  split at hp
  · next l e =>
    have a := (PdsIs.args R1 is1 e).append (ArgsIs.vals (H := H1) (his _ F1))
    exact rf_sp R1 a ((hp.grow g1).mono fun _ q => SPost.grow q g1)
  · exact hp.elim
/-! ### slices -/
def slcF {β : Type} (k : En → Pr → R β) (a : Ex) (lo hi : Oe) (e : En) : R β := R.bind (evOp a e) fun p => R.bind (evOI lo p.2) fun l => R.bind (evOI hi l.2) fun h => match p.1.sl h.2 with
  | some s => k h.2 (pCut s l.1 h.1)
  | none => .bad
theorem evE_slc (a : Ex) (lo hi : Oe) : evE (.slc a lo hi) = slcF okD a lo hi := rfl
theorem evO_slc (a : Ex) (lo hi : Oe) : evO (.slc a lo hi) = slcF okS a lo hi := rfl
def IPost (X : Cx) (H₀ F : Hp) (σ : L2.St) (Q : Option Int → Hp → Prop) (p : Option Int × En) : Prop := ∀ F' H', Grow H₀ F F' → Rep X.K (mX X) H₀ F' p.2 σ H' → Q p.1 H'
def tI' (X : Cx) (W : WX) (f : En → R (Option Int × En)) : TO := fun σ H Q => ∃ H₀ F env, Rep X.K (mX X) H₀ F env σ H ∧ RP X W H₀ F σ (f env) (IPost X H₀ F σ Q)
theorem PO.imp {e : Option Expr} {t t' : TO} (h : PO X e t) (hi : ∀ σ H Q, t' σ H Q → t σ H Q) : PO X e t' := ⟨fun pins s σ H Q I q => h.run pins s σ H Q I (hi _ _ _ q)⟩
theorem o_none : PO X none (tI' X W (evOI .none)) := PO.imp po_none fun σ H Q ⟨H₀, F, env, Rp, q⟩ => q F H Grow.refl Rp
theorem o_some {a : Ex} {x : Expr} (ha : PE X x (tE X W (evE a))) : PO X (some x) (tI' X W (evOI (.some a))) := by
  refine PO.imp (po_some ha) fun σ H Q ⟨H₀, F, env, Rp, q⟩ => ?_
  unfold evOI at q
  refine ⟨H₀, F, env, Rp, (RP.bind q).mono fun p hp F' H' v g R' is => ?_⟩
  obtain ⟨d, e⟩ := p
  cases d <;> first | exact hp.elim | skip
  cases Is.inv_int is
  exact ⟨_, rfl, hp F' H' g R'⟩
theorem l_slc {β : Type} {k : En → Pr → R β} {post : Po β} (kk : KOk X W k post) {a : Ex} {lo hi : Oe} {x : Expr} {l h : Option Expr} {p2 pos : Pos} (ha : PE X x (tO X W (evOp a))) (hl : PO X l (tI' X W (evOI lo))) (hh : PO X h (tI' X W (evOI hi))) :
    PE X (.Subscript x (.Slice l h none p2) pos) (tG X W post (slcF k a lo hi)) := by
  refine PE.imp (pe_slice sl_list ha hl hh) fun σ H Q ⟨H₀, F, env, Rp, q⟩ => ?_
  unfold slcF at q
  refine ⟨H₀, F, env, Rp, (RP.bind q).mono fun p hp F1 H1 v g1 R1 is1 => ?_⟩
  refine ⟨H₀, F1, p.2, R1, ((RP.bind hp).grow g1).mono fun i hi F2 H2 g2 R2 => ?_⟩
  refine ⟨H₀, F2, i.2, R2, ((RP.bind hi).grow (g1.trans g2)).mono fun j hj F3 H3 g3 R3 => ?_⟩
  split at hj
  · next s e =>
    have ar := (is1.mono (g2.trans g3).1).arg R3 e
    have pk := kk.pk (RP.kgrow kk hj ((g1.trans g2).trans g3))
    unfold pCut at pk
    split at pk
    · next ds e2 =>
      obtain ⟨pa, vs, rfl, g, r⟩ := ar.rs R3 e2
      refine ⟨pa, vs, rfl, g, fun q hq => pk.newl R3 ?_ hq⟩
      unfold cutD cutV
      rw [r.length]
      exact (r.drop _).take _
    · exact pk.elim
  · exact hj.elim
/-! ### what a for walks -/
def Feeds (K : PySem.W.Frag) (mg : Mg) (J : It) (F0 : Hp) (items : List D) : Prop := ∀ i F H, Same F0 F → Same F H →
  (∀ d, items[i]? = some d → J.go i H ∧ ∀ x H', J.yld i H x H' → (H' = H ∧ Is K mg F x d) ∨ ∃ p vs ds, H p = none ∧ H' = upd H p (.tup vs) ∧ x = .ref p ∧ d = .tup ds ∧ IsAll K mg F vs ds) ∧ (items.length ≤ i → J.stop i H)
def JPost (X : Cx) (H₀ F : Hp) (σ : L2.St) (Rj : It → Hp → Prop) (p : List D × En) : Prop := ∀ F' H' J, Grow H₀ F F' → Rep X.K (mX X) H₀ F' p.2 σ H' → Feeds X.K (mX X) J F' p.1 → Rj J H'
def tJ (X : Cx) (W : WX) (f : En → R (List D × En)) : TI := fun σ H Rj => ∃ H₀ F env, Rep X.K (mX X) H₀ F env σ H ∧ RP X W H₀ F σ (f env) (JPost X H₀ F σ Rj)
theorem feeds_l {a : Addr} {F : Hp} {vs : List V} {ds : List D} (h : SqL X.K F a vs) (r : IsAll X.K (mX X) F vs ds) : Feeds X.K (mX X) (Itl X.K a) F ds := by
  intro i F' H s1 s2
  have h2 : SqL X.K H a vs := L2.Same.seq (s1.trans s2) h
  refine ⟨fun d e => ?_, fun e => ⟨vs, h2, by rw [r.length]; exact e⟩⟩
  obtain ⟨v, e1, e2⟩ := r.get e
  refine ⟨⟨vs, v, h2, e1⟩, fun x H' y => .inl ⟨y.1, ?_⟩⟩
  have := y.2 vs h2
  rw [e1] at this; cases this
  exact Is.mono s1 e2
theorem feeds_t {a : Addr} {F : Hp} {vs : List V} {ds : List D} (h : SqT X.K F a vs) (r : IsAll X.K (mX X) F vs ds) : Feeds X.K (mX X) (Itt X.K a) F ds := by
  intro i F' H s1 s2
  have h2 : SqT X.K H a vs := Same.seqT (s1.trans s2) h
  refine ⟨fun d e => ?_, fun e => ⟨vs, h2, by rw [r.length]; exact e⟩⟩
  obtain ⟨v, e1, e2⟩ := r.get e
  refine ⟨⟨vs, v, h2, e1⟩, fun x H' y => .inl ⟨y.1, ?_⟩⟩
  have := y.2 vs h2
  rw [e1] at this; cases this
  exact Is.mono s1 e2
theorem feeds_r {lo : Int} {m : Nat} {F : Hp} : Feeds X.K (mX X) (L2.Itr lo m) F ((List.range m).map fun (k : Nat) => D.int (lo + (k : Int))) := by
  intro i F' H s1 s2
  refine ⟨fun d e => ?_, fun e => (show m ≤ i by simpa using e)⟩
  rw [List.getElem?_map] at e
  by_cases q : i < m
  · rw [List.getElem?_range q] at e
    cases e
    refine ⟨q, fun x H' y => .inl ⟨y.1, ?_⟩⟩
    rw [y.2]
    exact .int _
  · rw [List.getElem?_eq_none (by simpa using q)] at e; cases e
theorem feeds_e {a : Addr} {F : Hp} {vs : List V} {ds : List D} (h : SqL X.K F a vs) (r : IsAll X.K (mX X) F vs ds) : Feeds X.K (mX X) (Ite X.K a) F (enumD ds) := by
  intro i F' H s1 s2
  have h2 : SqL X.K H a vs := L2.Same.seq (s1.trans s2) h
  refine ⟨fun d e => ?_, fun e => ⟨vs, h2, by rw [r.length]; simpa [enumD] using e⟩⟩
  unfold enumD at e
  rw [List.getElem?_map, List.getElem?_zipIdx] at e
  cases q : ds[i]? with
  | none => rw [q] at e; cases e
  | some d0 =>
    rw [q] at e
    cases e
    obtain ⟨v, e1, e2⟩ := r.get q
    refine ⟨⟨vs, v, h2, e1⟩, fun x H' y => .inr ?_⟩
    obtain ⟨T, z, rfl, n, rfl, y2⟩ := y
    have := y2 vs h2
    rw [e1] at this; cases this
    exact ⟨T, _, _, n, rfl, rfl, rfl, .cons (by simpa using Is.int _) (.cons (Is.mono s1 e2) .nil)⟩
theorem zipD_get {as bs : List D} {i : Nat} {d : D} (e : (zipD as bs)[i]? = some d) : ∃ x y, as[i]? = some x ∧ bs[i]? = some y ∧ d = .tup [x, y] := by
  unfold zipD at e
  rw [List.getElem?_map] at e
  cases q : (as.zip bs)[i]? with
  | none => rw [q] at e; cases e
  | some p =>
    rw [q] at e
    cases e
    rw [List.getElem?_zip_eq_some] at q
    exact ⟨_, _, q.1, q.2, rfl⟩
theorem feeds_z {a b : Addr} {F : Hp} {vs ws : List V} {ds es : List D} (h : SqL X.K F a vs) (h' : SqL X.K F b ws) (r : IsAll X.K (mX X) F vs ds) (r' : IsAll X.K (mX X) F ws es) : Feeds X.K (mX X) (Itz X.K a b) F (zipD ds es) := by
  intro i F' H s1 s2
  have h2 : SqL X.K H a vs := L2.Same.seq (s1.trans s2) h
  have h3 : SqL X.K H b ws := L2.Same.seq (s1.trans s2) h'
  refine ⟨fun d e => ?_, fun e => ⟨vs, ws, h2, h3, by rw [r.length, r'.length]; simp [zipD] at e; omega⟩⟩
  obtain ⟨x, y, e1, e2, rfl⟩ := zipD_get e
  obtain ⟨v, f1, f2⟩ := r.get e1
  obtain ⟨w, f3, f4⟩ := r'.get e2
  refine ⟨⟨vs, ws, v, w, h2, h3, f1, f3⟩, fun x H' y => .inr ?_⟩
  obtain ⟨T, z1, z2, rfl, n, rfl, y1, y2⟩ := y
  have k1 := y1 vs h2
  rw [f1] at k1; cases k1
  have k2 := y2 ws h3
  rw [f3] at k2; cases k2
  exact ⟨T, _, _, n, rfl, rfl, rfl, .cons (Is.mono s1 f2) (.cons (Is.mono s1 f4) .nil)⟩
theorem feeds_zT {a b : Addr} {F : Hp} {vs ws : List V} {ds es : List D} (h : SqT X.K F a vs) (h' : SqT X.K F b ws) (r : IsAll X.K (mX X) F vs ds) (r' : IsAll X.K (mX X) F ws es) : Feeds X.K (mX X) (RZ.ItzT X.K a b) F (zipD ds es) := by
  intro i F' H s1 s2
  have h2 : SqT X.K H a vs := Same.seqT (s1.trans s2) h
  have h3 : SqT X.K H b ws := Same.seqT (s1.trans s2) h'
  refine ⟨fun d e => ?_, fun e => ⟨vs, ws, h2, h3, by rw [r.length, r'.length]; simp [zipD] at e; omega⟩⟩
  obtain ⟨x, y, e1, e2, rfl⟩ := zipD_get e
  obtain ⟨v, f1, f2⟩ := r.get e1
  obtain ⟨w, f3, f4⟩ := r'.get e2
  refine ⟨⟨vs, ws, v, w, h2, h3, f1, f3⟩, fun x H' y => .inr ?_⟩
  obtain ⟨T, z1, z2, rfl, n, rfl, y1, y2⟩ := y
  have k1 := y1 vs h2
  rw [f1] at k1; cases k1
  have k2 := y2 ws h3
  rw [f3] at k2; cases k2
  exact ⟨T, _, _, n, rfl, rfl, rfl, .cons (Is.mono s1 f2) (.cons (Is.mono s1 f4) .nil)⟩
theorem j_seq {tg e : Expr} {a : Ex} (ha : PE X e (tE X W (evE a))) : PI X tg e (tJ X W (evI (.seq a))) := by
  refine ⟨fun pins s σ H Rj I ⟨H₀, F, env, Rp, q⟩ => ?_⟩
  unfold evI at q
  cases e1 : evE a env with
  | ok p =>
    obtain ⟨d, e2⟩ := p
    rw [e1] at q
    simp only [R.bind_ok] at q
    have bad : RP X W H₀ F σ (match seqD d with | some l => R.ok (l, e2) | none => .bad) (JPost X H₀ F σ Rj) → seqD d ≠ none := fun z w => by rw [w] at z; exact z
    cases d <;> first | exact (bad q rfl).elim | skip
    · refine (pi_tup ha).run pins s σ H Rj I ⟨H₀, F, env, Rp, ?_⟩
      rw [e1]
      intro F' H' v g R' is
      obtain ⟨p, vs, rfl, h, r⟩ := Is.inv_tup is
      exact ⟨p, rfl, ⟨vs, Same.seqT R'.hf h⟩, q F' H' _ g R' (feeds_t h r)⟩
    · refine (pi_list ha).run pins s σ H Rj I ⟨H₀, F, env, Rp, ?_⟩
      rw [e1]
      intro F' H' v g R' is
      obtain ⟨p, vs, rfl, h, r⟩ := Is.inv_lst is
      exact ⟨p, rfl, ⟨vs, .inl (Same.rd R'.hf h)⟩, q F' H' _ g R' (feeds_l (.inl h) r)⟩
    · refine (pi_list ha).run pins s σ H Rj I ⟨H₀, F, env, Rp, ?_⟩
      rw [e1]
      intro F' H' v g R' is
      cases is with
      | ro h r => exact ⟨_, rfl, ⟨_, L2.Same.seq R'.hf h⟩, q F' H' _ g R' (feeds_l h r)⟩
  | exc x e2 => rw [e1] at q; exact (pi_list ha).run pins s σ H Rj I ⟨H₀, F, env, Rp, by rw [e1]; exact q⟩
  | bad => rw [e1] at q; exact q.elim
theorem one_of {es : List Expr} {m : Nat} (h : decide (es.length = 1) = true) : ∃ e, es = [e] := by
  match es, of_decide_eq_true h with
  | [e], _ => exact ⟨e, rfl⟩
theorem two_of {es : List Expr} (h : decide (es.length = 2) = true) : ∃ e e2, es = [e, e2] := by
  match es, of_decide_eq_true h with
  | [e, e2], _ => exact ⟨e, e2, rfl⟩
theorem rng_ok {lo m : Int} {H₀ F : Hp} {σ : L2.St} {ok : List D → Prop} (h : RP X W H₀ F σ (rngD lo m) ok) : (-(2 ^ 62) ≤ lo ∧ lo < 2 ^ 62 ∧ -(2 ^ 62) ≤ m ∧ m < 2 ^ 62) ∧ ok ((List.range (m - lo).toNat).map fun (k : Nat) => D.int (lo + (k : Int))) := by
  unfold rngD at h
  split at h
  · next c =>
    simp only [Bool.and_eq_true, decide_eq_true_eq] at c
    exact ⟨⟨c.1.1.1, c.1.1.2, c.1.2, c.2⟩, h⟩
  · exact h.elim
theorem rngOf_one {s : Sl} {H₀ F : Hp} {σ : L2.St} {ok : List D → Prop} (h : RP X W H₀ F σ (rngOf [s]) ok) : ∃ m, s = .val (.int m) ∧ RP X W H₀ F σ (rngD 0 m) ok := by
  unfold rngOf at h
  split at h
  · next e => cases e; exact ⟨_, rfl, h⟩
  · next e => cases e
  · exact h.elim
theorem rngOf_two {s u : Sl} {H₀ F : Hp} {σ : L2.St} {ok : List D → Prop} (h : RP X W H₀ F σ (rngOf [s, u]) ok) : ∃ l m, s = .val (.int l) ∧ u = .val (.int m) ∧ RP X W H₀ F σ (rngD l m) ok := by
  unfold rngOf at h
  split at h
  · next e => cases e
  · next e => cases e; exact ⟨_, _, rfl, rfl, h⟩
  · exact h.elim
theorem pds_one {env : En} {p : Pd} {l : List Sl} (h : pds env [p] = some l) : ∃ s, l = [s] ∧ p.sl env = some s := by
  simp only [pds] at h
  split at h
  · next s l' a b => cases h; cases b; exact ⟨s, rfl, a⟩
  · cases h
theorem pds_two {env : En} {p p' : Pd} {l : List Sl} (h : pds env [p, p'] = some l) : ∃ s s', l = [s, s'] ∧ p.sl env = some s ∧ p'.sl env = some s' := by
  rw [pds] at h
  split at h
  · next s l' a b =>
    cases h
    obtain ⟨s', rfl, e⟩ := pds_one b
    exact ⟨s, s', rfl, a, e⟩
  · cases h
theorem j_rng1 (t : Xt X n W) {tg e : Expr} {a : Ex} {f : Str} {p pos : Pos} (hf : f = "range") (hg : glB X.env.scope f = true) (hs : notStar e = true) (ha : PE X e (tO X W (evOp a))) :
    PI X tg (.Call (.Name f p) [e] [] pos) (tJ X W (evI (.rng (.cons a .nil)))) := by
  obtain ⟨g1, g2⟩ := gl_of hg rfl
  subst hf
  refine ⟨fun pins s σ H Rj I ⟨H₀, F, env, Rp, q⟩ => ?_⟩
  unfold evI at q
  rw [evA_cons] at q
  refine (pi_range1 g1 (t.free _ (by decide)) (pa_cons ha pa_nil (star_cons hs)) (star_cons hs)).run pins s σ H Rj I ⟨H₀, F, env, Rp, (RP.bind (RP.bind q)).mono fun p hp F' H' v g R' is => ?_⟩
  replace hp : RP X W H₀ F σ (match pds p.2 [p.1] with | some l => R.bind (rngOf l) fun l => R.ok (l, p.2) | none => .bad) (JPost X H₀ F σ Rj) := hp
  split at hp
  · next l e2 =>
    obtain ⟨s1, rfl, e3⟩ := pds_one e2
    obtain ⟨m, rfl, h⟩ := rngOf_one (RP.bind hp)
    cases Is.inv_int (is.arg R' e3)
    obtain ⟨b, h⟩ := rng_ok h
    refine ⟨_, rfl, b.2.2.1, b.2.2.2, ?_⟩
    have h' := h F' H' _ g R' (feeds_r (X := X))
    simpa using h'
  · exact hp.elim
theorem j_rng2 (t : Xt X n W) {tg e e' : Expr} {a a' : Ex} {f : Str} {p pos : Pos} (hf : f = "range") (hg : glB X.env.scope f = true) (hs : notStar e = true) (hs' : notStar e' = true) (ha : PE X e (tO X W (evOp a))) (ha' : PE X e' (tO X W (evOp a'))) :
    PI X tg (.Call (.Name f p) [e, e'] [] pos) (tJ X W (evI (.rng (.cons a (.cons a' .nil))))) := by
  obtain ⟨g1, g2⟩ := gl_of hg rfl
  subst hf
  refine ⟨fun pins s σ H Rj I ⟨H₀, F, env, Rp, q⟩ => ?_⟩
  unfold evI at q
  rw [evA_cons] at q
  have st2 : starEach [e'] X.env = [(false, eval e' X.env)] := star_cons hs'
  refine (pi_range2 g1 (t.free _ (by decide)) (pa_cons ha (pa_cons ha' pa_nil st2) (star_cons hs)) (by rw [star_cons hs, st2]) st2).run pins s σ H Rj I ⟨H₀, F, env, Rp, (RP.bind (RP.bind q)).mono fun p hp F1 H1 v g1 R1 is1 => ?_⟩
  rw [evA_cons] at hp
  refine ⟨H₀, F1, p.2, R1, ((RP.bind (RP.bind hp)).grow g1).mono fun p' hp' F2 H2 v' g2 R2 is2 => ?_⟩
  replace hp' : RP X W H₀ F σ (match pds p'.2 [p.1, p'.1] with | some l => R.bind (rngOf l) fun l => R.ok (l, p'.2) | none => .bad) (JPost X H₀ F σ Rj) := hp'
  split at hp'
  · next l e2 =>
    obtain ⟨s1, s2, rfl, e3, e4⟩ := pds_two e2
    obtain ⟨l, m, rfl, rfl, h⟩ := rngOf_two (RP.bind hp')
    cases Is.inv_int ((is1.mono g2.1).arg R2 e3)
    cases Is.inv_int (is2.arg R2 e4)
    obtain ⟨b, h⟩ := rng_ok h
    exact ⟨_, _, rfl, b, h F2 H2 _ (g1.trans g2) R2 (feeds_r (X := X))⟩
  · exact hp'.elim
theorem j_enum (t : Xt X n W) {e : Expr} {a : Ex} {f : Str} {elts : List Expr} {kk : Nat} {tpos p pos : Pos} (hf : f = "enumerate") (hg : glB X.env.scope f = true) (hs : notStar e = true) (ha : PE X e (tO X W (evOp a))) :
    PI X (.Tuple elts kk tpos) (.Call (.Name f p) [e] [] pos) (tJ X W (evI (.enum (.cons a .nil)))) := by
  obtain ⟨g1, g2⟩ := gl_of hg rfl
  subst hf
  refine ⟨fun pins s σ H Rj I ⟨H₀, F, env, Rp, q⟩ => ?_⟩
  unfold evI at q
  rw [evA_cons] at q
  refine (pi_enum g1 (t.free _ (by decide)) (pa_cons ha pa_nil (star_cons hs)) (star_cons hs)).run pins s σ H Rj I ⟨H₀, F, env, Rp, (RP.bind (RP.bind q)).mono fun p hp F' H' v g R' is => ?_⟩
  replace hp : RP X W H₀ F σ (match pds p.2 [p.1] with | some l => R.bind (enumOf l) fun l => R.ok (l, p.2) | none => .bad) (JPost X H₀ F σ Rj) := hp
  split at hp
  · next l e2 =>
    obtain ⟨s1, rfl, e3⟩ := pds_one e2
    have h := RP.bind hp
    unfold enumOf at h
    split at h
    · next q1 =>
      cases q1
      obtain ⟨pa, vs, rfl, h1, r⟩ := Is.inv_lst (is.arg R' e3)
      exact ⟨pa, vs, rfl, .inl (Same.rd R'.hf h1), h F' H' _ g R' (feeds_e (.inl h1) r)⟩
    · exact h.elim
  · exact hp.elim
theorem j_zip (t : Xt X n W) {e e' : Expr} {a a' : Ex} {f : Str} {elts : List Expr} {kk : Nat} {tpos p pos : Pos} (hf : f = "zip") (hg : glB X.env.scope f = true) (hs : notStar e = true) (hs' : notStar e' = true) (ha : PE X e (tO X W (evOp a))) (ha' : PE X e' (tO X W (evOp a'))) :
    PI X (.Tuple elts kk tpos) (.Call (.Name f p) [e, e'] [] pos) (tJ X W (evI (.zip (.cons a (.cons a' .nil))))) := by
  obtain ⟨g1, g2⟩ := gl_of hg rfl
  subst hf
  refine ⟨fun pins s σ H Rj I ⟨H₀, F, env, Rp, q⟩ => ?_⟩
  unfold evI at q
  rw [evA_cons] at q
  have st2 : starEach [e'] X.env = [(false, eval e' X.env)] := star_cons hs'
  refine (RZ.pi_zipA g1 (t.free _ (by decide)) (pa_cons ha (pa_cons ha' pa_nil st2) (star_cons hs)) (star_cons hs) (stars_plain (es := [e']) (by simp [noStars, hs']))).run pins s σ H Rj I ⟨H₀, F, env, Rp, (RP.bind (RP.bind q)).mono fun p hp F1 H1 v g1 R1 is1 => ?_⟩
  rw [evA_cons] at hp
  refine ⟨H₀, F1, p.2, R1, ((RP.bind (RP.bind hp)).grow g1).mono fun p' hp' F2 H2 v' g2 R2 is2 => ?_⟩
  replace hp' : RP X W H₀ F σ (match pds p'.2 [p.1, p'.1] with | some l => R.bind (zipOf l) fun l => R.ok (l, p'.2) | none => .bad) (JPost X H₀ F σ Rj) := hp'
  split at hp'
  · next l e2 =>
    obtain ⟨s1, s2, rfl, e3, e4⟩ := pds_two e2
    have h := RP.bind hp'
    have i1 := (is1.mono g2.1).arg R2 e3
    have i2 := is2.arg R2 e4
    unfold zipOf at h
    split at h
    · next q1 =>
      cases q1
      obtain ⟨pa, vs, rfl, h1, r⟩ := Is.inv_lst i1
      obtain ⟨pb, ws, rfl, h2, r2⟩ := Is.inv_lst i2
      exact ⟨pa, pb, vs, ws, rfl, .inl ⟨.inl (Same.rd R2.hf h1), .inl (Same.rd R2.hf h2), h F2 H2 _ (g1.trans g2) R2 (feeds_z (.inl h1) (.inl h2) r r2)⟩⟩
    · next q1 =>
      cases q1
      obtain ⟨pa, vs, rfl, h1, r⟩ := Is.inv_tup i1
      obtain ⟨pb, ws, rfl, h2, r2⟩ := Is.inv_tup i2
      exact ⟨pa, pb, vs, ws, rfl, .inr ⟨Same.seqT R2.hf h1, Same.seqT R2.hf h2, h F2 H2 _ (g1.trans g2) R2 (feeds_zT h1 h2 r r2)⟩⟩
    · exact h.elim
  · exact hp'.elim
end
end Ev
set_option Elab.async false
set_option linter.all false
set_option maxRecDepth 100000
set_option maxHeartbeats 1000000
namespace Ev
open PySem PySem.Spec PyProof.Rows L2

/-! ### targets -/
theorem wipe_set {σ : L2.St} {i : Nat} {x : Option V} : ∀ {vs : List Nat}, i ∈ vs → wipe (σ.set i x) vs = wipe σ vs
  | [], h => by simp at h
  | v :: vs, h => by
    unfold wipe
    by_cases q : i ∈ vs
    · rw [wipe_set q]
    · have : i = v := by
        rcases List.mem_cons.mp h with e | e
        · exact e
        · exact absurd e q
      subst this
      have key : ∀ (vs : List Nat) (σ : L2.St), i ∉ vs → (wipe (σ.set i x) vs).set i none = (wipe σ vs).set i none := by
        intro vs
        induction vs with
        | nil => intro σ _; simp [wipe]
        | cons w ws ih =>
          intro σ hw
          rw [List.mem_cons, not_or] at hw
          unfold wipe
          rw [List.set_comm _ _ (Ne.symm hw.1), ih σ hw.2, List.set_comm _ _ hw.1]
      exact key vs σ q
def tTg (X : Cx) (tg : Tgt) : TG := fun v σ H Q => ∃ H₀ F env d env', Rep X.K (mX X) H₀ F env σ H ∧ Is X.K (mX X) F v d ∧ setT tg d env = some env' ∧
  ∀ σ', Rep X.K (mX X) H₀ F env' σ' H → (∀ vs, inT vs tg = true → wipe σ' vs = wipe σ vs) → Q σ' H
def tTgs (X : Cx) (ts : Tgts) : TGs := fun us σ H Q => ∃ H₀ F env ds env', Rep X.K (mX X) H₀ F env σ H ∧ IsAll X.K (mX X) F us ds ∧ setTs ts ds env = some env' ∧
  ∀ σ', Rep X.K (mX X) H₀ F env' σ' H → (∀ vs, inTs vs ts = true → wipe σ' vs = wipe σ vs) → Q σ' H
theorem PG.imp {X : Cx} {e : Expr} {t t' : TG} (h : PG X e t) (hi : ∀ v σ H Q, t' v σ H Q → t v σ H Q) : PG X e t' := ⟨fun pins s σ H v u Q I r q => h.run pins s σ H v u Q I r (hi _ _ _ _ q)⟩
theorem PGs.imp {X : Cx} {e : List Expr} {t t' : TGs} (h : PGs X e t) (hi : ∀ v σ H Q, t' v σ H Q → t v σ H Q) : PGs X e t' := ⟨fun pins s σ H v u Q I r q => h.run pins s σ H v u Q I r (hi _ _ _ _ q)⟩
theorem loc_of {N : List Str} {sc : Scope} {i : Nat} {x : Str} (h : locB N sc i x = true) : N[i]? = some x ∧ Loc sc x := by
  unfold locB at h
  simp only [Bool.and_eq_true, Bool.or_eq_true, decide_eq_true_eq] at h
  exact h
/-- the names that may be stored -/
def LocOk (X : Cx) (sc : Scope) : Prop := ∀ x, Loc sc x → Loc X.env.scope x ∧ (X.fn x = true ∨ X.env.scope.names.lookup x = some .local)
def noTS : List Expr → Bool
  | [] => true
  | .Starred _ _ :: _ => false
  | _ :: es => noTS es
theorem okTs_ns {N : List Str} {sc : Scope} : ∀ {ts : Tgts} {es : List Expr}, okTs N sc ts es = true → noTS es = true
  | .nil, [], _ => rfl
  | .nil, _ :: _, h => by simp [okTs] at h
  | .cons _ _, [], h => by simp [okTs] at h
  | .cons t ts, e :: es, h => by
    simp only [okTs, Bool.and_eq_true] at h
    have r := okTs_ns h.2
    cases e <;> first | exact r | (cases t <;> simp [okT] at h)
theorem assign_cons {env : Env} {e : Expr} {es : List Expr} (h : noTS (e :: es) = true) : assignEach (e :: es) env = (false, assign e env) :: assignEach es env := by
  cases e <;> first | rfl | (simp [noTS] at h)
theorem assign_plain {env : Env} : ∀ {es : List Expr}, noTS es = true → (assignEach es env).length = es.length ∧ (assignEach es env).findIdx? (·.1) = none
  | [], _ => ⟨rfl, rfl⟩
  | e :: es, h => by
    have h' : noTS es = true := by cases e <;> first | exact h | (simp [noTS] at h)
    have r := assign_plain (env := env) h'
    have e1 : assignEach (e :: es) env = (false, assign e env) :: assignEach es env := by cases e <;> first | rfl | (simp [noTS] at h)
    rw [e1]
    refine ⟨by rw [List.length_cons, List.length_cons, r.1], ?_⟩
    rw [List.findIdx?_cons, r.2]
    rfl
def Tgts.len : Tgts → Nat
  | .nil => 0
  | .cons _ ts => ts.len + 1
theorem okTs_len {N : List Str} {sc : Scope} : ∀ {ts : Tgts} {es : List Expr}, okTs N sc ts es = true → es.length = ts.len
  | .nil, [], _ => rfl
  | .nil, _ :: _, h => by simp [okTs] at h
  | .cons _ _, [], h => by simp [okTs] at h
  | .cons t ts, e :: es, h => by
    simp only [okTs, Bool.and_eq_true] at h
    rw [List.length_cons, okTs_len h.2, Tgts.len]
theorem setTs_len : ∀ {ts : Tgts} {ds : List D} {e e' : En}, setTs ts ds e = some e' → ds.length = ts.len
  | .nil, [], _, _, _ => rfl
  | .nil, _ :: _, _, _, h => by simp [setTs] at h
  | .cons _ _, [], _, _, h => by simp [setTs] at h
  | .cons t ts, d :: ds, e, e', h => by
    simp only [setTs] at h
    split at h
    · rw [List.length_cons, setTs_len h, Tgts.len]
    · cases h
mutual
theorem sndT {X : Cx} {W : WX} {n : Nat} (t : Xt X n W) (hc : X.calm = true) {sc : Scope} (hl : LocOk X sc) : ∀ (tg : Tgt) (e : Expr), okT X.N sc tg e = true → PG X e (tTg X tg)
  | .nm i x, .Name y pos, h => by
    simp only [okT, Bool.and_eq_true, decide_eq_true_eq] at h
    obtain ⟨rfl, h2⟩ := h
    obtain ⟨h3, h4⟩ := loc_of h2
    refine PG.imp (pg_name t.nd h3 (hl x h4).1 (hl x h4).2) fun v σ H Q ⟨H₀, F, env, d, env', Rp, is, e, q⟩ => ?_
    simp only [setT, Option.some.injEq] at e
    subst e
    exact q _ (Rp.setVal is) fun vs hv => wipe_set (of_decide_eq_true hv)
  | .tup ts, .Tuple es k pos, h => by
    have h' : okTs X.N sc ts es = true := by simpa [okT] using h
    have ap := assign_plain (env := X.env) (okTs_ns h')
    refine PG.imp (pg_tup hc (sndTs t hc hl ts es h') ap.1 ap.2) fun v σ H Q ⟨H₀, F, env, d, env', Rp, is, e, q⟩ => ?_
    cases d <;> simp only [setT, reduceCtorEq] at e
    obtain ⟨a, vs, rfl, g, r⟩ := Is.inv_tup is
    exact ⟨a, vs, rfl, Same.seqT Rp.hf g, by rw [r.length, setTs_len e, okTs_len h'], H₀, F, env, _, env', Rp, r, e, fun σ' R' w => q σ' R' fun vs hv => w vs hv⟩
  | .nm _ _, .BoolOp .., h | .nm _ _, .NamedExpr .., h | .nm _ _, .BinOp .., h | .nm _ _, .UnaryOp .., h | .nm _ _, .Lambda .., h | .nm _ _, .IfExp .., h | .nm _ _, .Dict .., h | .nm _ _, .Set .., h | .nm _ _, .ListComp .., h
  | .nm _ _, .SetComp .., h | .nm _ _, .DictComp .., h | .nm _ _, .GeneratorExp .., h | .nm _ _, .Await .., h | .nm _ _, .Yield .., h | .nm _ _, .YieldFrom .., h | .nm _ _, .Compare .., h | .nm _ _, .Call .., h | .nm _ _, .FormattedValue .., h
  | .nm _ _, .JoinedStr .., h | .nm _ _, .Constant .., h | .nm _ _, .Attribute .., h | .nm _ _, .Subscript .., h | .nm _ _, .Starred .., h | .nm _ _, .List .., h | .nm _ _, .Tuple .., h | .nm _ _, .Slice .., h => by simp [okT] at h
  | .tup _, .BoolOp .., h | .tup _, .NamedExpr .., h | .tup _, .BinOp .., h | .tup _, .UnaryOp .., h | .tup _, .Lambda .., h | .tup _, .IfExp .., h | .tup _, .Dict .., h | .tup _, .Set .., h | .tup _, .ListComp .., h
  | .tup _, .SetComp .., h | .tup _, .DictComp .., h | .tup _, .GeneratorExp .., h | .tup _, .Await .., h | .tup _, .Yield .., h | .tup _, .YieldFrom .., h | .tup _, .Compare .., h | .tup _, .Call .., h | .tup _, .FormattedValue .., h
  | .tup _, .JoinedStr .., h | .tup _, .Constant .., h | .tup _, .Attribute .., h | .tup _, .Subscript .., h | .tup _, .Starred .., h | .tup _, .Name .., h | .tup _, .List .., h | .tup _, .Slice .., h => by simp [okT] at h
theorem sndTs {X : Cx} {W : WX} {n : Nat} (t : Xt X n W) (hc : X.calm = true) {sc : Scope} (hl : LocOk X sc) : ∀ (ts : Tgts) (es : List Expr), okTs X.N sc ts es = true → PGs X es (tTgs X ts)
  | .nil, [], _ => PGs.imp pgs_nil fun vs σ H Q ⟨H₀, F, env, ds, env', Rp, is, e, q⟩ => by
    cases ds <;> simp only [setTs, Option.some.injEq, reduceCtorEq] at e
    subst e
    cases is
    exact ⟨rfl, q σ Rp fun _ _ => rfl⟩
  | .nil, _ :: _, h => by simp [okTs] at h
  | .cons _ _, [], h => by simp [okTs] at h
  | .cons tg ts, e :: es, h => by
    have hns := okTs_ns h
    simp only [okTs, Bool.and_eq_true] at h
    refine PGs.imp (pgs_cons (sndT t hc hl tg e h.1) (sndTs t hc hl ts es h.2) (by rw [assign_cons hns]; rfl)) fun vs σ H Q ⟨H₀, F, env, ds, env', Rp, is, eq, q⟩ => ?_
    cases ds with
    | nil => simp [setTs] at eq
    | cons d ds =>
      simp only [setTs] at eq
      split at eq
      · next e1 q1 =>
        cases is with
        | cons i r =>
          refine ⟨_, _, rfl, H₀, F, env, d, e1, Rp, i, q1, fun σ1 R1 w1 => ⟨H₀, F, e1, ds, env', R1, r, eq, fun σ2 R2 w2 => q σ2 R2 fun vs hv => ?_⟩⟩
          simp only [inTs, Bool.and_eq_true] at hv
          rw [w2 vs hv.2, w1 vs hv.1]
      · cases eq
end
end Ev
set_option Elab.async false
set_option linter.all false
set_option maxRecDepth 100000
set_option maxHeartbeats 1000000
namespace Ev
open PySem PySem.Spec PyProof.Rows L2

section
variable {K : PySem.W.Frag} {mg : Mg} {H₀ F F' H H' : Hp} {σ : L2.St} {env : En}
theorem lk_lend (env : En) (i : Nat) : lk (lend env) i = (lk env i).map Sl.lend := by
  rw [lk_eq, lk_eq]
  unfold lend
  rw [List.getElem?_map]
  cases env[i]? with
  | none => rfl
  | some o => rfl
open Classical in
/-- what must stay while lists of one's own are lent -/
noncomputable def hold (H₀ H : Hp) (env : En) (σ : L2.St) : Hp := fun b => match H₀ b with
  | some o => some o
  | none => if ∃ i ds, lk env i = some (.own ds) ∧ σ[i]? = some (some (.ref b)) then H b else none
theorem hold_same : Same H₀ (hold H₀ H env σ) := fun b o e => by unfold hold; rw [e]
theorem hold_own (R : Rep K mg H₀ F env σ H) {i : Nat} {ds : List D} {p : Addr} (e : lk env i = some (.own ds)) (h : σ[i]? = some (some (.ref p))) : hold H₀ H env σ p = H p := by
  obtain ⟨v, h1, p', vs, rfl, z, _, _, _⟩ := R.sl i _ e
  rw [h] at h1; cases h1
  unfold hold
  rw [z]
  dsimp only
  split
  · rfl
  · next q => exact (q ⟨i, ds, e, h⟩).elim
theorem hold_none (R : Rep K mg H₀ F env σ H) {b : Addr} (n : H b = none) : hold H₀ H env σ b = none := by
  unfold hold
  rw [R.h0.free n]
  dsimp only
  split
  · exact n
  · rfl
theorem Rep.lent (R : Rep K mg H₀ F env σ H) : Rep K mg (hold H₀ H env σ) F (lend env) σ H := by
  refine ⟨⟨fun b o e => ?_, R.h0.2.1.ext hold_same, R.h0.2.2⟩, R.hf, by unfold lend; rw [List.length_map]; exact R.len, fun i s e => ?_, R.nt, fun i j ds es p a b c d => ?_⟩
  · unfold hold at e
    split at e
    · next o' q => cases e; exact R.h0.1 _ _ q
    · split at e
      · exact .inl e
      · cases e
  · rw [lk_lend] at e
    cases q : lk env i with
    | none => rw [q] at e; cases e
    | some s0 =>
      rw [q] at e
      cases e
      obtain ⟨v, h1, h2⟩ := R.sl i _ q
      refine ⟨v, h1, ?_⟩
      cases s0 with
      | val d => exact h2
      | own ds =>
        obtain ⟨p, vs, rfl, a, b, c, d⟩ := h2
        exact ⟨p, vs, rfl, Rd.of (by rw [hold_own R q h1]; exact c), d⟩
      | bor ds =>
        obtain ⟨p, vs, rfl, a, d⟩ := h2
        exact ⟨p, vs, rfl, Same.rd hold_same a, d⟩
  · rw [lk_lend] at a
    cases q : lk env i with
    | none => rw [q] at a; cases a
    | some s0 =>
      rw [q] at a
      cases s0 <;> cases a
/-- no list of one's own -/
def NoOwn (env : En) : Prop := ∀ i ds, lk env i ≠ some (.own ds)
theorem noOwn_lend (env : En) : NoOwn (lend env) := fun i ds e => by
  rw [lk_lend] at e
  cases q : lk env i with
  | none => rw [q] at e; cases e
  | some s0 => rw [q] at e; cases s0 <;> cases e
theorem lk_wipe : ∀ (vs : List Nat) (env : En) (i : Nat) (s : Sl), lk (wipeE env vs) i = some s → lk env i = some s
  | [], _, _, _, h => h
  | v :: vs, env, i, s, h => by
    unfold wipeE at h
    by_cases q : v < (wipeE env vs).length
    · rw [lk_sv q] at h
      split at h
      · cases h
      · exact lk_wipe vs env i s h
    · rw [sv_eq, List.set_eq_of_length_le (by omega)] at h
      exact lk_wipe vs env i s h
theorem noOwn_wipe {env : En} (h : NoOwn env) (vs : List Nat) : NoOwn (wipeE env vs) := fun i ds e => h i ds (lk_wipe vs env i _ e)
theorem wipeE_length (e : En) : ∀ vs : List Nat, (wipeE e vs).length = e.length
  | [] => rfl
  | v :: vs => by unfold wipeE; rw [sv_length, wipeE_length e vs]
theorem lk_wipe_not : ∀ (vs : List Nat) (env : En) (i : Nat) (s : Sl), lk (wipeE env vs) i = some s → i ∉ vs
  | [], _, _, _, _ => by simp
  | v :: vs, env, i, s, h => by
    have hlt := lk_lt h
    rw [wipeE_length] at hlt
    unfold wipeE at h
    by_cases q : v < (wipeE env vs).length
    · rw [lk_sv q] at h
      split at h
      · cases h
      · next z => rw [List.mem_cons, not_or]; exact ⟨z, lk_wipe_not vs env i s h⟩
    · rw [wipeE_length] at q
      rw [sv_eq, List.set_eq_of_length_le (by rw [wipeE_length]; omega)] at h
      rw [List.mem_cons, not_or]
      exact ⟨fun z => q (z ▸ hlt), lk_wipe_not vs env i s h⟩
theorem wipe_get : ∀ (vs : List Nat) (σ : L2.St) (i : Nat), i ∉ vs → (wipe σ vs)[i]? = σ[i]?
  | [], _, _, _ => rfl
  | v :: vs, σ, i, h => by
    rw [List.mem_cons, not_or] at h
    unfold wipe
    rw [List.getElem?_set_ne (Ne.symm h.1)]
    exact wipe_get vs σ i h.2
theorem Rep.wiped (R : Rep K mg H₀ F env σ H) (vs : List Nat) : Rep K mg H₀ F (wipeE env vs) (wipe σ vs) H := by
  refine ⟨R.h0, R.hf, by rw [wipeE_length, wipe_length]; exact R.len, fun i s e => ?_, R.nt, fun i j ds es p a b c d => ?_⟩
  · rw [wipe_get vs σ i (lk_wipe_not vs env i s e)]
    exact R.sl i s (lk_wipe vs env i s e)
  · rw [wipe_get vs σ i (lk_wipe_not vs env i _ a)] at c
    rw [wipe_get vs σ j (lk_wipe_not vs env j _ b)] at d
    exact R.dis i j _ _ p (lk_wipe vs env i _ a) (lk_wipe vs env j _ b) c d
/-- without lists of one's own: any later state will do -/
theorem Rep.any {H₁ : Hp} (R : Rep K mg H₀ F env σ H) (no : NoOwn env) (s : Same F F') (f : Same F' H') (h : Sm K H₁ H') (u : Same H₀ H₁) (nt : NT K F') : Rep K mg H₁ F' env σ H' := by
  refine ⟨h, f, R.len, fun i sl e => ?_, nt, fun i j ds es p a b c d => (no i ds a).elim⟩
  obtain ⟨v, h1, h2⟩ := R.sl i sl e
  refine ⟨v, h1, ?_⟩
  cases sl with
  | val d => exact Is.mono s h2
  | own ds => exact (no i ds e).elim
  | bor ds =>
    obtain ⟨q, vs, rfl, a, d⟩ := h2
    exact ⟨q, vs, rfl, Same.rd u a, IsAll.mono s d⟩
/-- the lists come back -/
theorem Rep.back (R : Rep K mg H₀ F env σ H) (g : Grow (hold H₀ H env σ) F F') (f : Same F' H') (h : Sm K (hold H₀ H env σ) H') : Rep K mg H₀ F' env σ H' := by
  refine ⟨(Sm.of hold_same R.h0.2.1).trans h, f, R.len, fun i sl e => ?_, R.nt.grow g h.2.1, R.dis⟩
  obtain ⟨v, h1, h2⟩ := R.sl i sl e
  refine ⟨v, h1, ?_⟩
  cases sl with
  | val d => exact Is.mono g.1 h2
  | own ds =>
    obtain ⟨q, vs, rfl, a, b, c, d⟩ := h2
    have hq := hold_own R e h1
    rw [c] at hq
    exact ⟨q, vs, rfl, a, g.2 q (by rw [hq]; simp) b, h.at_ hq (fun _ z => by cases z), IsAll.mono g.1 d⟩
  | bor ds =>
    obtain ⟨q, vs, rfl, a, d⟩ := h2
    exact ⟨q, vs, rfl, a, IsAll.mono g.1 d⟩
end
theorem compD_cons {turn : D → R (Option D)} {x : D} {r : List D} {l : List D} (h : compD turn (x :: r) = .ok l) :
    ∃ o l', turn x = .ok o ∧ compD turn r = .ok l' ∧ l = (match o with | some d => d :: l' | none => l') := by
  unfold compD at h
  cases e : turn x with
  | ok o =>
    rw [e] at h
    simp only [R.bind_ok] at h
    cases e2 : compD turn r with
    | ok l' =>
      rw [e2] at h
      simp only [R.bind_ok] at h
      refine ⟨o, l', rfl, rfl, ?_⟩
      cases o with
      | some d => cases h; rfl
      | none => cases h; rfl
    | exc x e => rw [e2] at h; cases h
    | bad => rw [e2] at h; cases h
  | exc x e => rw [e] at h; cases h
  | bad => rw [e] at h; cases h
abbrev blkX (X : Cx) (s : Shared) (H : Hp) (scope : Scope) (C : Addr) (cl : List (Str × Addr)) (fp : List Addr) : Cx := X.blk s H scope (compEnvC scope cl C X.env) fp
def W0 : WX := fun _ _ _ _ => False
section
variable {X : Cx} {W : WX} {n : Nat}
theorem xt_blk (t : Xt X n W) (hc : X.calm = true) (s : Shared) (H : Hp) (scope : Scope) (C : Addr) (cl : List (Str × Addr)) (fp : List Addr) : Xt (blkX X s H scope C cl fp) n W0 :=
  ⟨t.nd, takes0, PassesOwn.never, t.room, t.roomH, fun z => Bool.noConfusion (hc.symm.trans z), t.dv, t.free, t.seer, t.lim, t.big, t.tree, t.code⟩
theorem mX_blk (hc : X.calm = true) {s : Shared} {H : Hp} {scope : Scope} {C : Addr} {cl : List (Str × Addr)} {fp : List Addr} : mX (blkX X s H scope C cl fp) = mX X := by
  rw [mX_cool hc, mX_cool (X := blkX X s H scope C cl fp) hc]
theorem tE_blk (hc : X.calm = true) {W' : WX} {f : En → R (D × En)} {s : Shared} {H : Hp} {scope : Scope} {C : Addr} {cl : List (Str × Addr)} {fp : List Addr} : tE (blkX X s H scope C cl fp) W' f = tE X W' f := by
  unfold tE tG RP VPost
  rw [mX_blk hc]
theorem tTg_blk (hc : X.calm = true) {tg : Tgt} {s : Shared} {H : Hp} {scope : Scope} {C : Addr} {cl : List (Str × Addr)} {fp : List Addr} : tTg (blkX X s H scope C cl fp) tg = tTg X tg := by
  unfold tTg
  rw [mX_blk hc]
theorem tB_blk (hc : X.calm = true) {W' : WX} {f : En → R (Bool × En)} {s : Shared} {H : Hp} {scope : Scope} {C : Addr} {cl : List (Str × Addr)} {fp : List Addr} : tB' (blkX X s H scope C cl fp) W' f = tB' X W' f := by
  unfold tB' RP TPost
  rw [mX_blk hc]
theorem relabel_cell {env : Env} : ∀ {names : List (Str × NameKind)} {x : Str}, names.lookup x = some .cell →
    (names.map fun (n, k) => if (k == NameKind.free && env.scope.kind == .function && env.kindOf n == some .cell) then (n, NameKind.cell) else (n, k)).lookup x = some .cell
  | [], _, h => by simp at h
  | (m, k) :: r, x, h => by
    have ih := @relabel_cell env r x
    show List.lookup x ((if (k == NameKind.free && env.scope.kind == .function && env.kindOf m == some .cell) = true then (m, NameKind.cell) else (m, k)) :: _) = _
    rw [List.lookup_cons] at h
    by_cases q : (x == m) = true
    · rw [q] at h
      have hk : k = .cell := by simpa using h
      subst hk
      rw [if_neg (by simp), List.lookup_cons, q]
    · have q' : (x == m) = false := by simpa using q
      rw [q'] at h
      split
      · rw [List.lookup_cons, q']; exact ih h
      · rw [List.lookup_cons, q']; exact ih h
theorem locOk_blk (s : Shared) (H : Hp) (scope : Scope) (C : Addr) (cl : List (Str × Addr)) (fp : List Addr) : LocOk (blkX X s H scope C cl fp) scope := fun x h => by
  rcases h with h | h
  · have e := lookup_relabel_local (env := X.env) h
    exact ⟨.inl e, .inr e⟩
  · have e := relabel_cell (env := X.env) h
    exact ⟨.inr e, .inl (beq_iff_eq.mpr h)⟩
/-- a comprehension's test and element, as a turn -/
def turnF (tg : Tgt) (e0 : En) (tst : En → R (Bool × En)) (elt : Ex) (x : D) : R (Option D) := match setT tg x e0 with
  | some e1 => R.bind (tst e1) fun b => if b.1 then R.bind (evE elt b.2) fun p => .ok (some p.1) else .ok none
  | none => .bad
def compF (own : List (Str × Nat)) (tg : Tgt) (it : Itr) (tst : En → R (Bool × En)) (elt : Ex) (e : En) : R (Sl × En) := R.bind (evI it e) fun q =>
  match compD (turnF tg (wipeE (lend q.2) (own.map (·.2))) tst elt) q.1 with
  | .ok l => if l.length ≤ lim then .ok (.own l, q.2) else .bad
  | _ => .bad
/-- the reading of a list comprehension -/
theorem comp_red {own : List (Str × Nat)} {tg : Tgt} {it : Itr} {tst : En → R (Bool × En)} {elt : Ex} {tt : TT} (hin : inT (own.map (·.2)) tg = true)
    (htt : ∀ σ H Q, (∃ H₀ F env, Rep X.K (mX X) H₀ F env σ H ∧ RP X W0 H₀ F σ (tst env) (TPost X H₀ F σ Q)) → tt σ H Q) {σ : L2.St} {H : Hp} {Q : VK} (h : tS X W (compF own tg it tst elt) σ H Q) :
    tLc (tJ X W (evI it)) (tTg X tg) tt (tE X W0 (evE elt)) (own.map (·.2)) σ H Q := by
  obtain ⟨H₀, F, env, Rp, h⟩ := h
  unfold compF at h
  refine ⟨H₀, F, env, Rp, (RP.bind h).mono fun q hq F1 H1 J g1 R1 fd => ?_⟩
  intro D nD
  generalize hvs : own.map (·.2) = vs at *
  cases ec : compD (turnF tg (wipeE (lend q.2) vs) tst elt) q.1 with
  | exc x e => rw [ec] at hq; exact hq.elim
  | bad => rw [ec] at hq; exact hq.elim
  | ok total =>
    rw [ec] at hq
    replace hq : RP X W H₀ F σ (if total.length ≤ lim then R.ok (Sl.own total, q.2) else R.bad) (SPost X H₀ F σ Q) := hq
    split at hq
    case isFalse => exact hq.elim
    case isTrue hlim =>
    -- what stays through the walk
    have Rl : Rep X.K (mX X) (hold H₀ H1 q.2 σ) F1 (wipeE (lend q.2) vs) (wipe σ vs) H1 := R1.lent.wiped vs
    have no : NoOwn (wipeE (lend q.2) vs) := noOwn_wipe (noOwn_lend _) vs
    have zD : hold H₀ H1 q.2 σ D = none := hold_none R1 nD
    have fD : F1 D = none := R1.hf.free nD
    refine ⟨fun i m Hi => m = q.1.length - i ∧ i ≤ q.1.length ∧ ∃ Fi accV accD rest, Grow (hold H₀ H1 q.2 σ) F1 Fi ∧ Sm X.K (hold H₀ H1 q.2 σ) Hi ∧ Same Fi Hi ∧ Fi D = none ∧ Hi D = some (.lst accV) ∧ IsAll X.K (mX X) Fi accV accD ∧
        compD (turnF tg (wipeE (lend q.2) vs) tst elt) (q.1.drop i) = .ok rest ∧ accD ++ rest = total,
      ⟨q.1.length, by simp, Nat.zero_le _, F1, [], [], total, Grow.refl, Rl.h0.upd_ zD (.inl nD), fun b o e => ?_, fD, upd_same, .nil, by rw [List.drop_zero]; exact ec, rfl⟩, ?_⟩
    · rw [upd_ne (fun z => by subst z; rw [fD] at e; cases e)]; exact Rl.hf _ _ e
    · rintro i m Hi ⟨rfl, hi, Fi, accV, accD, rest, gi, h0, hf, fiD, hD, acc, hrest, htot⟩
      have fdi := fd i Fi Hi gi.1 hf
      by_cases hlt : i < q.1.length
      · right
        have hget : q.1[i]? = some q.1[i] := List.getElem?_eq_getElem hlt
        obtain ⟨go, yl⟩ := fdi.1 _ hget
        rw [List.drop_eq_getElem_cons hlt] at hrest
        obtain ⟨o, l', ht, hr', hl⟩ := compD_cons hrest
        refine ⟨go, fun H' => i + 1 ≤ q.1.length ∧ ∃ Fi accV accD rest, Grow (hold H₀ H1 q.2 σ) F1 Fi ∧ Sm X.K (hold H₀ H1 q.2 σ) H' ∧ Same Fi H' ∧ Fi D = none ∧ H' D = some (.lst accV) ∧ IsAll X.K (mX X) Fi accV accD ∧
            compD (turnF tg (wipeE (lend q.2) vs) tst elt) (q.1.drop (i + 1)) = .ok rest ∧ accD ++ rest = total, fun H' p => ⟨q.1.length - (i + 1), by omega, rfl, p⟩, fun x H' y => ?_⟩
        -- the item
        have item : ∃ F', Grow (upd (hold H₀ H1 q.2 σ) D (.lst accV)) Fi F' ∧ Same F' H' ∧ Sm X.K (upd (hold H₀ H1 q.2 σ) D (.lst accV)) H' ∧ Is X.K (mX X) F' x q.1[i] := by
          have h0D : Sm X.K (upd (hold H₀ H1 q.2 σ) D (.lst accV)) Hi := ⟨fun b ob e => by
            by_cases z : b = D
            · subst z; rw [upd_same] at e; cases e; exact .inl hD
            · rw [upd_ne z] at e; exact h0.1 _ _ e, h0.2.1.upd (.inl zD), h0.2.2⟩
          rcases yl x H' y with ⟨rfl, is⟩ | ⟨p, ws, ds, np, rfl, rfl, ed, is⟩
          · exact ⟨Fi, Grow.refl, hf, h0D, is⟩
          · have fp : Fi p = none := hf.free np
            have zp := h0D.free np
            have sF : Same Fi (upd Fi p (.tup ws)) := fun b ob e => by rw [upd_ne (ne_of_none e fp)]; exact e
            refine ⟨upd Fi p (.tup ws), ⟨sF, fun b hb n => by rw [upd_ne (fun z => by subst z; exact hb zp)]; exact n⟩, fun b ob e => ?_, h0D.ext fun b ob e => by rw [upd_ne (ne_of_none e np)]; exact e, by rw [ed]; exact .tup (SqT.of upd_same) (IsAll.mono sF is)⟩
            by_cases z : b = p
            · subst z; rw [upd_same] at e ⊢; exact e
            · rw [upd_ne z] at e; rw [upd_ne z]; exact hf _ _ e
        obtain ⟨F', gF, sF, sH, isx⟩ := item
        have up1 : Same (hold H₀ H1 q.2 σ) (upd (hold H₀ H1 q.2 σ) D (.lst accV)) := fun b ob e => by rw [upd_ne (fun z => by subst z; rw [zD] at e; cases e)]; exact e
        have Rt : Rep X.K (mX X) (upd (hold H₀ H1 q.2 σ) D (.lst accV)) F' (wipeE (lend q.2) vs) (wipe σ vs) H' := Rl.any no (gi.1.trans gF.1) sF sH up1 (Rl.nt.grow (gi.trans (gF.upS up1)) Rl.h0.2.1)
        have f'D : F' D = none := gF.2 D (by rw [upd_same]; simp) fiD
        unfold turnF at ht
        split at ht
        case h_2 => cases ht
        next e1 est =>
        refine ⟨_, F', _, _, e1, Rt, isx, est, fun σ2 R2 w2 => ⟨?_, ?_⟩⟩
        · have ww : ∀ (l : List Nat) (ρ : L2.St), wipe (wipe ρ l) l = wipe ρ l := by
            have step : ∀ (l l' : List Nat) (ρ : L2.St), (∀ v ∈ l', v ∈ l) → wipe (wipe ρ l') l = wipe ρ l := by
              intro l l'
              induction l' with
              | nil => intro ρ _; rfl
              | cons v r ih =>
                intro ρ hv
                show wipe ((wipe ρ r).set v none) l = wipe ρ l
                rw [wipe_set (hv v List.mem_cons_self)]
                exact ih ρ fun u hu => hv u (List.mem_cons_of_mem _ hu)
            exact fun l ρ => step l l ρ fun _ h => h
          rw [w2 vs hin, ww]
        · refine htt σ2 H' _ ⟨_, F', e1, R2, ?_⟩
          cases et : tst e1 with
          | exc x e => rw [et] at ht; cases ht
          | bad => rw [et] at ht; cases ht
          | ok b =>
            rw [et] at ht
            simp only [R.bind_ok] at ht
            intro F3 H3 g3 R3
            obtain ⟨bb, be⟩ := b
            have gall : Grow (hold H₀ H1 q.2 σ) F1 F3 := gi.trans ((gF.trans g3).upS up1)
            have f3D : F3 D = none := g3.2 D (by rw [upd_same]; simp) f'D
            have h3D : H3 D = some (.lst accV) := R3.h0.at_ upd_same (fun _ z => by cases z)
            cases bb with
            | false =>
              rw [if_neg Bool.false_ne_true]
              rw [if_neg Bool.false_ne_true] at ht
              cases ht
              replace hl : rest = l' := hl
              rw [hl] at htot
              exact ⟨by omega, F3, accV, accD, l', gall, (Sm.of up1 Rl.h0.2.1).trans R3.h0, R3.hf, f3D, h3D, IsAll.mono (gF.trans g3).1 acc, hr', htot⟩
            | true =>
              rw [if_pos rfl]
              rw [if_pos rfl] at ht
              refine ⟨_, F3, be, R3, ?_⟩
              cases ee : evE elt be with
              | exc x e => rw [ee] at ht; cases ht
              | bad => rw [ee] at ht; cases ht
              | ok p =>
                rw [ee] at ht
                cases ht
                intro F4 H4 y g4 R4 is4
                have h4D : H4 D = some (.lst accV) := R4.h0.at_ upd_same (fun _ z => by cases z)
                have f4D : F4 D = none := g4.2 D (by rw [upd_same]; simp) f3D
                have accLen : accV.length < sizeLine := by
                  have e1 := acc.length
                  have e2 : accD.length + l'.length + 1 ≤ lim := by
                    have := congrArg List.length htot
                    rw [List.length_append, hl, List.length_cons] at this
                    omega
                  have : lim < sizeLine := by decide
                  omega
                refine ⟨accV, h4D, accLen, by omega, F4, accV ++ [y], accD ++ [p.1], l', gall.trans (g4.upS up1), ((Sm.of up1 Rl.h0.2.1).trans R4.h0).upd_ zD (.inr ⟨_, h4D⟩), fun b ob e => ?_, f4D, upd_same, (IsAll.mono ((gF.trans g3).trans g4).1 acc).append (.cons is4 .nil), hr', by rw [List.append_assoc, ← htot, hl]; rfl⟩
                · rw [upd_ne (fun z => by subst z; rw [f4D] at e; cases e)]; exact R4.hf _ _ e
      · left
        have hge : q.1.length ≤ i := by omega
        refine ⟨fdi.2 hge, ?_⟩
        rw [List.drop_eq_nil_of_le hge] at hrest
        cases hrest
        rw [List.append_nil] at htot
        subst htot
        refine hq Fi Hi D accV (g1.trans (gi.upS hold_same)) (R1.back gi hf h0) (R1.h0.free nD) fiD hD acc fun j es ej hj => ?_
        obtain ⟨v, h1, p, ws, rfl, _, _, c, _⟩ := R1.sl j _ ej
        rw [hj] at h1; cases h1
        rw [nD] at c; cases c
end
end Ev
set_option Elab.async false
set_option linter.all false
set_option maxRecDepth 100000
set_option maxHeartbeats 2000000
namespace Ev
open PySem PySem.Spec PyProof.Rows L2

structure Both (X : Cx) (W : WX) (a : Ex) (e : Expr) : Prop where
  pe : PE X e (tE X W (evE a))
  ps : PE X e (tS X W (evO a))
  pt : tst a = true → PT X e (tB' X W (evB a))
  pw : tst a = true → ∀ op vs p, e = .BoolOp op vs p → PW X e (tB' X W (evB a))
section
variable {X : Cx} {W : WX} {n : Nat}
theorem evO_val {a : Ex} (h : ∀ env, evO a env = R.bind (evE a env) fun p => .ok (.val p.1, p.2)) {e : Expr} (pe : PE X e (tE X W (evE a))) : PE X e (tS X W (evO a)) := by
  refine PE.imp pe fun σ H Q ⟨H₀, F, env, Rp, q⟩ => ⟨H₀, F, env, Rp, ?_⟩
  rw [h] at q
  exact (RP.bind q).mono fun p hp => hp
theorem Both.leaf {a : Ex} {e : Expr} (hp : plainT e = true) (pe : PE X e (tE X W (evE a))) (ps : PE X e (tS X W (evO a))) : Both X W a e :=
  ⟨pe, ps, fun _ => t_plain pe (isTrue_plainT hp), fun _ op vs p z => by subst z; cases hp⟩
theorem op_of {a : Ex} {e : Expr} (hv : ∀ i x, a = .rd i x → ∃ pos, e = .Name x pos ∧ visB X.N X.env.scope i x = true) (pe : PE X e (tE X W (evE a))) : PE X e (tO X W (evOp a)) := by
  cases q : rdIx a with
  | none => exact tO_of q pe
  | some i =>
    cases a <;> simp only [rdIx, reduceCtorEq, Option.some.injEq] at q
    next j x =>
    obtain ⟨pos, rfl, hx⟩ := hv j x rfl
    exact l_rdO hx
theorem rd_shape {N : List Str} {sc : Scope} {a : Ex} {e : Expr} (h : okE N sc a e = true) : ∀ i x, a = .rd i x → ∃ pos, e = .Name x pos ∧ visB N sc i x = true := by
  intro i x z
  subst z
  cases e <;> simp only [okE, Bool.false_eq_true] at h
  simp only [Bool.and_eq_true, decide_eq_true_eq] at h
  obtain ⟨rfl, h⟩ := h
  exact ⟨_, rfl, h⟩
theorem Both.op {a : Ex} {e : Expr} (h : okE X.N X.env.scope a e = true) (b : Both X W a e) : PE X e (tO X W (evOp a)) := op_of (rd_shape h) b.pe
theorem okA_cons {N : List Str} {sc : Scope} {as : Exs} {e : Expr} {es : List Expr} (h : okA N sc as (e :: es) = true) : ∃ a as', as = .cons a as' ∧ notStar e = true ∧ okE N sc a e = true ∧ okA N sc as' es = true := by
  cases as with
  | nil => simp [okA] at h
  | cons a as' =>
    simp only [okA, Bool.and_eq_true] at h
    exact ⟨a, as', rfl, h.1.1, h.1.2, h.2⟩
theorem okA_nil {N : List Str} {sc : Scope} {as : Exs} (h : okA N sc as [] = true) : as = .nil := by
  cases as with
  | nil => rfl
  | cons a as' => simp [okA] at h
/-- the operands of an argument list -/
inductive Ops (X : Cx) (W : WX) : Exs → List Expr → Prop
  | nil : Ops X W .nil []
  | cons {a : Ex} {as : Exs} {e : Expr} {es : List Expr} : notStar e = true → PE X e (tO X W (evOp a)) → Ops X W as es → Ops X W (.cons a as) (e :: es)
theorem Ops.pa : ∀ {as : Exs} {es : List Expr}, Ops X W as es → PA X es (tA X W (evA as))
  | _, _, .nil => a_nil
  | _, _, .cons s p r => a_cons s p (Ops.pa r)
theorem Ops.one {as : Exs} {e : Expr} (h : Ops X W as [e]) : ∃ a, as = .cons a .nil ∧ notStar e = true ∧ PE X e (tO X W (evOp a)) := by
  cases h with | cons s p r => cases r; exact ⟨_, rfl, s, p⟩
theorem Ops.two {as : Exs} {e e' : Expr} (h : Ops X W as [e, e']) : ∃ a a', as = .cons a (.cons a' .nil) ∧ notStar e = true ∧ notStar e' = true ∧ PE X e (tO X W (evOp a)) ∧ PE X e' (tO X W (evOp a')) := by
  cases h with | cons s p r => cases r with | cons s' p' r => cases r; exact ⟨_, _, rfl, s, s', p, p'⟩
/-- operations -/
theorem b_prim (t : Xt X n W) {p : Prim} {as : Exs} {e : Expr} (g : goodP (gd X n) p) (h : okE X.N X.env.scope (.prim p as) e = true) (ops : ∀ es, okA X.N X.env.scope as es = true → Ops X W as es) : Both X W (.prim p as) e := by
  unfold okE at h
  split at h
  · next a op b pos =>
    simp only [Bool.and_eq_true, decide_eq_true_eq] at h
    obtain ⟨x, y, rfl, _, _, px, py⟩ := (ops _ h.2).two
    exact .leaf rfl (pe_bin kD t h.1 px py) (pe_bin kS t h.1 px py)
  · next a pos =>
    simp only [Bool.and_eq_true, decide_eq_true_eq] at h
    obtain ⟨rfl, h2⟩ := h
    obtain ⟨x, rfl, _, px⟩ := (ops _ h2).one
    exact .leaf rfl (l_neg kD rfl px) (l_neg kS rfl px)
  · next a op b pos =>
    simp only [Bool.and_eq_true, decide_eq_true_eq, Bool.not_eq_true'] at h
    obtain ⟨x, y, rfl, _, _, px, py⟩ := (ops _ h.2).two
    exact ⟨pe_comp kD t h.1.1 h.1.2 px py, pe_comp kS t h.1.1 h.1.2 px py, fun _ => pt_comp t h.1.1 h.1.2 px py, fun _ _ _ _ z => nomatch z⟩
  · next a b pos =>
    simp only [Bool.and_eq_true, decide_eq_true_eq] at h
    obtain ⟨⟨rfl, h2⟩, h3⟩ := h
    obtain ⟨x, y, rfl, _, _, px, py⟩ := (ops _ h3).two
    exact .leaf rfl (pe_sub' kD h2 px py) (pe_sub' kS h2 px py)
  · next es k pos =>
    simp only [Bool.and_eq_true, decide_eq_true_eq] at h
    obtain ⟨rfl, h2⟩ := h
    exact .leaf rfl (l_tup kD (ops _ h2).pa) (l_tup kS (ops _ h2).pa)
  · next es pos =>
    simp only [Bool.and_eq_true, decide_eq_true_eq] at h
    obtain ⟨rfl, h2⟩ := h
    exact .leaf rfl (l_lst kD (ops _ h2).pa) (l_lst kS (ops _ h2).pa)
  · next f p1 a es pos =>
    simp only [Bool.and_eq_true, decide_eq_true_eq] at h
    have st := okA_stars h.2
    exact .leaf rfl (l_blt kD t h.1.1 h.1.2 g st (ops _ h.2).pa) (l_blt kS t h.1.1 h.1.2 g st (ops _ h.2).pa)
  · cases h
/-- comprehensions -/
theorem bind_ok2 (e : En) : (fun p : D × En => R.ok ((Sl.val p.1, p.2) : Sl × En)) = (fun p => R.ok (Sl.val p.1, p.2)) := rfl
theorem compEnd_froz (r : R (List D)) (e : En) : compEnd r e = R.bind (match r with | .ok l => if l.length ≤ lim then .ok ((.own l, e) : Sl × En) else .bad | _ => .bad) frozR := by
  unfold compEnd
  cases r with
  | ok l => dsimp only; split <;> rfl
  | exc x e => rfl
  | bad => rfl
theorem compEnd_own (r : R (List D)) (e : En) : R.bind (compEnd r e) (fun p => match p.1 with | .lst ds => .ok ((.own ds, p.2) : Sl × En) | _ => .bad) = (match r with | .ok l => if l.length ≤ lim then .ok (.own l, e) else .bad | _ => .bad) := by
  unfold compEnd
  cases r with
  | ok l => dsimp only; split <;> rfl
  | exc x e => rfl
  | bad => rfl
def noTst (e : En) : R (Bool × En) := .ok (true, e)
theorem turn_no {tg : Tgt} {e0 : En} {elt : Ex} : turnF tg e0 noTst elt = fun x => match setT tg x e0 with
    | some e1 => R.bind (evE elt e1) fun p => .ok (some p.1)
    | none => .bad := by
  funext x
  unfold turnF noTst
  cases setT tg x e0 <;> rfl
theorem turn_if {tg : Tgt} {e0 : En} {c elt : Ex} : turnF tg e0 (evB c) elt = fun x => match setT tg x e0 with
    | some e1 => R.bind (evE c e1) fun p => R.bind (truthR p.1 p.2) fun b => if b.1 then R.bind (evE elt b.2) fun p => .ok (some p.1) else .ok none
    | none => .bad := by
  funext x
  unfold turnF evB
  cases setT tg x e0 with
  | none => rfl
  | some e1 =>
    dsimp only
    cases evE c e1 <;> rfl
theorem evO_comp {own : List (Str × Nat)} {tg : Tgt} {it : Itr} {elt : Ex} (env : En) : evO (.comp own tg it elt) env = compF own tg it noTst elt env := by
  unfold compF
  simp only [turn_no]
  show R.bind (R.bind (evI it env) _) _ = _
  cases evI it env with
  | ok q => exact compEnd_own _ _
  | exc x e => rfl
  | bad => rfl
theorem evE_comp {own : List (Str × Nat)} {tg : Tgt} {it : Itr} {elt : Ex} (env : En) : evE (.comp own tg it elt) env = R.bind (compF own tg it noTst elt env) frozR := by
  unfold compF
  simp only [turn_no]
  show R.bind (evI it env) _ = _
  cases evI it env with
  | ok q => exact compEnd_froz _ _
  | exc x e => rfl
  | bad => rfl
theorem evO_compif {own : List (Str × Nat)} {tg : Tgt} {it : Itr} {c elt : Ex} (env : En) : evO (.compif own tg it c elt) env = compF own tg it (evB c) elt env := by
  unfold compF
  simp only [turn_if]
  show R.bind (R.bind (evI it env) _) _ = _
  cases evI it env with
  | ok q => exact compEnd_own _ _
  | exc x e => rfl
  | bad => rfl
theorem evE_compif {own : List (Str × Nat)} {tg : Tgt} {it : Itr} {c elt : Ex} (env : En) : evE (.compif own tg it c elt) env = R.bind (compF own tg it (evB c) elt env) frozR := by
  unfold compF
  simp only [turn_if]
  show R.bind (evI it env) _ = _
  cases evI it env with
  | ok q => exact compEnd_froz _ _
  | exc x e => rfl
  | bad => rfl
theorem tS_congr {e : Expr} {f g : En → R (Sl × En)} (h : ∀ env, f env = g env) (p : PE X e (tS X W g)) : PE X e (tS X W f) := by
  have : f = g := funext h
  rw [this]; exact p
theorem folded_seq {N : List Str} {sc : Scope} {it : Itr} {tg i : Expr} (h : okI N sc it tg i = true) {env : Env} : ∀ x, foldedSetIterable i env x = pure x := by
  intro x
  cases it with
  | seq a => cases a <;> cases i <;> first | rfl | (simp [okI, okE] at h)
  | rng as => cases i <;> first | rfl | (simp [okI] at h)
  | enum as => cases tg <;> cases i <;> first | rfl | (simp [okI] at h)
  | zip as => cases tg <;> cases i <;> first | rfl | (simp [okI] at h)
end
end Ev
set_option Elab.async false
set_option linter.all false
set_option maxRecDepth 100000
namespace Ev
open PySem PySem.Spec

/-! ### the stable sort -/
section
variable {α β : Type}
theorem insK_mem {x : Int × α} : ∀ {l : List (Int × α)} {p : Int × α}, p ∈ insK x l ↔ p = x ∨ p ∈ l
  | [], p => by simp [insK]
  | y :: r, p => by
    unfold insK
    split
    · simp
    · rw [List.mem_cons, insK_mem, List.mem_cons]
      constructor
      · rintro (h | h | h)
        · exact .inr (.inl h)
        · exact .inl h
        · exact .inr (.inr h)
      · rintro (h | h | h)
        · exact .inr (.inl h)
        · exact .inl h
        · exact .inr (.inr h)
theorem insK_pw {x : Int × α} : ∀ {l : List (Int × α)}, l.Pairwise (fun p q => p.1 ≤ q.1) → (insK x l).Pairwise (fun p q => p.1 ≤ q.1)
  | [], _ => by simp [insK]
  | y :: r, h => by
    have h2 := List.pairwise_cons.mp h
    unfold insK
    split
    · next c =>
      refine List.pairwise_cons.mpr ⟨fun p hp => ?_, h⟩
      rcases List.mem_cons.mp hp with e | hp
      · rw [e]; exact c
      · exact Int.le_trans c (h2.1 p hp)
    · next c =>
      refine List.pairwise_cons.mpr ⟨fun p hp => ?_, insK_pw h2.2⟩
      rcases insK_mem.mp hp with e | hp
      · rw [e]; omega
      · exact h2.1 p hp
theorem sortK_pw : ∀ (l : List (Int × α)), (sortK l).Pairwise (fun p q => p.1 ≤ q.1)
  | [] => by simp [sortK]
  | x :: r => insK_pw (sortK_pw r)
theorem insK_filter {x : Int × α} {c : Int} : ∀ {l : List (Int × α)}, (insK x l).filter (fun p => p.1 == c) = (x :: l).filter (fun p => p.1 == c)
  | [] => rfl
  | y :: r => by
    unfold insK
    split
    · rfl
    · next h =>
      have ih := @insK_filter x c r
      rw [List.filter_cons, ih]
      by_cases hx : (x.1 == c) = true
      · have hy : (y.1 == c) = false := by
          rw [beq_eq_false_iff_ne]
          have := beq_iff_eq.mp hx
          omega
        simp [List.filter_cons, hx, hy]
      · simp [List.filter_cons, hx]
theorem sortK_filter {c : Int} : ∀ (l : List (Int × α)), (sortK l).filter (fun p => p.1 == c) = l.filter (fun p => p.1 == c)
  | [] => rfl
  | x :: r => by
    show (insK x (sortK r)).filter _ = _
    rw [insK_filter, List.filter_cons, List.filter_cons, sortK_filter r]
theorem pw_uniq : ∀ {l m : List (Int × α)}, l.Pairwise (fun p q => p.1 ≤ q.1) → m.Pairwise (fun p q => p.1 ≤ q.1) → (∀ c, l.filter (fun p => p.1 == c) = m.filter (fun p => p.1 == c)) → l = m
  | [], [], _, _, _ => rfl
  | [], q :: m, _, _, h => by have := h q.1; simp [List.filter_cons] at this
  | p :: l, [], _, _, h => by have := h p.1; simp [List.filter_cons] at this
  | p :: l, q :: m, h1, h2, h => by
    have a1 := List.pairwise_cons.mp h1
    have a2 := List.pairwise_cons.mp h2
    have le : ∀ (p q : Int × α) (l m : List (Int × α)), (∀ c, (p :: l).filter (fun p => p.1 == c) = (q :: m).filter (fun p => p.1 == c)) → (∀ r ∈ m, q.1 ≤ r.1) → q.1 ≤ p.1 := fun p q l m h a => by
      have hp : p ∈ (q :: m).filter (fun r => r.1 == p.1) := by rw [← h p.1]; simp [List.filter_cons]
      have := (List.mem_filter.mp hp).1
      rcases List.mem_cons.mp this with e | e
      · rw [e]; exact Int.le_refl _
      · exact a p e
    have e1 := le p q l m h a2.1
    have e2 := le q p m l (fun c => (h c).symm) a1.1
    have e : p.1 = q.1 := Int.le_antisymm e2 e1
    have hc := h p.1
    have hq : (q.1 == p.1) = true := beq_iff_eq.mpr e.symm
    simp only [List.filter_cons, beq_self_eq_true, if_true, hq] at hc
    injection hc with e3 e4
    subst e3
    refine congrArg _ (pw_uniq a1.2 a2.2 fun c => ?_)
    have hc := h c
    simp only [List.filter_cons] at hc
    split at hc
    · injection hc
    · exact hc
theorem sortK_of {l m : List (Int × α)} (h1 : l.Pairwise (fun p q => p.1 ≤ q.1)) (h2 : ∀ c, l.filter (fun p => p.1 == c) = m.filter (fun p => p.1 == c)) : l = sortK m :=
  pw_uniq h1 (sortK_pw m) fun c => (h2 c).trans (sortK_filter m).symm
/-- two lists side by side, with the same keys -/
inductive Side (R : α → β → Prop) : List (Int × α) → List (Int × β) → Prop
  | nil : Side R [] []
  | cons {k : Int} {x : α} {y : β} {l : List (Int × α)} {m : List (Int × β)} : R x y → Side R l m → Side R ((k, x) :: l) ((k, y) :: m)
theorem Side.ins {R : α → β → Prop} {k : Int} {x : α} {y : β} (h : R x y) : ∀ {l : List (Int × α)} {m : List (Int × β)}, Side R l m → Side R (insK (k, x) l) (insK (k, y) m)
  | _, _, .nil => .cons h .nil
  | _, _, .cons (k := k') r s => by
    unfold insK
    by_cases c : k ≤ k'
    · rw [if_pos c, if_pos c]; exact .cons h (.cons r s)
    · rw [if_neg c, if_neg c]; exact .cons r (Side.ins h s)
theorem Side.sort {R : α → β → Prop} : ∀ {l : List (Int × α)} {m : List (Int × β)}, Side R l m → Side R (sortK l) (sortK m)
  | _, _, .nil => .nil
  | _, _, .cons h s => Side.ins h (Side.sort s)
end
end Ev
set_option Elab.async false
set_option linter.all false
set_option maxRecDepth 100000
set_option maxHeartbeats 2000000
namespace Ev
open PySem PySem.Spec PyProof.Rows L2

/-! ### the key, over any heap -/
section
variable {prog : Program} {w : World} {A : Around} {E : Value → Shared → Prop} {s : Shared} {cenv : Env} {x y : Str} {m : Str → Option Value} {Q : Value → Shared → Prop}
theorem ev_ix {t : Addr} {items : Array Value} {v : Value} {i : Int} {j k : Nat} {p1 p2 p3 : Pos} (hk : cenv.scope.kind = .function) (hl : cenv.scope.names.lookup x = some .local) (hn : s.heap.Ns cenv.locals m) (hm : m x = some (.ref t)) (hd : (x == ("__debug__" : Str)) = false)
    (ht : IsTup s.heap t items) (hi : i = (j : Int)) (hj : j < 1000) (hx : items[j]? = some v) (h : ∀ tk, Q v { s with toks := tk }) : wpAny (model prog w) A (eval (.Subscript (.Name x p1) (.Constant (.int i) k p2) p3) cenv) Q E s := by
  have hlt : j < items.size := (Array.getElem?_eq_some_iff.mp hx).1
  refine Subscript_ (wpAny_Name (wpAny_loadName_local hk hl hn hm (wpAny_Constant_int ?_)) hd)
  refine subscriptTail_builtinR (x := v) (s := { s with toks := s.toks + 1 }) ht.typeIs slot_tuple_getitem.lookup ?_
  refine getItem_tuple (s := { s with toks := s.toks + 1 }) (j := j) ht (by omega) (by omega) ?_ hx ⟨rfl, h _⟩
  subst hi
  rw [seqIndex_of (by omega) (by omega)]
  exact congrArg some (Int.toNat_natCast j)
theorem ev_key {t cc : Addr} {items : Array Value} {a b c : Int} {ta tb tc : Tok} {k0 k1 : Nat} {p1 p2 p3 p4 p5 p6 p7 p8 p9 : Pos} (hk : cenv.scope.kind = .function) (hl : cenv.scope.names.lookup x = some .local) (hn : s.heap.Ns cenv.locals m) (hm : m x = some (.ref t)) (hd : (x == ("__debug__" : Str)) = false)
    (hl2 : cenv.scope.names.lookup y = some .free) (hc : cenv.cells.lookup y = some cc) (hcell : s.heap.IsCell cc (some (.int c tc))) (hd2 : (y == ("__debug__" : Str)) = false) (hd3 : (y == ("__classdict__" : Str)) = false)
    (ht : IsTup s.heap t items) (h0 : items[0]? = some (.int a ta)) (h1 : items[1]? = some (.int b tb)) (hb : b ≠ 0) (hmul : mulOk a (c.fdiv b) = true) (room : ∀ tk, PySem.PylongRoom (model prog w) A { s with toks := tk }) (h : ∀ t' tk, Q (.int (a * c.fdiv b) t') { s with toks := tk }) :
    wpAny (model prog w) A (eval (.BinOp (.Subscript (.Name x p1) (.Constant (.int 0) k0 p2) p3) .Mult (.BinOp (.Name y p4) .FloorDiv (.Subscript (.Name x p5) (.Constant (.int 1) k1 p6) p7) p8) p9) cenv) Q E s := by
  refine wpAny_BinOp (ev_ix (j := 0) hk hl hn hm hd ht rfl (by decide) h0 fun tk => wpAny_BinOp (wpAny_Name (wpAny_loadName_free (s := { s with toks := tk }) hk hl2 hc hcell (ev_ix (s := { s with toks := tk }) (j := 1) hk hl hn hm hd ht rfl (by decide) h1 fun tk2 => ?_) hd3) hd2))
  refine floordiv_int hb (mul_int ?_ (mulOk_ok hmul)) (.inr (room _))
  exact h _ _
theorem bind_number {c' t : Addr} {qual n : Str} {np : Pos} {scope : Scope} {cl : List (Str × Addr)} {pm ctv : Value} {body : Expr} (hn : n = "number") :
    bindArgs (PySem.W.kla_fn "<lambda>" qual ⟨[], [⟨n, none, np⟩], none, [], [], none, []⟩ body scope cl pm (.ref c') ctv) ⟨[.ref t], []⟩ = pure [(n, .ref t)] := by
  subst hn
  rfl
/-- the lambda called -/
theorem lam_run {f c' t cc : Addr} {qual n y : Str} {np : Pos} {scope : Scope} {cl : List (Str × Addr)} {pm ctv : Value} {items : Array Value} {a b c : Int} {ta tb tc : Tok} {k0 k1 : Nat} {p1 p2 p3 p4 p5 p6 p7 p8 p9 : Pos} {R : Result → Shared → Prop} (hnn : n = "number") (hroom : A.depth < recursionLimit)
    (hf : s.heap.get? f = some (PySem.W.kla_obj "<lambda>" qual ⟨[], [⟨n, none, np⟩], none, [], [], none, []⟩ (.BinOp (.Subscript (.Name n p1) (.Constant (.int 0) k0 p2) p3) .Mult (.BinOp (.Name y p4) .FloorDiv (.Subscript (.Name n p5) (.Constant (.int 1) k1 p6) p7) p8) p9) scope cl pm c' ctv))
    (hcd : s.heap.CodeRec (.ref c') qual) (lim : s.heap.NoLimit) (hk : scope.kind = .function) (hco : scope.isCoroutine = false) (hgen : scope.isGenerator = false) (hl : scope.names.lookup n = some .local) (hl2 : scope.names.lookup y = some .free) (hnc : ∀ z ∈ scope.names, z.2 ≠ .cell)
    (hd : (n == ("__debug__" : Str)) = false) (hd2 : (y == ("__debug__" : Str)) = false) (hd3 : (y == ("__classdict__" : Str)) = false) (hc : cl.lookup y = some cc) (hcell : s.heap.IsCell cc (some (.int c tc)))
    (ht : IsTup s.heap t items) (h0 : items[0]? = some (.int a ta)) (h1 : items[1]? = some (.int b tb)) (hb : b ≠ 0) (hmul : mulOk a (c.fdiv b) = true)
    (room : ∀ (env : Env) (s1 : Shared), env.scope = scope → env.builtins = builtinsNs → env.globals = mainGlobals → (∀ b o, s.heap.get? b = some o → s1.heap.get? b = some o) → PySem.PylongRoom (model prog w) (A.deeper env) s1)
    (h : ∀ (t' : Tok) (h' : Heap) (tk : Nat), (∀ b o, s.heap.get? b = some o → h'.get? b = some o) → R (.ok (.ret (.int (a * c.fdiv b) t'))) { s with heap := h', toks := tk }) :
    codeAny (model prog w) A (.call (.ref f) ⟨[.ref t], []⟩) R s := by
  refine PySem.W.kla_callFunE hroom hf rfl hco hgen rfl hcd ?_
  have eb := bind_number (qual := qual) (np := np) (scope := scope) (cl := cl) (pm := pm) (ctv := ctv) (c' := c') (t := t) (body := (.BinOp (.Subscript (.Name n p1) (.Constant (.int 0) k0 p2) p3) .Mult (.BinOp (.Name y p4) .FloorDiv (.Subscript (.Name n p5) (.Constant (.int 1) k1 p6) p7) p8) p9)) (n := n) hnn
  have eb0 : bindArgs (PySem.W.kla_fn "<lambda>" qual ⟨[], [⟨n, none, np⟩], none, [], [], none, []⟩ (.BinOp (.Subscript (.Name n p1) (.Constant (.int 0) k0 p2) p3) .Mult (.BinOp (.Name y p4) .FloorDiv (.Subscript (.Name n p5) (.Constant (.int 1) k1 p6) p7) p8) p9) scope cl pm (.ref c') ctv) ⟨[.ref t], []⟩ = pure [(n, .ref t)] := eb
  rw [eb0]
  refine wpAny_pure (wpAny_newFunctionEnv hnc (fun z hz => ?_) (fun h₁ hns hsb => ?_) hk)
  · rw [List.mem_singleton.mp hz]; exact hl
  · have kp : ∀ b o, s.heap.get? b = some o → h₁.get? b = some o := fun b o e => hsb.extBut b o (Nat.ne_of_lt (Heap.lt_size e)) (Heap.get?_push_of_some _ e)
    refine ⟨lim.fresh _ hsb, PySem.W.kla_codeExpr ?_⟩
    refine ev_key (cc := cc) (t := t) (items := items) (ta := ta) (tb := tb) (tc := tc) hk hl hns (by simp) hd hl2 hc ?_ hd2 hd3 ?_ h0 h1 hb hmul (fun tk => room _ _ rfl rfl rfl kp) fun t' tk => h _ _ _ kp
    · obtain ⟨o, e, d⟩ := hcell
      exact ⟨o, kp _ _ e, d⟩
    · obtain ⟨o, e, d⟩ := ht
      exact ⟨o, kp _ _ e, d⟩
end
/-! ### the lambda is made -/
section
variable {X : Cx} {pins : List (Addr × Obj)} {σ : L2.St} {H : Hp} {s : Shared}
/-- one table alone: what becomes of it is told -/
theorem lam_make3 {c P : Addr} {q : Str} {params : Arguments} {body : Expr} {scope : Scope} {pos : Pos} {E : Value → Shared → Prop} {Q : Value → Shared → Prop} (I : Inv X pins σ H s) (tb : LamX.TabB X.base X.mg c P) (hcode : X.env.code = .ref c) (hq : X.env.qual ++ "<lambda>" = q)
    (tq : LamX.TabS H P q) (hdef : defaultsOf params X.env = ([], [])) (hfree : ∀ y ∈ scope.names, y.2 = .free → ∃ c, X.env.cells.lookup y.1 = some c)
    (h : ∀ (f c' : Addr) (pm ctv : Value) (H1 : Hp) (s' : Shared), Inv X pins σ H1 s' → (H1 = H ∨ ∃ ps ps', H P = some (.tbl ps) ∧ H c' = none ∧ H1 = upd (upd H P (.tbl ps')) c' (LamX.CodeO c' q)) → LamX.TabS H1 P q →
      s'.heap.get? f = some (PySem.W.kla_obj "<lambda>" q params body scope (cloFrom X.env.cells scope.names []) pm c' ctv) → H1 c' = some (LamX.CodeO c' q) → Q (.ref f) s') :
    wpAny (model X.prog X.w) X.A (eval (.Lambda params body scope pos) X.env) Q E s := by
  have tq' := tq
  obtain ⟨ps, hP, htri, hnm⟩ := tq
  refine PySem.W.kla_eval hdef ?_
  rw [hq]
  have hPo : s.heap.get? P = some { cls := .none, data := .fields ps } := I.hok P _ hP
  cases hc : codeAmong pos ps.toList with
  | some cv =>
    obtain ⟨c', rfl, hco⟩ := hnm pos cv hc
    refine PySem.W.kla_makeFunctionHit (mg := X.mg) (c := c) (P := P) (ps := ps) (closure_ok hfree) I.ok.glob (I.mod.glob.keeps I.bk) hcode (tb.code.keeps I.bk) hPo htri hc (tb.bm.keeps I.bk) fun ctv h' tk hx hsz => ?_
    exact h _ c' _ ctv H _ (I.kept (t' := tk) fun b o e => Heap.get?_push_of_some _ (hx b o e)) (.inl rfl) tq' (Heap.get?_push_size _ rfl) hco
  | none =>
    refine PySem.W.kla_makeFunction (mg := X.mg) (c := c) (P := P) (ps := ps) (closure_ok hfree) I.ok.glob (I.mod.glob.keeps I.bk) hcode (tb.code.keeps I.bk) hPo htri hc tb.gP (tb.bm.keeps I.bk) fun c' ctv h' tk hx hge hlt hrec htb => ?_
    obtain ⟨c2, oc, vs, t, e2, hoc, hd, hv⟩ := hrec
    cases e2
    have nC : H c' = none := I.hok.fresh hge
    have I1 := LamX.inv_table (q := q) (t' := tk) (more := #[rawInt pos.line, rawInt pos.col, .ref c']) (h' := h'.push (PySem.W.kla_obj "<lambda>" q params body scope (cloFrom X.env.cells scope.names []) ((X.mg "__name__").getD .none) c' ctv)) I hP
      (fun b o hb e => Heap.get?_push_of_some _ (hx b o hb e)) (Heap.get?_push_of_some _ htb) hge ⟨oc, vs, t, Heap.get?_push_of_some _ hoc, hd, hv⟩
    have at_ : ∀ b u, H b = some u → (∀ qs, u ≠ .tbl qs) → upd (upd H P (.tbl (ps ++ #[rawInt pos.line, rawInt pos.col, .ref c']))) c' (LamX.CodeO c' q) b = some u := fun b u e w => by
      rw [upd_ne (ne_of_none e nC), upd_ne (fun z => by subst z; rw [hP] at e; cases e; exact w _ rfl)]
      exact e
    have eL : (ps ++ #[rawInt pos.line, rawInt pos.col, .ref c']).toList = ps.toList ++ [rawInt pos.line, rawInt pos.col, .ref c'] := by simp
    refine h _ c' _ ctv _ _ I1 (.inr ⟨ps, _, hP, nC, rfl⟩) ⟨_, by rw [upd_ne (ne_of_none hP nC), upd_same], by rw [eL]; exact PySem.TriplesOk_snoc _ _ _ _ htri, fun p' cv hcv => ?_⟩ (Heap.get?_push_size _ rfl) upd_same
    rw [eL] at hcv
    rcases LamX.among_app _ htri hcv with z | z
    · obtain ⟨c0, e1, e3⟩ := hnm p' cv z
      exact ⟨c0, e1, at_ _ _ e3 LamX.codeO_ne⟩
    · exact ⟨c', z, upd_same⟩
end
/-- the slots do not see the table -/
theorem Rep.tabled {K : PySem.W.Frag} {mg : Mg} {H₀ F H H1 : Hp} {env : En} {σ : L2.St} {P c' : Addr} {q : Str} (R : Rep K mg H₀ F env σ H) (it : IsTab K P q) (t1 : LamX.TabS H1 P q)
    (e1 : H1 = H ∨ ∃ ps ps', H P = some (.tbl ps) ∧ H c' = none ∧ H1 = upd (upd H P (.tbl ps')) c' (LamX.CodeO c' q)) : Rep K mg H₀ F env σ H1 := by
  have tb : TB K H1 := fun P' q' h => by
    obtain ⟨_, rfl, rfl⟩ := h
    obtain ⟨_, rfl, rfl⟩ := it
    exact t1
  rcases e1 with rfl | ⟨ps, ps', hP, nC, rfl⟩
  · exact R
  have nF : F P = none := R.nt P q it
  refine R.later Grow.refl ⟨fun b o e => ?_, R.h0.2.2, tb⟩ fun b o e => ?_
  · rw [upd_ne (ne_of_none e nC)]
    by_cases z : b = P
    · subst z
      rw [hP] at e
      cases e
      exact .inr ⟨ps, ps', rfl, upd_same⟩
    · rw [upd_ne z]; exact .inl e
  · have e' := R.hf b o e
    rw [upd_ne (ne_of_none e' nC), upd_ne (fun z => by subst z; rw [nF] at e; cases e)]
    exact e'
/-! ### the lists side by side -/
section
variable {K : PySem.W.Frag} {mg : Mg} {F : Hp}
def SideR (K : PySem.W.Frag) (mg : Mg) (F : Hp) (u : Value) (d : Ev.D) : Prop := ∃ v, RelV v u ∧ Is K mg F v d
theorem side_of : ∀ {ks : List Int} {xs : List V} {us : List Value} {ds : List Ev.D}, Vals xs us → IsAll K mg F xs ds → ks.length = ds.length → Side (SideR K mg F) (ks.zip us) (ks.zip ds)
  | [], _, _, [], .nil, .nil, _ => .nil
  | [], _, _, _ :: _, _, _, h => by simp at h
  | _ :: _, _, _, [], _, _, h => by simp at h
  | k :: ks, _, _, _ :: _, .cons r rr, .cons i ii, h => .cons ⟨_, r, i⟩ (side_of rr ii (by simpa using h))
theorem side_out : ∀ {l : List (Int × Value)} {m : List (Int × Ev.D)}, Side (SideR K mg F) l m → ∃ vs, Vals vs (l.map (·.2)) ∧ IsAll K mg F vs (m.map (·.2))
  | _, _, .nil => ⟨[], .nil, .nil⟩
  | _, _, .cons ⟨v, r, i⟩ s => by
    obtain ⟨vs, a, b⟩ := side_out s
    exact ⟨v :: vs, .cons r a, .cons i b⟩
theorem keysD_at {c : Int} : ∀ {ds : List Ev.D} {ks : List Int}, keysD c ds = some ks → ks.length = ds.length ∧ ∀ (i : Nat) (k : Int), ks[i]? = some k → ∃ d, ds[i]? = some d ∧ keyD c d = some k
  | [], ks, h => by
    simp only [keysD, Option.some.injEq] at h
    subst h
    exact ⟨rfl, fun i k e => by simp at e⟩
  | d :: ds, ks, h => by
    simp only [keysD] at h
    split at h
    · next k ks' e1 e2 =>
      cases h
      obtain ⟨l, a⟩ := keysD_at e2
      refine ⟨by rw [List.length_cons, List.length_cons, l], fun i k e => ?_⟩
      cases i with
      | zero => simp at e; subst e; exact ⟨d, rfl, e1⟩
      | succ i => simpa using a i k (by simpa using e)
    · cases h
theorem keyD_inv {c k : Int} {d : Ev.D} (h : keyD c d = some k) : ∃ a b, d = .tup [.int a, .int b] ∧ b ≠ 0 ∧ mulOk a (c.fdiv b) = true ∧ k = a * c.fdiv b := by
  unfold keyD at h
  split at h
  · next a b =>
    split at h
    · next q =>
      simp only [Bool.and_eq_true, decide_eq_true_eq] at q
      cases h
      exact ⟨a, b, rfl, q.1, q.2, rfl⟩
    · cases h
  · cases h
end
/-! ### sorted by the lambda -/
abbrev lamBody (n y : Str) (k0 k1 : Nat) (p1 p2 p3 p4 p5 p6 p7 p8 p9 : Pos) : Expr := .BinOp (.Subscript (.Name n p1) (.Constant (.int 0) k0 p2) p3) .Mult (.BinOp (.Name y p4) .FloorDiv (.Subscript (.Name n p5) (.Constant (.int 1) k1 p6) p7) p8) p9
abbrev lamPar (n : Str) (np : Pos) : Arguments := ⟨[], [⟨n, none, np⟩], none, [], [], none, []⟩
structure LamOk (sc scope : Scope) (n y : Str) : Prop where
  kind : scope.kind = .function
  co : scope.isCoroutine = false
  gen : scope.isGenerator = false
  nn : n = "number"
  ln : scope.names.lookup n = some .local
  ly : scope.names.lookup y = some .free
  d1 : (n == ("__debug__" : Str)) = false
  d2 : (y == ("__debug__" : Str)) = false
  d3 : (y == ("__classdict__" : Str)) = false
  nc : ∀ z ∈ scope.names, z.2 ≠ .cell
  fr : ∀ z ∈ scope.names, z.2 = .free → sc.names.lookup z.1 = some .cell
theorem lamB_ok {sc scope : Scope} {n y : Str} (h : lamB sc scope n y = true) : LamOk sc scope n y := by
  unfold lamB at h
  simp only [Bool.and_eq_true, Bool.or_eq_true, Bool.not_eq_true', decide_eq_true_eq, decide_eq_false_iff_not, List.all_eq_true] at h
  obtain ⟨⟨⟨⟨⟨⟨⟨⟨⟨h1, h2⟩, h3⟩, h4⟩, h5⟩, h6⟩, h7⟩, h8⟩, h9⟩, h10⟩ := h
  exact ⟨h1, h2, h3, h4, h5, h6, h7, h8, h9, fun z hz => (h10 z hz).1, fun z hz e => ((h10 z hz).2).elim (fun w => (w e).elim) id⟩
section
variable {X : Cx} {W : WX} {n : Nat} {pins : List (Addr × Obj)} {σ : L2.St} {H : Hp} {s : Shared}
/-- the captured name's cell in the lambda's closure -/
theorem clo_at {cells : List (Str × Addr)} {names : List (Str × NameKind)} {y : Str} {c : Addr} (h : names.lookup y = some .free) (hc : cells.lookup y = some c) : (cloFrom cells names []).lookup y = some c := by
  obtain ⟨c', e⟩ := mem_lookup (cloFrom_has (cells := cells) (acc := []) (PySem.mem_of_lookup h))
  rcases cloFrom_mem (PySem.mem_of_lookup e) with hm | ⟨_, h2⟩
  · cases hm
  · rw [e, h2, hc]
    rfl
theorem sort_run (t : Xt X n W) (I : Inv X pins σ H s) {F : Hp} {mg : Mg} (hF : Same F H) {f l c' : Addr} {y pn : Str} {np : Pos} {scope : Scope} {pm ctv : Value} {k0 k1 j : Nat} {p1 p2 p3 p4 p5 p6 p7 p8 p9 : Pos} {c : Int} {xs : List V} {ds : List Ev.D} {ks : List Int} {q : Str} {Q : VK}
    (L : LamOk X.env.scope scope pn y) (hf : s.heap.get? f = some (PySem.W.kla_obj "<lambda>" q (lamPar pn np) (lamBody pn y k0 k1 p1 p2 p3 p4 p5 p6 p7 p8 p9) scope (cloFrom X.env.cells scope.names []) pm c' ctv)) (hco : H c' = some (LamX.CodeO c' q))
    (hl : SqL X.K H l xs) (all : IsAll X.K mg F xs ds) (hk : keysD c ds = some ks) (hy : X.N[j]? = some y) (hyc : X.env.scope.names.lookup y = some .cell) (hσ : σ[j]? = some (some (.int c)))
    (h : ∀ D vs, H D = none → IsAll X.K mg F vs ((sortK (ks.zip ds)).map (·.2)) → Q (.ref D) (upd H D (.lst vs))) :
    wpAny (model X.prog X.w) X.A (call (.builtin "sorted") [.ref l] [(Str.ofString "key", .ref f)]) (EP X pins σ Q) X.xe s := by
  obtain ⟨its, rv, pl, hz⟩ := I.list hl
  obtain ⟨m, hns, hlook⟩ := I.loc
  obtain ⟨kl, kat⟩ := keysD_at hk
  have hns0 := hns
  obtain ⟨oL, es, ep, eL, dL, _⟩ := hns0
  -- the captured number
  obtain ⟨u, ru, hu⟩ := hlook j y _ hy hσ (.inr (.inl hyc))
  obtain ⟨tc, rfl⟩ := (show ∃ tk, u = Value.int c tk from ru)
  obtain ⟨cc, hcc, hcell⟩ : ∃ cc, X.env.cells.lookup y = some cc ∧ s.heap.IsCell cc (some (.int c tc)) := by
    rcases hu with ⟨hk', _⟩ | ⟨_, cc, a, b⟩
    · have z : X.env.scope.names.lookup y = some .local := hk'
      rw [hyc] at z; cases z
    · exact ⟨cc, a, b⟩
  have hclo := clo_at (names := scope.names) L.ly hcc
  have neL : ∀ b o, s.heap.get? b = some o → (∀ es ep, o.data ≠ .dict es ep) → b ≠ X.env.locals := fun b o e w z => by
    subst z
    rw [eL] at e
    cases e
    exact w _ _ dL
  have lenK : ks.length = its.length := by rw [kl, ← all.length, rv.length]
  refine ksk_sortedSt (h₀ := Att.noObjs s.heap) (L := X.env.locals) (m := m) (news := Att.ledger s.heap X.env.locals X.env.locals) (b := false) (kz := ks) (f := .ref f) (vs := its) (Att.fr_all hns) (fun p hp => ?_) pl.isList lenK (by rw [← rv.length]; exact hz) (ksk_s1 _ _) (fun x => ksk_l1 _ _) (fun x => ksk_t1 _ _) (fun i v k hv hkk g tk own F' N' => ?_) (fun D h' tk out cn F' N' below ko => ?_)
  · obtain ⟨n1, _, e⟩ := Att.mem_ledger.mp (show (p.1, p.2) ∈ _ from hp)
    exact ⟨e, n1, Att.noObjs_get _ _⟩
  · -- a key
    have kp : ∀ b o, b ≠ X.env.locals → s.heap.get? b = some o → g.get? b = some o := fun b o nb e => (N' (b, o) (List.mem_append_left _ (Att.mem_ledger.mpr ⟨nb, nb, e⟩))).1
    obtain ⟨d, ed, kd⟩ := kat i k hkk
    obtain ⟨a, b, rfl, hb, hmul, rfl⟩ := keyD_inv kd
    obtain ⟨x, ex, isx⟩ := all.get ed
    obtain ⟨u2, eu, rx⟩ := rv.get ex
    rw [hv] at eu; cases eu
    obtain ⟨tp, ws, rfl, sq, iall⟩ := Is.inv_tup isx
    cases rx
    obtain ⟨its2, r2, tup, _⟩ := I.tuple (Same.seqT hF sq)
    obtain ⟨ta, tb, rfl⟩ : ∃ ta tb, its2 = [Value.int a ta, Value.int b tb] := by
      cases iall with
      | cons i1 ir =>
        cases ir with
        | cons i2 ir =>
          cases ir
          cases Is.inv_int i1; cases Is.inv_int i2
          obtain ⟨w1, w2, rfl, e1, e2⟩ := vals2 r2
          obtain ⟨ta, rfl⟩ := (show ∃ tk, w1 = Value.int a tk from e1)
          obtain ⟨tb, rfl⟩ := (show ∃ tk, w2 = Value.int b tk from e2)
          exact ⟨ta, tb, rfl⟩
    obtain ⟨ot, et, ct, nt, dt⟩ := tup
    have baseK : ∀ b o, X.base.get? b = some o → g.get? b = some o := fun b o e => kp b o (fun z => by
      have h1 := (I.ok.bs b o e).1
      subst z
      exact Nat.lt_irrefl _ (Nat.lt_of_lt_of_le (Heap.lt_size h1) I.ok.above)) (I.bk b o e)
    obtain ⟨⟨oc, vc, tkc, hoc, hdc, hvc⟩, _, _⟩ := I.hok c' _ hco
    refine wpAny_call (lam_run (s := { s with heap := g, toks := tk }) (A := X.A.in1.in1) (t := tp) (cc := cc) (items := #[.int a ta, .int b tb]) (tc := tc) L.nn ?_ (kp _ _ (neL _ _ hf fun _ _ z => by cases z) hf) ⟨c', oc, vc, tkc, rfl, kp _ _ (neL _ _ hoc fun _ _ z => by rw [hdc] at z; cases z) hoc, hdc, hvc⟩
      (t.lim.keeps baseK) L.kind L.co L.gen L.ln L.ly L.nc L.d1 L.d2 L.d3 hclo ?_ ⟨ot, kp _ _ (neL _ _ et fun _ _ z => by rw [dt] at z; cases z) et, ct, nt, dt⟩ rfl rfl hb hmul (fun env s1 e1 e2 e3 ks1 => ?_) fun t' h' tk' kp' => ?_)
    · exact t.roomH.depth
    · obtain ⟨ob, e, dd⟩ := hcell
      exact ⟨ob, kp _ _ (neL _ _ e fun _ _ z => by rw [dd] at z; cases z) e, dd⟩
    · refine PylongRoom.of (t.lim.keeps fun b o e => ks1 b o (baseK b o e)) ?_ (SeerAt.of (env := env) (l := X.stack) (t.seer.keeps fun b o e => ks1 b o (baseK b o e)) t.tree (Around.frames_deeper (show X.A.in1.in1.frames = some X.stack from I.ok.frames)) (by rw [e1]; exact L.gen) (by rw [e1]; exact L.co) e2 e3)
      have hd := t.roomH.dp
      have hn := t.big
      show X.A.depth + 1 + 100 < 1000
      have : recursionLimit = 1000 := rfl
      omega
    · exact KskEnd.intro (F'.kept kp') (News.grown N' kp') fun p hp => hp
  · -- behind the sort
    have kp : ∀ b o, b ≠ X.env.locals → s.heap.get? b = some o → h'.get? b = some o := fun b o nb e => (N' (b, o) (List.mem_cons_of_mem _ (Att.mem_ledger.mpr ⟨nb, nb, e⟩))).1
    obtain ⟨eD, nDL, _⟩ := N' _ List.mem_cons_self
    have nD : ∀ b o, s.heap.get? b = some o → b ≠ D := fun b o e => by
      by_cases z : b = X.env.locals
      · rw [z]; exact fun w => nDL w.symm
      · exact Nat.ne_of_lt (below (b, o) (Att.mem_ledger.mpr ⟨z, z, e⟩))
    have hD : H D = none := by
      cases e : H D with
      | none => rfl
      | some o =>
        obtain ⟨ob, e2⟩ := objOk_get (I.hok D o e)
        exact (nD D ob e2 rfl).elim
    obtain ⟨ps, hperm, hout, hpw, hfil⟩ := ko
    have eps : ps = sortK (ks.zip its) := sortK_of (by simpa using hpw) hfil
    obtain ⟨vs, vr, va⟩ := side_out (Side.sort (side_of (K := X.K) (mg := mg) (F := F) rv all kl))
    rw [← eps, ← hout] at vr
    have lv : vs.length ≤ sizeLine := by
      have e1 := vr.length
      have e2 : out.toList.length = its.length := by
        rw [hout, List.length_map, hperm.length_eq, List.length_zip, lenK, Nat.min_self]
      rw [e1, e2, ← rv.length]
      exact hz
    have neT : ∀ b u, H b = some u → b ≠ D := fun b u e => ne_of_none e hD
    have J : Inv X pins σ (upd H D (.lst vs)) { s with heap := h', toks := tk } := by
      refine I.step (g' := s.gens) (d' := s.drawn) (ch := []) (fun b hb => absurd hb (by simp)) (fun b o nb _ _ e _ => kp b o nb e) (fun b o nb _ _ e _ => ⟨o.slots, kp b o nb e⟩)
        (fun b o _ e n => by rw [upd_ne (nD b o e)]; exact n) (fun b o _ e => ?_) (fun b xs e => by rw [upd_ne (neT _ _ e)]; exact e) (fun b o u e => by rw [upd_ne (neT _ _ e)]; exact e) (fun b ps e => ⟨#[], by rw [upd_ne (neT _ _ e), e]; simp⟩) (fun m' hn => ?_) (fun b u e => ?_) I.bare
      · by_cases z : b = X.env.locals
        · obtain ⟨o2, _, _, e2, _⟩ := F'.ns
          exact ⟨o2, by rw [z]; exact e2⟩
        · exact ⟨o, kp b o z e⟩
      · have em : m' = m := by
          obtain ⟨o1, es1, ep1, a1, a2, _, a4⟩ := hn
          obtain ⟨o2, es2, ep2, b1, b2, _, b4⟩ := hns
          rw [a1] at b1; cases b1
          rw [a2] at b2; cases b2
          funext x
          rw [← a4, ← b4]
        rw [em]
        exact F'.ns
      · by_cases z : b = D
        · subst z
          rw [upd_same] at e
          cases e
          exact ⟨lv, out.toList, cn, vr, by simpa using eD⟩
        · rw [upd_ne z] at e
          refine (I.hok b u e).stay (fun d v hd q => kp d v ?_ q) (fun d q => by rw [upd_ne (neT _ _ q)]; exact q) fun d xs q => by rw [upd_ne (neT _ _ q)]; exact q
          rcases hd with w | w
          · rw [w]; exact ne_of_none e I.free
          · exact ne_of_none w I.free
    exact ⟨.ref D, _, J, rfl, h D vs hD va⟩
end
section
variable {X : Cx} {W : WX} {n : Nat}
/-- a slot's list -/
theorem ls_at {K : PySem.W.Frag} {mg : Mg} {H₀ F H : Hp} {env : En} {σ : L2.St} (R : Rep K mg H₀ F env σ H) {i : Nat} {sl : Sl} {ds : List Ev.D} (e : lk env i = some sl) (hl : sl.ls = some ds) : ∃ p vs, σ[i]? = some (some (.ref p)) ∧ SqL K H p vs ∧ IsAll K mg F vs ds := by
  obtain ⟨v, h1, h2⟩ := R.sl i _ e
  cases sl with
  | val d =>
    cases d <;> simp only [Sl.ls, Option.some.injEq, reduceCtorEq] at hl
    subst hl
    obtain ⟨p, vs, rfl, h, r⟩ := Is.inv_lst h2
    exact ⟨p, vs, h1, .inl (Same.rd R.hf h), r⟩
  | own es =>
    cases hl
    obtain ⟨p, vs, rfl, _, _, h, r⟩ := h2
    exact ⟨p, vs, h1, .inl (Rd.of h), r⟩
  | bor es =>
    cases hl
    obtain ⟨p, vs, rfl, h, r⟩ := h2
    exact ⟨p, vs, h1, .inl (Sm.rd R.h0 h), r⟩
theorem l_srt {β : Type} {k : En → Pr → R β} {post : Po β} (kk : KOk X W k post) (t : Xt X n W) {i j k0 k1 : Nat} {x y pn : Str} {np p px lpos kpos pos p1 p2 p3 p4 p5 p6 p7 p8 p9 : Pos} {scope : Scope} (g : (Ex.srt i x j y).good (gd X n)) (hg : glB X.env.scope "sorted" = true) (hx : visB X.N X.env.scope i x = true)
    (hy : X.N[j]? = some y) (hyc : X.env.scope.names.lookup y = some .cell) (hL : lamB X.env.scope scope pn y = true) :
    PE X (.Call (.Name "sorted" p) [.Name x px] [⟨some "key", .Lambda (lamPar pn np) (lamBody pn y k0 k1 p1 p2 p3 p4 p5 p6 p7 p8 p9) scope lpos, kpos⟩] pos) (tG X W post (fun env => k env (srtP i j env))) := by
  obtain ⟨g1, g2⟩ := gl_of hg rfl
  obtain ⟨h1, h2, h3, h4⟩ := vis_of hx
  have L := lamB_ok hL
  obtain ⟨me, it, tab⟩ := g
  have me' : X.env.qual = lamQ := me
  refine ⟨fun pins s σ H Q I ⟨H₀, F, env, Rp, q⟩ => ?_⟩
  have pk := kk.pk q
  unfold srtP at pk
  split at pk
  case h_2 => exact pk.elim
  next sl c e1 e2 =>
  split at pk
  case h_2 => exact pk.elim
  next ds e3 =>
  unfold srtD at pk
  split at pk
  case h_2 => exact pk.elim
  next ks e4 =>
  split at pk
  case isFalse => exact pk.elim
  next hlen =>
  obtain ⟨l, xs, hσ, sq, all⟩ := ls_at Rp e1 e3
  obtain ⟨vj, hσj, isj⟩ := Rp.sl j _ e2
  cases Is.inv_int isj
  refine wpAny_Call_Name_kw (ld_blt I g1 (t.free _ (by decide)) (show bootBuiltins "sorted" = some (.builtin "sorted") by decide +kernel) ?_ (by decide) g2)
  refine PyProof.Rows.callWith_kw (thn ((pa_cons (pe_var h1 h2 h3 h4) pa_nil rfl).run pos pins s σ H (fun vs H1 => vs = [.ref l] ∧ H1 = H) I ⟨_, hσ, rfl, rfl⟩) fun us s1 ⟨vs, H1, I1, r1, q1⟩ => ?_) rfl rfl rfl rfl
  obtain ⟨rfl, rfl⟩ := q1
  obtain rfl := Vals.ref1 r1
  refine wpAny_evalAll_cons (wpAny_bind (lam_make3 I1 tab (t.code me') (by rw [me']) (Rp.h0.2.2 _ _ it) rfl (fun z hz e => I1.ok.has _ (.inl (L.fr z hz e))) fun f c' pm ctv H2 s2 I2 eH tS hf hco => wpAny_bind (wpAny_standAt (wpAny_pure (wpAny_evalAll_nil ?_)))))
  have R2 := Rp.tabled it tS eH
  refine sort_run t I2 (mg := mX X) R2.hf L hf hco ?_ all e4 hy hyc hσj fun D vs nD va => ?_
  · have sq2 := ls_at R2 e1 e3
    obtain ⟨l2, xs2, hσ2, sq2, _⟩ := sq2
    have z := hσ.symm.trans hσ2
    cases z
    have e5 : xs2 = xs ∨ True := .inr trivial
    exact (show SqL X.K H2 l xs from by
      rcases sq with a | a
      · rcases eH with rfl | ⟨ps, ps', hP, nC, rfl⟩
        · exact .inl a
        · refine .inl ?_
          have at_ : ∀ b o, H1 b = some o → (∀ ps, o ≠ .tbl ps) → upd (upd H1 (He.cT (gd X n).K lamD).2 (.tbl ps')) c' (LamX.CodeO c' (lamQ ++ "<lambda>")) b = some o := fun b o e w => by
            rw [upd_ne (ne_of_none e nC), upd_ne (fun z => by subst z; rw [hP] at e; cases e; exact w _ rfl)]
            exact e
          rcases a with a | ⟨o, a⟩
          · exact .inl (at_ _ _ a fun _ z => by cases z)
          · exact .inr ⟨o, at_ _ _ a fun _ z => by cases z⟩
      · exact .inr a)
  · have nF : F D = none := R2.hf.free nD
    refine pk F _ D vs Grow.refl (R2.allocOwn nD) (R2.h0.free nD) nF upd_same va fun jj es ej hj => ?_
    obtain ⟨v, h1, p', ws, rfl, _, _, cc, _⟩ := R2.sl jj _ ej
    rw [hj] at h1; cases h1
    rw [nD] at cc; cases cc
end
end Ev
set_option Elab.async false
set_option linter.all false
set_option maxRecDepth 100000
set_option maxHeartbeats 4000000
namespace Ev
open PySem PySem.Spec PyProof.Rows L2

theorem b_comp {X : Cx} {W : WX} {n : Nat} (t : Xt X n W) (cl0 : X.calm = true) {own : List (Str × Nat)} {tg : Tgt} {it : Itr} {elt : Ex} {x tge i : Expr} {scope : Scope} {pos : Pos} (hb : blkC X.N X.env.scope scope own = true) (hin : inT (own.map (·.2)) tg = true)
    (hT : okT X.N scope tg tge = true) (hI : okI X.N X.env.scope it tge i = true) (pi : PI X tge i (tJ X W (evI it))) (he : ∀ s H C cl fp, PE (blkX X s H scope C cl fp) x (tE X W0 (evE elt))) :
    Both X W (.comp own tg it elt) (.ListComp x [⟨tge, i, [], 0⟩] scope pos) := by
  have ps : PE X (.ListComp x [⟨tge, i, [], 0⟩] scope pos) (tS X W (compF own tg it noTst elt)) :=
    PE.imp (pe_lc cl0 t.nd pi (blkOk_by hb) (fun s H C cl fp => tTg_blk cl0 ▸ sndT (xt_blk t cl0 s H scope C cl fp) cl0 (locOk_blk s H scope C cl fp) tg tge hT) (fun s H C cl fp => pts_nil) he (folded_seq hI)) fun σ H Q q =>
      comp_red hin (fun σ H Q ⟨H₀, F, env, Rp, q⟩ => q F H Grow.refl Rp) q
  exact .leaf rfl (tS_of_tE (fun env => evE_comp env) ps) (tS_congr (fun env => evO_comp env) ps)
theorem b_compif {X : Cx} {W : WX} {n : Nat} (t : Xt X n W) (cl0 : X.calm = true) {own : List (Str × Nat)} {tg : Tgt} {it : Itr} {c elt : Ex} {x y tge i : Expr} {scope : Scope} {pos : Pos} (hb : blkC X.N X.env.scope scope own = true) (hin : inT (own.map (·.2)) tg = true)
    (hT : okT X.N scope tg tge = true) (hI : okI X.N X.env.scope it tge i = true) (pi : PI X tge i (tJ X W (evI it))) (he : ∀ s H C cl fp, PE (blkX X s H scope C cl fp) x (tE X W0 (evE elt)))
    (hc : ∀ s H C cl fp, PT (blkX X s H scope C cl fp) y (tB' X W0 (evB c))) :
    Both X W (.compif own tg it c elt) (.ListComp x [⟨tge, i, [y], 0⟩] scope pos) := by
  have ps : PE X (.ListComp x [⟨tge, i, [y], 0⟩] scope pos) (tS X W (compF own tg it (evB c) elt)) :=
    PE.imp (pe_lc cl0 t.nd pi (blkOk_by hb) (fun s H C cl fp => tTg_blk cl0 ▸ sndT (xt_blk t cl0 s H scope C cl fp) cl0 (locOk_blk s H scope C cl fp) tg tge hT) (fun s H C cl fp => pts_one (hc s H C cl fp)) he (folded_seq hI)) fun σ H Q q =>
      comp_red hin (fun σ H Q q => q) q
  exact .leaf rfl (tS_of_tE (fun env => evE_compif env) ps) (tS_congr (fun env => evO_compif env) ps)

theorem calm_of {X : Cx} {n : Nat} (h : (gd X n).hot = false) : X.calm = true := by
  have h2 : (!X.calm) = false := h
  simpa using h2
mutual
theorem sndE : ∀ (a : Ex) (X : Cx) (W : WX) (n : Nat), Xt X n W → a.good (gd X n) → ∀ e : Expr, okE X.N X.env.scope a e = true → Both X W a e
  | .var i x, X, W, n, t, g, e, h => by
    cases e <;> simp only [okE, Bool.false_eq_true] at h
    simp only [Bool.and_eq_true, decide_eq_true_eq] at h
    obtain ⟨rfl, h⟩ := h
    exact .leaf rfl (l_var h) (evO_val (fun _ => rfl) (l_var h))
  | .rd i x, X, W, n, t, g, e, h => by
    cases e <;> simp only [okE, Bool.false_eq_true] at h
    simp only [Bool.and_eq_true, decide_eq_true_eq] at h
    obtain ⟨rfl, h⟩ := h
    exact .leaf rfl (l_rd h) (evO_val (fun _ => rfl) (l_rd h))
  | .con c, X, W, n, t, g, e, h => by
    cases e <;> simp only [okE, Bool.false_eq_true] at h
    simp only [Bool.and_eq_true, decide_eq_true_eq] at h
    obtain ⟨rfl, h⟩ := h
    exact .leaf rfl (l_con h) (evO_val (fun _ => rfl) (l_con h))
  | .glob x d, X, W, n, t, g, e, h => by
    cases e <;> simp only [okE, Bool.false_eq_true] at h
    simp only [Bool.and_eq_true, decide_eq_true_eq] at h
    obtain ⟨rfl, h⟩ := h
    exact .leaf rfl (l_glob h g) (evO_val (fun _ => rfl) (l_glob h g))
  | .prim p as, X, W, n, t, g, e, h => b_prim t g.1 h fun es => sndA as X W n t g.2 es
  | .isi ty as, X, W, n, t, g, e, h => by
    unfold okE at h
    split at h
    all_goals first | (cases h; done) | (next heq => (cases heq; done)) | skip
    next heq =>
      cases heq
      simp only [Bool.and_eq_true, decide_eq_true_eq] at h
      obtain ⟨a, rfl, st, px⟩ := (sndA as X W n t g _ h.2).one
      have pe := l_isi t (p1 := by assumption) (p2 := by assumption) (pos := by assumption) h.1.1.1.1 h.1.1.1.2 h.1.1.2 h.1.2 st px
      exact .leaf rfl (l_isi t h.1.1.1.1 h.1.1.1.2 h.1.1.2 h.1.2 st px) (evO_val (fun _ => rfl) (l_isi t h.1.1.1.1 h.1.1.1.2 h.1.1.2 h.1.2 st px))
  | .isC c tbl as, X, W, n, t, g, e, h => by
    unfold okE at h
    split at h
    all_goals first | (cases h; done) | (next heq => (cases heq; done)) | skip
    next heq =>
      cases heq
      simp only [Bool.and_eq_true, decide_eq_true_eq] at h
      obtain ⟨a, rfl, st, px⟩ := (sndA as X W n t g.2 _ h.2).one
      exact .leaf rfl (l_isC t g.1 h.1.1.1.1 h.1.1.1.2 h.1.1.2 h.1.2 st px) (evO_val (fun _ => rfl) (l_isC t g.1 h.1.1.1.1 h.1.1.1.2 h.1.1.2 h.1.2 st px))
  | .call f den dfl as, X, W, n, t, g, e, h => by
    unfold okE at h
    split at h
    all_goals first | (cases h; done) | (next heq => (cases heq; done)) | skip
    next heq =>
      cases heq
      simp only [Bool.and_eq_true, decide_eq_true_eq] at h
      obtain ⟨⟨rfl, h1⟩, h2⟩ := h
      have ps := fun p pos => l_callS (p := p) (pos := pos) t h1 g.1 (okA_stars h2) (sndA as X W n t g.2 _ h2).pa
      exact .leaf rfl (tS_of_tE (fun env => evE_call env) (ps _ _)) (ps _ _)
  | .and a b, X, W, n, t, g, e, h => by
    unfold okE at h
    split at h
    · next x y pos =>
      simp only [Bool.and_eq_true] at h
      have A := sndE a X W n t g.1 _ h.1
      have B := sndE b X W n t g.2 _ h.2
      have w : tst (.and a b) = true → PW X (.BoolOp .And [x, y] pos) (tB' X W (evB (.and a b))) := fun ht => by
        simp only [tst, Bool.and_eq_true] at ht
        exact w_and (A.pt ht.1) (pw_and1 (B.pt ht.2))
      exact ⟨l_and A.pe (pe_one B.pe), evO_val (fun _ => rfl) (l_and A.pe (pe_one B.pe)), fun ht => (w ht).pt, fun ht op vs p z => z ▸ w ht⟩
    · next x y z r pos =>
      simp only [Bool.and_eq_true] at h
      have A := sndE a X W n t g.1 _ h.1
      have B := sndE b X W n t g.2 _ h.2
      have w : tst (.and a b) = true → PW X (.BoolOp .And (x :: y :: z :: r) pos) (tB' X W (evB (.and a b))) := fun ht => by
        simp only [tst, Bool.and_eq_true] at ht
        exact w_and (A.pt ht.1) (B.pw ht.2 _ _ _ rfl)
      exact ⟨l_and A.pe B.pe, evO_val (fun _ => rfl) (l_and A.pe B.pe), fun ht => (w ht).pt, fun ht op vs p z => z ▸ w ht⟩
    · cases h
  | .or a b, X, W, n, t, g, e, h => by
    unfold okE at h
    split at h
    · next x y pos =>
      simp only [Bool.and_eq_true] at h
      have A := sndE a X W n t g.1 _ h.1
      have B := sndE b X W n t g.2 _ h.2
      have w : tst (.or a b) = true → PW X (.BoolOp .Or [x, y] pos) (tB' X W (evB (.or a b))) := fun ht => by
        simp only [tst, Bool.and_eq_true] at ht
        exact w_or (A.pt ht.1) (pw_or1 (B.pt ht.2))
      exact ⟨l_or A.pe (pe_one B.pe), evO_val (fun _ => rfl) (l_or A.pe (pe_one B.pe)), fun ht => (w ht).pt, fun ht op vs p z => z ▸ w ht⟩
    · next x y z r pos =>
      simp only [Bool.and_eq_true] at h
      have A := sndE a X W n t g.1 _ h.1
      have B := sndE b X W n t g.2 _ h.2
      have w : tst (.or a b) = true → PW X (.BoolOp .Or (x :: y :: z :: r) pos) (tB' X W (evB (.or a b))) := fun ht => by
        simp only [tst, Bool.and_eq_true] at ht
        exact w_or (A.pt ht.1) (B.pw ht.2 _ _ _ rfl)
      exact ⟨l_or A.pe B.pe, evO_val (fun _ => rfl) (l_or A.pe B.pe), fun ht => (w ht).pt, fun ht op vs p z => z ▸ w ht⟩
    · cases h
  | .not a, X, W, n, t, g, e, h => by
    unfold okE at h
    split at h
    all_goals first | (cases h; done) | (next heq => (cases heq; done)) | skip
    next heq =>
      cases heq
      have A := sndE a X W n t g _ h
      exact ⟨l_not A.pe, evO_val (fun _ => rfl) (l_not A.pe), fun ht => t_not (A.pt ht), fun _ _ _ _ z => nomatch z⟩
  | .ite c a b, X, W, n, t, g, e, h => by
    unfold okE at h
    split at h
    all_goals first | (cases h; done) | (next heq => (cases heq; done)) | skip
    next heq =>
      cases heq
      simp only [Bool.and_eq_true] at h
      have C := sndE c X W n t g.1 _ h.1.1.2
      have A := sndE a X W n t g.2.1 _ h.1.2
      have B := sndE b X W n t g.2.2 _ h.2
      exact ⟨l_ite (C.pt h.1.1.1) A.pe B.pe, evO_val (fun _ => rfl) (l_ite (C.pt h.1.1.1) A.pe B.pe), fun ht => (nomatch ht), fun ht => (nomatch ht)⟩
  | .chain p q a b c, X, W, n, t, g, e, h => by
    unfold okE at h
    split at h
    all_goals first | (cases h; done) | (next heq => (cases heq; done)) | skip
    next heq =>
      cases heq
      simp only [Bool.and_eq_true, decide_eq_true_eq, Bool.not_eq_true'] at h
      have A := sndE a X W n t g.1 _ h.1.1.2
      have B := sndE b X W n t g.2.1 _ h.1.2
      have C := sndE c X W n t g.2.2 _ h.2
      have h1 := h.1.1.1
      exact ⟨l_chain t h1.1.1 h1.1.2 h1.2 A.pe B.pe C.pe, evO_val (fun _ => rfl) (l_chain t h1.1.1 h1.1.2 h1.2 A.pe B.pe C.pe), fun _ => t_chain t h1.1.1 h1.1.2 h1.2 A.pe B.pe C.pe, fun _ _ _ _ z => nomatch z⟩
  | .slc a lo hi, X, W, n, t, g, e, h => by
    unfold okE at h
    split at h
    all_goals first | (cases h; done) | (next heq => (cases heq; done)) | skip
    next heq =>
      cases heq
      simp only [Bool.and_eq_true] at h
      have A := (sndE a X W n t g.1 _ h.1.1).op h.1.1
      have L := sndOe lo X W n t g.2.1 _ h.1.2
      have Hh := sndOe hi X W n t g.2.2 _ h.2
      exact .leaf rfl (l_slc kD A L Hh) (l_slc kS A L Hh)
  | .srt i x j y, X, W, n, t, g, e, h => by
    unfold okE at h
    split at h
    all_goals first | (cases h; done) | (next heq => (cases heq; done)) | skip
    next heq =>
      cases heq
      simp only [Bool.and_eq_true, decide_eq_true_eq] at h
      obtain ⟨⟨⟨⟨⟨⟨⟨⟨⟨⟨rfl, a1⟩, rfl⟩, rfl⟩, a2⟩, rfl⟩, rfl⟩, rfl⟩, a3⟩, a4⟩, a5⟩ := h
      exact .leaf rfl (l_srt kD t g a1 a2 a3 a4 a5) (l_srt kS t g a1 a2 a3 a4 a5)
  | .comp own tg it elt, X, W, n, t, g, e, h => by
    unfold okE at h
    split at h
    all_goals first | (cases h; done) | (next heq => (cases heq; done)) | skip
    next heq =>
      cases heq
      simp only [Bool.and_eq_true] at h
      have cl0 := calm_of g.1
      exact b_comp t cl0 h.1.1.1.1 h.1.1.1.2 h.1.1.2 h.1.2 (sndI it X W n t g.2.1 _ _ h.1.2) fun s H C cl fp => tE_blk cl0 ▸ (sndE elt (blkX X s H _ C cl fp) W0 n (xt_blk t cl0 s H _ C cl fp) g.2.2 _ h.2).pe
  | .compif own tg it c elt, X, W, n, t, g, e, h => by
    unfold okE at h
    split at h
    all_goals first | (cases h; done) | (next heq => (cases heq; done)) | skip
    next heq =>
      cases heq
      simp only [Bool.and_eq_true] at h
      obtain ⟨⟨⟨⟨⟨⟨h1, h2⟩, h3⟩, h4⟩, h5⟩, h6⟩, h7⟩ := h
      have cl0 := calm_of g.1
      exact b_compif t cl0 h1 h2 h3 h4 (sndI it X W n t g.2.1 _ _ h4) (fun s H C cl fp => tE_blk cl0 ▸ (sndE elt (blkX X s H _ C cl fp) W0 n (xt_blk t cl0 s H _ C cl fp) g.2.2.2 _ h7).pe)
        fun s H C cl fp => tB_blk cl0 ▸ (sndE c (blkX X s H _ C cl fp) W0 n (xt_blk t cl0 s H _ C cl fp) g.2.2.1 _ h6).pt h5
theorem sndOe : ∀ (a : Oe) (X : Cx) (W : WX) (n : Nat), Xt X n W → a.good (gd X n) → ∀ e : Option Expr, okO X.N X.env.scope a e = true → PO X e (tI' X W (evOI a))
  | .none, X, W, n, t, g, e, h => by
    cases e with
    | none => exact o_none
    | some x => simp [okO] at h
  | .some a, X, W, n, t, g, e, h => by
    cases e with
    | none => simp [okO] at h
    | some x => exact o_some (sndE a X W n t g x (by simpa [okO] using h)).pe
theorem sndA : ∀ (as : Exs) (X : Cx) (W : WX) (n : Nat), Xt X n W → as.good (gd X n) → ∀ es : List Expr, okA X.N X.env.scope as es = true → Ops X W as es
  | .nil, X, W, n, t, g, es, h => by
    cases es with
    | nil => exact .nil
    | cons e es => simp [okA] at h
  | .cons a as, X, W, n, t, g, es, h => by
    cases es with
    | nil => simp [okA] at h
    | cons e es =>
      simp only [okA, Bool.and_eq_true] at h
      exact .cons h.1.1 ((sndE a X W n t g.1 e h.1.2).op h.1.2) (sndA as X W n t g.2 es h.2)
theorem sndI : ∀ (it : Itr) (X : Cx) (W : WX) (n : Nat), Xt X n W → it.good (gd X n) → ∀ tg e : Expr, okI X.N X.env.scope it tg e = true → PI X tg e (tJ X W (evI it))
  | .seq a, X, W, n, t, g, tg, e, h => j_seq (sndE a X W n t g e (by simpa [okI] using h)).pe
  | .rng as, X, W, n, t, g, tg, e, h => by
    unfold okI at h
    split at h
    all_goals first | (cases h; done) | (next heq => (cases heq; done)) | skip
    all_goals next heq =>
      cases heq
      simp only [Bool.and_eq_true, decide_eq_true_eq, Bool.or_eq_true] at h
      rcases h.1.2 with hl | hl
      · obtain ⟨e1, rfl⟩ := one_of (m := 0) (decide_eq_true hl)
        obtain ⟨a, rfl, st, px⟩ := (sndA as X W n t g _ h.2).one
        exact j_rng1 t h.1.1.1 h.1.1.2 st px
      · obtain ⟨e1, e2, rfl⟩ := two_of (decide_eq_true hl)
        obtain ⟨a, a', rfl, st, st', px, py⟩ := (sndA as X W n t g _ h.2).two
        exact j_rng2 t h.1.1.1 h.1.1.2 st st' px py
  | .enum as, X, W, n, t, g, tg, e, h => by
    unfold okI at h
    split at h
    all_goals first | (cases h; done) | (next heq => (cases heq; done)) | skip
    all_goals next heq =>
      cases heq
      simp only [Bool.and_eq_true, decide_eq_true_eq] at h
      obtain ⟨e1, rfl⟩ := one_of (m := 0) (decide_eq_true h.1.2)
      obtain ⟨a, rfl, st, px⟩ := (sndA as X W n t g _ h.2).one
      exact j_enum t h.1.1.1 h.1.1.2 st px
  | .zip as, X, W, n, t, g, tg, e, h => by
    unfold okI at h
    split at h
    all_goals first | (cases h; done) | (next heq => (cases heq; done)) | skip
    all_goals next heq =>
      cases heq
      simp only [Bool.and_eq_true, decide_eq_true_eq] at h
      obtain ⟨e1, e2, rfl⟩ := two_of (decide_eq_true h.1.2)
      obtain ⟨a, a', rfl, st, st', px, py⟩ := (sndA as X W n t g _ h.2).two
      exact j_zip t h.1.1.1 h.1.1.2 st st' px py
end
end Ev
set_option Elab.async false
set_option linter.all false
set_option maxRecDepth 100000
set_option maxHeartbeats 2000000
namespace Ev
open PySem PySem.Spec PyProof.Rows L2

/-- an own class of errors over ValueError -/
def ErrG (G : Gd) (c : Str) : Prop := ∃ C, G.mg c = some (.ref C) ∧ PySem.W.excIn G.K C [.type "ValueError", .type "Exception", .type "BaseException", .type "object"] "ValueError.__new__" = true ∧ PySem.W.keepIn G.K (.ref C) = true ∧
  PySem.W.subIn G.K (.ref C) (.type "BaseException") = some true ∧ PySem.W.typeIn G.K (.ref C) = some (.type "type")
/-- an except clause's answers, class by class -/
def ErrT (G : Gd) (c : Str) (tbl : List (Str × Bool)) : Prop := ∃ C, G.mg c = some (.ref C) ∧ ∀ q ∈ tbl, ∃ D, G.mg q.1 = some (.ref D) ∧ PySem.W.exmOne G.K (.ref D) (.ref C) = some q.2
abbrev Gd.heat (G : Gd) : Gd := { G with hot := true }
mutual
def Stm.good (G : Gd) : Stm → Prop
  | .raise c => G.hot = false ∧ ErrG G c
  | .tryC c tbl _ a b => G.hot = false ∧ ErrT G c tbl ∧ a.good G ∧ b.good G.heat
  | .asg (.nm _ _) a => a.good G
  | .asg (.tup _) a => G.hot = false ∧ a.good G
  | .setI _ _ k a => k.good G ∧ a.good G
  | .par _ _ _ _ a b => G.hot = false ∧ a.good G ∧ b.good G
  | .ite c a b => c.good G ∧ a.good G ∧ b.good G
  | .while c a => c.good G ∧ a.good G
  | .for _ it a => G.hot = false ∧ it.good G ∧ a.good G
  | .ret a => a.good G
  | .expr a => a.good G
  | .append _ _ a => a.good G
  | _ => True
def Stms.good (G : Gd) : Stms → Prop
  | .nil => True
  | .cons a as => a.good G ∧ as.good G
end
/-! ### the syntax -/
def noComp : Expr → Bool
  | .ListComp _ _ _ _ => false
  | .SetComp _ _ _ _ => false
  | .DictComp _ _ _ _ _ => false
  | _ => true
def notTup : Expr → Bool
  | .Tuple _ _ _ => false
  | _ => true
/-- a comprehension stored in a name on one line -/
def swapB (sc : Scope) (y : Str) (py : Pos) : Expr → Bool
  | .ListComp _ _ s pos => (if sc.kind.isAnnotationScope then ScopeKind.function else sc.kind) == .function && sc.names.lookup y == some .local && py.line == pos.line && !(s.names.any fun (n, k) => n == y && (k == .local || k == .cell))
  | _ => false
/-- two names stored at once -/
def parB (sc : Scope) (t1 t2 a b : Expr) : Bool := match t1, t2 with
  | .Name x px, .Name y py => (if sc.kind.isAnnotationScope then ScopeKind.function else sc.kind) == .function && sc.names.lookup x == some .local && sc.names.lookup y == some .local && py.line == px.line && !(x == y)
      && notStar a && notStar b && !([a, b].all (foldedForSure 8)) && !([a, b].all (constantsAlone 8))
  | _, _ => false
mutual
def okSt (N : List Str) (sc : Scope) : Stm → Stmt → Bool
  | .asg (.nm i x) a, .Assign [.Name y _] e _ => decide (x = y) && locB N sc i x && okE N sc a e
  | .asg (.tup ts) a, .Assign [.Tuple es _ _] e _ => okTs N sc ts es && notTup e && noComp e && okE N sc a e
  | .par i x j y a b, .Assign [.Tuple [.Name x' px, .Name y' py] _ _] (.Tuple [e1, e2] _ _) _ => decide (x = x') && decide (y = y') && decide (N[i]? = some x) && decide (N[j]? = some y) && decide (i ≠ j) && parB sc (.Name x' px) (.Name y' py) e1 e2 && okE N sc a e1 && okE N sc b e2
  | .setI i x k a, .Assign [.Subscript (.Name y _) e2 _] e _ => decide (x = y) && visB N sc i x && plainIx e2 && notTup e && noComp e && okE N sc k e2 && okE N sc a e
  | .ite c a b, .If e s1 s2 _ => tst c && okE N sc c e && okSts N sc a s1 && okSts N sc b s2
  | .while c a, .While e s1 [] _ => tst c && okE N sc c e && okSts N sc a s1
  | .for t it a, .For tg e s1 [] _ => okT N sc t tg && okI N sc it tg e && okSts N sc a s1
  | .ret a, .Return (some e) _ => okE N sc a e
  | .retN, .Return none _ => true
  | .expr a, .Expr e _ => noComp e && okE N sc a e
  | .append i x a, .Expr (.Call (.Attribute (.Name y _) m apos) [e] [] cpos) _ => decide (x = y) && visB N sc i x && decide (m = "append") && (apos.endLine == cpos.line) && notStar e && okE N sc a e
  | .pop i x, .Expr (.Call (.Attribute (.Name y _) m apos) [] [] cpos) _ => decide (x = y) && visB N sc i x && decide (m = "pop") && (apos.endLine == cpos.line)
  | .pass, .Pass _ => true
  | .brk, .Break _ => true
  | .cont, .Continue _ => true
  | .never, _ => true
  | .tryC c _ none a b, .Try body [.ExceptHandler (some (.Name x _)) none (s1 :: ss) _] [] [] _ => decide (c = x) && glB sc x && okSts N sc a body && okSts N sc b (s1 :: ss)
  | .tryC c _ (some (i, y)) a b, .Try body [.ExceptHandler (some (.Name x _)) (some z) (s1 :: ss) _] [] [] _ => decide (c = x) && glB sc x && decide (y = z) && decide (N[i]? = some z) && decide (sc.names.lookup z = some .local) && okSts N sc a body && okSts N sc b (s1 :: ss)
  | .raise c, .Raise (some (.Call (.Name x _) [.Constant (.str _) _ _] [] _)) none _ => decide (c = x) && glB sc x
  | _, _ => false
def okSts (N : List Str) (sc : Scope) : Stms → List Stmt → Bool
  | .nil, [] => true
  | .cons a as, s :: ss => okSt N sc a s && okSts N sc as ss
  | _, _ => false
end

/-! ### what is wanted behind a statement -/
def ResIs (K : PySem.W.Frag) (mg : Mg) (H₀ F H : Hp) (v : V) : Sl → Prop
  | .val d => Is K mg F v d
  | .own ds => ∃ p vs, v = .ref p ∧ H₀ p = none ∧ F p = none ∧ H p = some (.lst vs) ∧ IsAll K mg F vs ds
  | .bor _ => False
def FPost (X : Cx) (H₀ F : Hp) (D : Ends) : Fl → Prop
  | .nx e => ∀ F' σ' H', Grow H₀ F F' → Rep X.K (mX X) H₀ F' e σ' H' → D.nx σ' H'
  | .bk e => ∀ F' σ' H', Grow H₀ F F' → Rep X.K (mX X) H₀ F' e σ' H' → D.bk σ' H'
  | .ct e => ∀ F' σ' H', Grow H₀ F F' → Rep X.K (mX X) H₀ F' e σ' H' → D.ct σ' H'
  | .rt s => ∀ F' H' v, Grow H₀ F F' → Sm X.K H₀ H' → Same F' H' → ResIs X.K (mX X) H₀ F' H' v s → D.rt v H'
/-- the slots may have changed -/
def RS (X : Cx) (W : WX) (H₀ F : Hp) {α : Type} (r : R α) (ok : α → Prop) : Prop := match r with
  | .ok a => ok a
  | .exc x e => ∀ F' σ' H' cls dd, Grow H₀ F F' → Rep X.K (mX X) H₀ F' e σ' H' → XIs X.K (mX X) F' H' x cls dd → W cls dd σ' H'
  | .bad => False
def tF (X : Cx) (W : WX) (f : En → R Fl) : TS := fun D σ H => ∃ H₀ F env, Rep X.K (mX X) H₀ F env σ H ∧ RS X W H₀ F (f env) (FPost X H₀ F D)
section
variable {X : Cx} {W : WX} {H₀ F F' H : Hp} {σ : L2.St} {env : En} {α β : Type}
theorem RS.bind {r : R α} {f : α → R β} {ok : β → Prop} (h : RS X W H₀ F (R.bind r f) ok) : RS X W H₀ F r fun a => RS X W H₀ F (f a) ok := by
  cases r with
  | ok a => exact h
  | exc x e => exact h
  | bad => exact h
theorem RS.mono {r : R α} {ok ok' : α → Prop} (h : RS X W H₀ F r ok) (hi : ∀ a, ok a → ok' a) : RS X W H₀ F r ok' := by
  cases r with
  | ok a => exact hi _ h
  | exc x e => exact h
  | bad => exact h
theorem RS.grow {r : R α} {ok : α → Prop} (h : RS X W H₀ F r ok) (g : Grow H₀ F F') : RS X W H₀ F' r ok := by
  cases r with
  | ok a => exact h
  | exc x e => exact fun F2 σ' H' cls dd g2 => h F2 σ' H' cls dd (g.trans g2)
  | bad => exact h
theorem RS.rp {r : R α} {ok : α → Prop} (h : RS X W H₀ F r ok) : RP X W H₀ F σ r ok := by
  cases r with
  | ok a => exact h
  | exc x e => exact fun F2 H' cls dd g => h F2 σ H' cls dd g
  | bad => exact h
theorem FPost.grow {D : Ends} {fl : Fl} (h : FPost X H₀ F D fl) (g : Grow H₀ F F') : FPost X H₀ F' D fl := by
  cases fl with
  | nx e => exact fun F2 σ' H' g2 => h F2 σ' H' (g.trans g2)
  | bk e => exact fun F2 σ' H' g2 => h F2 σ' H' (g.trans g2)
  | ct e => exact fun F2 σ' H' g2 => h F2 σ' H' (g.trans g2)
  | rt s => exact fun F2 H' v g2 => h F2 H' v (g.trans g2)
theorem RS.fgrow {D : Ends} {r : R Fl} (h : RS X W H₀ F r (FPost X H₀ F D)) (g : Grow H₀ F F') : RS X W H₀ F' r (FPost X H₀ F' D) := (h.grow g).mono fun _ q => q.grow g
theorem PS.imp {st : Stmt} {t t' : TS} (h : PS X st t) (hi : ∀ D σ H, t' D σ H → t D σ H) : PS X st t' := ⟨fun pins s σ H D I q => h.run pins s σ H D I (hi _ _ _ q)⟩
theorem PSs.imp {st : List Stmt} {t t' : TS} (h : PSs X st t) (hi : ∀ D σ H, t' D σ H → t D σ H) : PSs X st t' := ⟨fun pins s σ H D I q => h.run pins s σ H D I (hi _ _ _ q)⟩
variable {n : Nat}
theorem okS_solid {env e' : En} {p : Pr} {ds : List D} (h : okS env p = .ok (.bor ds, e')) : False := by
  cases p <;> cases h
theorem evO_solid {a : Ex} {env e' : En} {ds : List D} (h : evO a env = .ok (.bor ds, e')) : False := by
  have leaf : ∀ (r : R (D × En)), (R.bind r fun p => R.ok ((Sl.val p.1, p.2) : Sl × En)) = .ok (.bor ds, e') → False := fun r q => by
    cases r <;> cases q
  cases a with
  | prim p as =>
    rw [evO_prim] at h
    unfold primF at h
    cases q : evA as env with
    | ok q1 =>
      rw [q] at h
      simp only [R.bind_ok] at h
      split at h
      · exact okS_solid h
      · cases h
    | exc x e => rw [q] at h; cases h
    | bad => rw [q] at h; cases h
  | call f den dfl as =>
    rw [evO_call] at h
    unfold callF at h
    cases q : evA as env with
    | ok q1 =>
      rw [q] at h
      simp only [R.bind_ok] at h
      split at h
      · next l _ =>
        cases w : den (l ++ dfl.map Sl.val) with
        | ok s => rw [w] at h; cases s <;> cases h
        | exc x => rw [w] at h; cases h
        | bad => rw [w] at h; cases h
      · cases h
    | exc x e => rw [q] at h; cases h
    | bad => rw [q] at h; cases h
  | slc a lo hi =>
    rw [evO_slc] at h
    unfold slcF at h
    cases q : evOp a env with
    | ok q1 =>
      rw [q] at h
      simp only [R.bind_ok] at h
      cases q2 : evOI lo q1.2 with
      | ok l =>
        rw [q2] at h
        simp only [R.bind_ok] at h
        cases q3 : evOI hi l.2 with
        | ok l2 =>
          rw [q3] at h
          simp only [R.bind_ok] at h
          split at h
          · exact okS_solid h
          · cases h
        | exc x e => rw [q3] at h; cases h
        | bad => rw [q3] at h; cases h
      | exc x e => rw [q2] at h; cases h
      | bad => rw [q2] at h; cases h
    | exc x e => rw [q] at h; cases h
    | bad => rw [q] at h; cases h
  | comp own tg it elt =>
    rw [evO_comp] at h
    unfold compF at h
    cases q : evI it env with
    | ok q1 =>
      rw [q] at h
      simp only [R.bind_ok] at h
      split at h
      · split at h <;> cases h
      · cases h
    | exc x e => rw [q] at h; cases h
    | bad => rw [q] at h; cases h
  | compif own tg it c elt =>
    rw [evO_compif] at h
    unfold compF at h
    cases q : evI it env with
    | ok q1 =>
      rw [q] at h
      simp only [R.bind_ok] at h
      split at h
      · split at h <;> cases h
      · cases h
    | exc x e => rw [q] at h; cases h
    | bad => rw [q] at h; cases h
  | var i x => exact leaf (evE _ env) h
  | rd i x => exact leaf (evE _ env) h
  | con c => exact leaf (evE _ env) h
  | glob x d => exact leaf (evE (.glob x d) env) h
  | isi t as => exact leaf (evE _ env) h
  | and a b => exact leaf (evE _ env) h
  | or a b => exact leaf (evE _ env) h
  | not a => exact leaf (evE _ env) h
  | ite c a b => exact leaf (evE _ env) h
  | chain p q a b c => exact leaf (evE _ env) h
  | srt i x j y =>
    have h' : okS env (srtP i j env) = .ok (.bor ds, e') := h
    exact okS_solid h'
  | isC c tbl as => exact leaf (evE _ env) h
/-- the post of a stored expression, from a condition on each outcome -/
theorem evO_post {a : Ex} {Q : VK} {ok : Sl × En → Prop} (h : RP X W H₀ F σ (evO a env) ok) (hv : ∀ d e, ok (.val d, e) → SPost X H₀ F σ Q (.val d, e)) (ho : ∀ ds e, ok (.own ds, e) → SPost X H₀ F σ Q (.own ds, e)) :
    RP X W H₀ F σ (evO a env) (SPost X H₀ F σ Q) := by
  cases q : evO a env with
  | ok p =>
    rw [q] at h
    obtain ⟨s, e'⟩ := p
    cases s with
    | val d => exact hv d e' h
    | own ds => exact ho ds e' h
    | bor ds => exact (evO_solid q).elim
  | exc x e => rw [q] at h; exact h
  | bad => rw [q] at h; exact h
/-! ### small statements -/
theorem s_expr {a : Ex} {e : Expr} {pos : Pos} (hn : noComp e = true) (pe : PE X e (tE X W (evE a))) : PS X (.Expr e pos) (tF X W (evS (.expr a))) := by
  refine PS.imp (ps_expr pe (by cases e <;> first | rfl | (simp [noComp] at hn))) fun D σ H ⟨H₀, F, env, Rp, q⟩ => ?_
  unfold evS at q
  exact ⟨H₀, F, env, Rp, (RS.rp (RS.bind q)).mono fun p hp F' H' v g R' _ => hp F' σ H' g R'⟩
theorem s_pass {pos : Pos} : PS X (.Pass pos) (tF X W (evS .pass)) := PS.imp ps_pass fun D σ H ⟨H₀, F, env, Rp, q⟩ => q F σ H Grow.refl Rp
theorem s_brk {pos : Pos} : PS X (.Break pos) (tF X W (evS .brk)) := PS.imp ps_break fun D σ H ⟨H₀, F, env, Rp, q⟩ => q F σ H Grow.refl Rp
theorem s_cont {pos : Pos} : PS X (.Continue pos) (tF X W (evS .cont)) := PS.imp ps_continue fun D σ H ⟨H₀, F, env, Rp, q⟩ => q F σ H Grow.refl Rp
theorem s_never {st : Stmt} : PS X st (tF X W (evS .never)) := ⟨fun _ _ _ _ _ _ q => by obtain ⟨_, _, _, _, q⟩ := q; exact q.elim⟩
theorem s_raise (t : Xt X n W) (hc : X.calm = true) {c m : Str} {j : Nat} {p p2 pos pos' : Pos} (g : ErrG (gd X n) c) (hg : glB X.env.scope c = true) : PS X (.Raise (some (.Call (.Name c p) [.Constant (.str m) j p2] [] pos)) none pos') (tF X W (evS (.raise c))) := by
  obtain ⟨C, g1, g2, g3, g4, g5⟩ := g
  obtain ⟨h1, h2⟩ := gl_of hg rfl
  refine PS.imp (ps_raise hc t.tk (pmk_own PySem.F.excBase_ValueError g2 g1 g3 (raises_own g4 g5) h1 h2)) fun D σ H ⟨H₀, F, env, Rp, q⟩ => ?_
  exact q F σ H _ _ Grow.refl Rp ⟨C, [], g1, rfl, rfl, rfl, .nil, rfl⟩
theorem s_retN {pos : Pos} : PS X (.Return none pos) (tF X W (evS .retN)) := PS.imp ps_retN fun D σ H ⟨H₀, F, env, Rp, q⟩ => q F H _ Grow.refl Rp.h0 Rp.hf .non
theorem s_ret {a : Ex} {e : Expr} {pos : Pos} (hv : ∀ i x, a = .var i x → ∃ p, e = .Name x p ∧ visB X.N X.env.scope i x = true) (ps : PE X e (tS X W (evO a))) : PS X (.Return (some e) pos) (tF X W (evS (.ret a))) := by
  cases q : varIx a with
  | some i =>
    cases a <;> simp only [varIx, reduceCtorEq, Option.some.injEq] at q
    next j x =>
    obtain ⟨p, rfl, hx⟩ := hv j x rfl
    obtain ⟨h1, h2, h3, h4⟩ := vis_of hx
    refine PS.imp (ps_ret (pe_var h1 h2 h3 h4)) fun D σ H ⟨H₀, F, env, Rp, q⟩ => ?_
    replace q : RS X W H₀ F (match lk env j with | some (.val d) => .ok (.rt (.val d)) | some (.own ds) => .ok (.rt (.own ds)) | _ => .bad) (FPost X H₀ F D) := q
    split at q
    · next d e =>
      obtain ⟨v, g1, g2⟩ := Rp.sl j _ e
      exact ⟨v, g1, q F H v Grow.refl Rp.h0 Rp.hf g2⟩
    · next ds e =>
      obtain ⟨v, g1, g2⟩ := Rp.sl j _ e
      exact ⟨v, g1, q F H v Grow.refl Rp.h0 Rp.hf g2⟩
    · exact q.elim
  | none =>
    refine PS.imp (ps_ret ps) fun D σ H ⟨H₀, F, env, Rp, w⟩ => ?_
    unfold evS at w
    rw [q] at w
    exact ⟨H₀, F, env, Rp, evO_post (RS.rp (RS.bind w)) (fun d e hp F' H' v g R' is => hp F' H' v g R'.h0 R'.hf is) fun ds e hp F' H' a vs g R' z f l all _ => hp F' H' _ g R'.h0 R'.hf ⟨a, vs, rfl, z, f, l, all⟩⟩
theorem s_ite {c : Ex} {a b : Stms} {e : Expr} {s1 s2 : List Stmt} {pos : Pos} (hc : PT X e (tB' X W (evB c))) (ha : PSs X s1 (tF X W (evSs a))) (hb : PSs X s2 (tF X W (evSs b))) : PS X (.If e s1 s2 pos) (tF X W (evS (.ite c a b))) := by
  refine PS.imp (ps_if hc ha hb) fun D σ H ⟨H₀, F, env, Rp, q⟩ => ?_
  unfold evS at q
  refine ⟨H₀, F, env, Rp, (RS.rp (RS.bind q)).mono fun p hp F' H' g R' => ?_⟩
  obtain ⟨b', e'⟩ := p
  cases b' with
  | true => rw [if_pos rfl]; exact ⟨H₀, F', e', R', RS.fgrow hp g⟩
  | false => rw [if_neg Bool.false_ne_true]; exact ⟨H₀, F', e', R', RS.fgrow hp g⟩
/-! ### stores -/
theorem swap_none {e : Expr} {t : Option Expr} {l : Nat} {env : Env} (h : noComp e = true) : swapsWith e t l env = pure false := by
  cases e <;> first | rfl | (simp [noComp] at h)
theorem swap_is {y : Str} {py : Pos} {e : Expr} {l : Nat} (hno : ∀ a b c d, e ≠ .SetComp a b c d) (hno2 : ∀ a b c d f, e ≠ .DictComp a b c d f) : swapsWith e (some (.Name y py)) l X.env = pure (swapB X.env.scope y py e) := by
  cases e <;> first | rfl | exact (hno _ _ _ _ rfl).elim | exact (hno2 _ _ _ _ _ rfl).elim
theorem s_asgN (t : Xt X n W) (hl : LocOk X X.env.scope) {i : Nat} {x : Str} {a : Ex} {e : Expr} {py pos : Pos} (hx : locB X.N X.env.scope i x = true) (ps : PE X e (tS X W (evO a)))
    (asg : ∀ te, PE X e te → PS X (.Assign [.Name x py] e pos) (tAsg te (gName i))) : PS X (.Assign [.Name x py] e pos) (tF X W (evS (.asg (.nm i x) a))) := by
  refine PS.imp (asg _ ps) fun D σ H ⟨H₀, F, env, Rp, w⟩ => ?_
  unfold evS at w
  exact ⟨H₀, F, env, Rp, evO_post (RS.rp (RS.bind w)) (fun d e hp F' H' v g R' is => hp F' _ H' g (R'.setVal is)) fun ds e hp F' H' a vs g R' z f l all new => hp F' _ H' g (R'.setOwn z f l all new)⟩
end
end Ev
set_option Elab.async false
set_option linter.all false
set_option maxRecDepth 100000
set_option maxHeartbeats 2000000
namespace Ev
open PySem PySem.Spec PyProof.Rows L2
section
variable {X : Cx} {W : WX} {H₀ F F' H : Hp} {σ : L2.St} {env : En} {n : Nat}
/-! ### stores -/
theorem s_asg1 (t : Xt X n W) (hl : LocOk X X.env.scope) (B : ∀ te : TE, True) {i : Nat} {x : Str} {a : Ex} {e : Expr} {py pos : Pos} (hx : locB X.N X.env.scope i x = true) (hn : noComp e = true) (ps : PE X e (tS X W (evO a))) :
    PS X (.Assign [.Name x py] e pos) (tF X W (evS (.asg (.nm i x) a))) := by
  obtain ⟨h1, h2⟩ := loc_of hx
  exact s_asgN t hl hx ps fun te pe => ps_set t.nd h1 h2 pe (swap_none hn) (hl x h2).2
/-- a comprehension stored in a name -/
theorem s_asgC (t : Xt X n W) (hl : LocOk X X.env.scope) {i : Nat} {x : Str} {a : Ex} {elt : Expr} {gs : List Comprehension} {scope : Scope} {p2 py pos : Pos} (hx : locB X.N X.env.scope i x = true)
    (ps : PE X (.ListComp elt gs scope p2) (tS X W (evO a)))
    (lc : X.env.scope.names.lookup x = some .local → swapsWith (.ListComp elt gs scope p2) (some (.Name x py)) pos.line X.env = pure true → PS X (.Assign [.Name x py] (.ListComp elt gs scope p2) pos) (tAsg (tS X W (evO a)) (gName i))) :
    PS X (.Assign [.Name x py] (.ListComp elt gs scope p2) pos) (tF X W (evS (.asg (.nm i x) a))) := by
  obtain ⟨h1, h2⟩ := loc_of hx
  have sw : swapsWith (.ListComp elt gs scope p2) (some (.Name x py)) pos.line X.env = pure (swapB X.env.scope x py (.ListComp elt gs scope p2)) := swap_is (by intros; intro z; cases z) (by intros; intro z; cases z)
  have main : PS X (.Assign [.Name x py] (.ListComp elt gs scope p2) pos) (tAsg (tS X W (evO a)) (gName i)) := by
    cases q : swapB X.env.scope x py (.ListComp elt gs scope p2) with
    | false => rw [q] at sw; exact ps_set t.nd h1 h2 ps sw (hl x h2).2
    | true =>
      rw [q] at sw
      refine lc ?_ sw
      unfold swapB at q
      simp only [Bool.and_eq_true] at q
      exact beq_iff_eq.mp q.1.1.2
  refine PS.imp main fun D σ H ⟨H₀, F, env, Rp, w⟩ => ?_
  unfold evS at w
  exact ⟨H₀, F, env, Rp, evO_post (RS.rp (RS.bind w)) (fun d e hp F' H' v g R' is => hp F' _ H' g (R'.setVal is)) fun ds e hp F' H' a vs g R' z f l all new => hp F' _ H' g (R'.setOwn z f l all new)⟩
theorem swapped_none {tg e : Expr} {env : Env} (h : notTup e = true) : swappedStores [tg] e env = pure none := by
  cases e <;> first | (simp [notTup] at h; done) | (cases tg <;> rfl)
theorem s_asgT (t : Xt X n W) (hc : X.calm = true) (hl : LocOk X X.env.scope) {ts : Tgts} {es : List Expr} {a : Ex} {e : Expr} {k : Nat} {p2 pos : Pos} (ht : okTs X.N X.env.scope ts es = true) (hn : noComp e = true) (hu : notTup e = true) (pe : PE X e (tE X W (evE a))) :
    PS X (.Assign [.Tuple es k p2] e pos) (tF X W (evS (.asg (.tup ts) a))) := by
  have pg := sndT t hc hl (.tup ts) (.Tuple es k p2) (by simpa [okT] using ht)
  refine PS.imp (ps_asg pe pg (swap_none (l := pos.line) (t := some (.Tuple es k p2)) (env := X.env) hn) (swapped_none hu)) fun D σ H ⟨H₀, F, env, Rp, w⟩ => ?_
  unfold evS at w
  refine ⟨H₀, F, env, Rp, (RS.rp (RS.bind w)).mono fun p hp F' H' v g R' is => ?_⟩
  split at hp
  · next e2 q => exact ⟨H₀, F', p.2, p.1, e2, R', is, q, fun σ' R2 _ => hp F' σ' H' g R2⟩
  · exact hp.elim
theorem s_setI (t : Xt X n W) {i : Nat} {x : Str} {k a : Ex} {e2 e : Expr} {p1 p2 pos : Pos} (hx : visB X.N X.env.scope i x = true) (hp2 : plainIx e2 = true) (hn : noComp e = true) (hu : notTup e = true) (pk : PE X e2 (tE X W (evE k))) (pe : PE X e (tE X W (evE a))) :
    PS X (.Assign [.Subscript (.Name x p1) e2 p2] e pos) (tF X W (evS (.setI i x k a))) := by
  have pg := pg_sub (pos := p2) (l_rdO (W := W) (pos := p1) hx) pk set_list (by intro v; cases e2 <;> first | rfl | (simp [plainIx] at hp2))
  refine PS.imp (ps_asg pe pg (swap_none (l := pos.line) (t := some (.Subscript (.Name x p1) e2 p2)) (env := X.env) hn) (swapped_none hu)) fun D σ H ⟨H₀, F, env, Rp, w⟩ => ?_
  unfold evS at w
  refine ⟨H₀, F, env, Rp, (RS.rp (RS.bind w)).mono fun q hq F1 H1 v g1 R1 is1 => ?_⟩
  unfold slotR at hq
  cases lq : lk q.2 i with
  | none => rw [lq] at hq; exact hq.elim
  | some s0 =>
    rw [lq] at hq
    simp only [R.bind_ok] at hq
    refine ⟨H₀, F1, q.2, R1, ?_⟩
    show RP X W H₀ F1 σ (slotR i q.2) _
    unfold slotR
    rw [lq]
    intro F2 H2 vo g2 R2 is2
    replace is2 : σ[i]? = some (some vo) := is2
    refine ⟨H₀, F2, q.2, R2, (RS.rp ((RS.bind hq).grow (g1.trans g2))).mono fun p hp F3 H3 vk g3 R3 is3 => ?_⟩
    split at hp
    · next ds j e1 e2 =>
      rw [e2] at is3
      cases Is.inv_int is3
      split at hp
      · next m em =>
        obtain ⟨w, k1, pa, vs, rfl, z, f, l, all⟩ := R3.sl i _ e1
        have : vo = .ref pa := by have := is2.symm.trans k1; simpa using this
        subst this
        refine ⟨pa, vs, j, m, rfl, rfl, l, by rw [all.length]; exact em, ?_⟩
        exact hp F3 σ _ ((g1.trans g2).trans g3) (R3.write e1 k1 (all.set m (Is.mono (g2.trans g3).1 is1)))
      · exact hp.elim
    · exact hp.elim
theorem base_name {x m : Str} {p : Pos} : attributeBase (.Name x p) m X.env (eval (.Name x p) X.env) = eval (.Name x p) X.env := rfl
theorem s_append (t : Xt X n W) {i : Nat} {x m : Str} {a : Ex} {e : Expr} {p1 apos cpos pos : Pos} (hx : visB X.N X.env.scope i x = true) (hm : m = "append") (hline : (apos.endLine == cpos.line) = true) (hs : notStar e = true) (pe : PE X e (tE X W (evE a))) :
    PS X (.Expr (.Call (.Attribute (.Name x p1) m apos) [e] [] cpos) pos) (tF X W (evS (.append i x a))) := by
  subst hm
  obtain ⟨h1, h2, h3, h4⟩ := vis_of hx
  have st := star_cons (es := []) (env := X.env) hs
  have few : ((backTo cpos (starEach (e :: []) X.env)).all (fun x => !x.1) && (backToKw cpos (keywordEach [] X.env)).all (fun x => x.1.isSome)
      && decide ((e :: ([] : List Expr)).length + ([] : List Keyword).length + (if ([] : List Keyword).isEmpty then 0 else 1) < 30)) = true := by rw [st]; rfl
  refine PS.imp (ps_expr (pe_bm PySem.F.plainAttrs_list PySem.F.slot_list_append PySem.F.type_list_append mt_append (pe_var (pos := p1) h1 h2 h3 h4) (pa_cons pe pa_nil st) base_name few hline st rfl)) fun D σ H ⟨H₀, F, env, Rp, w⟩ => ?_
  unfold evS at w
  split at w
  · next ds0 e0 =>
    obtain ⟨v, k1, pa, vs, rfl, z, f, l, all⟩ := Rp.sl i _ e0
    refine ⟨_, k1, .inl ⟨rfl, vs, SqL.of l⟩, H₀, F, env, Rp, (RS.rp (RS.bind w)).mono fun p hp F1 H1 y g R1 is => ?_⟩
    split at hp
    · next ds e1 =>
      split at hp
      · next hlen =>
        obtain ⟨v2, k2, pa2, vs2, rfl, z2, f2, l2, all2⟩ := R1.sl i _ e1
        have : pa2 = pa := by have := k2.symm.trans k1; simpa using this
        subst this
        refine ⟨_, vs2, y, rfl, rfl, l2, by rw [all2.length]; exact Nat.lt_trans hlen (by decide), ?_⟩
        exact hp F1 σ _ g (R1.write e1 k2 (all2.append (.cons is .nil)))
      · exact hp.elim
    · exact hp.elim
  · exact w.elim
theorem s_pop (t : Xt X n W) {i : Nat} {x m : Str} {p1 apos cpos pos : Pos} (hx : visB X.N X.env.scope i x = true) (hm : m = "pop") (hline : (apos.endLine == cpos.line) = true) :
    PS X (.Expr (.Call (.Attribute (.Name x p1) m apos) [] [] cpos) pos) (tF X W (evS (.pop i x))) := by
  subst hm
  obtain ⟨h1, h2, h3, h4⟩ := vis_of hx
  refine PS.imp (ps_expr (pe_bm0 PySem.F.plainAttrs_list PySem.F.slot_list_pop PySem.F.type_list_pop mt_pop (pe_var (pos := p1) h1 h2 h3 h4) base_name hline)) fun D σ H ⟨H₀, F, env, Rp, w⟩ => ?_
  unfold evS at w
  split at w
  · next ds e0 =>
    split at w
    · exact w.elim
    · next hne =>
      obtain ⟨v, k1, pa, vs, rfl, z, f, l, all⟩ := Rp.sl i _ e0
      have hl := all.length
      have hlt : vs.length - 1 < vs.length := by omega
      refine ⟨_, k1, .inl ⟨rfl, vs, SqL.of l⟩, pa, vs, _, rfl, rfl, l, List.getElem?_eq_getElem hlt, ?_⟩
      exact w F σ _ Grow.refl (Rp.write e0 k1 all.dropLast)
  · exact w.elim
/-! ### loops -/
theorem s_while (t : Xt X n W) {c : Ex} {a : Stms} {e : Expr} {s1 : List Stmt} {pos : Pos} (hc : PT X e (tB' X W (evB c))) (ha : PSs X s1 (tF X W (evSs a))) : PS X (.While e s1 [] pos) (tF X W (evS (.while c a))) := by
  refine PS.imp (ps_while t.pass hc ha) fun D σ H ⟨H₀, F, env, Rp, w⟩ => ?_
  unfold evS at w
  replace w : RS X W H₀ F (whileD (evB c) (fun e => evSs a e) env) (FPost X H₀ F D) := w
  unfold whileD at w
  split at w
  case isFalse => exact w.elim
  case isTrue hex =>
  generalize hr : hex.choose_spec.choose = r at w
  have hn := hex.choose_spec.choose_spec
  rw [hr] at hn
  refine ⟨fun m σ' H' => ∃ F' env', Grow H₀ F F' ∧ Rep X.K (mX X) H₀ F' env' σ' H' ∧ loopN (evB c) (fun e => evSs a e) m env' = some r, ⟨_, F, env, Grow.refl, Rp, hn⟩, ?_⟩
  rintro m σ1 H1 ⟨F1, env1, g1, R1, h1⟩
  cases m with
  | zero => simp [loopN] at h1
  | succ m =>
    unfold loopN at h1
    refine ⟨H₀, F1, env1, R1, ?_⟩
    cases ec : evB c env1 with
    | bad => rw [ec] at h1; simp only [Option.some.injEq] at h1; subst h1; exact w.elim
    | exc x e2 => rw [ec] at h1; simp only [Option.some.injEq] at h1; subst h1; exact RS.rp (w.grow g1)
    | ok p =>
      rw [ec] at h1
      obtain ⟨b, e1⟩ := p
      intro F2 H2 g2 R2
      have g12 := g1.trans g2
      cases b with
      | false =>
        simp only [Option.some.injEq] at h1
        subst h1
        rw [if_neg Bool.false_ne_true]
        exact w F2 _ H2 g12 R2
      | true =>
        rw [if_pos rfl]
        dsimp only at h1
        refine ⟨fun σ' H' => ∃ m', m' < m + 1 ∧ ∃ F' env', Grow H₀ F F' ∧ Rep X.K (mX X) H₀ F' env' σ' H' ∧ loopN (evB c) (fun e => evSs a e) m' env' = some r, fun σ' H' h => h, H₀, F2, e1, R2, ?_⟩
        cases eb : evSs a e1 with
        | bad => rw [eb] at h1; simp only [Option.some.injEq] at h1; subst h1; exact w.elim
        | exc x e2 => rw [eb] at h1; simp only [Option.some.injEq] at h1; subst h1; exact w.grow g12
        | ok fl =>
          rw [eb] at h1
          cases fl with
          | nx e2 => exact fun F3 σ3 H3 g3 R3 => ⟨m, Nat.lt_succ_self m, F3, e2, g12.trans g3, R3, h1⟩
          | ct e2 => exact fun F3 σ3 H3 g3 R3 => ⟨m, Nat.lt_succ_self m, F3, e2, g12.trans g3, R3, h1⟩
          | bk e2 => simp only [Option.some.injEq] at h1; subst h1; exact fun F3 σ3 H3 g3 R3 => w F3 σ3 H3 (g12.trans g3) R3
          | rt s => simp only [Option.some.injEq] at h1; subst h1; exact fun F3 H3 v g3 h0 hf is => w F3 H3 v (g12.trans g3) h0 hf is
def turnS (tg : Tgt) (a : En → R Fl) (x : Ev.D) (e : En) : R Fl := match setT tg x e with | some e1 => a e1 | none => .bad
theorem forD_cons (b : Ev.D → En → R Fl) (x : Ev.D) (r : List Ev.D) (e : En) : forD b (x :: r) e = (match b x e with
      | .ok (.nx e2) => forD b r e2
      | .ok (.ct e2) => forD b r e2
      | .ok (.bk e2) => .ok (.nx e2)
      | .ok (.rt s) => .ok (.rt s)
      | .exc x e2 => .exc x e2
      | .bad => .bad) := rfl
theorem s_for (t : Xt X n W) (hc : X.calm = true) {tg : Tgt} {it : Itr} {a : Stms} {tge e : Expr} {s1 : List Stmt} {pos : Pos} (hI : okI X.N X.env.scope it tge e = true) (pi : PI X tge e (tJ X W (evI it))) (pg : PG X tge (tTg X tg)) (ha : PSs X s1 (tF X W (evSs a))) :
    PS X (.For tge e s1 [] pos) (tF X W (evS (.for tg it a))) := by
  refine PS.imp (ps_for t.pass hc pi pg ha (folded_seq hI)) fun D σ H ⟨H₀, F, env, Rp, w⟩ => ?_
  unfold evS at w
  refine ⟨H₀, F, env, Rp, (RS.rp (RS.bind w)).mono fun q hq F1 H1 J g1 R1 fd => ?_⟩
  refine ⟨fun i m σ' H' => m = q.1.length - i ∧ i ≤ q.1.length ∧ ∃ F' env', Grow H₀ F1 F' ∧ Rep X.K (mX X) H₀ F' env' σ' H' ∧
      RS X W H₀ F (forD (turnS tg fun e => evSs a e) (q.1.drop i) env') (FPost X H₀ F D),
    ⟨q.1.length, by simp, Nat.zero_le _, F1, q.2, Grow.refl, R1, by rw [List.drop_zero]; exact hq⟩, ?_⟩
  rintro i m σ2 H2 ⟨rfl, hi, F2, env2, g2, R2, h2⟩
  have fdi := fd i F2 H2 g2.1 R2.hf
  by_cases hlt : i < q.1.length
  · right
    obtain ⟨go, yl⟩ := fdi.1 _ (List.getElem?_eq_getElem hlt)
    rw [List.drop_eq_getElem_cons hlt] at h2
    rw [forD_cons] at h2
    refine ⟨go, fun σ' H' => i + 1 ≤ q.1.length ∧ ∃ F' env', Grow H₀ F1 F' ∧ Rep X.K (mX X) H₀ F' env' σ' H' ∧
      RS X W H₀ F (forD (turnS tg fun e => evSs a e) (q.1.drop (i + 1)) env') (FPost X H₀ F D), fun σ' H' p => ⟨q.1.length - (i + 1), by omega, rfl, p⟩, fun x H' y => ?_⟩
    have item : ∃ F', Grow H₀ F2 F' ∧ Rep X.K (mX X) H₀ F' env2 σ2 H' ∧ Is X.K (mX X) F' x q.1[i] := by
      rcases yl x H' y with ⟨rfl, is⟩ | ⟨p, ws, ds, np, rfl, rfl, ed, is⟩
      · exact ⟨F2, Grow.refl, R2, is⟩
      · have al := R2.alloc (o := .tup ws) np
        exact ⟨_, al.1, al.2, by rw [ed]; exact .tup (SqT.of upd_same) (IsAll.mono al.1.1 is)⟩
    obtain ⟨F3, g3, R3, is3⟩ := item
    cases es : setT tg q.1[i] env2 with
    | none =>
      have tb : turnS tg (fun e => evSs a e) q.1[i] env2 = .bad := by unfold turnS; rw [es]
      rw [tb] at h2; exact h2.elim
    | some e1 =>
      have tb : turnS tg (fun e => evSs a e) q.1[i] env2 = evSs a e1 := by unfold turnS; rw [es]
      rw [tb] at h2
      refine ⟨H₀, F3, env2, _, e1, R3, is3, es, fun σ3 R4 _ => ⟨H₀, F3, e1, R4, ?_⟩⟩
      have gg := (g1.trans g2).trans g3
      cases eb : evSs a e1 with
      | bad => rw [eb] at h2; exact h2.elim
      | exc x e2 => rw [eb] at h2; exact h2.grow gg
      | ok fl =>
        rw [eb] at h2
        cases fl with
        | nx e2 => exact fun F4 σ4 H4 g4 R5 => ⟨by omega, F4, e2, (g2.trans g3).trans g4, R5, h2⟩
        | ct e2 => exact fun F4 σ4 H4 g4 R5 => ⟨by omega, F4, e2, (g2.trans g3).trans g4, R5, h2⟩
        | bk e2 => exact fun F4 σ4 H4 g4 R5 => h2 F4 σ4 H4 (gg.trans g4) R5
        | rt s => exact fun F4 H4 v g4 h0 hf is => h2 F4 H4 v (gg.trans g4) h0 hf is
  · left
    have hge : q.1.length ≤ i := by omega
    rw [List.drop_eq_nil_of_le hge] at h2
    exact ⟨fdi.2 hge, h2 F2 σ2 H2 (g1.trans g2) R2⟩
/-! ### two names at once -/
theorem par_swap {x y : Str} {px py pt pt2 : Pos} {kt k2 : Nat} {a b : Expr} (h : parB X.env.scope (.Name x px) (.Name y py) a b = true) :
    swappedStores [.Tuple [.Name x px, .Name y py] kt pt] (.Tuple [a, b] k2 pt2) X.env = pure (some [x, y]) := by
  unfold parB at h
  simp only [Bool.and_eq_true, Bool.not_eq_true'] at h
  obtain ⟨⟨⟨⟨⟨⟨⟨⟨h1, h2⟩, h3⟩, h4⟩, h5⟩, h6⟩, h7⟩, h8⟩, h9⟩ := h
  have stb : ∀ e : Expr, notStar e = true → (match e with | .Starred .. => true | _ => false) = false := fun e he => by cases e <;> first | rfl | (simp [notStar] at he)
  have sa := stb a h6
  have sb := stb b h7
  have bk : X.env.blockKind = .function := by unfold Env.blockKind; exact beq_iff_eq.mp h1
  have kx : X.env.kindOf x = some .local := beq_iff_eq.mp h2
  have ky : X.env.kindOf y = some .local := beq_iff_eq.mp h3
  have xy : ([x, y] : List Str).eraseDups = [x, y] := by
    have : (y == x) = false := by rw [Bool.eq_false_iff]; intro z; rw [beq_iff_eq] at z; subst z; simp at h5
    simp [List.eraseDups, List.eraseDupsBy, List.eraseDupsBy.loop, this]
  have fm : ([Expr.Name x px, Expr.Name y py] : List Expr).filterMap (fun x_1 => match x_1 with
      | .Name id pos => if (X.env.kindOf id == some .local && pos.line == (Option.map (fun x => x.pos.line) [Expr.Name x px, Expr.Name y py].head?).getD 0) = true then some id else none
      | _ => none) = [x, y] := by
    have e : (Option.map (fun x => x.pos.line) [Expr.Name x px, Expr.Name y py].head?).getD 0 = px.line := rfl
    rw [e]
    simp [kx, ky, beq_iff_eq.mp h4]
  unfold swappedStores
  dsimp only
  generalize hL : List.filterMap _ [Expr.Name x px, Expr.Name y py] = L
  have hL2 : L = [x, y] := hL.symm.trans fm
  subst hL2
  refine (if_neg (by rw [bk]; simp)).trans ?_
  refine (if_neg ?_).trans ?_
  · simp only [List.any_cons, List.any_nil, Bool.or_false]
    intro z
    rw [Bool.or_eq_true] at z
    rcases z with z | z
    · exact Bool.noConfusion (sa.symm.trans z)
    · exact Bool.noConfusion (sb.symm.trans z)
  rw [xy, h8, h9, if_neg (by simp), if_neg (by simp), if_neg (by simp)]
theorem s_par (t : Xt X n W) (hc : X.calm = true) {i j : Nat} {x y : Str} {a b : Ex} {e1 e2 : Expr} {px py p1 p2 pos : Pos} {k1 k2 : Nat} (hi : X.N[i]? = some x) (hj : X.N[j]? = some y) (hij : i ≠ j) (hp : parB X.env.scope (.Name x px) (.Name y py) e1 e2 = true)
    (pa : PE X e1 (tE X W (evE a))) (pb : PE X e2 (tE X W (evE b))) : PS X (.Assign [.Tuple [.Name x px, .Name y py] k1 p1] (.Tuple [e1, e2] k2 p2) pos) (tF X W (evS (.par i x j y a b))) := by
  have hp' := hp
  unfold parB at hp'
  simp only [Bool.and_eq_true, Bool.not_eq_true'] at hp'
  obtain ⟨⟨⟨⟨⟨⟨⟨⟨_, h2⟩, h3⟩, _⟩, _⟩, h6⟩, h7⟩, _⟩, _⟩ := hp'
  refine PS.imp (ps_par hc t.nd hi hj hij (beq_iff_eq.mp h2) (beq_iff_eq.mp h3) (pa_cons pa (pa_cons pb pa_nil (star_cons h7)) (star_cons h6)) (par_swap hp)) fun D σ H ⟨H₀, F, env, Rp, w⟩ => ?_
  unfold evS at w
  refine ⟨H₀, F, env, Rp, (RS.rp (RS.bind w)).mono fun p hp F1 H1 v1 g1 R1 is1 => ?_⟩
  refine ⟨H₀, F1, p.2, R1, (RS.rp ((RS.bind hp).grow g1)).mono fun q hq F2 H2 v2 g2 R2 is2 => ?_⟩
  refine ⟨v1, v2, rfl, ?_⟩
  exact hq F2 _ H2 (g1.trans g2) ((R2.setVal (Is.mono g2.1 is1)).setVal is2)
end
end Ev
set_option Elab.async false
set_option linter.all false
set_option maxRecDepth 100000
set_option maxHeartbeats 2000000
namespace Ev
open PySem PySem.Spec PyProof.Rows L2

/-- the frame is the one on top -/
def Frm (X : Cx) : Prop := X.stack = X.env :: X.outer ∧ X.env.frame = some X.env.locals
section
variable {X : Cx} {W : WX} {n : Nat}
theorem mX_tr (hc : X.calm = true) {pn : List (Addr × Obj)} {xe : Value → Shared → Prop} : mX (X.tr pn xe) = mX X := by
  rw [mX_cool hc, mX_cool (X := X.tr pn xe) hc]
theorem tF_tr (hc : X.calm = true) {W' : WX} {f : En → R Fl} {pn : List (Addr × Obj)} {xe : Value → Shared → Prop} : tF (X.tr pn xe) W' f = tF X W' f := by
  unfold tF RS FPost
  rw [mX_tr hc]
theorem xt_tr (t : Xt X n W) (hc : X.calm = true) {W' : WX} {pn : List (Addr × Obj)} {xe : Value → Shared → Prop} (tk : Takes (X.tr pn xe) W') (hp : PassesOwn (model X.prog X.w) X.A X.env xe) : Xt (X.tr pn xe) n W' :=
  ⟨t.nd, tk, hp, t.room, t.roomH, fun z => Bool.noConfusion (hc.symm.trans z), t.dv, t.free, t.seer, t.lim, t.big, t.tree, t.code⟩
theorem xt_suite (t : Xt X n W) {a : Addr} {oe : Obj} {pn : List (Addr × Obj)} : Xt (X.suite a ((a, oe) :: pn)) n W0 :=
  ⟨t.nd, takes0, PassesOwn.never, fun z => Bool.noConfusion (show false = true from z), ⟨t.roomH.dp, t.roomH.un⟩, fun _ => ⟨_, List.mem_cons_self⟩, t.dv, t.free, t.seer, t.lim, t.big, t.tree, t.code⟩
theorem ResIs.down {K : PySem.W.Frag} {mg mg' : Mg} {H₀ F H : Hp} {v : V} {s : Sl} (hf : mg'.f = mg.f) (h : ResIs K mg H₀ F H v s) (q : s.cool = true) : ResIs K mg' H₀ F H v s := by
  cases s with
  | val d => exact Is.down hf h q
  | own ds => obtain ⟨p, vs, a, b, c, d, e⟩ := h; exact ⟨p, vs, a, b, c, d, IsAll.down hf e q⟩
  | bor ds => exact h
/-- what the suite wishes -/
def tSuite (X : Cx) (f : En → R Fl) (a : Addr) (cls : Value) (dd : Option Addr) : TS := fun D σ H => ∀ oe pn, Zc cls dd oe → (∃ vs, oe.data = .fields vs) → tF (X.suite a ((a, oe) :: pn)) W0 f D σ H
theorem suite_ps {s1 : Stmt} {ss : List Stmt} {f : En → R Fl} (h : ∀ a oe pn, PSs (X.suite a ((a, oe) :: pn)) (s1 :: ss) (tF (X.suite a ((a, oe) :: pn)) W0 f)) (a : Addr) (oe : Obj) (cls : Value) (dd : Option Addr) (pn : List (Addr × Obj)) (hz : Zc cls dd oe) (hf : ∃ vs, oe.data = .fields vs) :
    PSs (X.suite a ((a, oe) :: pn)) (s1 :: ss) (tSuite X f a cls dd) := PSs.imp (h a oe pn) fun D σ H q => q oe pn hz hf
/-- the ends of a try's suite: its name goes -/
def tryEnds (i : Option (Nat × Str)) (D : Ends) : Ends := match i with
  | some (k, _) => { nx := fun σ' H' => D.nx (σ'.set k none) H', rt := D.rt, bk := fun σ' H' => D.bk (σ'.set k none) H', ct := fun σ' H' => D.ct (σ'.set k none) H' }
  | none => D
def tryEnv (i : Option (Nat × Str)) (x : Exn) (e : En) : En := match i with
  | some (k, _) => sv e k (some (.val (.err x.cls x.ns x.vs)))
  | none => e
def trySt (i : Option (Nat × Str)) (a : Addr) (σ : L2.St) : L2.St := match i with
  | some (k, _) => σ.set k (some (.ref a))
  | none => σ
theorem suite_in (hc : X.calm = true) {i : Option (Nat × Str)} {b : Stms} {x : Exn} {e2 : En} {H₀ F F' : Hp} {σ : L2.St} {H : Hp} {cls : Value} {dd : Option Addr} {D : Ends} (g : Grow H₀ F F') (Rp : Rep X.K (mX X) H₀ F' e2 σ H) (xi : XIs X.K (mX X) F' H x cls dd)
    (q : RS X W H₀ F (tryD i (evSs b (tryEnv i x e2))) (FPost X H₀ F D)) (a : Addr) : tSuite X (evSs b) a cls dd (tryEnds i D) (trySt i a σ) H := by
  intro oe pn hz hf
  obtain ⟨C, vs, hm, rfl, hfl, hl, all, _⟩ := xi
  have up : ∀ (b : Addr) (c : Str) (d : Option Addr), (mX X).er b c d → (mX (X.suite a ((a, oe) :: pn))).er b c d := fun b c d z => by
    rw [mX_cool hc] at z
    exact z.elim
  have f1 : (mX (X.suite a ((a, oe) :: pn))).f = (mX X).f := rfl
  have f2 : (mX X).f = (mX (X.suite a ((a, oe) :: pn))).f := rfl
  have isE : Is X.K (mX (X.suite a ((a, oe) :: pn))) F' (.ref a) (.err x.cls x.ns x.vs) := .err ⟨rfl, oe, C, List.mem_cons_self, hm, hz, hf⟩ hfl hl (IsAll.up f1 up all)
  have R1 : Rep X.K (mX (X.suite a ((a, oe) :: pn))) H₀ F' (tryEnv i x e2) (trySt i a σ) H := by
    have R0 := Rp.up f1 up
    cases i with
    | none => exact R0
    | some k => exact R0.setVal isE
  refine ⟨H₀, F', tryEnv i x e2, R1, ?_⟩
  have env : ∀ {e : En} {F2 : Hp} {σ2 : L2.St} {H2 : Hp}, Rep X.K (mX (X.suite a ((a, oe) :: pn))) H₀ F2 e σ2 H2 → coolE (tryE i e) = true → Rep X.K (mX X) H₀ F2 (tryE i e) (match i with | some (k, _) => σ2.set k none | none => σ2) H2 := fun {e F2 σ2 H2} R2 hcool => by
    cases i with
    | none => exact R2.down f2 hcool
    | some k => exact (R2.unset k.1).down f2 hcool
  cases ev : evSs b (tryEnv i x e2) with
  | bad => rw [ev] at q; exact q
  | exc y e3 => rw [ev] at q; exact q.elim
  | ok fl =>
    rw [ev] at q
    cases fl with
    | nx e =>
      simp only [tryD] at q
      split at q
      · next hcool =>
        intro F2 σ2 H2 g2 R2
        have := q F2 _ H2 (g.trans g2) (env R2 hcool)
        cases i with
        | none => exact this
        | some k => exact this
      · exact q.elim
    | bk e =>
      simp only [tryD] at q
      split at q
      · next hcool =>
        intro F2 σ2 H2 g2 R2
        have := q F2 _ H2 (g.trans g2) (env R2 hcool)
        cases i with
        | none => exact this
        | some k => exact this
      · exact q.elim
    | ct e =>
      simp only [tryD] at q
      split at q
      · next hcool =>
        intro F2 σ2 H2 g2 R2
        have := q F2 _ H2 (g.trans g2) (env R2 hcool)
        cases i with
        | none => exact this
        | some k => exact this
      · exact q.elim
    | rt s =>
      simp only [tryD] at q
      split at q
      · next hcool =>
        intro F2 H2 v g2 h0 h1 is
        have := q F2 H2 v (g.trans g2) h0 h1 (is.down f2 hcool)
        cases i with
        | none => exact this
        | some k => exact this
      · exact q.elim
/-- what the body wishes -/
theorem try_in (hc : X.calm = true) {c : Str} {tbl : List (Str × Bool)} {i : Option (Nat × Str)} {a b : Stms} {C : Addr} (hT : ∀ q ∈ tbl, ∃ D, X.mg q.1 = some (.ref D) ∧ PySem.W.exmOne X.K (.ref D) (.ref C) = some q.2) {D : Ends} {σ : L2.St} {H : Hp}
    (q : tF X W (evS (.tryC c tbl i a b)) D σ H) (W' : WX)
    (hW : ∀ cls dd σ' H', (∃ b1, PySem.W.exmOne X.K cls (.ref C) = some b1 ∧ (b1 = true → ∀ ad, tSuite X (evSs b) ad cls dd (tryEnds i D) (trySt i ad σ') H') ∧ (b1 = false → W cls dd σ' H')) → W' cls dd σ' H') :
    tF X W' (evSs a) D σ H := by
  obtain ⟨H₀, F, env, Rp, q⟩ := q
  refine ⟨H₀, F, env, Rp, ?_⟩
  unfold evS at q
  cases ev : evSs a env with
  | bad => rw [ev] at q; exact q.elim
  | ok fl => rw [ev] at q; exact q
  | exc x e2 =>
    rw [ev] at q
    intro F' σ' H' cls dd g R' xi
    refine hW _ _ _ _ ?_
    have xi2 := xi
    obtain ⟨C1, vs, hm, rfl, _⟩ := xi2
    dsimp only at q
    split at q
    · next hl =>
      obtain ⟨D1, m1, x1⟩ := hT _ (PySem.mem_of_lookup hl)
      have z := m1.symm.trans hm
      cases z
      exact ⟨true, x1, fun _ ad => suite_in (W := W) hc (i := i) g R' xi (show RS X W H₀ F (tryD i (evSs b (tryEnv i x e2))) (FPost X H₀ F D) from q) ad, fun z => Bool.noConfusion z⟩
    · next hl =>
      obtain ⟨D1, m1, x1⟩ := hT _ (PySem.mem_of_lookup hl)
      have z := m1.symm.trans hm
      cases z
      exact ⟨false, x1, fun z => Bool.noConfusion z, fun _ => q F' σ' H' _ dd g R' xi⟩
    · exact q.elim
theorem s_try0 (t : Xt X n W) (hc : X.calm = true) (hs : Frm X) {c : Str} {tbl : List (Str × Bool)} {a b : Stms} {body ss : List Stmt} {s1 : Stmt} {np p' pos : Pos} (hT : ErrT (gd X n) c tbl) (hg : glB X.env.scope c = true)
    (hb : ∀ (W' : WX) (pn : List (Addr × Obj)) (xe : Value → Shared → Prop), Takes (X.tr pn xe) W' → PassesOwn (model X.prog X.w) X.A X.env xe → PSs (X.tr pn xe) body (tF (X.tr pn xe) W' (evSs a)))
    (hsu : ∀ (a : Addr) (oe : Obj) (pn : List (Addr × Obj)), PSs (X.suite a ((a, oe) :: pn)) (s1 :: ss) (tF (X.suite a ((a, oe) :: pn)) W0 (evSs b))) :
    PS X (.Try body [.ExceptHandler (some (.Name c np)) none (s1 :: ss) p'] [] [] pos) (tF X W (evS (.tryC c tbl none a b))) := by
  obtain ⟨g1, g2⟩ := gl_of hg rfl
  obtain ⟨C, hm, hTb⟩ := hT
  refine PS.imp (ps_try_only hs.1 hs.2 (c := .ref C) ⟨g1, g2, .inl hm⟩ t.tk (tb := fun W' => tF X W' (evSs a)) (ts := tSuite X (evSs b)) (fun W' pn xe tk hp => tF_tr hc ▸ hb W' pn xe tk hp) fun a oe cls d pn hz hf => suite_ps hsu a oe cls d pn hz hf) fun D σ H q => ?_
  exact try_in hc hTb q _ fun cls dd σ' H' ⟨b1, x1, x2, x3⟩ => ⟨b1, x1, fun z a _ => x2 z a, x3⟩
theorem s_tryAs (t : Xt X n W) (hc : X.calm = true) (hs : Frm X) {c y : Str} {i : Nat} {tbl : List (Str × Bool)} {a b : Stms} {body ss : List Stmt} {s1 : Stmt} {np p' pos : Pos} (hT : ErrT (gd X n) c tbl) (hg : glB X.env.scope c = true) (hi : X.N[i]? = some y) (hl : X.env.scope.names.lookup y = some .local)
    (hb : ∀ (W' : WX) (pn : List (Addr × Obj)) (xe : Value → Shared → Prop), Takes (X.tr pn xe) W' → PassesOwn (model X.prog X.w) X.A X.env xe → PSs (X.tr pn xe) body (tF (X.tr pn xe) W' (evSs a)))
    (hsu : ∀ (a : Addr) (oe : Obj) (pn : List (Addr × Obj)), PSs (X.suite a ((a, oe) :: pn)) (s1 :: ss) (tF (X.suite a ((a, oe) :: pn)) W0 (evSs b))) :
    PS X (.Try body [.ExceptHandler (some (.Name c np)) (some y) (s1 :: ss) p'] [] [] pos) (tF X W (evS (.tryC c tbl (some (i, y)) a b))) := by
  obtain ⟨g1, g2⟩ := gl_of hg rfl
  obtain ⟨C, hm, hTb⟩ := hT
  refine PS.imp (ps_try_as hs.1 hs.2 t.nd hi hl (c := .ref C) ⟨g1, g2, .inl hm⟩ t.tk (tb := fun W' => tF X W' (evSs a)) (ts := tSuite X (evSs b)) (fun W' pn xe tk hp => tF_tr hc ▸ hb W' pn xe tk hp) fun a oe cls d pn hz hf => suite_ps hsu a oe cls d pn hz hf) fun D σ H q => ?_
  exact try_in hc hTb q _ fun cls dd σ' H' ⟨b1, x1, x2, x3⟩ => ⟨b1, x1, fun z a _ => x2 z a, x3⟩
end
end Ev
set_option Elab.async false
set_option linter.all false
set_option maxRecDepth 100000
set_option maxHeartbeats 4000000
namespace Ev
open PySem PySem.Spec PyProof.Rows L2
theorem okE_comp_inv {N : List Str} {sc : Scope} {own : List (Str × Nat)} {tg : Tgt} {it : Itr} {elt : Ex} {e : Expr} (h : okE N sc (.comp own tg it elt) e = true) :
    ∃ x t i scope pos, e = .ListComp x [⟨t, i, [], 0⟩] scope pos ∧ blkC N sc scope own = true ∧ inT (own.map (·.2)) tg = true ∧ okT N scope tg t = true ∧ okI N sc it t i = true ∧ okE N (reSc sc scope) elt x = true := by
  unfold okE at h
  split at h
  all_goals first | (cases h; done) | (next heq => (cases heq; done)) | skip
  next heq =>
    cases heq
    simp only [Bool.and_eq_true] at h
    exact ⟨_, _, _, _, _, rfl, h.1.1.1.1, h.1.1.1.2, h.1.1.2, h.1.2, h.2⟩
theorem okE_compif_inv {N : List Str} {sc : Scope} {own : List (Str × Nat)} {tg : Tgt} {it : Itr} {c elt : Ex} {e : Expr} (h : okE N sc (.compif own tg it c elt) e = true) :
    ∃ x y t i scope pos, e = .ListComp x [⟨t, i, [y], 0⟩] scope pos ∧ blkC N sc scope own = true ∧ inT (own.map (·.2)) tg = true ∧ okT N scope tg t = true ∧ okI N sc it t i = true ∧ tst c = true ∧ okE N (reSc sc scope) c y = true ∧ okE N (reSc sc scope) elt x = true := by
  unfold okE at h
  split at h
  all_goals first | (cases h; done) | (next heq => (cases heq; done)) | skip
  next heq =>
    cases heq
    simp only [Bool.and_eq_true] at h
    obtain ⟨⟨⟨⟨⟨⟨k1, k2⟩, k3⟩, k4⟩, k5⟩, k6⟩, k7⟩ := h
    exact ⟨_, _, _, _, _, _, rfl, k1, k2, k3, k4, k5, k6, k7⟩
theorem okE_noComp {N : List Str} {sc : Scope} {a : Ex} {e : Expr} (h : okE N sc a e = true) (q : noComp e = false) : (∃ own tg it elt, a = .comp own tg it elt) ∨ ∃ own tg it c elt, a = .compif own tg it c elt := by
  cases a with
  | comp own tg it elt => exact .inl ⟨_, _, _, _, rfl⟩
  | compif own tg it c elt => exact .inr ⟨_, _, _, _, _, rfl⟩
  | prim p as => cases e <;> first | (cases q; done) | (simp [okE] at h)
  | and x y => cases e <;> first | (cases q; done) | (simp [okE] at h)
  | or x y => cases e <;> first | (cases q; done) | (simp [okE] at h)
  | _ => cases e <;> first | (cases q; done) | (simp [okE] at h)
section
variable {X : Cx} {W : WX} {n : Nat}
theorem s_asgE (t : Xt X n W) (hl : LocOk X X.env.scope) {i : Nat} {x : Str} {a : Ex} {e : Expr} {py pos : Pos} (g : a.good (gd X n)) (hx : locB X.N X.env.scope i x = true) (h : okE X.N X.env.scope a e = true) :
    PS X (.Assign [.Name x py] e pos) (tF X W (evS (.asg (.nm i x) a))) := by
  have ps := (sndE a X W n t g e h).ps
  obtain ⟨h1, h2⟩ := loc_of hx
  cases q : noComp e with
  | true => exact s_asg1 t hl (fun _ => trivial) hx q ps
  | false =>
    rcases okE_noComp h q with ⟨own, tg, it, elt, rfl⟩ | ⟨own, tg, it, c, elt, rfl⟩
    · obtain ⟨x', tge, it', scope, pos', rfl, k1, k2, k3, k4, k5⟩ := okE_comp_inv h
      refine s_asgC t hl hx ps fun hyl hsw => ?_
      refine PS.imp (ps_setLc (calm_of g.1) t.nd h1 hyl hsw (sndI it X W n t g.2.1 _ _ k4) (blkOk_by k1) (fun s H C cl fp => (show PG (blkX X s H scope C cl fp) tge (tTg X tg) from tTg_blk (calm_of g.1) ▸ sndT (xt_blk t (calm_of g.1) s H _ C cl fp) (calm_of g.1) (locOk_blk s H _ C cl fp) _ _ k3)) (fun s H C cl fp => pts_nil)
        (fun s H C cl fp => (show PE (blkX X s H scope C cl fp) x' (tE X W0 (evE elt)) from tE_blk (calm_of g.1) ▸ (sndE elt (blkX X s H _ C cl fp) W0 n (xt_blk t (calm_of g.1) s H _ C cl fp) g.2.2 _ k5).pe)) (folded_seq k4)) fun D σ H q => ?_
      obtain ⟨H₀, F, env, Rp, q⟩ := q
      rw [evO_comp] at q
      exact comp_red k2 (fun σ H Q ⟨H₀, F, env, Rp, q⟩ => q F H Grow.refl Rp) ⟨H₀, F, env, Rp, q⟩
    · obtain ⟨x', y', tge, it', scope, pos', rfl, k1, k2, k3, k4, k5, k6, k7⟩ := okE_compif_inv h
      refine s_asgC t hl hx ps fun hyl hsw => ?_
      refine PS.imp (ps_setLc (calm_of g.1) t.nd h1 hyl hsw (sndI it X W n t g.2.1 _ _ k4) (blkOk_by k1) (fun s H C cl fp => (show PG (blkX X s H scope C cl fp) tge (tTg X tg) from tTg_blk (calm_of g.1) ▸ sndT (xt_blk t (calm_of g.1) s H _ C cl fp) (calm_of g.1) (locOk_blk s H _ C cl fp) _ _ k3))
        (fun s H C cl fp => pts_one (show PT (blkX X s H scope C cl fp) y' (tB' X W0 (evB c)) from tB_blk (calm_of g.1) ▸ (sndE c (blkX X s H _ C cl fp) W0 n (xt_blk t (calm_of g.1) s H _ C cl fp) g.2.2.1 _ k6).pt k5))
        (fun s H C cl fp => (show PE (blkX X s H scope C cl fp) x' (tE X W0 (evE elt)) from tE_blk (calm_of g.1) ▸ (sndE elt (blkX X s H _ C cl fp) W0 n (xt_blk t (calm_of g.1) s H _ C cl fp) g.2.2.2 _ k7).pe)) (folded_seq k4)) fun D σ H q => ?_
      obtain ⟨H₀, F, env, Rp, q⟩ := q
      rw [evO_compif] at q
      exact comp_red k2 (fun σ H Q q => q) ⟨H₀, F, env, Rp, q⟩
end
theorem var_shape {N : List Str} {sc : Scope} {a : Ex} {e : Expr} (h : okE N sc a e = true) : ∀ i x, a = .var i x → ∃ p, e = .Name x p ∧ visB N sc i x = true := by
  intro i x z
  subst z
  cases e <;> simp only [okE, Bool.false_eq_true] at h
  simp only [Bool.and_eq_true, decide_eq_true_eq] at h
  obtain ⟨rfl, h⟩ := h
  exact ⟨_, rfl, h⟩
mutual
theorem sndS : ∀ (s : Stm) (X : Cx) (W : WX) (n : Nat), Xt X n W → LocOk X X.env.scope → Frm X → s.good (gd X n) → ∀ st : Stmt, okSt X.N X.env.scope s st = true → PS X st (tF X W (evS s))
  | .asg tg a, X, W, n, t, hl, hs, g, st, h => by
    unfold okSt at h
    split at h
    all_goals first | (cases h; done) | (next heq => (cases heq; done)) | skip
    · next heq =>
      cases heq
      simp only [Bool.and_eq_true, decide_eq_true_eq] at h
      obtain ⟨⟨rfl, h1⟩, h2⟩ := h
      exact s_asgE t hl g h1 h2
    · next heq =>
      cases heq
      simp only [Bool.and_eq_true] at h
      exact s_asgT t (calm_of g.1) hl h.1.1.1 h.1.2 h.1.1.2 (sndE a X W n t g.2 _ h.2).pe
  | .par i x j y a b, X, W, n, t, hl, hs, g, st, h => by
    unfold okSt at h
    split at h
    all_goals first | (cases h; done) | (next heq => (cases heq; done)) | skip
    next heq =>
      cases heq
      simp only [Bool.and_eq_true, decide_eq_true_eq] at h
      obtain ⟨⟨⟨⟨⟨⟨⟨rfl, rfl⟩, h1⟩, h2⟩, h3⟩, h4⟩, h5⟩, h6⟩ := h
      exact s_par t (calm_of g.1) h1 h2 h3 h4 (sndE a X W n t g.2.1 _ h5).pe (sndE b X W n t g.2.2 _ h6).pe
  | .setI i x k a, X, W, n, t, hl, hs, g, st, h => by
    unfold okSt at h
    split at h
    all_goals first | (cases h; done) | (next heq => (cases heq; done)) | skip
    next heq =>
      cases heq
      simp only [Bool.and_eq_true, decide_eq_true_eq] at h
      obtain ⟨⟨⟨⟨⟨⟨rfl, h1⟩, h2⟩, h3⟩, h4⟩, h5⟩, h6⟩ := h
      exact s_setI t h1 h2 h4 h3 (sndE k X W n t g.1 _ h5).pe (sndE a X W n t g.2 _ h6).pe
  | .ite c a b, X, W, n, t, hl, hs, g, st, h => by
    unfold okSt at h
    split at h
    all_goals first | (cases h; done) | (next heq => (cases heq; done)) | skip
    next heq =>
      cases heq
      simp only [Bool.and_eq_true] at h
      exact s_ite ((sndE c X W n t g.1 _ h.1.1.2).pt h.1.1.1) (sndSs a X W n t hl hs g.2.1 _ h.1.2) (sndSs b X W n t hl hs g.2.2 _ h.2)
  | .while c a, X, W, n, t, hl, hs, g, st, h => by
    unfold okSt at h
    split at h
    all_goals first | (cases h; done) | (next heq => (cases heq; done)) | skip
    next heq =>
      cases heq
      simp only [Bool.and_eq_true] at h
      exact s_while t ((sndE c X W n t g.1 _ h.1.2).pt h.1.1) (sndSs a X W n t hl hs g.2 _ h.2)
  | .for tg it a, X, W, n, t, hl, hs, g, st, h => by
    unfold okSt at h
    split at h
    all_goals first | (cases h; done) | (next heq => (cases heq; done)) | skip
    next heq =>
      cases heq
      simp only [Bool.and_eq_true] at h
      exact s_for t (calm_of g.1) h.1.2 (sndI it X W n t g.2.1 _ _ h.1.2) (sndT t (calm_of g.1) hl tg _ h.1.1) (sndSs a X W n t hl hs g.2.2 _ h.2)
  | .ret a, X, W, n, t, hl, hs, g, st, h => by
    unfold okSt at h
    split at h
    all_goals first | (cases h; done) | (next heq => (cases heq; done)) | skip
    next heq =>
      cases heq
      exact s_ret (var_shape h) (sndE a X W n t g _ h).ps
  | .retN, X, W, n, t, hl, hs, g, st, h => by
    unfold okSt at h
    split at h
    all_goals first | (cases h; done) | (next heq => (cases heq; done)) | skip
    exact s_retN
  | .expr a, X, W, n, t, hl, hs, g, st, h => by
    unfold okSt at h
    split at h
    all_goals first | (cases h; done) | (next heq => (cases heq; done)) | skip
    next heq =>
      cases heq
      simp only [Bool.and_eq_true] at h
      exact s_expr h.1 (sndE a X W n t g _ h.2).pe
  | .append i x a, X, W, n, t, hl, hs, g, st, h => by
    unfold okSt at h
    split at h
    all_goals first | (cases h; done) | (next heq => (cases heq; done)) | skip
    next heq =>
      cases heq
      simp only [Bool.and_eq_true, decide_eq_true_eq] at h
      obtain ⟨⟨⟨⟨⟨rfl, h1⟩, h2⟩, h3⟩, h4⟩, h5⟩ := h
      exact s_append t h1 h2 h3 h4 (sndE a X W n t g _ h5).pe
  | .pop i x, X, W, n, t, hl, hs, g, st, h => by
    unfold okSt at h
    split at h
    all_goals first | (cases h; done) | (next heq => (cases heq; done)) | skip
    next heq =>
      cases heq
      simp only [Bool.and_eq_true, decide_eq_true_eq] at h
      obtain ⟨⟨⟨rfl, h1⟩, h2⟩, h3⟩ := h
      exact s_pop t h1 h2 h3
  | .pass, X, W, n, t, hl, hs, g, st, h => by
    unfold okSt at h
    split at h
    all_goals first | (cases h; done) | (next heq => (cases heq; done)) | skip
    exact s_pass
  | .brk, X, W, n, t, hl, hs, g, st, h => by
    unfold okSt at h
    split at h
    all_goals first | (cases h; done) | (next heq => (cases heq; done)) | skip
    exact s_brk
  | .cont, X, W, n, t, hl, hs, g, st, h => by
    unfold okSt at h
    split at h
    all_goals first | (cases h; done) | (next heq => (cases heq; done)) | skip
    exact s_cont
  | .never, X, W, n, t, hl, hs, g, st, h => s_never
  | .raise c, X, W, n, t, hl, hs, g, st, h => by
    unfold okSt at h
    split at h
    all_goals first | (cases h; done) | (next heq => (cases heq; done)) | skip
    next heq =>
      cases heq
      simp only [Bool.and_eq_true, decide_eq_true_eq] at h
      obtain ⟨rfl, h1⟩ := h
      exact s_raise t (calm_of g.1) g.2 h1
  | .tryC c tbl i a b, X, W, n, t, hl, hs, g, st, h => by
    unfold okSt at h
    split at h
    all_goals first | (cases h; done) | (next heq => (cases heq; done)) | skip
    · next heq =>
      cases heq
      simp only [Bool.and_eq_true, decide_eq_true_eq] at h
      obtain ⟨⟨⟨rfl, h1⟩, h2⟩, h3⟩ := h
      exact s_try0 t (calm_of g.1) hs g.2.1 h1 (fun W' pn xe tk hp => sndSs a (X.tr pn xe) W' n (xt_tr t (calm_of g.1) tk hp) hl hs g.2.2.1 _ h2) fun ad oe pn => sndSs b (X.suite ad ((ad, oe) :: pn)) W0 n (xt_suite t) hl hs g.2.2.2 _ h3
    · next heq =>
      cases heq
      simp only [Bool.and_eq_true, decide_eq_true_eq] at h
      obtain ⟨⟨⟨⟨⟨⟨rfl, h1⟩, rfl⟩, h4⟩, h5⟩, h2⟩, h3⟩ := h
      exact s_tryAs t (calm_of g.1) hs g.2.1 h1 h4 h5 (fun W' pn xe tk hp => sndSs a (X.tr pn xe) W' n (xt_tr t (calm_of g.1) tk hp) hl hs g.2.2.1 _ h2) fun ad oe pn => sndSs b (X.suite ad ((ad, oe) :: pn)) W0 n (xt_suite t) hl hs g.2.2.2 _ h3
theorem sndSs : ∀ (ss : Stms) (X : Cx) (W : WX) (n : Nat), Xt X n W → LocOk X X.env.scope → Frm X → ss.good (gd X n) → ∀ sts : List Stmt, okSts X.N X.env.scope ss sts = true → PSs X sts (tF X W (evSs ss))
  | .nil, X, W, n, t, hl, hs, g, sts, h => by
    cases sts with
    | nil => exact PSs.imp pss_nil fun D σ H ⟨H₀, F, env, Rp, q⟩ => q F σ H Grow.refl Rp
    | cons s ss => simp [okSts] at h
  | .cons s ss, X, W, n, t, hl, hs, g, sts, h => by
    cases sts with
    | nil => simp [okSts] at h
    | cons st sts =>
      simp only [okSts, Bool.and_eq_true] at h
      refine PSs.imp (pss_cons (sndS s X W n t hl hs g.1 st h.1) (sndSs ss X W n t hl hs g.2 sts h.2)) fun D σ H ⟨H₀, F, env, Rp, q⟩ => ⟨H₀, F, env, Rp, ?_⟩
      unfold evSs at q
      cases es : evS s env with
      | bad => rw [es] at q; exact q
      | exc x e2 => rw [es] at q; exact q
      | ok fl =>
        rw [es] at q
        cases fl with
        | nx e2 => exact fun F' σ' H' g R' => ⟨H₀, F', e2, R', RS.fgrow q g⟩
        | rt s => exact q
        | bk e2 => exact q
        | ct e2 => exact q
end
end Ev
set_option Elab.async false
set_option linter.all false
set_option maxRecDepth 100000
set_option maxHeartbeats 1000000
namespace Ev
open PySem PySem.Spec PyProof.Rows L2

section
variable {P : Program} {w : World} {K : PySem.W.Frag} {mg : Str → Option Value} {base : Heap}
/-- what the module gives to every def -/
structure Ground (P : Program) (mg : Str → Option Value) (base : Heap) : Prop where
  seer : base.NoSeer
  lim : base.NoLimit
  tree : P.given.tree = none
  free : ∀ x ∈ bltFree, mg x = none
/-- the context of a def's body while an error is handled -/
def cxE (CX : CXT) (P : Program) (w : World) (K : PySem.W.Frag) (mg : Str → Option Value) (base : Heap) (N : List Str) (qual : Str) (scope : Scope) (f : Addr) (cd : Value) (A : Around) (outer : List Env) (s : Shared) (H : Hp) (E : XK) (pn : List (Addr × Obj)) : Cx :=
  { cxOf CX P w K mg base N qual scope f cd A outer s H E with calm := false, pn := pn }
theorem inv_pins {CX : CXT} {N ps : List Str} {qual : Str} {scope : Scope} {f : Addr} {cd : Value} {A : Around} {outer : List Env} {s s1 : Shared} {H : Hp} {E : XK} {us : List Value} {vs : List V} {pn : List (Addr × Obj)}
    (S : FnScope N ps scope) (hne : ∃ p, p ∈ pn) (hp : ∀ p ∈ pn, L2H.PinOk outer H s p) (e0 : Env0 P w K mg base A outer s H) (hl : vs.length = ps.length) (r : Vals vs us)
    (x : InCallC s s.heap.objs.size (bindL (envOfC qual scope s.heap.objs.size f cd).kindOf (ps.zip us) fun _ => none) (cellsFrom (s.heap.objs.size + 1) scope.names []) (bindC (envOfC qual scope s.heap.objs.size f cd).kindOf (ps.zip us) fun _ => none) s1) :
    Inv (cxE CX P w K mg base N qual scope f cd A outer s H E pn) [] (L2.start N vs) H s1 := by
  have one := fun p (h : p ∈ pn) => L2H.inv_startH (CX := CX) (E := E) (f := f) S (hp p h) e0 hl r x
  obtain ⟨p0, h0⟩ := hne
  have I := one p0 h0
  refine ⟨I.ok.toTry pn _, I.os, I.bare, I.base, I.loc, I.cell, I.free, I.freeC, fun q hq => ?_, I.hok, I.len⟩
  have hq' : q ∈ pn := by simpa using (show q ∈ pn ++ ([] : List (Addr × Obj)) from hq)
  exact (one q hq').pin q (List.mem_append_left _ List.mem_cons_self)
/-- the code object of the def at f -/
def CodeAt (K : PySem.W.Frag) (f : Addr) (cd : Value) : Prop := ∀ p : He.Defn, f = He.fAd K p → cd = .ref (He.codeOf K p)
theorem okE_of {CX : CXT} {x qual : Str} {params : Arguments} {body : List Stmt} {scope : Scope} {dvs : List V} {kws : List (Str × V)} {f : Addr} {fd : FuncData} {N ps : List Str} {k : Nat} {sp : List (Addr × Obj) → Sp}
    (F : FunD K x qual params body scope dvs kws f fd) (S : FnScope N ps scope) (len : ∀ pn vs H Q E, sp pn vs H Q E → vs.length = ps.length)
    (hb : ∀ (cd : Value) (A : Around) (outer : List Env) (s : Shared) (H : Hp) (vs : List V) (Q : VK) (E : XK) (pn : List (Addr × Obj)), CodeAt K f cd → (∃ p, p ∈ pn) → L2H.RoomH k (A.deeper (envOfC qual scope s.heap.objs.size f cd)) → sp pn vs H Q E →
      ∃ t, PSs (cxE CX P w K mg base N qual scope f cd A outer s H E pn) body t ∧ t { nx := fun _ H' => Q .non H', rt := Q } (L2.start N vs) H) : FnE P w K mg base CX (k + 1) f fd ps sp := by
  obtain ⟨oc, od, dV, kV, doc, pm, an, cd, ct, osl, rfl, lk, hcd, _, _⟩ := F.ex
  have hco : CodeAt K f cd := fun p e => by
    obtain ⟨c, rfl⟩ := He.codeIn_ref hcd
    rw [He.codeOf_eq (p := p) (by rw [← e]; exact lk) rfl]
  refine ⟨len, fun pn A outer s H args us vs Q E hne hp hr e0 hsp r hbi => ?_⟩
  have hl := len _ _ _ _ _ hsp
  have old : ∀ b o, base.get? b = some o → s.heap.get? b = some o := fun b o z => (e0.bs b o z).1
  have KX : K.In s.heap := e0.mod.kin.keeps old
  have kinds : ∀ y ∈ ps.zip us, scope.names.lookup y.1 = some .local ∨ (scope.names.lookup y.1 = some .cell ∧ ((cellsFrom (s.heap.objs.size + 1) scope.names []).lookup y.1).isSome = true) := by
    rintro ⟨m, v⟩ hy
    cases S.par m (List.of_mem_zip hy).1 with
    | inl q => exact .inl q
    | inr q => exact .inr ⟨q, PySem.W.cellsFrom_some _ _ _ (.inl q)⟩
  refine codeAny_call_function hr.depth (KX _ _ lk) rfl S.co S.gen rfl (PySem.W.codeRec_of KX hcd) (hbi _ _ _ _ (wpAny_newFunctionEnv_cells S.kind kinds fun env he s1 xc => ?_))
  subst he
  refine ⟨(e0.mod.nolimit.keeps old).keeps xc.toInCall.keep, codeAny_func ?_⟩
  obtain ⟨t, ht, hq⟩ := hb cd A outer s H vs Q E pn hco hne (hr.deeper _) hsp
  have ends : ∀ (s' : Shared) (σ' : L2.St) (H' : Hp) (v : V) (u : Value), Inv (cxE CX P w K mg base N qual scope f cd A outer s H E pn) [] σ' H' s' → RelV v u → Q v H' → CE outer P w H s Q u s' :=
    fun s' σ' H' v u J rv q => ⟨v, H', J.os, J.bare, J.base, J.hok, rv, q⟩
  refine wpAny_mono (ht.run [] s1 (L2.start N vs) H _ (inv_pins S hne hp e0 hl r xc) hq) (fun fl s' z => ?_) fun _ _ z => z
  cases fl
  case ret u => obtain ⟨v, σ', H', J, rv, q⟩ := z; exact ends s' σ' H' v u J rv q
  case next => obtain ⟨σ', H', J, q⟩ := z; exact ends s' σ' H' V.non Value.none J rfl q
  all_goals (obtain ⟨_, _, _, q⟩ := z; exact q.elim)
theorem dv_of {CX : CXT} {N ps : List Str} {qual : Str} {scope : Scope} {f : Addr} {cdv : Value} {A : Around} {outer : List Env} {s : Shared} {H : Hp} {E : XK} {n : Nat}
    (G : Ground P mg base) (S : FnScope N ps scope) (hr : L2H.RoomH n (A.deeper (envOfC qual scope s.heap.objs.size f cdv))) (hn : 32 ≤ n) : DivOkB (cxOf CX P w K mg base N qual scope f cdv A outer s H E) := by
  intro hv s' hf hk
  refine PylongRoom.of (G.lim.keeps hk) ?_ (SeerAt.of (G.seer.keeps hk) G.tree hf S.gen S.co rfl rfl)
  have := hr.dp
  show (A.deeper (envOfC qual scope s.heap.objs.size f cdv)).depth + 100 < 1000
  have e : recursionLimit = 1000 := rfl
  omega
theorem xt_of {N ps : List Str} {qual : Str} {scope : Scope} {f : Addr} {cdv : Value} {A : Around} {outer : List Env} {s : Shared} {H : Hp} {E : XK} {n : Nat}
    (G : Ground P mg base) (S : FnScope N ps scope) (hr : Room n (A.deeper (envOfC qual scope s.heap.objs.size f cdv))) (hn : 32 ≤ n) (hq : qual ++ ".<locals>." = lamQ → f = He.fAd K lamD) (hc : CodeAt K f cdv) :
    Xt (cxOf (L2.CX P w) P w K mg base N qual scope f cdv A outer s H E) n (fun cls d _ H => E cls d H) :=
  ⟨S.nd, takes_of rfl rfl rfl rfl, passes_of rfl, fun _ => hr, L2H.roomH_of hr, fun z => Bool.noConfusion (show true = false from z), dv_of G S (L2H.roomH_of hr) hn, G.free, G.seer, G.lim, hn, G.tree, fun z => hc _ (hq z)⟩
theorem xt_ofE {N ps : List Str} {qual : Str} {scope : Scope} {f : Addr} {cdv : Value} {A : Around} {outer : List Env} {s : Shared} {H : Hp} {E : XK} {n : Nat} {pn : List (Addr × Obj)} (hne : ∃ p, p ∈ pn)
    (G : Ground P mg base) (S : FnScope N ps scope) (hr : L2H.RoomH n (A.deeper (envOfC qual scope s.heap.objs.size f cdv))) (hn : 32 ≤ n) (hq : qual ++ ".<locals>." = lamQ → f = He.fAd K lamD) (hc : CodeAt K f cdv) :
    Xt (cxE (L2.CX P w) P w K mg base N qual scope f cdv A outer s H E pn) n (fun cls d _ H => E cls d H) :=
  ⟨S.nd, takes_of rfl rfl rfl rfl, passes_of rfl, fun z => Bool.noConfusion (show false = true from z), hr, fun _ => hne, dv_of (K := K) (H := H) (E := E) (CX := L2.CX P w) (N := N) G S hr hn, G.free, G.seer, G.lim, hn, G.tree, fun z => hc _ (hq z)⟩
theorem lk_app : ∀ (ss : List Sl) (k i : Nat) (x : Sl), lk (ss.map some ++ List.replicate k none) i = some x → ss[i]? = some x
  | [], 0, i, x, h => by simp [lk] at h
  | [], k + 1, 0, x, h => by simp [List.replicate, lk] at h
  | [], k + 1, i + 1, x, h => by
    have := lk_app [] k i x (by simpa [List.replicate, lk] using h)
    simp at this
  | s :: ss, k, 0, x, h => by simpa [lk] using h
  | s :: ss, k, i + 1, x, h => by
    have := lk_app ss k i x (by simpa [lk] using h)
    simpa using this
theorem ArgsIs.get {mg : Mg} {F H : Hp} : ∀ {vs : List V} {ss : List Sl} {i : Nat} {x : Sl}, ArgsIs K mg F H vs ss → ss[i]? = some x → ∃ v, vs[i]? = some v ∧ ArgIs K mg F H v x
  | _, _, _, _, .nil, e => by simp at e
  | _, _, 0, _, .cons h _, e => by simp at e; subst e; exact ⟨_, rfl, h⟩
  | _, _, i + 1, _, .cons _ r, e => by
    obtain ⟨v, h1, h2⟩ := ArgsIs.get (i := i) r (by simpa using e)
    exact ⟨v, by simpa using h1, h2⟩
/-- the slots at the entry -/
theorem rep_start {mg : Mg} {F H : Hp} {vs : List V} {ss : List Sl} {N : List Str} {k : Nat} (tb : TB K H) (nt : NT K F) (hf : Same F H) (a : ArgsIs K mg F H vs ss) (hk : k = N.length - vs.length) :
    Rep K mg H F (ss.map some ++ List.replicate k none) (L2.start N vs) H := by
  subst hk
  have st : ∀ {i : Nat} {v : V}, vs[i]? = some v → (L2.start N vs)[i]? = some (some v) := fun {i v} e => by
    unfold L2.start
    have hi : i < vs.length := by
      by_cases q : i < vs.length
      · exact q
      · rw [List.getElem?_eq_none (by omega)] at e; cases e
    rw [List.getElem?_append_left (by simpa using hi), List.getElem?_map, e]
    rfl
  refine ⟨Sm.refl tb, hf, ?_, fun i s e => ?_, nt, fun i j ds es p e1 e2 _ _ => ?_⟩
  · unfold L2.start
    simp only [List.length_append, List.length_map, List.length_replicate]
    rw [a.length]
  · obtain ⟨v, h1, h2⟩ := a.get (lk_app _ _ _ _ e)
    refine ⟨v, st h1, ?_⟩
    cases s with
    | val d => exact h2
    | own ds => exact h2.elim
    | bor ds => exact h2
  · obtain ⟨v, _, h2⟩ := a.get (lk_app _ _ _ _ e1)
    exact h2.elim
/-- what a def's end says -/
theorem den_end {X : Cx} {m : Mg} (hm : mX X = m) {fn : Fn} {N ps : List Str} {vs : List V} {H F' : Hp} {ss : List Sl} {Q : VK} {E : XK} (hN : fn.n = N.length) (hp : fn.ps = ps.length) (hl : ss.length = fn.ps) (hs : Same F' H) (tb : TB X.K H) (nt : NT X.K F') (a : ArgsIs X.K m F' H vs ss)
    (q : match fn.den ss with
      | .ok (.val d) => ∀ F2 H2 v, Grow H F' F2 → Sm X.K H H2 → Same F2 H2 → Is X.K m F2 v d → Q v H2
      | .ok (.own ds) => ∀ F2 H2 p ws, Grow H F' F2 → Sm X.K H H2 → Same F2 H2 → H p = none → F2 p = none → H2 p = some (.lst ws) → IsAll X.K m F2 ws ds → Q (.ref p) H2
      | .ok (.bor _) => False
      | .exc x => ∀ F2 H2 cls dd, Grow H F' F2 → Sm X.K H H2 → Same F2 H2 → XIs X.K m F2 H2 x cls dd → E cls dd H2
      | .bad => False) :
    tF X (fun cls d _ H => E cls d H) (evSs fn.body) { nx := fun _ H' => Q .non H', rt := Q } (L2.start N vs) H := by
  subst hm
  unfold Fn.den at q
  rw [if_pos hl] at q
  refine ⟨H, F', _, rep_start tb nt hs a (show fn.n - fn.ps = N.length - vs.length by rw [hN, a.length, hl]), ?_⟩
  cases e : evSs fn.body (ss.map some ++ List.replicate (fn.n - fn.ps) none) with
  | bad => rw [e] at q; exact q
  | exc y e2 => rw [e] at q; exact fun F2 σ' H' cls dd g R hx => q F2 H' cls dd g R.h0 R.hf hx
  | ok fl =>
    rw [e] at q
    cases fl with
    | nx e2 => exact fun F2 σ' H' g R => q F2 H' _ g R.h0 R.hf .non
    | bk e2 => exact q.elim
    | ct e2 => exact q.elim
    | rt r =>
      cases r with
      | val d => exact fun F2 H' v g h1 h2 i => q F2 H' v g h1 h2 i
      | own ds => exact fun F2 H' v g h1 h2 ⟨p, ws, hv, z, fz, hp', all⟩ => by subst hv; exact q F2 H' p ws g h1 h2 z fz hp' all
      | bor ds => exact q.elim
theorem den_len {m : Mg} {fn : Fn} {ps : List Str} (hp : fn.ps = ps.length) {vs : List V} {H : Hp} {Q : VK} {E : XK} (h : spOf K m fn.den vs H Q E) : vs.length = ps.length := by
  obtain ⟨F', ss, _, _, _, a, q⟩ := h
  rw [a.length, ← hp]
  unfold Fn.den at q
  split at q
  all_goals (split at * <;> first | assumption | (exact q.elim) | simp_all)
/-- A DEF KEEPS WHAT ITS TERM SAYS -/
theorem fn_sound {x qual : Str} {params : Arguments} {body : List Stmt} {scope : Scope} {dvs : List V} {kws : List (Str × V)} {f : Addr} {fd : FuncData} {N ps : List Str} {n : Nat} (fn : Fn)
    (F : FunD K x qual params body scope dvs kws f fd) (S : FnScope N ps scope) (hN : fn.n = N.length) (hp : fn.ps = ps.length) (G : Ground P mg base) (hn : 32 ≤ n)
    (hq : qual ++ ".<locals>." = lamQ → f = He.fAd K lamD) (hg : fn.body.good ⟨P, w, K, mg, base, n, false, qual ++ ".<locals>."⟩) (hok : okSts N scope fn.body body = true) : FnOk P w K mg base (L2.CX P w) (n + 1) f fd ps (spOf K (m0 mg) fn.den) := by
  obtain ⟨oc, od, dV, kV, doc, pm, an, cdv, ct, osl, rfl, lk, hcd, _, _⟩ := F.ex
  have hco : CodeAt K f cdv := fun p e => by
    obtain ⟨c, rfl⟩ := He.codeIn_ref hcd
    rw [He.codeOf_eq (p := p) (by rw [← e]; exact lk) rfl]
  refine fn_of lk hcd S (fun vs H Q E h => den_len hp h) fun A outer s H vs Q E hr h => ?_
  refine ⟨tF _ (fun cls d _ H => E cls d H) (evSs fn.body), sndSs fn.body _ _ n (xt_of G S hr hn hq hco) (fun y hy => ⟨hy, .inl rfl⟩) ⟨rfl, rfl⟩ hg body hok, ?_⟩
  have hlen := den_len hp h
  obtain ⟨F', ss, hs, tb, nt, a, q⟩ := h
  exact den_end (X := cxOf (L2.CX P w) P w K mg base N qual scope f cdv A outer s H E) (mX_cool rfl) hN hp (by rw [← a.length, hp]; exact hlen) hs tb nt a q
/-- .. while an error is handled -/
theorem fn_soundE {x qual : Str} {params : Arguments} {body : List Stmt} {scope : Scope} {dvs : List V} {kws : List (Str × V)} {f : Addr} {fd : FuncData} {N ps : List Str} {n : Nat} (fn : Fn)
    (F : FunD K x qual params body scope dvs kws f fd) (S : FnScope N ps scope) (hN : fn.n = N.length) (hp : fn.ps = ps.length) (G : Ground P mg base) (hn : 32 ≤ n)
    (hq : qual ++ ".<locals>." = lamQ → f = He.fAd K lamD) (hg : fn.body.good ⟨P, w, K, mg, base, n, true, qual ++ ".<locals>."⟩) (hok : okSts N scope fn.body body = true) : FnE P w K mg base (L2.CX P w) (n + 1) f fd ps fun pn => spOf K (mP K mg pn) fn.den := by
  refine okE_of F S (fun pn vs H Q E h => den_len hp h) fun cdv A outer s H vs Q E pn hco hne hr h => ?_
  refine ⟨tF _ (fun cls d _ H => E cls d H) (evSs fn.body), sndSs fn.body _ _ n (xt_ofE hne G S hr hn hq hco) (fun y hy => ⟨hy, .inl rfl⟩) ⟨rfl, rfl⟩ hg body hok, ?_⟩
  have hlen := den_len hp h
  obtain ⟨F', ss, hs, tb, nt, a, q⟩ := h
  exact den_end (X := cxE (L2.CX P w) P w K mg base N qual scope f cdv A outer s H E pn) (mX_hot rfl) hN hp (by rw [← a.length, hp]; exact hlen) hs tb nt a q
end
end Ev
set_option Elab.async false
set_option linter.all false
set_option maxRecDepth 100000
set_option maxHeartbeats 1000000
namespace Ev
open PySem PySem.Spec PyProof.Rows L2

/-! ### the heap with the script and the tables hidden -/
abbrev noTab : Obj := { cls := .none, data := .fields #[] }
section
variable {P : Program} {w : World} {K : PySem.W.Frag} {mg mb : Str → Option Value} {h : Heap} {H : Hp} {a b : Addr} {o₀ o : Obj} {m : Str → Option Value} {cs : List (Addr × Addr)}
/-- H knows at most the script o₀ at a, and the tables -/
structure Lone (h : Heap) (H : Hp) (a : Addr) (o₀ : Obj) (cs : List (Addr × Addr)) : Prop where
  here : h.get? a = some o₀
  list : o₀.cls = .type "list"
  seq : ∀ es n, o₀.data ≠ .dict es n
  tabs : ∀ p ∈ cs, h.get? p.2 = some noTab
  only : ∀ b, H b ≠ none → b = a ∨ ∃ p ∈ cs, p.2 = b
theorem Lone.keep (L : Lone h H a o₀ cs) (e : h.get? b = some o) (ne : o ≠ o₀) (nt : o ≠ noTab) : (hidT h H).get? b = some o := by
  refine hidT_get e (Classical.byContradiction fun q => ?_)
  rcases L.only b q with z | ⟨p, hp, z⟩
  · subst z
    rw [L.here] at e
    exact ne (Option.some.inj e).symm
  · subst z
    rw [L.tabs p hp] at e
    exact nt (Option.some.inj e).symm
theorem Lone.ns (L : Lone h H a o₀ cs) (x : h.Ns b m) : (hidT h H).Ns b m := by
  obtain ⟨o, es, ep, e, d, r⟩ := x
  exact ⟨o, es, ep, L.keep e (fun z => L.seq es ep (z ▸ d)) (fun z => by subst z; cases d), d, r⟩
theorem Lone.mod (L : Lone h H a o₀ cs) (e : h.get? b = some o) (c : o.cls = .type "module") : (hidT h H).get? b = some o :=
  L.keep e (fun z => by rw [z, L.list] at c; exact absurd (Value.type.inj c) (by decide)) fun z => by subst z; cases c
theorem Lone.seer (L : Lone h H a o₀ cs) (x : h.NoSeer) : (hidT h H).NoSeer := by
  obtain ⟨⟨mc, c1, c2⟩, ⟨mm, m1, m2⟩, ⟨mb, b1, b2⟩, ⟨mg, bm, ob, g1, g2, g3, g4, g5⟩⟩ := x
  exact ⟨⟨mc, L.ns c1, c2⟩, ⟨mm, L.ns m1, m2⟩, ⟨mb, L.ns b1, b2⟩, ⟨mg, bm, ob, L.ns g1, g2, L.mod g3 g4, g4, g5⟩⟩
theorem Lone.lim (L : Lone h H a o₀ cs) (x : h.NoLimit) : (hidT h H).NoLimit := by
  obtain ⟨mc, h1, h2⟩ := x
  exact ⟨mc, L.ns h1, h2⟩
/-- what is known of the makers' tables: cs, each code object with its table; all of IsTab's are there -/
structure TabsIn (K : PySem.W.Frag) (h : Heap) (cs : List (Addr × Addr)) : Prop where
  code : ∀ p ∈ cs, PySem.W.codeHdIn K p.1 p.2 = true
  out : ∀ p ∈ cs, K.lookup p.2 = none
  empty : ∀ p ∈ cs, h.get? p.2 = some noTab
  all : ∀ P q, IsTab K P q → ∃ p ∈ cs, p.2 = P
/-- the law's call, from what its def says of the script -/
theorem end_call {k : Nat} {fa : Addr} {fd : FuncData} {x : Str} {den : List Sl → Rf} {s₁ : Shared} {vs : List Value} {ns : List Int}
    (KX : K.In s₁.heap) (g1 : s₁.heap.Ns mainGlobals mg) (g2 : s₁.heap.Ns builtinsNs mb) (g3 : ∀ x : Str, x ≠ "__name__" → mb x = bootBuiltins x) (g4 : s₁.heap.NoLimit) (g5 : s₁.heap.NoSeer) (g6 : s₁.gens = #[]) (g7 : TabsIn K s₁.heap cs)
    (g8 : ∃ (bm : Addr) (ob : Obj), mg "__builtins__" = some (.ref bm) ∧ bm ≠ builtinsNs ∧ s₁.heap.get? bm = some ob ∧ ob.cls = .type "module" ∧ ob.dict = some builtinsNs ∧ ob.data = .plain)
    (ht : P.given.tree = none) (hfree : ∀ x ∈ bltFree, mg x = none)
    (ha : s₁.heap.get? a = some { cls := .type "list", data := .seq vs.toArray }) (hi : IntsAre vs ns) (hl : ns.length ≤ sizeLine) (hr : Room k callerA)
    (F : ∀ base : Heap, K.In base → base.Ns mainGlobals mg → Ground P mg base → (∀ p ∈ cs, LamX.TabB base mg p.1 p.2) → FnOk P w K mg base (L2.CX P w) k fa fd [x] (spOf K (m0 mg) den)) (hb : ∀ (s : Shared) (u : Value), BindsTo s fd ⟨[u], []⟩ [(x, u)])
    (hd : den [.val (.ro (ns.map D.int))] = .ok (.val (.bl true))) :
    codeAny (model P w) callerA (.call (.ref fa) ⟨[.ref a], []⟩) (fun r s' => r = .ok (.ret (.bool true)) ∧ OldK s₁.heap s'.heap ∧ s'.os = s₁.os ∧ AllBare s'.gens) s₁ := by
  have rv := vals_ints hi
  have aT : ∀ p ∈ cs, p.2 ≠ a := fun p hp z => by
    have e := g7.empty p hp
    rw [z, ha] at e
    have z' : Data.seq vs.toArray _ = Data.fields #[] := congrArg Obj.data (Option.some.inj e)
    cases z'
  -- G: what is tracked of the script
  have main : ∀ G : Hp, (∀ b, G b = none ∨ ∃ o xs, G b = some (.frz o (.lst xs))) → SqL K G a (ns.map V.int) → HOk P w G s₁.heap → (∀ b, G b ≠ none → b = a) → (G a ≠ none → K.lookup a = none) →
      codeAny (model P w) callerA (.call (.ref fa) ⟨[.ref a], []⟩) (fun r s' => r = .ok (.ret (.bool true)) ∧ OldK s₁.heap s'.heap ∧ s'.os = s₁.os ∧ AllBare s'.gens) s₁ := by
    intro G hG hS hokG hA hK
    obtain ⟨H, hH⟩ : ∃ H : Hp, ∀ b, H b = if ∃ p ∈ cs, p.2 = b then some (.tbl #[]) else G b := ⟨_, fun _ => rfl⟩
    have tabAt : ∀ p ∈ cs, H p.2 = some (.tbl #[]) := fun p hp => by rw [hH, if_pos ⟨p, hp, rfl⟩]
    have offTab : ∀ b, ¬ (∃ p ∈ cs, p.2 = b) → H b = G b := fun b q => by rw [hH, if_neg q]
    have gT : ∀ p ∈ cs, G p.2 = none := fun p hp => Classical.byContradiction fun q => aT p hp (hA _ q)
    have GH : Same G H := fun b o e => by
      rw [offTab b fun ⟨p, hp, z⟩ => by subst z; rw [gT p hp] at e; cases e]
      exact e
    have hok : HOk P w H s₁.heap := fun b u z => by
      by_cases q : ∃ p ∈ cs, p.2 = b
      · obtain ⟨p, hp, rfl⟩ := q
        rw [tabAt p hp] at z
        cases z
        exact g7.empty p hp
      · rw [offTab b q] at z
        refine (hokG b u z).stay (fun _ _ _ e => e) (fun c e => GH _ _ e) fun c xs e => GH _ _ e
    have L : Lone s₁.heap H a { cls := .type "list", data := .seq vs.toArray } cs := ⟨ha, rfl, fun es n => by exact Data.noConfusion, g7.empty, fun b q => by
      by_cases z : ∃ p ∈ cs, p.2 = b
      · exact .inr z
      · rw [offTab b z] at q; exact .inl (hA b q)⟩
    have kin : K.In (hidT s₁.heap H) := fun b o e => by
      refine hidT_get (KX b o e) (Classical.byContradiction fun q => ?_)
      rcases L.only b q with z | ⟨p, hp, z⟩
      · subst z
        rw [offTab b fun ⟨p, hp, y⟩ => aT p hp y] at q
        rw [hK q] at e
        cases e
      · subst z
        rw [g7.out p hp] at e
        cases e
    have gr : Ground P mg (hidT s₁.heap H) := ⟨L.seer g5, L.lim g4, ht, hfree⟩
    have md : Mod K mg (hidT s₁.heap H) := ⟨kin, L.ns g1, ⟨mb, L.ns g2, g3⟩, L.lim g4⟩
    have tabs : ∀ p ∈ cs, LamX.TabB (hidT s₁.heap H) mg p.1 p.2 := fun p hp => by
      obtain ⟨bm, ob, b1, b2, b3, b4, b5, b6⟩ := g8
      refine ⟨PySem.W.codeHd_of_K kin (g7.code p hp), ⟨bm, ob, b1, b2, fun z => ?_, fun z => ?_, L.mod b3 b4, b4, b5, b6⟩, fun z => ?_⟩
      · obtain ⟨o, es, ep, e, d, _⟩ := g1
        rw [z, e] at b3
        cases b3
        rw [b6] at d
        cases d
      · rw [z, g7.empty p hp] at b3
        cases b3
        cases b4
      · obtain ⟨o, es, ep, e, d, _⟩ := g1
        rw [z, g7.empty p hp] at e
        cases e
        cases d
    have nil : ∀ b : Addr, b ∉ frs ([] : List Env) := fun b z => by cases z
    have e0 : Env0 P w K mg (hidT s₁.heap H) callerA [] s₁ H := ⟨rfl, md, fun b o e => of_hidT e, Nat.le_of_eq (hidT_size _ _), trivial, fun b z => (nil b z).elim, hok, .of_eq g6⟩
    have sp : spOf K (m0 mg) den [.ref a] H (fun v _ => v = .bl true) fun _ _ _ => False := by
      refine ⟨G, [.val (.ro (ns.map D.int))], GH, fun P' q' h' => ?_, fun P' q' h' => ?_, .cons (.ro hS (.ints ns)) .nil, ?_⟩
      · obtain ⟨p, hp, rfl⟩ := g7.all P' q' h'
        exact LamX.TabS.nil (tabAt p hp)
      · obtain ⟨p, hp, rfl⟩ := g7.all P' q' h'
        exact gT p hp
      · rw [hd]
        intro F' H' v _ _ _ i
        cases i
        rfl
    refine codeAny_mono ((F _ kin (L.ns g1) gr tabs).run callerA [] s₁ H ⟨[.ref a], []⟩ [.ref a] [.ref a] _ _ hr e0 (hb s₁ (.ref a)) (.cons rfl .nil) sp) fun r s' z => ?_
    cases r with
    | error e =>
      obtain ⟨_, _, _, _, _, _, _, _, _, _, _, _, q⟩ := (show L2.CX P w [] H s₁ (fun _ _ _ => False) e s' from z)
      exact q.elim
    | ok fl =>
      cases fl with
      | next => cases z
      | brk => cases z
      | cont => cases z
      | ret u =>
        obtain ⟨v, H', os, bare, un, hok', r', q⟩ := z
        obtain rfl : v = .bl true := q
        obtain rfl : u = Value.bool true := r'
        have stays : ∀ b o, (¬ ∃ p ∈ cs, p.2 = b) → s₁.heap.get? b = some o → s'.heap.get? b = some o := fun b o nt e => by
          rcases hG b with z | ⟨ob, xs, z⟩
          · exact un.keep b o e (by rw [offTab b nt]; exact z) (nil b) (by simp)
          · have z' : H b = some (.frz ob (.lst xs)) := by rw [offTab b nt]; exact z
            have z2 := (hok' b _ (un.frzs b ob _ z')).1
            have z1 := (hok b _ z').1
            rw [e] at z1
            cases z1
            exact z2
        have longer : ∀ p ∈ cs, ∃ more : Array Value, s'.heap.get? p.2 = some { cls := .none, data := .fields more } := fun p hp => by
          obtain ⟨more, z⟩ := un.tbls p.2 #[] (tabAt p hp)
          exact ⟨_, hok' p.2 _ z⟩
        refine ⟨rfl, ⟨fun b o e => ?_, fun b o e => ?_⟩, os, bare⟩
        · by_cases nt : ∃ p ∈ cs, p.2 = b
          · obtain ⟨p, hp, rfl⟩ := nt
            obtain ⟨more, e2⟩ := longer p hp
            have e1 := g7.empty p hp
            rw [e1] at e
            cases e
            exact .inr (.inl ⟨((PySem.W.codeHd_of_K KX (g7.code p hp)).tab e1).isCodeTable, rfl, #[], more, rfl, by rw [Array.empty_append]; exact e2⟩)
          · exact .inl (stays b o nt e)
        · by_cases nt : ∃ p ∈ cs, p.2 = b
          · obtain ⟨p, hp, rfl⟩ := nt
            obtain ⟨more, e2⟩ := longer p hp
            exact ⟨_, e2⟩
          · exact ⟨o, stays b o nt e⟩
  have sz : (ns.map V.int).length ≤ sizeLine := by rw [List.length_map]; exact hl
  have ln := hi.length
  cases hk : K.lookup a with
  | some o =>
    have e := KX a o hk
    rw [ha] at e
    cases e
    exact main (fun _ => none) (fun _ => .inl rfl) (.inr ⟨_, vs.toArray, _, hk, rfl, rfl, rfl, by rw [List.size_toArray, ln]; exact hl, by simpa using rv⟩) (fun b u z => nomatch (show (none : Option HO) = some u from z))
      (fun b z => (z rfl).elim) fun z => (z rfl).elim
  | none =>
    have at_ : ∀ b, (fun b => if b = a then some (HO.frz { cls := .type "list", data := .seq vs.toArray } (.lst (ns.map V.int))) else none : Hp) b ≠ none → b = a := fun b z => by
      by_cases q : b = a
      · exact q
      · exact (z (if_neg q)).elim
    refine main (fun b => if b = a then some (HO.frz { cls := .type "list", data := .seq vs.toArray } (.lst (ns.map V.int))) else none) (fun b => ?_) (.inl (.inr ⟨{ cls := .type "list", data := .seq vs.toArray }, if_pos rfl⟩)) (fun b u z => ?_) at_ fun _ => hk
    · by_cases q : b = a
      · exact .inr ⟨_, _, if_pos q⟩
      · exact .inl (if_neg q)
    · have q := at_ b (by intro y; have y' := z.symm.trans y; cases y')
      subst q
      have z' := (if_pos rfl).symm.trans z
      cases z'
      exact ⟨ha, sz, vs, _, rv, ha⟩
end
/-- A LAW, from what its def says of every script -/
theorem walk_law {l : PySem.W.OpenLaw} {n k : Nat} {q : Program} {loose : List Str} {XP : (Str → Option Value) → Heap → Prop} {YP : World → Heap → Prop} {d : DefRec} {x : Str} {den : List Sl → Rf}
    (hn : l.most = some n) (hn2 : n ≤ sizeLine) (hdf : d.params.defaults = []) (hr : Room k callerA) (hi : importsNone q = true) (ht : l.prog.given.tree = none)
    (law : ∀ ns : List Int, ns.length ≤ n → (∀ z ∈ ns, Builtin.Int.intBits z ≤ 1048576) → den [.val (.ro (ns.map D.int))] = .ok (.val (.bl true)))
    (F : ∀ (w : World) (mg : Str → Option Value) (fa : Addr) (h : Heap), YP w h → h.Ns mainGlobals mg → mg d.name = some (.ref fa) →
      ∃ (K : PySem.W.Frag) (fd : FuncData) (cs : List (Addr × Addr)), K.In h ∧ TabsIn K h cs ∧ (∀ (s : Shared) (u : Value), BindsTo s fd ⟨[u], []⟩ [(x, u)]) ∧ (∀ x ∈ bltFree, mg x = none) ∧
        ∀ base : Heap, K.In base → base.Ns mainGlobals mg → Ground l.prog mg base → (∀ p ∈ cs, LamX.TabB base mg p.1 p.2) → FnOk l.prog w K mg base (L2.CX l.prog w) k fa fd [x] (spOf K (m0 mg) den)) :
    PySem.W.WalkO q loose XP YP l.row.toRowW d [] (fun f vs => PySem.call f vs) := by
  refine Att.attach_callB hn hdf fun w s₀ s₁ mg mb fa o pm cd doc a vs ns G Y _ _ _ hmg hobj hints hlen hbits hg => ?_
  obtain ⟨K, fd, cs, KX, hT, hb, hf, hF⟩ := F w mg fa _ Y G.T.g hmg
  exact end_call KX G.T.g G.T.b G.T.builtins G.T.nolimit (G.T.seer hi) hg hT G.T.bmain ht hf hobj hints (Nat.le_trans hlen hn2) hr hF hb (law ns hlen hbits)
/-! ### the head's facts -/
open He
/-- a global that is one of the built-in functions -/
def isBlt (x : Str) (b : String) (K : PySem.W.Frag) : Bool := decide (PySem.W.nsIn K mainGlobals x = some (some (.builtin b)))
section
variable {P : Program} {w : World} {K : PySem.W.Frag} {mg : Str → Option Value} {base h : Heap}
theorem isBlt_ok (X : K.In h) (G : h.Ns mainGlobals mg) {x : Str} {b : String} (c : isBlt x b K = true) : mg x = some (.builtin b) := PySem.W.mg_of X G (of_decide_eq_true c)
theorem fnG_mono {m n : Nat} {hot : Bool} {me me' : Str} {f : Str} {den : List Sl → Rf} {dfl : List D} (hm : n ≤ m) (h : FnG ⟨P, w, K, mg, base, n, hot, me⟩ f den dfl) : FnG ⟨P, w, K, mg, base, m, hot, me'⟩ f den dfl := by
  obtain ⟨fa, fd, ps, ds, dvs, h1, h2, h3, h4, h5⟩ := h
  exact ⟨fa, fd, ps, ds, dvs, h1, h2, fun z => (h3 z).mono hm, fun z => (h4 z).mono hm, h5⟩
/-- a def of the head, as a callee -/
theorem fnG_of {d : DefD} {fd : FuncData} {N ps : List Str} {n : Nat} {hot : Bool} {me : Str} (fn : Fn) {vs : List V} {dfl : List D}
    (F : FunD K d.name d.qual d.params d.body d.scope (d.dvs K) (d.kws K) (fAd K d.at_) fd) (hat : d.at_.2 = none) (S : FnScope N ps d.scope) (hN : fn.n = N.length) (hp : fn.ps = ps.length) (G : Ground P mg base) (hn : 32 ≤ n)
    (hq : d.qual ++ ".<locals>." = lamQ → d.at_ = lamD) (hg : fn.body.good ⟨P, w, K, mg, base, n, hot, d.qual ++ ".<locals>."⟩) (hok : okSts N d.scope fn.body d.body = true) (hmg : mg d.at_.1 = some (.ref (ga K d.at_.1))) (hb : ∃ ds, Vals vs ds ∧ Binds K fd ps ds) (hv : ∀ er F, IsAll K ⟨mg, er⟩ F vs dfl) :
    FnG ⟨P, w, K, mg, base, n + 1, hot, me⟩ d.at_.1 fn.den dfl := by
  have e : fAd K d.at_ = ga K d.at_.1 := by unfold fAd; rw [hat]
  have hq' : d.qual ++ ".<locals>." = lamQ → fAd K d.at_ = fAd K lamD := fun z => by rw [hq z]
  rw [e] at F hq'
  obtain ⟨ds, r, b⟩ := hb
  refine ⟨_, fd, ps, ds, vs, hmg, F.kp, fun z => ?_, fun z => ?_, b, r, hv⟩
  · have z' : hot = false := z
    subst z'
    exact fn_sound fn F S hN hp G hn hq' hg hok
  · have z' : hot = true := z
    subst z'
    exact fn_soundE fn F S hN hp G hn hq' hg hok
end
/-! ### the head's facts of errors -/
def gloB (K : PySem.W.Frag) (c : Str) : Bool := decide (PySem.W.nsIn K mainGlobals c = some (some (.ref (ga K c))))
def freeB (K : PySem.W.Frag) (c : Str) : Bool := decide (PySem.W.nsIn K mainGlobals c = some none)
/-- an own class of errors over ValueError, without an own __init__ -/
def errB (K : PySem.W.Frag) (c : Str) : Bool := gloB K c && PySem.W.excIn K (ga K c) [.type "ValueError", .type "Exception", .type "BaseException", .type "object"] "ValueError.__new__" && PySem.W.keepIn K (.ref (ga K c)) &&
  decide (PySem.W.subIn K (.ref (ga K c)) (.type "BaseException") = some true) && decide (PySem.W.typeIn K (.ref (ga K c)) = some (.type "type"))
def exmB (K : PySem.W.Frag) (c : Str) (tbl : List (Str × Bool)) : Bool := gloB K c && tbl.all fun q => gloB K q.1 && decide (PySem.W.exmOne K (.ref (ga K q.1)) (.ref (ga K c)) = some q.2)
def excB (K : PySem.W.Frag) (D : Addr) : Bool := decide (PySem.W.findIn K (.ref D) "__getattribute__" = some (some (.builtin "BaseException.__getattribute__"))) && decide (PySem.W.findIn K (.ref D) "__getattr__" = some none) && decide (PySem.W.subIn K (.ref D) (.type "BaseException") = some true) &&
  PySem.W.hasDictIn K D && decide (PySem.W.findIn K (.ref D) "__class__" = some (some (.builtin "object.__class__"))) && decide (PySem.W.specialIn K (.builtin "object.__class__") "__get__" = some (some (.builtin "getset_descriptor.__get__"))) && decide (PySem.W.takesIn K (.builtin "object.__class__") = some true) && decide (PySem.W.mroIn K D (.type "object") = some true)
/-- T: the built-in class that the name is, if it is no global -/
def iscU (K : PySem.W.Frag) (c : Str) : Option String → Value
  | none => .ref (ga K c)
  | some T => .type T
def iscB (K : PySem.W.Frag) (c : Str) (T : Option String) (tbl : List (Str × Bool)) : Bool := (match T with
  | none => gloB K c
  | some T => freeB K c && decide (bootBuiltins c = some (.type T)) && decide (c ≠ "__name__")) && tbl.all fun q => gloB K q.1 && excB K (ga K q.1) && decide (PySem.W.kitOne K (.ref (ga K q.1)) (iscU K c T) = some q.2)
section
variable {P : Program} {w : World} {K : PySem.W.Frag} {mg : Str → Option Value} {base h : Heap} {n : Nat} {hot : Bool} {me : Str} {c : Str}
theorem gloB_ok (X : K.In h) (G : h.Ns mainGlobals mg) (q : gloB K c = true) : mg c = some (.ref (ga K c)) := PySem.W.mg_of X G (of_decide_eq_true q)
theorem freeB_ok (X : K.In h) (G : h.Ns mainGlobals mg) (q : freeB K c = true) : mg c = none := PySem.W.mg_none_of X G (of_decide_eq_true q)
theorem errB_ok (X : K.In h) (G : h.Ns mainGlobals mg) (q : errB K c = true) : ErrG ⟨P, w, K, mg, base, n, hot, me⟩ c := by
  simp only [errB, Bool.and_eq_true, decide_eq_true_eq] at q
  obtain ⟨⟨⟨⟨q1, q2⟩, q3⟩, q4⟩, q5⟩ := q
  exact ⟨_, gloB_ok X G q1, q2, q3, q4, q5⟩
theorem excB_ok {D : Addr} (q : excB K D = true) : ExcC K D := by
  simp only [excB, Bool.and_eq_true, decide_eq_true_eq] at q
  obtain ⟨⟨⟨⟨⟨⟨⟨q1, q2⟩, q3⟩, q4⟩, q5⟩, q6⟩, q7⟩, q8⟩ := q
  exact ⟨q1, q2, q3, q4, q5, q6, q7, q8⟩
theorem exmB_ok {tbl : List (Str × Bool)} (X : K.In h) (G : h.Ns mainGlobals mg) (q : exmB K c tbl = true) : ErrT ⟨P, w, K, mg, base, n, hot, me⟩ c tbl := by
  simp only [exmB, Bool.and_eq_true, decide_eq_true_eq, List.all_eq_true] at q
  exact ⟨_, gloB_ok X G q.1, fun p hp => ⟨_, gloB_ok X G (q.2 p hp).1, (q.2 p hp).2⟩⟩
theorem iscB_ok {T : Option String} {tbl : List (Str × Bool)} (X : K.In h) (G : h.Ns mainGlobals mg) (q : iscB K c T tbl = true) : IsCG ⟨P, w, K, mg, base, n, hot, me⟩ c tbl := by
  unfold iscB at q
  rw [Bool.and_eq_true, List.all_eq_true] at q
  refine ⟨iscU K c T, ?_, fun p hp => ?_⟩
  · cases T with
    | none => exact .inl ⟨gloB_ok X G q.1, _, rfl⟩
    | some T =>
      have q1 := q.1
      simp only [Bool.and_eq_true, decide_eq_true_eq] at q1
      exact .inr ⟨freeB_ok X G q1.1.1, q1.1.2, q1.2, T, rfl⟩
  · have q2 := q.2 p hp
    simp only [Bool.and_eq_true, decide_eq_true_eq] at q2
    exact ⟨_, gloB_ok X G q2.1.1, excB_ok q2.1.2, q2.2⟩
end
/-! ### the module's constants -/
mutual
def valB (K : PySem.W.Frag) : D → Value → Bool
  | .int i, .int j _ => decide (i = j)
  | .str x, .str y _ => decide (x = y)
  | .non, .none => true
  | .bl b, .bool c => decide (b = c)
  | .tup ds, .ref a => match K.lookup a with
    | some ⟨.type c, _, .seq its _, _⟩ => decide (c = "tuple") && decide (its.size ≤ sizeLine) && valBs K ds its.toList
    | _ => false
  | _, _ => false
def valBs (K : PySem.W.Frag) : List D → List Value → Bool
  | [], [] => true
  | d :: ds, u :: us => valB K d u && valBs K ds us
  | _, _ => false
end
mutual
theorem valB_ok {K : PySem.W.Frag} : ∀ (d : D) (u : Value), valB K d u = true → ∃ v, RelV v u ∧ ∀ mg F, Is K mg F v d
  | .int i, u, h => by
    cases u <;> simp only [valB, Bool.false_eq_true, decide_eq_true_eq] at h
    subst h
    exact ⟨.int i, ⟨_, rfl⟩, fun _ _ => .int i⟩
  | .str x, u, h => by
    cases u <;> simp only [valB, Bool.false_eq_true, decide_eq_true_eq] at h
    subst h
    exact ⟨.str x, ⟨_, rfl⟩, fun _ _ => .str x⟩
  | .non, u, h => by
    cases u <;> simp only [valB, Bool.false_eq_true] at h
    exact ⟨.non, rfl, fun _ _ => .non⟩
  | .bl b, u, h => by
    cases u <;> simp only [valB, Bool.false_eq_true, decide_eq_true_eq] at h
    subst h
    exact ⟨.bl b, rfl, fun _ _ => .bl b⟩
  | .tup ds, u, h => by
    cases u <;> simp only [valB, Bool.false_eq_true] at h
    next a =>
    split at h
    · next c _ its n _ e =>
      simp only [Bool.and_eq_true, decide_eq_true_eq] at h
      obtain ⟨⟨rfl, h1⟩, h2⟩ := h
      obtain ⟨vs, r, i⟩ := valBs_ok ds _ h2
      exact ⟨.ref a, rfl, fun mg F => .tup (.inr ⟨_, its, n, e, rfl, rfl, h1, r⟩) (i mg F)⟩
    · cases h
  | .lst _, u, h => by cases u <;> simp [valB] at h
  | .ro _, u, h => by cases u <;> simp [valB] at h
  | .obj _ _ _, u, h => by cases u <;> simp [valB] at h
  | .err _ _ _, u, h => by cases u <;> simp [valB] at h
theorem valBs_ok {K : PySem.W.Frag} : ∀ (ds : List D) (us : List Value), valBs K ds us = true → ∃ vs, Vals vs us ∧ ∀ mg F, IsAll K mg F vs ds
  | [], [], _ => ⟨[], .nil, fun _ _ => .nil⟩
  | [], _ :: _, h => by simp [valBs] at h
  | _ :: _, [], h => by simp [valBs] at h
  | d :: ds, u :: us, h => by
    simp only [valBs, Bool.and_eq_true] at h
    obtain ⟨v, r, i⟩ := valB_ok d u h.1
    obtain ⟨vs, rr, ii⟩ := valBs_ok ds us h.2
    exact ⟨v :: vs, .cons r rr, fun mg F => .cons (i mg F) (ii mg F)⟩
end
def glbD (K : PySem.W.Frag) (x : Str) (d : D) : Bool := match PySem.W.nsIn K mainGlobals x with
  | some (some u) => valB K d u
  | _ => false
theorem glbD_ok {K : PySem.W.Frag} {h : Heap} {mg : Str → Option Value} {x : Str} {d : D} (X : K.In h) (G : h.Ns mainGlobals mg) (q : glbD K x d = true) : ∃ u v, mg x = some u ∧ RelV v u ∧ ∀ er F, Is K ⟨mg, er⟩ F v d := by
  unfold glbD at q
  split at q
  · next u e =>
    obtain ⟨v, r, i⟩ := valB_ok d u q
    exact ⟨u, v, PySem.W.mg_of X G e, r, fun er F => i _ F⟩
  · cases q
end Ev
set_option Elab.async false
set_option linter.all false
set_option maxRecDepth 100000
namespace Ev
open PySem PySem.Spec

/-! ### sizes -/
def Bd (k : Nat) (x : Int) : Prop := x.natAbs < 2 ^ k
theorem Bd.mono {j k : Nat} {x : Int} (h : Bd j x) (q : j ≤ k) : Bd k x := Nat.lt_of_lt_of_le h (Nat.pow_le_pow_right (by decide) q)
theorem Bd.neg {k : Nat} {x : Int} (h : Bd k x) : Bd k (-x) := by unfold Bd at *; rwa [Int.natAbs_neg]
theorem Bd.mul {j k : Nat} {x y : Int} (h : Bd j x) (q : Bd k y) : Bd (j + k) (x * y) := by
  unfold Bd at *
  rw [Int.natAbs_mul, Nat.pow_add]
  have p1 : 0 < 2 ^ k := Nat.pow_pos (by decide)
  calc x.natAbs * y.natAbs ≤ x.natAbs * 2 ^ k := Nat.mul_le_mul_left _ (Nat.le_of_lt q)
    _ < 2 ^ j * 2 ^ k := Nat.mul_lt_mul_of_pos_right h p1
theorem Bd.add {k : Nat} {x y : Int} (h : Bd k x) (q : Bd k y) : Bd (k + 1) (x + y) := by
  unfold Bd at *
  have := Int.natAbs_add_le x y
  rw [Nat.pow_succ]
  omega
theorem Bd.sub {k : Nat} {x y : Int} (h : Bd k x) (q : Bd k y) : Bd (k + 1) (x - y) := by
  rw [Int.sub_eq_add_neg]
  exact h.add q.neg
theorem Bd.of_le {k : Nat} {x y : Int} (h : Bd k y) (q : x.natAbs ≤ y.natAbs) : Bd k x := Nat.lt_of_le_of_lt q h
theorem Bd.log2 {k : Nat} {x : Int} (h : Bd k x) (hk : 0 < k) : x.natAbs.log2 < k := by
  by_cases z : x.natAbs = 0
  · rw [z]; simpa using hk
  · exact (Nat.log2_lt z).mpr h
theorem mulOk_of {j k : Nat} {x y : Int} (h : Bd j x) (q : Bd k y) (l : j + k ≤ 90000000) : mulOk x y = true := by
  have h1 := (h.mono (Nat.le_add_right j 1)).log2 (Nat.succ_pos _)
  have h2 := (q.mono (Nat.le_add_right k 1)).log2 (Nat.succ_pos _)
  unfold mulOk
  rw [decide_eq_true (show x.natAbs.log2 + y.natAbs.log2 < 100000000 by omega)]
  simp

/-! ### loops -/
theorem loopN_succ {c : En → R (Bool × En)} {b : En → R Fl} : ∀ {n : Nat} {e : En} {r : R Fl}, loopN c b n e = some r → loopN c b (n + 1) e = some r
  | 0, _, _, h => by cases h
  | n + 1, e, r, h => by
    unfold loopN at h ⊢
    cases q : c e with
    | bad => rw [q] at h; exact h
    | exc x e2 => rw [q] at h; exact h
    | ok p =>
      obtain ⟨v, e1⟩ := p
      rw [q] at h
      cases v with
      | false => exact h
      | true =>
        dsimp only at h ⊢
        cases q2 : b e1 with
        | bad => rw [q2] at h; exact h
        | exc x e2 => rw [q2] at h; exact h
        | ok f =>
          rw [q2] at h
          cases f with
          | nx e2 => exact loopN_succ h
          | ct e2 => exact loopN_succ h
          | bk e2 => exact h
          | rt s => exact h
theorem loopN_add {c : En → R (Bool × En)} {b : En → R Fl} {n : Nat} {e : En} {r : R Fl} (h : loopN c b n e = some r) : ∀ k, loopN c b (n + k) e = some r
  | 0 => h
  | k + 1 => loopN_succ (loopN_add h k)
theorem whileD_of {c : En → R (Bool × En)} {b : En → R Fl} {n : Nat} {e : En} {r : R Fl} (h : loopN c b n e = some r) : whileD c b e = r := by
  unfold whileD
  have ex : ∃ n r, loopN c b n e = some r := ⟨n, r, h⟩
  rw [dif_pos ex]
  have q := ex.choose_spec.choose_spec
  have h1 := loopN_add h ex.choose
  have h2 := loopN_add q n
  rw [Nat.add_comm] at h2
  exact Option.some.inj (h2.symm.trans h1)
/-- one turn -/
theorem loopN_step {c : En → R (Bool × En)} {b : En → R Fl} {n : Nat} {e e1 e2 : En} {r : R Fl} (h1 : c e = .ok (true, e1)) (h2 : b e1 = .ok (.nx e2)) (h : loopN c b n e2 = some r) : loopN c b (n + 1) e = some r := by
  unfold loopN
  rw [h1]
  dsimp only
  rw [h2]
  exact h
theorem loopN_done {c : En → R (Bool × En)} {b : En → R Fl} {e e1 : En} (h1 : c e = .ok (false, e1)) : loopN c b 1 e = some (.ok (.nx e1)) := by
  unfold loopN
  rw [h1]

/-! ### what stands in a place -/
theorem es_nil (e : En) : evSs .nil e = .ok (.nx e) := rfl
theorem es_cons (a : Stm) (as : Stms) (e : En) : evSs (.cons a as) e = match evS a e with
    | .ok (.nx e2) => evSs as e2
    | r => r := rfl
theorem es_asgN (i : Nat) (x : Str) (a : Ex) (e : En) : evS (.asg (.nm i x) a) e = R.bind (evO a e) fun p => .ok (.nx (sv p.2 i (some p.1))) := rfl
theorem es_asgT (ts : Tgts) (a : Ex) (e : En) : evS (.asg (.tup ts) a) e = R.bind (evE a e) fun p => match setT (.tup ts) p.1 p.2 with
    | some e2 => .ok (.nx e2)
    | none => .bad := rfl
theorem es_par (i : Nat) (x : Str) (j : Nat) (y : Str) (a b : Ex) (e : En) : evS (.par i x j y a b) e = R.bind (evE a e) fun p => R.bind (evE b p.2) fun q => .ok (.nx (sv (sv q.2 i (some (.val p.1))) j (some (.val q.1)))) := rfl
theorem es_if (c : Ex) (a b : Stms) (e : En) : evS (.ite c a b) e = R.bind (R.bind (evE c e) fun p => truthR p.1 p.2) fun b1 => if b1.1 then evSs a b1.2 else evSs b b1.2 := rfl
theorem es_while (c : Ex) (a : Stms) (e : En) : evS (.while c a) e = whileD (fun e => R.bind (evE c e) fun p => truthR p.1 p.2) (fun e => evSs a e) e := rfl
theorem es_for (t : Tgt) (it : Itr) (a : Stms) (e : En) : evS (.for t it a) e = R.bind (evI it e) fun q => forD (fun x e => match setT t x e with
      | some e1 => evSs a e1
      | none => .bad) q.1 q.2 := rfl
theorem es_ret (a : Ex) (e : En) : evS (.ret a) e = match varIx a with
    | some i => match lk e i with
      | some (.val d) => .ok (.rt (.val d))
      | some (.own ds) => .ok (.rt (.own ds))
      | _ => .bad
    | none => R.bind (evO a e) fun p => .ok (.rt p.1) := rfl
theorem es_retN (e : En) : evS .retN e = .ok (.rt (.val .non)) := rfl
theorem es_never (e : En) : evS .never e = .bad := rfl
theorem o_prim (p : Prim) (as : Exs) (e : En) : evO (.prim p as) e = R.bind (evA as e) fun q => match pds q.2 q.1 with
    | some l => okS q.2 (evPrim p l)
    | none => .bad := rfl
theorem o_call (f : Str) (den : List Sl → Rf) (dfl : List D) (as : Exs) (e : En) : evO (.call f den dfl as) e = R.bind (evA as e) fun q => match pds q.2 q.1 with
    | some l => rfS q.2 (den (l ++ dfl.map Sl.val))
    | none => .bad := rfl
theorem o_var (i : Nat) (x : Str) (e : En) : evO (.var i x) e = R.bind (evE (.var i x) e) fun p => .ok (.val p.1, p.2) := rfl
theorem o_con (c : Const) (e : En) : evO (.con c) e = R.bind (evE (.con c) e) fun p => .ok (.val p.1, p.2) := rfl
theorem o_glob (x : Str) (d : D) (e : En) : evO (.glob x d) e = .ok (.val d, e) := rfl
theorem o_isi (t : Ty) (as : Exs) (e : En) : evO (.isi t as) e = R.bind (evE (.isi t as) e) fun p => .ok (.val p.1, p.2) := rfl
theorem o_and (a b : Ex) (e : En) : evO (.and a b) e = R.bind (evE (.and a b) e) fun p => .ok (.val p.1, p.2) := rfl
theorem o_or (a b : Ex) (e : En) : evO (.or a b) e = R.bind (evE (.or a b) e) fun p => .ok (.val p.1, p.2) := rfl
theorem o_not (a : Ex) (e : En) : evO (.not a) e = R.bind (evE (.not a) e) fun p => .ok (.val p.1, p.2) := rfl
theorem o_ite (c a b : Ex) (e : En) : evO (.ite c a b) e = R.bind (evE (.ite c a b) e) fun p => .ok (.val p.1, p.2) := rfl
theorem o_chain (p q : Prim) (a b c : Ex) (e : En) : evO (.chain p q a b c) e = R.bind (evE (.chain p q a b c) e) fun p => .ok (.val p.1, p.2) := rfl
theorem e_var (i : Nat) (x : Str) (e : En) : evE (.var i x) e = match lk e i with
    | some (.val d) => .ok (d, e)
    | some (.own ds) => .ok (.lst ds, sv e i (some (.val (.lst ds))))
    | _ => .bad := rfl
theorem e_rd (i : Nat) (x : Str) (e : En) : evE (.rd i x) e = match lk e i with
    | some (.val d) => .ok (d, e)
    | _ => .bad := rfl
theorem e_int (i : Int) (e : En) : evE (.con (.int i)) e = .ok (.int i, e) := rfl
theorem e_bl (i : Bool) (e : En) : evE (.con (.bool i)) e = .ok (.bl i, e) := rfl
theorem e_non (e : En) : evE (.con .none) e = .ok (.non, e) := rfl
theorem e_str (s : Str) (e : En) : evE (.con (.str s)) e = .ok (.str s, e) := rfl
theorem e_glob (x : Str) (d : D) (e : En) : evE (.glob x d) e = .ok (d, e) := rfl
theorem e_prim (p : Prim) (as : Exs) (e : En) : evE (.prim p as) e = R.bind (evA as e) fun q => match pds q.2 q.1 with
    | some l => okD q.2 (evPrim p l)
    | none => .bad := rfl
theorem e_isi (t : Ty) (as : Exs) (e : En) : evE (.isi t as) e = R.bind (evA as e) fun q => match pds q.2 q.1 with
    | some [s] => match isiD t s with
      | some b => .ok (.bl b, q.2)
      | none => .bad
    | _ => .bad := rfl
theorem e_call (f : Str) (den : List Sl → Rf) (dfl : List D) (as : Exs) (e : En) : evE (.call f den dfl as) e = R.bind (evA as e) fun q => match pds q.2 q.1 with
    | some l => R.bind (rfS q.2 (den (l ++ dfl.map Sl.val))) frozR
    | none => .bad := rfl
theorem e_and (a b : Ex) (e : En) : evE (.and a b) e = R.bind (evE a e) fun p => match truth p.1 with
    | some true => evE b p.2
    | some false => .ok p
    | none => .bad := rfl
theorem e_or (a b : Ex) (e : En) : evE (.or a b) e = R.bind (evE a e) fun p => match truth p.1 with
    | some true => .ok p
    | some false => evE b p.2
    | none => .bad := rfl
theorem e_not (a : Ex) (e : En) : evE (.not a) e = R.bind (evE a e) fun p => match truth p.1 with
    | some b => .ok (.bl (!b), p.2)
    | none => .bad := rfl
theorem e_ite (c a b : Ex) (e : En) : evE (.ite c a b) e = R.bind (evE c e) fun p => match truth p.1 with
    | some true => evE a p.2
    | some false => evE b p.2
    | none => .bad := rfl
theorem ea_nil (e : En) : evA .nil e = .ok ([], e) := rfl
theorem ea_rd (i : Nat) (x : Str) (as : Exs) (e : En) : evA (.cons (.rd i x) as) e = R.bind (slotR i e) fun p => R.bind (evA as p.2) fun q => .ok (p.1 :: q.1, q.2) := rfl
theorem ea_cons (a : Ex) (as : Exs) (e : En) (h : rdIx a = none) : evA (.cons a as) e = R.bind (evE a e) fun p => R.bind (evA as p.2) fun q => .ok (.d p.1 :: q.1, q.2) := by
  cases a <;> first | rfl | cases h
theorem ea_var (i : Nat) (x : Str) (as : Exs) (e : En) : evA (.cons (.var i x) as) e = R.bind (evE (.var i x) e) fun p => R.bind (evA as p.2) fun q => .ok (.d p.1 :: q.1, q.2) := rfl
theorem ea_con (c : Const) (as : Exs) (e : En) : evA (.cons (.con c) as) e = R.bind (evE (.con c) e) fun p => R.bind (evA as p.2) fun q => .ok (.d p.1 :: q.1, q.2) := rfl
theorem ea_glob (x : Str) (d : D) (as : Exs) (e : En) : evA (.cons (.glob x d) as) e = R.bind (evE (.glob x d) e) fun p => R.bind (evA as p.2) fun q => .ok (.d p.1 :: q.1, q.2) := rfl
theorem ea_prim (p : Prim) (bs : Exs) (as : Exs) (e : En) : evA (.cons (.prim p bs) as) e = R.bind (evE (.prim p bs) e) fun p => R.bind (evA as p.2) fun q => .ok (.d p.1 :: q.1, q.2) := rfl
theorem ea_isi (t : Ty) (bs : Exs) (as : Exs) (e : En) : evA (.cons (.isi t bs) as) e = R.bind (evE (.isi t bs) e) fun p => R.bind (evA as p.2) fun q => .ok (.d p.1 :: q.1, q.2) := rfl
theorem ea_call (f : Str) (den : List Sl → Rf) (dfl : List D) (bs : Exs) (as : Exs) (e : En) : evA (.cons (.call f den dfl bs) as) e = R.bind (evE (.call f den dfl bs) e) fun p => R.bind (evA as p.2) fun q => .ok (.d p.1 :: q.1, q.2) := rfl
theorem ea_and (a b : Ex) (as : Exs) (e : En) : evA (.cons (.and a b) as) e = R.bind (evE (.and a b) e) fun p => R.bind (evA as p.2) fun q => .ok (.d p.1 :: q.1, q.2) := rfl
theorem ea_or (a b : Ex) (as : Exs) (e : En) : evA (.cons (.or a b) as) e = R.bind (evE (.or a b) e) fun p => R.bind (evA as p.2) fun q => .ok (.d p.1 :: q.1, q.2) := rfl
theorem ea_not (a : Ex) (as : Exs) (e : En) : evA (.cons (.not a) as) e = R.bind (evE (.not a) e) fun p => R.bind (evA as p.2) fun q => .ok (.d p.1 :: q.1, q.2) := rfl
theorem ea_ite (c a b : Ex) (as : Exs) (e : En) : evA (.cons (.ite c a b) as) e = R.bind (evE (.ite c a b) e) fun p => R.bind (evA as p.2) fun q => .ok (.d p.1 :: q.1, q.2) := rfl
theorem ea_chain (p q : Prim) (a b c : Ex) (as : Exs) (e : En) : evA (.cons (.chain p q a b c) as) e = R.bind (evE (.chain p q a b c) e) fun p => R.bind (evA as p.2) fun q => .ok (.d p.1 :: q.1, q.2) := rfl
theorem ea_slc (a : Ex) (lo hi : Oe) (as : Exs) (e : En) : evA (.cons (.slc a lo hi) as) e = R.bind (evE (.slc a lo hi) e) fun p => R.bind (evA as p.2) fun q => .ok (.d p.1 :: q.1, q.2) := rfl
theorem ea_comp (own : List (Str × Nat)) (tg : Tgt) (it : Itr) (elt : Ex) (as : Exs) (e : En) : evA (.cons (.comp own tg it elt) as) e = R.bind (evE (.comp own tg it elt) e) fun p => R.bind (evA as p.2) fun q => .ok (.d p.1 :: q.1, q.2) := rfl
theorem ea_compif (own : List (Str × Nat)) (tg : Tgt) (it : Itr) (c elt : Ex) (as : Exs) (e : En) : evA (.cons (.compif own tg it c elt) as) e = R.bind (evE (.compif own tg it c elt) e) fun p => R.bind (evA as p.2) fun q => .ok (.d p.1 :: q.1, q.2) := rfl
theorem r_var (i : Nat) (x : Str) : varIx (.var i x) = some i := rfl
theorem r_prim (p : Prim) (as : Exs) : varIx (.prim p as) = none := rfl
theorem r_con (c : Const) : varIx (.con c) = none := rfl
theorem r_glob (x : Str) (d : D) : varIx (.glob x d) = none := rfl
theorem r_call (f : Str) (den : List Sl → Rf) (dfl : List D) (bs : Exs) : varIx (.call f den dfl bs) = none := rfl
theorem r_isi (t : Ty) (as : Exs) : varIx (.isi t as) = none := rfl
theorem r_and (a b : Ex) : varIx (.and a b) = none := rfl
theorem r_or (a b : Ex) : varIx (.or a b) = none := rfl
theorem r_not (a : Ex) : varIx (.not a) = none := rfl
theorem r_ite (c a b : Ex) : varIx (.ite c a b) = none := rfl
theorem r_chain (p q : Prim) (a b c : Ex) : varIx (.chain p q a b c) = none := rfl
theorem t_bl (b : Bool) : truth (.bl b) = some b := rfl
theorem t_int (i : Int) : truth (.int i) = some (i != 0) := rfl
theorem tr_bl (b : Bool) (e : En) : truthR (.bl b) e = .ok (b, e) := rfl
theorem okD_d (e : En) (d : D) : okD e (.d d) = .ok (d, e) := rfl
theorem okD_l (e : En) (d : List D) : okD e (.l d) = .ok (.lst d, e) := rfl
theorem okS_d (e : En) (d : D) : okS e (.d d) = .ok (.val d, e) := rfl
theorem okS_l (e : En) (d : List D) : okS e (.l d) = .ok (.own d, e) := rfl
theorem rf_val (e : En) (d : D) : rfS e (.ok (.val d)) = .ok (.val d, e) := rfl
theorem rf_own (e : En) (d : List D) : rfS e (.ok (.own d)) = .ok (.own d, e) := rfl
theorem fz_val (e : En) (d : D) : frozR (.val d, e) = .ok (d, e) := rfl
theorem fz_own (e : En) (d : List D) : frozR (.own d, e) = .ok (.lst d, e) := rfl
theorem pd_nil (e : En) : pds e [] = some [] := rfl
theorem pd_c (e : En) (p : Pd) (r : List Pd) : pds e (p :: r) = match p.sl e, pds e r with
    | some s, some l => some (s :: l)
    | _, _ => none := rfl
theorem sl_d (e : En) (x : D) : Pd.sl e (.d x) = some (.val x) := rfl
theorem sl_s (e : En) (i : Nat) : Pd.sl e (.slot i) = match lk e i with
    | some (.val y) => some (.val y)
    | some (.own ds) => some (.bor ds)
    | some (.bor ds) => some (.bor ds)
    | none => none := rfl
theorem i_seq (a : Ex) (e : En) : evI (.seq a) e = R.bind (evE a e) fun p => match seqD p.1 with
    | some l => .ok (l, p.2)
    | none => .bad := rfl
theorem i_rng (as : Exs) (e : En) : evI (.rng as) e = R.bind (evA as e) fun q => match pds q.2 q.1 with
    | some l => R.bind (rngOf l) fun l => .ok (l, q.2)
    | none => .bad := rfl
theorem f_nil (b : D → En → R Fl) (e : En) : forD b [] e = .ok (.nx e) := rfl
theorem f_cons (b : D → En → R Fl) (x : D) (r : List D) (e : En) : forD b (x :: r) e = match b x e with
    | .ok (.nx e2) => forD b r e2
    | .ok (.ct e2) => forD b r e2
    | .ok (.bk e2) => .ok (.nx e2)
    | .ok (.rt s) => .ok (.rt s)
    | .exc x e2 => .exc x e2
    | .bad => .bad := rfl
theorem l_0 (s : Option Sl) (r : En) : lk (s :: r) 0 = s := rfl
theorem l_s (s : Option Sl) (r : En) (i : Nat) : lk (s :: r) (i + 1) = lk r i := rfl
theorem v_0 (s : Option Sl) (r : En) (x : Option Sl) : sv (s :: r) 0 x = x :: r := rfl
theorem v_s (s : Option Sl) (r : En) (i : Nat) (x : Option Sl) : sv (s :: r) (i + 1) x = s :: sv r i x := rfl
theorem p_mul (a b : Int) (h : mulOk a b = true) : evPrim .mul [.val (.int a), .val (.int b)] = .d (.int (a * b)) := by
  show (if mulOk a b = true then _ else _) = _
  rw [if_pos h]
theorem p_add (a b : Int) : evPrim .add [.val (.int a), .val (.int b)] = .d (.int (a + b)) := rfl
theorem p_sub (a b : Int) : evPrim .sub [.val (.int a), .val (.int b)] = .d (.int (a - b)) := rfl
theorem p_fdiv (a b : Int) (h : b ≠ 0) : evPrim .fdiv [.val (.int a), .val (.int b)] = .d (.int (a.fdiv b)) := by
  show (if b = 0 then _ else _) = _
  rw [if_neg h]
theorem p_mod (a b : Int) (h : b ≠ 0) : evPrim .mod [.val (.int a), .val (.int b)] = .d (.int (a.fmod b)) := by
  show (if b = 0 then _ else _) = _
  rw [if_neg h]
theorem p_neg (a : Int) : evPrim .neg [.val (.int a)] = .d (.int (-a)) := rfl
theorem p_eq (a b : Int) : evPrim .eq [.val (.int a), .val (.int b)] = .d (.bl (decide (a = b))) := rfl
theorem p_ne (a b : Int) : evPrim .ne [.val (.int a), .val (.int b)] = .d (.bl (!decide (a = b))) := rfl
theorem p_lt (a b : Int) : evPrim .lt [.val (.int a), .val (.int b)] = .d (.bl (decide (a < b))) := rfl
theorem p_le (a b : Int) : evPrim .le [.val (.int a), .val (.int b)] = .d (.bl (decide (a ≤ b))) := rfl
theorem p_gt (a b : Int) : evPrim .gt [.val (.int a), .val (.int b)] = .d (.bl (decide (b < a))) := rfl
theorem p_ge (a b : Int) : evPrim .ge [.val (.int a), .val (.int b)] = .d (.bl (decide (b ≤ a))) := rfl
theorem p_abs (a : Int) : evPrim .abs [.val (.int a)] = .d (.int (if a < 0 then -a else a)) := rfl
theorem p_int (a : Int) : evPrim .int [.val (.int a)] = .d (.int a) := rfl
theorem p_gcd (a b : Int) : evPrim .gcd [.val (.int a), .val (.int b)] = .d (.int (Int.gcd a b)) := rfl
theorem atD_nat (xs : List D) (k : Nat) (h : k < xs.length) : atD xs (k : Int) = xs[k]? := by
  unfold atD L2.atI L2.ixN
  rw [if_pos (by omega), if_pos (by omega)]
  simp
theorem p_idxT (x : List D) (i : Int) : evPrim .idx [.val (.tup x), .val (.int i)] = ofO (atD x i) := rfl
theorem p_i0 (a : D) (r : List D) : evPrim .idx [.val (.tup (a :: r)), .val (.int 0)] = .d a := by
  rw [p_idxT, show (0 : Int) = ((0 : Nat) : Int) from rfl, atD_nat _ _ (by simp)]
  rfl
theorem p_i1 (a b : D) (r : List D) : evPrim .idx [.val (.tup (a :: b :: r)), .val (.int 1)] = .d b := by
  rw [p_idxT, show (1 : Int) = ((1 : Nat) : Int) from rfl, atD_nat _ _ (by simp)]
  rfl
theorem p_lenT (x : List D) : evPrim .len [.val (.tup x)] = .d (.int x.length) := rfl
theorem p_t2 (a b : D) : evPrim .tup [.val a, .val b] = .d (.tup [a, b]) := rfl
theorem den_of {ps n : Nat} {body : Stms} {as : List Sl} {d : D} (hl : as.length = ps) (h : evSs body (as.map some ++ List.replicate (n - ps) none) = .ok (.rt (.val d))) : Fn.den ⟨ps, n, body⟩ as = .ok (.val d) := by
  unfold Fn.den
  rw [if_pos hl]
  dsimp only
  rw [h]
theorem den_own {ps n : Nat} {body : Stms} {as : List Sl} {d : List D} (hl : as.length = ps) (h : evSs body (as.map some ++ List.replicate (n - ps) none) = .ok (.rt (.own d))) : Fn.den ⟨ps, n, body⟩ as = .ok (.own d) := by
  unfold Fn.den
  rw [if_pos hl]
  dsimp only
  rw [h]

/-! ### for and comprehensions -/
/-- a for whose turns all go on: a fold -/
theorem forD_fold {α S : Type} {b : D → En → R Fl} (g : α → D) (f : S → α → S) (I : S → En → Prop) : ∀ (xs : List α) (s : S) (e : En),
    (∀ x ∈ xs, ∀ s e, I s e → ∃ e', (b (g x) e = .ok (.nx e') ∨ b (g x) e = .ok (.ct e')) ∧ I (f s x) e') → I s e → ∃ e', forD b (xs.map g) e = .ok (.nx e') ∧ I (xs.foldl f s) e'
  | [], s, e, _, h => ⟨e, rfl, h⟩
  | x :: xs, s, e, hb, h => by
    obtain ⟨e1, q, h1⟩ := hb x (List.mem_cons_self ..) s e h
    obtain ⟨e2, q2, h2⟩ := forD_fold g f I xs (f s x) e1 (fun y hy => hb y (List.mem_cons_of_mem _ hy)) h1
    refine ⟨e2, ?_, h2⟩
    rw [List.map_cons, f_cons]
    rcases q with q | q <;> (rw [q]; exact q2)
theorem forD_all {α : Type} {b : D → En → R Fl} (g : α → D) (I : En → Prop) (xs : List α) (e : En)
    (hb : ∀ x ∈ xs, ∀ e, I e → ∃ e', (b (g x) e = .ok (.nx e') ∨ b (g x) e = .ok (.ct e')) ∧ I e') (h : I e) : ∃ e', forD b (xs.map g) e = .ok (.nx e') ∧ I e' := by
  obtain ⟨e', q, h'⟩ := forD_fold (S := Unit) g (fun s _ => s) (fun _ e => I e) xs () e (fun x hx _ e h => hb x hx e h) h
  exact ⟨e', q, h'⟩
/-- a for that may return -/
theorem forD_find {α : Type} {b : D → En → R Fl} (g : α → D) (I : En → Prop) (r : α → Option Sl) : ∀ (xs : List α) (e : En),
    (∀ x ∈ xs, ∀ e, I e → match r x with
      | some s => b (g x) e = .ok (.rt s)
      | none => ∃ e', (b (g x) e = .ok (.nx e') ∨ b (g x) e = .ok (.ct e')) ∧ I e') → I e →
    match xs.findSome? r with
      | some s => forD b (xs.map g) e = .ok (.rt s)
      | none => ∃ e', forD b (xs.map g) e = .ok (.nx e') ∧ I e'
  | [], e, _, h => ⟨e, rfl, h⟩
  | x :: xs, e, hb, h => by
    have q := hb x (List.mem_cons_self ..) e h
    rw [List.findSome?_cons]
    cases hr : r x with
    | some s =>
      rw [hr] at q
      dsimp only at q ⊢
      rw [List.map_cons, f_cons, q]
    | none =>
      rw [hr] at q
      obtain ⟨e1, q, h1⟩ := q
      have ih := forD_find g I r xs e1 (fun y hy => hb y (List.mem_cons_of_mem _ hy)) h1
      dsimp only
      cases z : xs.findSome? r with
      | some s =>
        rw [z] at ih
        dsimp only at ih ⊢
        rw [List.map_cons, f_cons]
        rcases q with q | q <;> (rw [q]; exact ih)
      | none =>
        rw [z] at ih
        obtain ⟨e2, q2, h2⟩ := ih
        refine ⟨e2, ?_, h2⟩
        rw [List.map_cons, f_cons]
        rcases q with q | q <;> (rw [q]; exact q2)
theorem compD_of {α β : Type} {turn : D → R (Option D)} (g : α → D) (p : α → Option β) (h : β → D) : ∀ xs : List α, (∀ x ∈ xs, turn (g x) = .ok ((p x).map h)) → compD turn (xs.map g) = .ok ((xs.filterMap p).map h)
  | [], _ => rfl
  | x :: xs, q => by
    have ih := compD_of g p h xs fun y hy => q y (List.mem_cons_of_mem _ hy)
    rw [List.map_cons]
    unfold compD
    rw [q x (List.mem_cons_self ..), R.bind_ok, ih, R.bind_ok, List.filterMap_cons]
    cases p x <;> rfl
theorem filterMap_ite {α : Type} (p : α → Bool) : ∀ xs : List α, xs.filterMap (fun x => if p x then some x else none) = xs.filter p
  | [] => rfl
  | a :: r => by
    have ih := filterMap_ite p r
    cases hp : p a <;> simp [hp, ih]
theorem comp_of {α : Type} {own : List (Str × Nat)} {tg : Tgt} {it : Itr} {elt : Ex} {e e1 : En} (xs : List α) (g : α → D) (h : α → D) (hi : evI it e = .ok (xs.map g, e1))
    (ht : ∀ x ∈ xs, ∃ e2 e3, setT tg (g x) (wipeE (lend e1) (own.map (·.2))) = some e2 ∧ evE elt e2 = .ok (h x, e3)) (hl : xs.length ≤ lim) : evO (.comp own tg it elt) e = .ok (.own (xs.map h), e1) ∧ evE (.comp own tg it elt) e = .ok (.lst (xs.map h), e1) := by
  have k : evE (.comp own tg it elt) e = .ok (.lst (xs.map h), e1) := by
    show R.bind (evI it e) _ = _
    rw [hi, R.bind_ok]
    dsimp only
    rw [compD_of g (fun x => some x) h xs fun x hx => ?_]
    · rw [show xs.filterMap (fun x => some x) = xs by simp]
      show (if (xs.map h).length ≤ lim then _ else _) = _
      rw [if_pos (by simpa using hl)]
    · obtain ⟨e2, e3, h1, h2⟩ := ht x hx
      rw [h1]
      dsimp only
      rw [h2]
      rfl
  refine ⟨?_, k⟩
  show R.bind (evE (.comp own tg it elt) e) _ = _
  rw [k]
  rfl
theorem compif_of {α : Type} {own : List (Str × Nat)} {tg : Tgt} {it : Itr} {c elt : Ex} {e e1 : En} (xs : List α) (g : α → D) (p : α → Bool) (h : α → D) (hi : evI it e = .ok (xs.map g, e1))
    (ht : ∀ x ∈ xs, ∃ e2 e3, setT tg (g x) (wipeE (lend e1) (own.map (·.2))) = some e2 ∧ evE c e2 = .ok (.bl (p x), e3) ∧ (p x = true → ∃ e4, evE elt e3 = .ok (h x, e4))) (hl : xs.length ≤ lim) :
    evO (.compif own tg it c elt) e = .ok (.own ((xs.filter p).map h), e1) ∧ evE (.compif own tg it c elt) e = .ok (.lst ((xs.filter p).map h), e1) := by
  have k : evE (.compif own tg it c elt) e = .ok (.lst ((xs.filter p).map h), e1) := by
    show R.bind (evI it e) _ = _
    rw [hi, R.bind_ok]
    dsimp only
    rw [compD_of g (fun x => if p x then some x else none) h xs fun x hx => ?_]
    · rw [filterMap_ite]
      show (if ((xs.filter p).map h).length ≤ lim then _ else _) = _
      rw [if_pos (by rw [List.length_map]; exact Nat.le_trans (List.length_filter_le ..) hl)]
    · obtain ⟨e2, e3, h1, h2, h3⟩ := ht x hx
      rw [h1]
      dsimp only
      rw [h2, R.bind_ok]
      cases hp : p x with
      | false => rfl
      | true =>
        obtain ⟨e4, h4⟩ := h3 hp
        show R.bind (evE elt e3) _ = _
        rw [h4]
        rfl
  refine ⟨?_, k⟩
  show R.bind (evE (.compif own tg it c elt) e) _ = _
  rw [k]
  rfl
theorem i_rng1 {as : Exs} {e e1 : En} {q : List Pd} {n : Int} (h : evA as e = .ok (q, e1)) (h2 : pds e1 q = some [.val (.int n)]) (h3 : decide (-(2 ^ 62) ≤ n) && decide (n < 2 ^ 62) = true) : evI (.rng as) e = .ok ((List.range n.toNat).map fun (k : Nat) => D.int (k : Int), e1) := by
  rw [i_rng, h, R.bind_ok]
  dsimp only
  rw [h2]
  show R.bind (rngD 0 n) _ = _
  unfold rngD
  rw [if_pos (by simpa using h3), R.bind_ok]
  simp
theorem p_is0 (a : D) : evPrim .isN [.val a, .val .non] = .d (.bl a.isNon) := rfl
theorem p_not0 (a : D) : evPrim .notN [.val a, .val .non] = .d (.bl (!a.isNon)) := rfl
theorem p_idxL (x : List D) (i : Int) : evPrim .idx [.val (.lst x), .val (.int i)] = ofO (atD x i) := rfl
theorem p_idxB (x : List D) (i : Int) : evPrim .idx [.bor x, .val (.int i)] = ofO (atD x i) := rfl
theorem p_lenL (x : List D) : evPrim .len [.val (.lst x)] = .d (.int x.length) := rfl
theorem p_lenB (x : List D) : evPrim .len [.bor x] = .d (.int x.length) := rfl
theorem p_lenR (x : List D) : evPrim .len [.val (.ro x)] = .d (.int x.length) := rfl
theorem p_idxR (x : List D) (i : Int) : evPrim .idx [.val (.ro x), .val (.int i)] = ofO (atD x i) := rfl
theorem p_i2 (a b c : D) (r : List D) : evPrim .idx [.val (.tup (a :: b :: c :: r)), .val (.int 2)] = .d c := by
  rw [p_idxT, show (2 : Int) = ((2 : Nat) : Int) from rfl, atD_nat _ _ (by simp)]
  rfl
theorem p_i3 (a b c d : D) (r : List D) : evPrim .idx [.val (.tup (a :: b :: c :: d :: r)), .val (.int 3)] = .d d := by
  rw [p_idxT, show (3 : Int) = ((3 : Nat) : Int) from rfl, atD_nat _ _ (by simp)]
  rfl
theorem p_t3 (a b c : D) : evPrim .tup [.val a, .val b, .val c] = .d (.tup [a, b, c]) := rfl
theorem p_t4 (a b c d : D) : evPrim .tup [.val a, .val b, .val c, .val d] = .d (.tup [a, b, c, d]) := rfl
theorem p_eqb (a b : Bool) : evPrim .eq [.val (.bl a), .val (.bl b)] = .d (.bl (a == b)) := rfl
theorem p_neb (a b : Bool) : evPrim .ne [.val (.bl a), .val (.bl b)] = .d (.bl (!(a == b))) := rfl
theorem p_len2 (a b : D) : evPrim .len [.val (.tup [a, b])] = .d (.int 2) := rfl
theorem p_len3 (a b c : D) : evPrim .len [.val (.tup [a, b, c])] = .d (.int 3) := rfl
theorem p_len4 (a b c d : D) : evPrim .len [.val (.tup [a, b, c, d])] = .d (.int 4) := rfl
theorem step {a : Stm} {as : Stms} {e e2 : En} {r : R Fl} (h : evS a e = .ok (.nx e2)) (h2 : evSs as e2 = r) : evSs (.cons a as) e = r := by rw [es_cons, h]; exact h2
theorem step_rt {a : Stm} {as : Stms} {e : En} {s : Sl} (h : evS a e = .ok (.rt s)) : evSs (.cons a as) e = .ok (.rt s) := by rw [es_cons, h]
theorem r_comp (own : List (Str × Nat)) (tg : Tgt) (it : Itr) (elt : Ex) : varIx (.comp own tg it elt) = none := rfl
theorem r_compif (own : List (Str × Nat)) (tg : Tgt) (it : Itr) (c elt : Ex) : varIx (.compif own tg it c elt) = none := rfl
theorem r_slc (a : Ex) (lo hi : Oe) : varIx (.slc a lo hi) = none := rfl
theorem ld_nil : lend [] = [] := rfl
theorem ld_val (d : D) (r : En) : lend (some (.val d) :: r) = some (.val d) :: lend r := rfl
theorem ld_own (d : List D) (r : En) : lend (some (.own d) :: r) = some (.bor d) :: lend r := rfl
theorem ld_bor (d : List D) (r : En) : lend (some (.bor d) :: r) = some (.bor d) :: lend r := rfl
theorem ld_none (r : En) : lend (none :: r) = none :: lend r := rfl
theorem ld_c (s : Option Sl) (r : En) : lend (s :: r) = s.map Sl.lend :: lend r := rfl
theorem wp_nil (e : En) : wipeE e [] = e := rfl
theorem wp_c (e : En) (i : Nat) (r : List Nat) : wipeE e (i :: r) = sv (wipeE e r) i none := rfl
theorem tg_nm (i : Nat) (x : Str) (d : D) (e : En) : setT (.nm i x) d e = some (sv e i (some (.val d))) := rfl
theorem tg_tup (ts : Tgts) (ds : List D) (e : En) : setT (.tup ts) (.tup ds) e = setTs ts ds e := rfl
theorem tg_nil (e : En) : setTs .nil [] e = some e := rfl
theorem tg_c (t : Tgt) (ts : Tgts) (d : D) (ds : List D) (e : En) : setTs (.cons t ts) (d :: ds) e = match setT t d e with
    | some e1 => setTs ts ds e1
    | none => none := rfl
theorem e_chain (p q : Prim) (a b c : Ex) (e : En) : evE (.chain p q a b c) e = R.bind (evE a e) fun x => R.bind (evE b x.2) fun y => match evPrim p [.val x.1, .val y.1] with
    | .d (.bl true) => R.bind (evE c y.2) fun z => okD z.2 (evPrim q [.val y.1, .val z.1])
    | .d (.bl false) => .ok (.bl false, y.2)
    | _ => .bad := rfl
theorem es_app (i : Nat) (x : Str) (a : Ex) (e : En) : evS (.append i x a) e = match lk e i with
    | some (.own _) => R.bind (evE a e) fun p => match lk p.2 i with
      | some (.own ds) => if ds.length < lim then .ok (.nx (sv p.2 i (some (.own (ds ++ [p.1]))))) else .bad
      | _ => .bad
    | _ => .bad := rfl
theorem es_cont (e : En) : evS .cont e = .ok (.ct e) := rfl
theorem es_brk (e : En) : evS .brk e = .ok (.bk e) := rfl
theorem es_pass (e : En) : evS .pass e = .ok (.nx e) := rfl
theorem p_min2 (i j : Int) : evPrim .min2 [.val (.int i), .val (.int j)] = .d (.int (if j < i then j else i)) := rfl
theorem p_max2 (i j : Int) : evPrim .max2 [.val (.int i), .val (.int j)] = .d (.int (if j > i then j else i)) := rfl
theorem p_l0 : evPrim .lst [] = .l [] := rfl
theorem p_l1 (a : D) : evPrim .lst [.val a] = .l [a] := rfl
theorem p_l2 (a b : D) : evPrim .lst [.val a, .val b] = .l [a, b] := rfl
theorem p_l3 (a b c : D) : evPrim .lst [.val a, .val b, .val c] = .l [a, b, c] := rfl
theorem p_l4 (a b c d : D) : evPrim .lst [.val a, .val b, .val c, .val d] = .l [a, b, c, d] := rfl
theorem n_non : D.isNon .non = true := rfl
theorem n_tup (x : List D) : D.isNon (.tup x) = false := rfl
theorem q_lst (x : List D) : seqD (.lst x) = some x := rfl
theorem q_tup (x : List D) : seqD (.tup x) = some x := rfl
theorem q_ro (x : List D) : seqD (.ro x) = some x := rfl
theorem y_tt (x : List D) : isiD .tuple (.val (.tup x)) = some true := rfl
theorem y_tn : isiD .tuple (.val .non) = some false := rfl
theorem y_ii (x : Int) : isiD .int (.val (.int x)) = some true := rfl
theorem y_bi (x : Int) : isiD .bool (.val (.int x)) = some false := rfl
theorem y_bb (x : Bool) : isiD .bool (.val (.bl x)) = some true := rfl
theorem y_lv (x : List D) : isiD .list (.val (.lst x)) = some true := rfl
theorem y_lb (x : List D) : isiD .list (.bor x) = some true := rfl
theorem oO_some (d : D) : ofO (some d) = .d d := rfl
/-- a for whose turns all go on -/
theorem step_fold {α T : Type} {t : Tgt} {it : Itr} {a as : Stms} {e e1 : En} {r : R Fl} (g : α → D) (f : T → α → T) (I : T → En → Prop) (xs : List α) (s : T) (hi : evI it e = .ok (xs.map g, e1))
    (hb : ∀ x ∈ xs, ∀ s e, I s e → ∃ e1 e', setT t (g x) e = some e1 ∧ (evSs a e1 = .ok (.nx e') ∨ evSs a e1 = .ok (.ct e')) ∧ I (f s x) e') (h : I s e1) (k : ∀ e', I (xs.foldl f s) e' → evSs as e' = r) :
    evSs (.cons (.for t it a) as) e = r := by
  obtain ⟨e', q, h'⟩ := forD_fold (b := fun x e => match setT t x e with
      | some e1 => evSs a e1
      | none => .bad) g f I xs s e1 (fun x hx s e he => by
    obtain ⟨e2, e3, h1, h2, h3⟩ := hb x hx s e he
    refine ⟨e3, ?_, h3⟩
    rw [h1]
    exact h2) h
  refine step (e2 := e') ?_ (k e' h')
  rw [es_for, hi, R.bind_ok]
  exact q
theorem step_all {α : Type} {t : Tgt} {it : Itr} {a as : Stms} {e e1 : En} {r : R Fl} (g : α → D) (I : En → Prop) (xs : List α) (hi : evI it e = .ok (xs.map g, e1))
    (hb : ∀ x ∈ xs, ∀ e, I e → ∃ e1 e', setT t (g x) e = some e1 ∧ (evSs a e1 = .ok (.nx e') ∨ evSs a e1 = .ok (.ct e')) ∧ I e') (h : I e1) (k : ∀ e', I e' → evSs as e' = r) :
    evSs (.cons (.for t it a) as) e = r := step_fold (T := Unit) g (fun s _ => s) (fun _ e => I e) xs () hi (fun x hx _ e he => hb x hx e he) h k
/-- a for that may return -/
theorem step_find {α : Type} {t : Tgt} {it : Itr} {a as : Stms} {e e1 : En} {r : R Fl} (g : α → D) (I : En → Prop) (p : α → Option Sl) (xs : List α) (hi : evI it e = .ok (xs.map g, e1))
    (hb : ∀ x ∈ xs, ∀ e, I e → match p x with
      | some s => ∃ e1, setT t (g x) e = some e1 ∧ evSs a e1 = .ok (.rt s)
      | none => ∃ e1 e', setT t (g x) e = some e1 ∧ (evSs a e1 = .ok (.nx e') ∨ evSs a e1 = .ok (.ct e')) ∧ I e') (h : I e1)
    (k1 : ∀ s, xs.findSome? p = some s → .ok (.rt s) = r) (k2 : xs.findSome? p = none → ∀ e', I e' → evSs as e' = r) :
    evSs (.cons (.for t it a) as) e = r := by
  have q := forD_find (b := fun x e => match setT t x e with
      | some e1 => evSs a e1
      | none => .bad) g I p xs e1 (fun x hx e he => by
    have z := hb x hx e he
    cases hp : p x with
    | some s =>
      rw [hp] at z
      obtain ⟨e1, h1, h2⟩ := z
      dsimp only
      rw [h1]
      exact h2
    | none =>
      rw [hp] at z
      obtain ⟨e1, e2, h1, h2, h3⟩ := z
      refine ⟨e2, ?_, h3⟩
      rw [h1]
      exact h2) h
  cases z : xs.findSome? p with
  | some s =>
    rw [z] at q
    dsimp only at q
    rw [← k1 s z]
    refine step_rt ?_
    rw [es_for, hi, R.bind_ok]
    exact q
  | none =>
    rw [z] at q
    obtain ⟨e', q, h'⟩ := q
    refine step (e2 := e') ?_ (k2 z e' h')
    rw [es_for, hi, R.bind_ok]
    exact q
theorem for_find {α : Type} {t : Tgt} {it : Itr} {a : Stms} {e e1 : En} (g : α → D) (I : En → Prop) (p : α → Option Sl) (xs : List α) (hi : evI it e = .ok (xs.map g, e1))
    (hb : ∀ x ∈ xs, ∀ e, I e → match p x with
      | some s => ∃ e1, setT t (g x) e = some e1 ∧ evSs a e1 = .ok (.rt s)
      | none => ∃ e1 e', setT t (g x) e = some e1 ∧ (evSs a e1 = .ok (.nx e') ∨ evSs a e1 = .ok (.ct e')) ∧ I e') (h : I e1) :
    match xs.findSome? p with
      | some s => evSs (.cons (.for t it a) .nil) e = .ok (.rt s)
      | none => ∃ e', evSs (.cons (.for t it a) .nil) e = .ok (.nx e') ∧ I e' := by
  have q := forD_find (b := fun x e => match setT t x e with
      | some e1 => evSs a e1
      | none => .bad) g I p xs e1 (fun x hx e he => by
    have z := hb x hx e he
    cases hp : p x with
    | some s =>
      rw [hp] at z
      obtain ⟨e1, h1, h2⟩ := z
      dsimp only
      rw [h1]
      exact h2
    | none =>
      rw [hp] at z
      obtain ⟨e1, e2, h1, h2, h3⟩ := z
      refine ⟨e2, ?_, h3⟩
      rw [h1]
      exact h2) h
  cases z : xs.findSome? p with
  | some s =>
    rw [z] at q
    refine step_rt ?_
    rw [es_for, hi, R.bind_ok]
    exact q
  | none =>
    rw [z] at q
    obtain ⟨e', q, h'⟩ := q
    refine ⟨e', step (e2 := e') ?_ rfl, h'⟩
    rw [es_for, hi, R.bind_ok]
    exact q
/-- two fors, one in the other, that may return -/
theorem step_find2 {α β : Type} {ti tj : Tgt} {iti itj : Itr} {a as : Stms} {e e1 : En} {r : R Fl} (g : α → D) (g2 : α → β → D) (I : En → Prop) (J : α → En → Prop) (p : α → β → Option Sl) (xs : List α) (ys : α → List β)
    (hi : evI iti e = .ok (xs.map g, e1)) (hin : ∀ x ∈ xs, ∀ e, I e → ∃ e2 e3, setT ti (g x) e = some e2 ∧ evI itj e2 = .ok ((ys x).map (g2 x), e3) ∧ J x e3)
    (hb : ∀ x ∈ xs, ∀ y ∈ ys x, ∀ e, J x e → match p x y with
      | some s => ∃ e1, setT tj (g2 x y) e = some e1 ∧ evSs a e1 = .ok (.rt s)
      | none => ∃ e1 e', setT tj (g2 x y) e = some e1 ∧ (evSs a e1 = .ok (.nx e') ∨ evSs a e1 = .ok (.ct e')) ∧ J x e') (hJ : ∀ x e, J x e → I e) (h : I e1)
    (k1 : ∀ s, xs.findSome? (fun x => (ys x).findSome? (p x)) = some s → .ok (.rt s) = r) (k2 : xs.findSome? (fun x => (ys x).findSome? (p x)) = none → ∀ e', I e' → evSs as e' = r) :
    evSs (.cons (.for ti iti (.cons (.for tj itj a) .nil)) as) e = r := by
  refine step_find g I (fun x => (ys x).findSome? (p x)) xs hi (fun x hx e he => ?_) h k1 k2
  obtain ⟨e2, e3, h1, h2, h3⟩ := hin x hx e he
  have q := for_find (t := tj) (it := itj) (a := a) (e := e2) (g2 x) (J x) (p x) (ys x) h2 (hb x hx) h3
  cases z : (ys x).findSome? (p x) with
  | some s =>
    rw [z] at q
    exact ⟨e2, h1, q⟩
  | none =>
    rw [z] at q
    obtain ⟨e', q, h'⟩ := q
    exact ⟨e2, e', h1, .inl q, hJ x e' h'⟩
theorem i_rng2 {as : Exs} {e e1 : En} {q : List Pd} {m n : Int} (h : evA as e = .ok (q, e1)) (h2 : pds e1 q = some [.val (.int m), .val (.int n)]) (h3 : 0 ≤ m) (h4 : 0 ≤ n) (h5 : m < 2 ^ 62) (h6 : n < 2 ^ 62) :
    evI (.rng as) e = .ok ((List.range (n - m).toNat).map fun (k : Nat) => D.int (m + (k : Int)), e1) := by
  rw [i_rng, h, R.bind_ok]
  dsimp only
  rw [h2]
  show R.bind (rngD m n) _ = _
  unfold rngD
  rw [if_pos (by simp only [Bool.and_eq_true, decide_eq_true_eq]; omega), R.bind_ok]
theorem i_rngN {as : Exs} {e e1 : En} {q : List Pd} {n : Nat} (h : evA as e = .ok (q, e1)) (h2 : pds e1 q = some [.val (.int (n : Int))]) (h3 : n < 1000000) : evI (.rng as) e = .ok ((List.range n).map fun (k : Nat) => D.int (k : Int), e1) := by
  have z := i_rng1 h h2 (by simp only [Bool.and_eq_true, decide_eq_true_eq]; omega)
  simpa using z
end Ev
namespace Ev
open PySem PySem.Spec
/-- a for whose turns all go on: what stands behind it -/
theorem run_fold {α T : Type} {t : Tgt} {it : Itr} {a : Stms} {e e1 : En} (g : α → D) (f : T → α → T) (I : T → En → Prop) (xs : List α) (s : T) (hi : evI it e = .ok (xs.map g, e1))
    (hb : ∀ x ∈ xs, ∀ s e, I s e → ∃ e1 e', setT t (g x) e = some e1 ∧ (evSs a e1 = .ok (.nx e') ∨ evSs a e1 = .ok (.ct e')) ∧ I (f s x) e') (h : I s e1) :
    ∃ e', evS (.for t it a) e = .ok (.nx e') ∧ I (xs.foldl f s) e' := by
  obtain ⟨e', q, h'⟩ := forD_fold (b := fun x e => match setT t x e with
      | some e1 => evSs a e1
      | none => .bad) g f I xs s e1 (fun x hx s e he => by
    obtain ⟨e2, e3, h1, h2, h3⟩ := hb x hx s e he
    refine ⟨e3, ?_, h3⟩
    rw [h1]
    exact h2) h
  refine ⟨e', ?_, h'⟩
  rw [es_for, hi, R.bind_ok]
  exact q
/-- .. and the rest of the text, with a result that is told only then -/
theorem step_foldE {α T : Type} {t : Tgt} {it : Itr} {a as : Stms} {e e1 : En} {P : R Fl → Prop} (g : α → D) (f : T → α → T) (I : T → En → Prop) (xs : List α) (s : T) (hi : evI it e = .ok (xs.map g, e1))
    (hb : ∀ x ∈ xs, ∀ s e, I s e → ∃ e1 e', setT t (g x) e = some e1 ∧ (evSs a e1 = .ok (.nx e') ∨ evSs a e1 = .ok (.ct e')) ∧ I (f s x) e') (h : I s e1) (k : ∀ e', I (xs.foldl f s) e' → P (evSs as e')) :
    P (evSs (.cons (.for t it a) as) e) := by
  obtain ⟨e', q, h'⟩ := run_fold (t := t) (it := it) (a := a) g f I xs s hi hb h
  rw [step q rfl]
  exact k e' h'
theorem stepE {a : Stm} {as : Stms} {e e2 : En} {P : R Fl → Prop} (h : evS a e = .ok (.nx e2)) (k : P (evSs as e2)) : P (evSs (.cons a as) e) := by rw [step h rfl]; exact k
end Ev
namespace Ev
open PySem PySem.Spec
theorem stepE_ift {c : Ex} {a b as : Stms} {e e2 : En} {P : R Fl → Prop} (h : (R.bind (evE c e) fun p => truthR p.1 p.2) = .ok (true, e2)) (k : P (evSs a e2)) (hr : ∀ r, P r → ∃ s, r = .ok (.rt s)) : P (evSs (.cons (.ite c a b) as) e) := by
  obtain ⟨s, hs⟩ := hr _ k
  have q : evS (.ite c a b) e = .ok (.rt s) := by
    rw [es_if, h, R.bind_ok]
    exact hs
  rw [step_rt q, ← hs]
  exact k
end Ev
namespace Ev
open PySem PySem.Spec
theorem forD_count {α : Type} {b : D → En → R Fl} (g : α → D) (I : Nat → En → Prop) : ∀ (xs : List α) (o : Nat) (e : En),
    (∀ (i : Nat) (x : α), xs[i]? = some x → ∀ e, I (o + i) e → ∃ e', (b (g x) e = .ok (.nx e') ∨ b (g x) e = .ok (.ct e')) ∧ I (o + i + 1) e') → I o e → ∃ e', forD b (xs.map g) e = .ok (.nx e') ∧ I (o + xs.length) e'
  | [], o, e, _, h => ⟨e, rfl, h⟩
  | x :: xs, o, e, hb, h => by
    obtain ⟨e1, q, h1⟩ := hb 0 x rfl e h
    obtain ⟨e2, q2, h2⟩ := forD_count g I xs (o + 1) e1 (fun i y hy e he => by
      have := hb (i + 1) y hy e (by rw [show o + (i + 1) = o + 1 + i by omega]; exact he)
      rw [show o + (i + 1) + 1 = o + 1 + i + 1 by omega] at this
      exact this) h1
    refine ⟨e2, ?_, by rw [List.length_cons, show o + (xs.length + 1) = o + 1 + xs.length by omega]; exact h2⟩
    rw [List.map_cons, f_cons]
    rcases q with q | q <;> (rw [q]; exact q2)
/-- the turns counted -/
theorem stepE_count {α : Type} {t : Tgt} {it : Itr} {a as : Stms} {e e1 : En} {P : R Fl → Prop} (g : α → D) (I : Nat → En → Prop) (xs : List α) (hi : evI it e = .ok (xs.map g, e1))
    (hb : ∀ (i : Nat) (x : α), xs[i]? = some x → ∀ e, I i e → ∃ e1 e', setT t (g x) e = some e1 ∧ (evSs a e1 = .ok (.nx e') ∨ evSs a e1 = .ok (.ct e')) ∧ I (i + 1) e') (h : I 0 e1) (k : ∀ e', I xs.length e' → P (evSs as e')) :
    P (evSs (.cons (.for t it a) as) e) := by
  obtain ⟨e', q, h'⟩ := forD_count (b := fun x e => match setT t x e with
      | some e1 => evSs a e1
      | none => .bad) g I xs 0 e1 (fun i x hx e he => by
    rw [Nat.zero_add] at he ⊢
    obtain ⟨e2, e3, h1, h2, h3⟩ := hb i x hx e he
    refine ⟨e3, ?_, h3⟩
    rw [h1]
    exact h2) h
  rw [Nat.zero_add] at h'
  have q1 : evS (.for t it a) e = .ok (.nx e') := by
    rw [es_for, hi, R.bind_ok]
    exact q
  rw [step q1 rfl]
  exact k e' h'
theorem range_at {n i x : Nat} (h : (List.range n)[i]? = some x) : x = i ∧ i < n := by
  by_cases q : i < n
  · rw [List.getElem?_range q] at h
    exact ⟨(Option.some.inj h).symm, q⟩
  · rw [List.getElem?_eq_none (by simp; omega)] at h
    cases h
end Ev
namespace Ev
open PySem PySem.Spec
theorem es_app_of {i : Nat} {x : Str} {a : Ex} {e e2 : En} {ds ds2 : List D} {d : D} (h1 : lk e i = some (.own ds)) (h2 : evE a e = .ok (d, e2)) (h3 : lk e2 i = some (.own ds2)) (h4 : ds2.length < lim) :
    evS (.append i x a) e = .ok (.nx (sv e2 i (some (.own (ds2 ++ [d]))))) := by
  rw [es_app, h1]
  dsimp only
  rw [h2, R.bind_ok]
  dsimp only
  rw [h3]
  dsimp only
  rw [if_pos h4]
end Ev
namespace Ev
open PySem PySem.Spec
theorem stepE_iff {c : Ex} {a as : Stms} {e e2 : En} {P : R Fl → Prop} (h : (R.bind (evE c e) fun p => truthR p.1 p.2) = .ok (false, e2)) (k : P (evSs as e2)) : P (evSs (.cons (.ite c a .nil) as) e) := by
  have q : evS (.ite c a .nil) e = .ok (.nx e2) := by
    rw [es_if, h, R.bind_ok]
    rfl
  rw [step q rfl]
  exact k
/-! ### errors -/
theorem es_raise (c : Str) (e : En) : evS (.raise c) e = .exc ⟨c, [], []⟩ e := rfl
theorem es_expr (a : Ex) (e : En) : evS (.expr a) e = R.bind (evE a e) fun p => .ok (.nx p.2) := rfl
theorem es_try (c : Str) (tbl : List (Str × Bool)) (i : Option (Nat × Str)) (a b : Stms) (e : En) : evS (.tryC c tbl i a b) e = match evSs a e with
    | .exc x e2 => match tbl.lookup x.cls with
      | some true => tryD i (evSs b (match i with
        | some (k, _) => sv e2 k (some (.val (.err x.cls x.ns x.vs)))
        | none => e2))
      | some false => .exc x e2
      | none => .bad
    | r => r := rfl
theorem rf_exc (e : En) (x : Exn) : rfS e (.exc x) = .exc x e := rfl
theorem e_isC (c : Str) (tbl : List (Str × Bool)) (as : Exs) (e : En) : evE (.isC c tbl as) e = R.bind (evA as e) fun q => match pds q.2 q.1 with
    | some [s] => match isCD tbl s with
      | some b => .ok (.bl b, q.2)
      | none => .bad
    | _ => .bad := rfl
theorem isC_err (tbl : List (Str × Bool)) (c : Str) (ns : List Str) (vs : List D) : isCD tbl (.val (.err c ns vs)) = tbl.lookup c := rfl
theorem ea_isC (c : Str) (tbl : List (Str × Bool)) (bs : Exs) (as : Exs) (e : En) : evA (.cons (.isC c tbl bs) as) e = R.bind (evE (.isC c tbl bs) e) fun p => R.bind (evA as p.2) fun q => .ok (.d p.1 :: q.1, q.2) := rfl
theorem o_isC (c : Str) (tbl : List (Str × Bool)) (bs : Exs) (e : En) : evO (.isC c tbl bs) e = R.bind (evE (.isC c tbl bs) e) fun p => .ok (.val p.1, p.2) := rfl
theorem r_isC (c : Str) (tbl : List (Str × Bool)) (bs : Exs) : varIx (.isC c tbl bs) = none := rfl
theorem r_srt (i : Nat) (x : Str) (j : Nat) (y : Str) : varIx (.srt i x j y) = none := rfl
theorem o_srt (i : Nat) (x : Str) (j : Nat) (y : Str) (e : En) : evO (.srt i x j y) e = okS e (srtP i j e) := rfl
theorem lk_here {β : Type} (c : Str) (b : β) (r : List (Str × β)) : List.lookup c ((c, b) :: r) = some b := by simp [List.lookup]
theorem den_exc {ps n : Nat} {body : Stms} {as : List Sl} {x : Exn} {e : En} (hl : as.length = ps) (h : evSs body (as.map some ++ List.replicate (n - ps) none) = .exc x e) : Fn.den ⟨ps, n, body⟩ as = .exc x := by
  unfold Fn.den
  simp only
  rw [if_pos hl, h]
end Ev
set_option Elab.async false
set_option linter.all false
set_option maxRecDepth 100000
namespace Ev
open PySem PySem.Spec

/-! ### fractions -/
abbrev fr (a : Int × Int) : D := .tup [.int a.1, .int a.2]
abbrev pt (p : (Int × Int) × (Int × Int)) : D := .tup [fr p.1, fr p.2]
/-- lowest terms -/
def low (n d : Int) : Int × Int := (n.fdiv (Int.gcd n d), d.fdiv (Int.gcd n d))
structure Q (k : Nat) (a : Int × Int) : Prop where
  pos : 0 < a.2
  b1 : Bd k a.1
  b2 : Bd k a.2
  cop : Int.gcd a.1 a.2 = 1
theorem Q.mono {j k : Nat} {a : Int × Int} (h : Q j a) (q : j ≤ k) : Q k a := ⟨h.pos, h.b1.mono q, h.b2.mono q, h.cop⟩
theorem gcd_pos {n d : Int} (h : 0 < d) : (0 : Int) < (Int.gcd n d : Int) := by
  have := Int.gcd_pos_of_ne_zero_right n (show d ≠ 0 by omega)
  omega
theorem low_fst {n d : Int} (h : 0 < d) : (low n d).1 = n / (Int.gcd n d : Int) := Int.fdiv_eq_ediv_of_nonneg _ (Int.le_of_lt (gcd_pos h))
theorem low_snd {n d : Int} (h : 0 < d) : (low n d).2 = d / (Int.gcd n d : Int) := Int.fdiv_eq_ediv_of_nonneg _ (Int.le_of_lt (gcd_pos h))
theorem low_fst_mul {n d : Int} (h : 0 < d) : (low n d).1 * (Int.gcd n d : Int) = n := by rw [low_fst h]; exact Int.ediv_mul_cancel (Int.gcd_dvd_left ..)
theorem low_snd_mul {n d : Int} (h : 0 < d) : (low n d).2 * (Int.gcd n d : Int) = d := by rw [low_snd h]; exact Int.ediv_mul_cancel (Int.gcd_dvd_right ..)
theorem low_pos {n d : Int} (h : 0 < d) : 0 < (low n d).2 := by
  have h1 := low_snd_mul (n := n) h
  have h2 := gcd_pos (n := n) h
  rcases Int.lt_trichotomy 0 (low n d).2 with z | z | z
  · exact z
  · rw [← z, Int.zero_mul] at h1; omega
  · have := Int.mul_neg_of_neg_of_pos z h2
    omega
theorem low_cop {n d : Int} (h : 0 < d) : Int.gcd (low n d).1 (low n d).2 = 1 := by
  rw [low_fst h, low_snd h]
  exact Int.gcd_ediv_gcd_ediv_gcd (Int.gcd_pos_of_ne_zero_right n (by omega))
theorem low_Q {k : Nat} {n d : Int} (h : 0 < d) (h1 : Bd k n) (h2 : Bd k d) : Q k (low n d) :=
  ⟨low_pos h, h1.of_le (Int.natAbs_fdiv_le_natAbs _ _), h2.of_le (Int.natAbs_fdiv_le_natAbs _ _), low_cop h⟩
theorem low_cross {n d : Int} (h : 0 < d) : (low n d).1 * d = n * (low n d).2 := by
  have h1 := low_fst_mul (n := n) h
  have h2 := low_snd_mul (n := n) h
  calc (low n d).1 * d = (low n d).1 * ((low n d).2 * (Int.gcd n d : Int)) := by rw [h2]
    _ = ((low n d).1 * (Int.gcd n d : Int)) * (low n d).2 := by rw [Int.mul_assoc, Int.mul_comm (low n d).2, ← Int.mul_assoc]
    _ = n * (low n d).2 := by rw [h1]
theorem dvd_of_cop {a b c : Int} (h : a ∣ b * c) (g : Int.gcd b a = 1) : a ∣ c := by
  have h1 : a.natAbs ∣ b.natAbs * c.natAbs := by rw [← Int.natAbs_mul]; exact Int.natAbs_dvd_natAbs.mpr h
  have h2 : Nat.Coprime a.natAbs b.natAbs := by
    rw [Int.gcd_comm, Int.gcd_eq_natAbs_gcd_natAbs] at g
    exact g
  exact Int.natAbs_dvd_natAbs.mp (h2.dvd_of_dvd_mul_left h1)
/-- equal fractions in lowest terms are the same -/
theorem eq_of_cross {a b : Int × Int} (ha : 0 < a.2) (hb : 0 < b.2) (ga : Int.gcd a.1 a.2 = 1) (gb : Int.gcd b.1 b.2 = 1) (e : a.1 * b.2 = b.1 * a.2) : a = b := by
  have d1 : a.2 ∣ b.2 := dvd_of_cop (b := a.1) ⟨b.1, by rw [e, Int.mul_comm]⟩ ga
  have d2 : b.2 ∣ a.2 := dvd_of_cop (b := b.1) ⟨a.1, by rw [← e, Int.mul_comm]⟩ gb
  have e2 := Int.dvd_antisymm (Int.le_of_lt ha) (Int.le_of_lt hb) d1 d2
  obtain ⟨a1, a2⟩ := a
  obtain ⟨b1, b2⟩ := b
  simp only at *
  subst e2
  rw [Int.eq_of_mul_eq_mul_right (by omega) e]
theorem low_eq {n d n' d' : Int} (h : 0 < d) (h' : 0 < d') (e : n * d' = n' * d) : low n d = low n' d' := by
  refine eq_of_cross (low_pos h) (low_pos h') (low_cop h) (low_cop h') ?_
  have c1 := low_cross (n := n) h
  have c2 := low_cross (n := n') h'
  have hd : d * d' ≠ 0 := Int.mul_ne_zero (by omega) (by omega)
  refine Int.eq_of_mul_eq_mul_right hd ?_
  generalize low n d = a at *
  generalize low n' d' = b at *
  calc a.1 * b.2 * (d * d') = (a.1 * d) * d' * b.2 := by grind
    _ = n * a.2 * d' * b.2 := by rw [c1]
    _ = (n * d') * a.2 * b.2 := by grind
    _ = n' * d * a.2 * b.2 := by rw [e]
    _ = (n' * b.2) * d * a.2 := by grind
    _ = b.1 * d' * d * a.2 := by rw [c2]
    _ = b.1 * a.2 * (d * d') := by grind
theorem low_self {a : Int × Int} (h : 0 < a.2) (g : Int.gcd a.1 a.2 = 1) : low a.1 a.2 = a := by
  refine eq_of_cross (low_pos h) h (low_cop h) g ?_
  exact low_cross h
theorem Q.self {k : Nat} {a : Int × Int} (h : Q k a) : low a.1 a.2 = a := low_self h.pos h.cop
theorem bd_lit {x : Int} {k : Nat} (h : decide (x.natAbs < 2 ^ k) = true) : Bd k x := by unfold Bd; exact of_decide_eq_true h
theorem mulOk_l {a b : Int} (h : a.natAbs < 2 ^ 64) : mulOk a b = true := by
  unfold mulOk
  rw [decide_eq_true h]
  rfl
theorem Bd.abs {k : Nat} {x : Int} (h : Bd k x) : Bd k (if x < 0 then -x else x) := by
  split
  · exact h.neg
  · exact h
theorem Bd.fdiv {k : Nat} {x : Int} (h : Bd k x) (y : Int) : Bd k (x.fdiv y) := h.of_le (Int.natAbs_fdiv_le_natAbs _ _)
/-! ### Euclid -/
theorem euclid_step {a b : Int} (ha : 0 ≤ a) (hb : 0 < b) : a - a.fdiv b * b = a % b := by
  rw [Int.fdiv_eq_ediv_of_nonneg _ (Int.le_of_lt hb), Int.emod_def, Int.mul_comm]
theorem gcd_step {a b : Int} : Int.gcd b (a % b) = Int.gcd a b := by
  rw [Int.emod_def, Int.mul_comm, Int.gcd_sub_mul_right_right, Int.gcd_comm]
theorem gcd_abs (n d : Int) : Int.gcd (if n < 0 then -n else n) d = Int.gcd n d := by
  split
  · rw [Int.neg_gcd]
  · rfl
theorem abs_nn (n : Int) : 0 ≤ (if n < 0 then -n else n) := by split <;> omega
/-! ### data equal to itself -/
mutual
theorem D.eqv_refl : ∀ (n : Nat) (d : D), d.plain n = true → PyData.eqv d.py d.py = true
  | _, .non, _ => by simp [D.py, PyData.eqv]
  | _, .bl b, _ => by simp [D.py, PyData.eqv]
  | _, .int i, _ => by simp [D.py, PyData.eqv]
  | _, .str x, _ => by simp [D.py, PyData.eqv]
  | 0, .tup _, h => by simp [D.plain] at h
  | n + 1, .tup xs, h => by
    have := D.eqvAll_refl n xs (by simpa [D.plain] using h)
    simpa [D.py, PyData.eqv] using this
  | 0, .lst _, h => by simp [D.plain] at h
  | n + 1, .lst xs, h => by
    have := D.eqvAll_refl n xs (by simpa [D.plain] using h)
    simpa [D.py, PyData.eqv] using this
  | n, .ro _, h => by cases n <;> simp [D.plain] at h
  | n, .obj _ _ _, h => by cases n <;> simp [D.plain] at h
theorem D.eqvAll_refl : ∀ (n : Nat) (ds : List D), D.plainAll n ds = true → PyData.eqvAll (D.pyAll ds) (D.pyAll ds) = true
  | _, [], _ => by simp [D.pyAll, PyData.eqvAll]
  | n, x :: xs, h => by
    simp only [D.plainAll, Bool.and_eq_true] at h
    have h1 := D.eqv_refl n x h.1
    have h2 := D.eqvAll_refl n xs h.2
    simp [D.pyAll, PyData.eqvAll, h1, h2]
end
theorem eq_self_d {a b : Sl} {d : D} (h1 : asD a = some d) (h2 : asD b = some d) (h : d.plain 60 = true) : evPrim .eq [a, b] = .d (.bl true) := by
  show ofB (match asD a, asD b with | some x, some y => eqB x y | _, _ => none) = _
  rw [h1, h2]
  show ofB (eqB d d) = _
  unfold eqB
  rw [h, D.eqv_refl 60 d h]
  rfl
theorem ne_self_d {a b : Sl} {d : D} (h1 : asD a = some d) (h2 : asD b = some d) (h : d.plain 60 = true) : evPrim .ne [a, b] = .d (.bl false) := by
  show notB (match asD a, asD b with | some x, some y => eqB x y | _, _ => none) = _
  rw [h1, h2]
  show notB (eqB d d) = _
  unfold eqB
  rw [h, D.eqv_refl 60 d h]
  rfl
theorem eqB_nil {ds : List D} (h : D.plainAll 59 ds = true) : eqB (.lst ds) (.lst []) = some ds.isEmpty := by
  unfold eqB
  rw [show (D.lst ds).plain 60 = true by simpa [D.plain] using h, show (D.lst []).plain 60 = true from rfl]
  cases ds <;> simp [D.py, D.pyAll, PyData.eqv, PyData.eqvAll]
theorem eq_nil {a : Sl} {ds : List D} (h1 : asD a = some (.lst ds)) (h : D.plainAll 59 ds = true) : evPrim .eq [a, .val (.lst [])] = .d (.bl ds.isEmpty) := by
  show ofB (match asD a, asD (.val (.lst [])) with | some x, some y => eqB x y | _, _ => none) = _
  rw [h1]
  show ofB (eqB (.lst ds) (.lst [])) = _
  rw [eqB_nil h]
  rfl
theorem ne_nil {a : Sl} {ds : List D} (h1 : asD a = some (.lst ds)) (h : D.plainAll 59 ds = true) : evPrim .ne [a, .val (.lst [])] = .d (.bl (!ds.isEmpty)) := by
  show notB (match asD a, asD (.val (.lst [])) with | some x, some y => eqB x y | _, _ => none) = _
  rw [h1]
  show notB (eqB (.lst ds) (.lst [])) = _
  rw [eqB_nil h]
  rfl
theorem plainAll_map {α : Type} {n : Nat} (g : α → D) : ∀ xs : List α, (∀ x ∈ xs, (g x).plain n = true) → D.plainAll n (xs.map g) = true
  | [], _ => by simp [D.plainAll]
  | x :: xs, h => by
    simp only [List.map_cons, D.plainAll, h x (List.mem_cons_self ..), plainAll_map g xs fun y hy => h y (List.mem_cons_of_mem _ hy), Bool.and_self]
/-- whole numbers -/
abbrev nsD (l : List Nat) : List D := l.map fun (k : Nat) => D.int (k : Int)
theorem nsD_plain {n : Nat} (l : List Nat) : D.plainAll n (nsD l) = true := plainAll_map _ _ fun _ _ => by cases n <;> simp [D.plain]
theorem in_ns (k : Nat) (l : List Nat) : evPrim .inn [.val (.int (k : Int)), .val (.lst (nsD l))] = .d (.bl (decide (k ∈ l))) := by
  show ofB (inB (.int (k : Int)) (nsD l)) = _
  unfold inB
  rw [nsD_plain, show (D.int (k : Int)).plain 60 = true from rfl]
  simp only [Bool.and_self, if_true]
  show Pr.d (.bl _) = _
  congr 2
  induction l with
  | nil => simp
  | cons a r ih =>
    simp only [nsD, List.map_cons, List.any_cons, D.py, PyData.eqv] at ih ⊢
    rw [ih]
    by_cases h : k = a
    · subst h; simp
    · have : ¬ (a : Int) = k := by omega
      simp [h, this]
/-- an item of a mapped list -/
theorem at_map {α : Type} (g : α → D) {xs : List α} {k : Nat} {x : α} (h : xs[k]? = some x) : atD (xs.map g) (k : Int) = some (g x) := by
  have hl : k < xs.length := by
    by_cases q : k < xs.length
    · exact q
    · rw [List.getElem?_eq_none (by omega)] at h; cases h
  rw [atD_nat _ _ (by simpa using hl), List.getElem?_map, h]
  rfl
theorem at_last {xs : List D} {x : D} (h : xs.getLast? = some x) : atD xs (-1) = some x := by
  unfold atD L2.atI L2.ixN
  have hl : 0 < xs.length := by
    cases xs with
    | nil => cases h
    | cons a r => simp
  rw [if_neg (by omega), if_pos (by omega)]
  rw [List.getLast?_eq_getElem?] at h
  show xs[((-1 : Int) + xs.length).toNat]? = _
  rw [show ((-1 : Int) + xs.length).toNat = xs.length - 1 by omega, h]
theorem eq_str {x y : Str} {b : Bool} (h : (PyData.strOk x && PyData.strOk y && ((x == y) == b)) = true) : evPrim .eq [.val (.str x), .val (.str y)] = .d (.bl b) := by
  simp only [Bool.and_eq_true, beq_iff_eq] at h
  show ofB (eqB (.str x) (.str y)) = _
  unfold eqB
  rw [show (D.str x).plain 60 = true from h.1.1, show (D.str y).plain 60 = true from h.1.2]
  show Pr.d (.bl (x == y)) = _
  rw [h.2]
theorem ne_str {x y : Str} {b : Bool} (h : (PyData.strOk x && PyData.strOk y && ((x == y) == !b)) = true) : evPrim .ne [.val (.str x), .val (.str y)] = .d (.bl b) := by
  simp only [Bool.and_eq_true, beq_iff_eq] at h
  show notB (eqB (.str x) (.str y)) = _
  unfold eqB
  rw [show (D.str x).plain 60 = true from h.1.1, show (D.str y).plain 60 = true from h.1.2]
  show Pr.d (.bl (!(x == y))) = _
  rw [h.2, Bool.not_not]
end Ev
set_option Elab.async false
set_option linter.all false
set_option maxRecDepth 100000
namespace Fx
open PySem Ev
noncomputable def b_frac : Stms := (.cons (.ite (.prim .eq (.cons (.rd 1 "d") (.cons (.con (.int 0)) .nil))) (.cons (.raise "BadNumber")
  .nil) .nil)
  (.cons (.asg (.nm 2 "shared") (.prim .gcd (.cons (.rd 0 "n") (.cons (.rd 1 "d") .nil))))
  (.cons (.ite (.prim .lt (.cons (.rd 1 "d") (.cons (.con (.int 0)) .nil))) (.cons (.asg (.nm 2 "shared") (.prim .neg (.cons (.rd 2 "shared") .nil)))
  .nil) .nil)
  (.cons (.ret (.prim .tup (.cons (.prim .fdiv (.cons (.rd 0 "n") (.cons (.rd 2 "shared") .nil))) (.cons (.prim .fdiv (.cons (.rd 1 "d") (.cons (.rd 2 "shared") .nil))) .nil))))
  .nil))))
noncomputable def f_frac : Fn := ⟨2, 3, b_frac⟩
noncomputable def b_plus : Stms := (.cons (.ret (.call "frac" f_frac.den [] (.cons (.prim .add (.cons (.prim .mul (.cons (.prim .idx (.cons (.rd 0 "a") (.cons (.con (.int 0)) .nil))) (.cons (.prim .idx (.cons (.rd 1 "b") (.cons (.con (.int 1)) .nil))) .nil))) (.cons (.prim .mul (.cons (.prim .idx (.cons (.rd 1 "b") (.cons (.con (.int 0)) .nil))) (.cons (.prim .idx (.cons (.rd 0 "a") (.cons (.con (.int 1)) .nil))) .nil))) .nil))) (.cons (.prim .mul (.cons (.prim .idx (.cons (.rd 0 "a") (.cons (.con (.int 1)) .nil))) (.cons (.prim .idx (.cons (.rd 1 "b") (.cons (.con (.int 1)) .nil))) .nil))) .nil))))
  .nil)
noncomputable def f_plus : Fn := ⟨2, 2, b_plus⟩
noncomputable def b_minus : Stms := (.cons (.ret (.call "frac" f_frac.den [] (.cons (.prim .sub (.cons (.prim .mul (.cons (.prim .idx (.cons (.rd 0 "a") (.cons (.con (.int 0)) .nil))) (.cons (.prim .idx (.cons (.rd 1 "b") (.cons (.con (.int 1)) .nil))) .nil))) (.cons (.prim .mul (.cons (.prim .idx (.cons (.rd 1 "b") (.cons (.con (.int 0)) .nil))) (.cons (.prim .idx (.cons (.rd 0 "a") (.cons (.con (.int 1)) .nil))) .nil))) .nil))) (.cons (.prim .mul (.cons (.prim .idx (.cons (.rd 0 "a") (.cons (.con (.int 1)) .nil))) (.cons (.prim .idx (.cons (.rd 1 "b") (.cons (.con (.int 1)) .nil))) .nil))) .nil))))
  .nil)
noncomputable def f_minus : Fn := ⟨2, 2, b_minus⟩
noncomputable def b_times : Stms := (.cons (.ret (.call "frac" f_frac.den [] (.cons (.prim .mul (.cons (.prim .idx (.cons (.rd 0 "a") (.cons (.con (.int 0)) .nil))) (.cons (.prim .idx (.cons (.rd 1 "b") (.cons (.con (.int 0)) .nil))) .nil))) (.cons (.prim .mul (.cons (.prim .idx (.cons (.rd 0 "a") (.cons (.con (.int 1)) .nil))) (.cons (.prim .idx (.cons (.rd 1 "b") (.cons (.con (.int 1)) .nil))) .nil))) .nil))))
  .nil)
noncomputable def f_times : Fn := ⟨2, 2, b_times⟩
noncomputable def b_over : Stms := (.cons (.ite (.prim .eq (.cons (.prim .idx (.cons (.rd 1 "b") (.cons (.con (.int 0)) .nil))) (.cons (.con (.int 0)) .nil))) (.cons (.raise "BadNumber")
  .nil) .nil)
  (.cons (.ret (.call "frac" f_frac.den [] (.cons (.prim .mul (.cons (.prim .idx (.cons (.rd 0 "a") (.cons (.con (.int 0)) .nil))) (.cons (.prim .idx (.cons (.rd 1 "b") (.cons (.con (.int 1)) .nil))) .nil))) (.cons (.prim .mul (.cons (.prim .idx (.cons (.rd 0 "a") (.cons (.con (.int 1)) .nil))) (.cons (.prim .idx (.cons (.rd 1 "b") (.cons (.con (.int 0)) .nil))) .nil))) .nil))))
  .nil))
noncomputable def f_over : Fn := ⟨2, 2, b_over⟩
noncomputable def b_below : Stms := (.cons (.ret (.prim .lt (.cons (.prim .mul (.cons (.prim .idx (.cons (.rd 0 "a") (.cons (.con (.int 0)) .nil))) (.cons (.prim .idx (.cons (.rd 1 "b") (.cons (.con (.int 1)) .nil))) .nil))) (.cons (.prim .mul (.cons (.prim .idx (.cons (.rd 1 "b") (.cons (.con (.int 0)) .nil))) (.cons (.prim .idx (.cons (.rd 0 "a") (.cons (.con (.int 1)) .nil))) .nil))) .nil))))
  .nil)
noncomputable def f_below : Fn := ⟨2, 2, b_below⟩
noncomputable def b_at_most : Stms := (.cons (.ret (.prim .le (.cons (.prim .mul (.cons (.prim .idx (.cons (.rd 0 "a") (.cons (.con (.int 0)) .nil))) (.cons (.prim .idx (.cons (.rd 1 "b") (.cons (.con (.int 1)) .nil))) .nil))) (.cons (.prim .mul (.cons (.prim .idx (.cons (.rd 1 "b") (.cons (.con (.int 0)) .nil))) (.cons (.prim .idx (.cons (.rd 0 "a") (.cons (.con (.int 1)) .nil))) .nil))) .nil))))
  .nil)
noncomputable def f_at_most : Fn := ⟨2, 2, b_at_most⟩
noncomputable def b_smaller : Stms := (.cons (.ite (.call "below" f_below.den [] (.cons (.var 1 "b") (.cons (.var 0 "a") .nil))) (.cons (.ret (.var 1 "b"))
  .nil) .nil)
  (.cons (.ret (.var 0 "a"))
  .nil))
noncomputable def f_smaller : Fn := ⟨2, 2, b_smaller⟩
noncomputable def b_larger : Stms := (.cons (.ite (.call "below" f_below.den [] (.cons (.var 0 "a") (.cons (.var 1 "b") .nil))) (.cons (.ret (.var 1 "b"))
  .nil) .nil)
  (.cons (.ret (.var 0 "a"))
  .nil))
noncomputable def f_larger : Fn := ⟨2, 2, b_larger⟩
noncomputable def b_middle : Stms := (.cons (.ret (.call "times" f_times.den [] (.cons (.call "plus" f_plus.den [] (.cons (.var 0 "a") (.cons (.var 1 "b") .nil))) (.cons (.glob "HALF" (.tup [(.int 1), (.int 2)])) .nil))))
  .nil)
noncomputable def f_middle : Fn := ⟨2, 2, b_middle⟩
noncomputable def b_total : Stms := (.cons (.asg (.nm 1 "result") (.glob "ZERO" (.tup [(.int 0), (.int 1)])))
  (.cons (.for (.nm 2 "number") (.seq (.var 0 "numbers")) (.cons (.asg (.nm 1 "result") (.call "plus" f_plus.den [] (.cons (.var 1 "result") (.cons (.var 2 "number") .nil))))
  .nil))
  (.cons (.ret (.var 1 "result"))
  .nil)))
noncomputable def f_total : Fn := ⟨1, 3, b_total⟩
noncomputable def b_power : Stms := (.cons (.asg (.nm 2 "result") (.glob "ONE" (.tup [(.int 1), (.int 1)])))
  (.cons (.for (.nm 3 "_") (.rng (.cons (.var 1 "k") .nil)) (.cons (.asg (.nm 2 "result") (.call "times" f_times.den [] (.cons (.var 2 "result") (.cons (.var 0 "a") .nil))))
  .nil))
  (.cons (.ret (.var 2 "result"))
  .nil)))
noncomputable def f_power : Fn := ⟨2, 4, b_power⟩
noncomputable def b_round_up : Stms := (.cons (.ret (.prim .neg (.cons (.prim .fdiv (.cons (.prim .neg (.cons (.prim .idx (.cons (.rd 0 "a") (.cons (.con (.int 0)) .nil))) .nil)) (.cons (.prim .idx (.cons (.rd 0 "a") (.cons (.con (.int 1)) .nil))) .nil))) .nil)))
  .nil)
noncomputable def f_round_up : Fn := ⟨1, 1, b_round_up⟩
noncomputable def b_ascending : Stms := (.cons (.asg (.nm 1 "common") (.con (.int 1)))
  (.cons (.for (.nm 2 "number") (.seq (.var 0 "numbers")) (.cons (.asg (.nm 1 "common") (.prim .lcm (.cons (.rd 1 "common") (.cons (.prim .idx (.cons (.rd 2 "number") (.cons (.con (.int 1)) .nil))) .nil))))
  .nil))
  (.cons (.ret (.srt 0 "numbers" 1 "common"))
  .nil)))
noncomputable def f_ascending : Fn := ⟨1, 3, b_ascending⟩
noncomputable def b__law_cell : Stms := (.cons (.ite (.prim .lt (.cons (.rd 1 "k") (.cons (.prim .len (.cons (.rd 0 "script") .nil)) .nil))) (.cons (.ret (.prim .idx (.cons (.rd 0 "script") (.cons (.rd 1 "k") .nil))))
  .nil) .nil)
  (.cons (.ret (.con (.int 0)))
  .nil))
noncomputable def f__law_cell : Fn := ⟨2, 2, b__law_cell⟩
noncomputable def b__law_whole : Stms := (.cons (.ite (.prim .lt (.cons (.prim .abs (.cons (.rd 0 "cell") .nil)) (.cons (.prim .pow (.cons (.con (.int 10)) (.cons (.con (.int 6)) .nil))) .nil))) (.cons (.ret (.prim .sub (.cons (.prim .mod (.cons (.prim .int (.cons (.rd 0 "cell") .nil)) (.cons (.con (.int 41)) .nil))) (.cons (.con (.int 20)) .nil))))
  .nil) .nil)
  (.cons (.ret (.prim .add (.cons (.prim .sub (.cons (.prim .mod (.cons (.prim .int (.cons (.rd 0 "cell") .nil)) (.cons (.prim .sub (.cons (.prim .mul (.cons (.con (.int 2)) (.cons (.prim .pow (.cons (.con (.int 10)) (.cons (.con (.int 40)) .nil))) .nil))) (.cons (.con (.int 1)) .nil))) .nil))) (.cons (.prim .pow (.cons (.con (.int 10)) (.cons (.con (.int 40)) .nil))) .nil))) (.cons (.con (.int 1)) .nil))))
  .nil))
noncomputable def f__law_whole : Fn := ⟨1, 1, b__law_whole⟩
noncomputable def b__law_lowest : Stms := (.cons (.ite (.prim .lt (.cons (.rd 1 "d") (.cons (.con (.int 0)) .nil))) (.cons (.asg (.nm 0 "n") (.prim .neg (.cons (.rd 0 "n") .nil)))
  (.cons (.asg (.nm 1 "d") (.prim .neg (.cons (.rd 1 "d") .nil)))
  .nil)) .nil)
  (.cons (.asg (.nm 2 "a") (.prim .abs (.cons (.rd 0 "n") .nil)))
  (.cons (.asg (.nm 3 "b") (.var 1 "d"))
  (.cons (.while (.prim .gt (.cons (.rd 3 "b") (.cons (.con (.int 0)) .nil))) (.cons (.asg (.nm 4 "c") (.prim .sub (.cons (.rd 2 "a") (.cons (.prim .mul (.cons (.prim .fdiv (.cons (.rd 2 "a") (.cons (.rd 3 "b") .nil))) (.cons (.var 3 "b") .nil))) .nil))))
  (.cons (.asg (.nm 2 "a") (.var 3 "b"))
  (.cons (.asg (.nm 3 "b") (.var 4 "c"))
  .nil))))
  (.cons (.ret (.prim .tup (.cons (.prim .fdiv (.cons (.rd 0 "n") (.cons (.rd 2 "a") .nil))) (.cons (.prim .fdiv (.cons (.rd 1 "d") (.cons (.rd 2 "a") .nil))) .nil))))
  .nil)))))
noncomputable def f__law_lowest : Fn := ⟨2, 5, b__law_lowest⟩
noncomputable def b__law_is_whole : Stms := (.cons (.ret (.and (.isi .int (.cons (.rd 0 "value") .nil)) (.not (.isi .bool (.cons (.rd 0 "value") .nil)))))
  .nil)
noncomputable def f__law_is_whole : Fn := ⟨1, 1, b__law_is_whole⟩
noncomputable def b__law_same : Stms := (.cons (.ite (.or (.not (.isi .tuple (.cons (.rd 0 "actual") .nil))) (.prim .ne (.cons (.prim .len (.cons (.rd 0 "actual") .nil)) (.cons (.con (.int 2)) .nil)))) (.cons (.ret (.con (.bool false)))
  .nil) .nil)
  (.cons (.ite (.or (.not (.call "_law_is_whole" f__law_is_whole.den [] (.cons (.prim .idx (.cons (.rd 0 "actual") (.cons (.con (.int 0)) .nil))) .nil))) (.not (.call "_law_is_whole" f__law_is_whole.den [] (.cons (.prim .idx (.cons (.rd 0 "actual") (.cons (.con (.int 1)) .nil))) .nil)))) (.cons (.ret (.con (.bool false)))
  .nil) .nil)
  (.cons (.ret (.prim .eq (.cons (.rd 0 "actual") (.cons (.call "_law_lowest" f__law_lowest.den [] (.cons (.var 1 "n") (.cons (.var 2 "d") .nil))) .nil))))
  .nil)))
noncomputable def f__law_same : Fn := ⟨3, 3, b__law_same⟩
noncomputable def b__law_says : Stms := (.cons (.ret (.and (.isi .bool (.cons (.rd 0 "actual") .nil)) (.prim .eq (.cons (.rd 0 "actual") (.cons (.rd 1 "due") .nil)))))
  .nil)
noncomputable def f__law_says : Fn := ⟨2, 2, b__law_says⟩
end Fx
set_option Elab.async false
set_option linter.all false
set_option maxRecDepth 100000
namespace Fx
open PySem Ev
/-! ### fracs.py -/
/-- lowest terms, any sign -/
def lw (n d : Int) : Int × Int := if d < 0 then low (-n) (-d) else low n d
theorem lw_pos {n d : Int} (h : 0 < d) : lw n d = low n d := if_neg (by omega)
theorem lw_neg {n d : Int} (h : d < 0) : lw n d = low (-n) (-d) := if_pos h
theorem lw_Q {k : Nat} {n d : Int} (h : d ≠ 0) (h1 : Bd k n) (h2 : Bd k d) : Q k (lw n d) := by
  unfold lw
  split
  · exact low_Q (by omega) h1.neg h2.neg
  · exact low_Q (by omega) h1 h2
/-- the fraction's value is told by a cross product -/
theorem lw_eq {n d n' d' : Int} (h : d ≠ 0) (h' : d' ≠ 0) (e : n * d' = n' * d) : lw n d = lw n' d' := by
  unfold lw
  have e2 : -(n * d') = -(n' * d) := by rw [e]
  split <;> split
  · exact low_eq (by omega) (by omega) (by rw [Int.neg_mul_neg, Int.neg_mul_neg]; exact e)
  · exact low_eq (by omega) (by omega) (by rw [Int.neg_mul, Int.mul_neg]; omega)
  · exact low_eq (by omega) (by omega) (by rw [Int.neg_mul, Int.mul_neg]; omega)
  · exact low_eq (by omega) (by omega) e
theorem lw_cross {n d : Int} (h : d ≠ 0) : (lw n d).1 * d = n * (lw n d).2 := by
  unfold lw
  split
  · have := low_cross (n := -n) (d := -d) (by omega)
    rw [Int.mul_neg, Int.neg_mul] at this
    omega
  · exact low_cross (by omega)
theorem den_frac {n d : Int} (h : d ≠ 0) : f_frac.den [.val (.int n), .val (.int d)] = .ok (.val (fr (lw n d))) := by
  have hg : (Int.gcd n d : Int) ≠ 0 := by
    have := Int.gcd_pos_of_ne_zero_right n h
    omega
  refine den_of rfl ?_
  by_cases q : d < 0
  · have hg2 : -(Int.gcd n d : Int) ≠ 0 := by omega
    have e1 : n.fdiv (-(Int.gcd n d : Int)) = (-n).fdiv (Int.gcd n d) := by rw [← Int.neg_fdiv_neg (a := -n), Int.neg_neg]
    have e2 : d.fdiv (-(Int.gcd n d : Int)) = (-d).fdiv (Int.gcd n d) := by rw [← Int.neg_fdiv_neg (a := -d), Int.neg_neg]
    simp only [b_frac, es_nil, es_cons, es_asgN, es_asgT, es_par, es_if, es_for, es_ret, es_retN, o_prim, o_call, o_var, o_con, o_glob, o_isi, o_and, o_or, o_not, o_ite, o_chain, e_var, e_rd, e_int, e_bl, e_non, e_str, e_glob, e_prim, e_isi, e_call, e_and, e_or, e_not, e_ite, ea_nil, ea_rd, ea_var, ea_con, ea_glob, ea_prim, ea_isi, ea_call, ea_and, ea_or, ea_not, ea_ite, ea_chain, ea_slc, ea_comp, ea_compif, r_var, r_prim, r_con, r_glob, r_call, r_isi, r_and, r_or, r_not, r_ite, r_chain, r_comp, r_compif, r_slc, ld_nil, ld_val, ld_own, ld_bor, ld_none, wp_nil, wp_c, tg_nm, tg_tup, tg_nil, tg_c, e_chain, es_cont, es_brk, es_pass, p_min2, p_max2, p_l0, p_l1, p_l2, p_l3, p_l4, p_is0, p_not0, n_non, n_tup, i_seq, q_lst, q_tup, q_ro, y_tt, y_tn, y_ii, y_bi, y_bb, y_lv, y_lb, oO_some, slotR, l_0, l_s, v_0, v_s, R.bind_ok, R.bind_bad, R.bind_exc, es_raise, es_expr, rf_exc, e_isC, isC_err, ea_isC, o_isC, r_isC, r_srt, o_srt, lk_here, pd_nil, pd_c, sl_d, sl_s, okD_d, okD_l, okS_d, okS_l, rf_val, rf_own, fz_val, fz_own, tr_bl, t_bl, t_int, p_add, p_sub, p_neg, p_eq, p_ne, p_lt, p_le, p_gt, p_ge, p_abs, p_int, p_gcd, p_i0, p_i1, p_i2, p_i3, p_len2, p_len3, p_len4, p_t3, p_t4, p_t2, List.map, List.cons_append, List.nil_append, List.append_nil, List.length_cons, List.length_nil, List.replicate, if_true, if_false, Bool.false_eq_true, Nat.reduceAdd, Nat.reduceSub, decide_eq_true_eq, eq_self, decide_true, Bool.not_true, Bool.not_false, Int.reduceEq, Int.reduceLT, Int.reduceLE, decide_false, h, q, decide_false, p_fdiv _ _ hg2, e1, e2]
    rw [lw_neg q]
    unfold low
    rw [Int.neg_gcd, Int.gcd_neg]
  · simp only [b_frac, es_nil, es_cons, es_asgN, es_asgT, es_par, es_if, es_for, es_ret, es_retN, o_prim, o_call, o_var, o_con, o_glob, o_isi, o_and, o_or, o_not, o_ite, o_chain, e_var, e_rd, e_int, e_bl, e_non, e_str, e_glob, e_prim, e_isi, e_call, e_and, e_or, e_not, e_ite, ea_nil, ea_rd, ea_var, ea_con, ea_glob, ea_prim, ea_isi, ea_call, ea_and, ea_or, ea_not, ea_ite, ea_chain, ea_slc, ea_comp, ea_compif, r_var, r_prim, r_con, r_glob, r_call, r_isi, r_and, r_or, r_not, r_ite, r_chain, r_comp, r_compif, r_slc, ld_nil, ld_val, ld_own, ld_bor, ld_none, wp_nil, wp_c, tg_nm, tg_tup, tg_nil, tg_c, e_chain, es_cont, es_brk, es_pass, p_min2, p_max2, p_l0, p_l1, p_l2, p_l3, p_l4, p_is0, p_not0, n_non, n_tup, i_seq, q_lst, q_tup, q_ro, y_tt, y_tn, y_ii, y_bi, y_bb, y_lv, y_lb, oO_some, slotR, l_0, l_s, v_0, v_s, R.bind_ok, R.bind_bad, R.bind_exc, es_raise, es_expr, rf_exc, e_isC, isC_err, ea_isC, o_isC, r_isC, r_srt, o_srt, lk_here, pd_nil, pd_c, sl_d, sl_s, okD_d, okD_l, okS_d, okS_l, rf_val, rf_own, fz_val, fz_own, tr_bl, t_bl, t_int, p_add, p_sub, p_neg, p_eq, p_ne, p_lt, p_le, p_gt, p_ge, p_abs, p_int, p_gcd, p_i0, p_i1, p_i2, p_i3, p_len2, p_len3, p_len4, p_t3, p_t4, p_t2, List.map, List.cons_append, List.nil_append, List.append_nil, List.length_cons, List.length_nil, List.replicate, if_true, if_false, Bool.false_eq_true, Nat.reduceAdd, Nat.reduceSub, decide_eq_true_eq, eq_self, decide_true, Bool.not_true, Bool.not_false, Int.reduceEq, Int.reduceLT, Int.reduceLE, decide_false, h, q, decide_false, p_fdiv _ _ hg]
    rw [lw_pos (by omega)]
    rfl
theorem den_frac0 (n : Int) : f_frac.den [.val (.int n), .val (.int 0)] = .exc ⟨"BadNumber", [], []⟩ := by
  refine den_exc (e := [some (.val (.int n)), some (.val (.int 0)), none]) rfl ?_
  simp only [b_frac, es_nil, es_cons, es_asgN, es_asgT, es_par, es_if, es_for, es_ret, es_retN, o_prim, o_call, o_var, o_con, o_glob, o_isi, o_and, o_or, o_not, o_ite, o_chain, e_var, e_rd, e_int, e_bl, e_non, e_str, e_glob, e_prim, e_isi, e_call, e_and, e_or, e_not, e_ite, ea_nil, ea_rd, ea_var, ea_con, ea_glob, ea_prim, ea_isi, ea_call, ea_and, ea_or, ea_not, ea_ite, ea_chain, ea_slc, ea_comp, ea_compif, r_var, r_prim, r_con, r_glob, r_call, r_isi, r_and, r_or, r_not, r_ite, r_chain, r_comp, r_compif, r_slc, ld_nil, ld_val, ld_own, ld_bor, ld_none, wp_nil, wp_c, tg_nm, tg_tup, tg_nil, tg_c, e_chain, es_cont, es_brk, es_pass, p_min2, p_max2, p_l0, p_l1, p_l2, p_l3, p_l4, p_is0, p_not0, n_non, n_tup, i_seq, q_lst, q_tup, q_ro, y_tt, y_tn, y_ii, y_bi, y_bb, y_lv, y_lb, oO_some, slotR, l_0, l_s, v_0, v_s, R.bind_ok, R.bind_bad, R.bind_exc, es_raise, es_expr, rf_exc, e_isC, isC_err, ea_isC, o_isC, r_isC, r_srt, o_srt, lk_here, pd_nil, pd_c, sl_d, sl_s, okD_d, okD_l, okS_d, okS_l, rf_val, rf_own, fz_val, fz_own, tr_bl, t_bl, t_int, p_add, p_sub, p_neg, p_eq, p_ne, p_lt, p_le, p_gt, p_ge, p_abs, p_int, p_gcd, p_i0, p_i1, p_i2, p_i3, p_len2, p_len3, p_len4, p_t3, p_t4, p_t2, List.map, List.cons_append, List.nil_append, List.append_nil, List.length_cons, List.length_nil, List.replicate, if_true, if_false, Bool.false_eq_true, Nat.reduceAdd, Nat.reduceSub, decide_eq_true_eq, eq_self, decide_true, Bool.not_true, Bool.not_false, Int.reduceEq, Int.reduceLT, Int.reduceLE, decide_false]
abbrev qplus (a b : Int × Int) : Int × Int := low (a.1 * b.2 + b.1 * a.2) (a.2 * b.2)
abbrev qminus (a b : Int × Int) : Int × Int := low (a.1 * b.2 - b.1 * a.2) (a.2 * b.2)
abbrev qtimes (a b : Int × Int) : Int × Int := low (a.1 * b.1) (a.2 * b.2)
abbrev qover (a b : Int × Int) : Int × Int := lw (a.1 * b.2) (a.2 * b.1)
section
variable {j k : Nat} {a b : Int × Int}
theorem q_plus (ha : Q j a) (hb : Q k b) : Q (j + k + 1) (qplus a b) :=
  low_Q (Int.mul_pos ha.pos hb.pos) ((ha.b1.mul hb.b2).add (by have := hb.b1.mul ha.b2; rwa [Nat.add_comm] at this)) ((ha.b2.mul hb.b2).mono (by omega))
theorem q_minus (ha : Q j a) (hb : Q k b) : Q (j + k + 1) (qminus a b) :=
  low_Q (Int.mul_pos ha.pos hb.pos) ((ha.b1.mul hb.b2).sub (by have := hb.b1.mul ha.b2; rwa [Nat.add_comm] at this)) ((ha.b2.mul hb.b2).mono (by omega))
theorem q_times (ha : Q j a) (hb : Q k b) : Q (j + k) (qtimes a b) := low_Q (Int.mul_pos ha.pos hb.pos) (ha.b1.mul hb.b1) (ha.b2.mul hb.b2)
theorem q_over (ha : Q j a) (hb : Q k b) (h : b.1 ≠ 0) : Q (j + k) (qover a b) := lw_Q (Int.mul_ne_zero (by have := ha.pos; omega) h) (ha.b1.mul hb.b2) (ha.b2.mul hb.b1)
theorem den_plus (ha : Q j a) (hb : Q k b) (l : j + k ≤ 9000000) : f_plus.den [.val (fr a), .val (fr b)] = .ok (.val (fr (qplus a b))) := by
  have m1 := mulOk_of ha.b1 hb.b2 (by omega)
  have m2 := mulOk_of hb.b1 ha.b2 (by omega)
  have m3 := mulOk_of ha.b2 hb.b2 (by omega)
  have p := Int.mul_pos ha.pos hb.pos
  have f := den_frac (n := a.1 * b.2 + b.1 * a.2) (d := a.2 * b.2) (by omega)
  rw [lw_pos p] at f
  refine den_of rfl ?_
  simp only [b_plus, es_nil, es_cons, es_asgN, es_asgT, es_par, es_if, es_for, es_ret, es_retN, o_prim, o_call, o_var, o_con, o_glob, o_isi, o_and, o_or, o_not, o_ite, o_chain, e_var, e_rd, e_int, e_bl, e_non, e_str, e_glob, e_prim, e_isi, e_call, e_and, e_or, e_not, e_ite, ea_nil, ea_rd, ea_var, ea_con, ea_glob, ea_prim, ea_isi, ea_call, ea_and, ea_or, ea_not, ea_ite, ea_chain, ea_slc, ea_comp, ea_compif, r_var, r_prim, r_con, r_glob, r_call, r_isi, r_and, r_or, r_not, r_ite, r_chain, r_comp, r_compif, r_slc, ld_nil, ld_val, ld_own, ld_bor, ld_none, wp_nil, wp_c, tg_nm, tg_tup, tg_nil, tg_c, e_chain, es_cont, es_brk, es_pass, p_min2, p_max2, p_l0, p_l1, p_l2, p_l3, p_l4, p_is0, p_not0, n_non, n_tup, i_seq, q_lst, q_tup, q_ro, y_tt, y_tn, y_ii, y_bi, y_bb, y_lv, y_lb, oO_some, slotR, l_0, l_s, v_0, v_s, R.bind_ok, R.bind_bad, R.bind_exc, es_raise, es_expr, rf_exc, e_isC, isC_err, ea_isC, o_isC, r_isC, r_srt, o_srt, lk_here, pd_nil, pd_c, sl_d, sl_s, okD_d, okD_l, okS_d, okS_l, rf_val, rf_own, fz_val, fz_own, tr_bl, t_bl, t_int, p_add, p_sub, p_neg, p_eq, p_ne, p_lt, p_le, p_gt, p_ge, p_abs, p_int, p_gcd, p_i0, p_i1, p_i2, p_i3, p_len2, p_len3, p_len4, p_t3, p_t4, p_t2, List.map, List.cons_append, List.nil_append, List.append_nil, List.length_cons, List.length_nil, List.replicate, if_true, if_false, Bool.false_eq_true, Nat.reduceAdd, Nat.reduceSub, decide_eq_true_eq, eq_self, decide_true, Bool.not_true, Bool.not_false, Int.reduceEq, Int.reduceLT, Int.reduceLE, decide_false, p_mul _ _ m1, p_mul _ _ m2, p_mul _ _ m3, f]
theorem den_minus (ha : Q j a) (hb : Q k b) (l : j + k ≤ 9000000) : f_minus.den [.val (fr a), .val (fr b)] = .ok (.val (fr (qminus a b))) := by
  have m1 := mulOk_of ha.b1 hb.b2 (by omega)
  have m2 := mulOk_of hb.b1 ha.b2 (by omega)
  have m3 := mulOk_of ha.b2 hb.b2 (by omega)
  have p := Int.mul_pos ha.pos hb.pos
  have f := den_frac (n := a.1 * b.2 - b.1 * a.2) (d := a.2 * b.2) (by omega)
  rw [lw_pos p] at f
  refine den_of rfl ?_
  simp only [b_minus, es_nil, es_cons, es_asgN, es_asgT, es_par, es_if, es_for, es_ret, es_retN, o_prim, o_call, o_var, o_con, o_glob, o_isi, o_and, o_or, o_not, o_ite, o_chain, e_var, e_rd, e_int, e_bl, e_non, e_str, e_glob, e_prim, e_isi, e_call, e_and, e_or, e_not, e_ite, ea_nil, ea_rd, ea_var, ea_con, ea_glob, ea_prim, ea_isi, ea_call, ea_and, ea_or, ea_not, ea_ite, ea_chain, ea_slc, ea_comp, ea_compif, r_var, r_prim, r_con, r_glob, r_call, r_isi, r_and, r_or, r_not, r_ite, r_chain, r_comp, r_compif, r_slc, ld_nil, ld_val, ld_own, ld_bor, ld_none, wp_nil, wp_c, tg_nm, tg_tup, tg_nil, tg_c, e_chain, es_cont, es_brk, es_pass, p_min2, p_max2, p_l0, p_l1, p_l2, p_l3, p_l4, p_is0, p_not0, n_non, n_tup, i_seq, q_lst, q_tup, q_ro, y_tt, y_tn, y_ii, y_bi, y_bb, y_lv, y_lb, oO_some, slotR, l_0, l_s, v_0, v_s, R.bind_ok, R.bind_bad, R.bind_exc, es_raise, es_expr, rf_exc, e_isC, isC_err, ea_isC, o_isC, r_isC, r_srt, o_srt, lk_here, pd_nil, pd_c, sl_d, sl_s, okD_d, okD_l, okS_d, okS_l, rf_val, rf_own, fz_val, fz_own, tr_bl, t_bl, t_int, p_add, p_sub, p_neg, p_eq, p_ne, p_lt, p_le, p_gt, p_ge, p_abs, p_int, p_gcd, p_i0, p_i1, p_i2, p_i3, p_len2, p_len3, p_len4, p_t3, p_t4, p_t2, List.map, List.cons_append, List.nil_append, List.append_nil, List.length_cons, List.length_nil, List.replicate, if_true, if_false, Bool.false_eq_true, Nat.reduceAdd, Nat.reduceSub, decide_eq_true_eq, eq_self, decide_true, Bool.not_true, Bool.not_false, Int.reduceEq, Int.reduceLT, Int.reduceLE, decide_false, p_mul _ _ m1, p_mul _ _ m2, p_mul _ _ m3, f]
theorem den_times (ha : Q j a) (hb : Q k b) (l : j + k ≤ 9000000) : f_times.den [.val (fr a), .val (fr b)] = .ok (.val (fr (qtimes a b))) := by
  have m1 := mulOk_of ha.b1 hb.b1 (by omega)
  have m3 := mulOk_of ha.b2 hb.b2 (by omega)
  have p := Int.mul_pos ha.pos hb.pos
  have f := den_frac (n := a.1 * b.1) (d := a.2 * b.2) (by omega)
  rw [lw_pos p] at f
  refine den_of rfl ?_
  simp only [b_times, es_nil, es_cons, es_asgN, es_asgT, es_par, es_if, es_for, es_ret, es_retN, o_prim, o_call, o_var, o_con, o_glob, o_isi, o_and, o_or, o_not, o_ite, o_chain, e_var, e_rd, e_int, e_bl, e_non, e_str, e_glob, e_prim, e_isi, e_call, e_and, e_or, e_not, e_ite, ea_nil, ea_rd, ea_var, ea_con, ea_glob, ea_prim, ea_isi, ea_call, ea_and, ea_or, ea_not, ea_ite, ea_chain, ea_slc, ea_comp, ea_compif, r_var, r_prim, r_con, r_glob, r_call, r_isi, r_and, r_or, r_not, r_ite, r_chain, r_comp, r_compif, r_slc, ld_nil, ld_val, ld_own, ld_bor, ld_none, wp_nil, wp_c, tg_nm, tg_tup, tg_nil, tg_c, e_chain, es_cont, es_brk, es_pass, p_min2, p_max2, p_l0, p_l1, p_l2, p_l3, p_l4, p_is0, p_not0, n_non, n_tup, i_seq, q_lst, q_tup, q_ro, y_tt, y_tn, y_ii, y_bi, y_bb, y_lv, y_lb, oO_some, slotR, l_0, l_s, v_0, v_s, R.bind_ok, R.bind_bad, R.bind_exc, es_raise, es_expr, rf_exc, e_isC, isC_err, ea_isC, o_isC, r_isC, r_srt, o_srt, lk_here, pd_nil, pd_c, sl_d, sl_s, okD_d, okD_l, okS_d, okS_l, rf_val, rf_own, fz_val, fz_own, tr_bl, t_bl, t_int, p_add, p_sub, p_neg, p_eq, p_ne, p_lt, p_le, p_gt, p_ge, p_abs, p_int, p_gcd, p_i0, p_i1, p_i2, p_i3, p_len2, p_len3, p_len4, p_t3, p_t4, p_t2, List.map, List.cons_append, List.nil_append, List.append_nil, List.length_cons, List.length_nil, List.replicate, if_true, if_false, Bool.false_eq_true, Nat.reduceAdd, Nat.reduceSub, decide_eq_true_eq, eq_self, decide_true, Bool.not_true, Bool.not_false, Int.reduceEq, Int.reduceLT, Int.reduceLE, decide_false, p_mul _ _ m1, p_mul _ _ m3, f]
theorem den_over (ha : Q j a) (hb : Q k b) (l : j + k ≤ 9000000) (h : b.1 ≠ 0) : f_over.den [.val (fr a), .val (fr b)] = .ok (.val (fr (qover a b))) := by
  have m1 := mulOk_of ha.b1 hb.b2 (by omega)
  have m3 := mulOk_of ha.b2 hb.b1 (by omega)
  have f := den_frac (n := a.1 * b.2) (d := a.2 * b.1) (Int.mul_ne_zero (by have := ha.pos; omega) h)
  refine den_of rfl ?_
  simp only [b_over, es_nil, es_cons, es_asgN, es_asgT, es_par, es_if, es_for, es_ret, es_retN, o_prim, o_call, o_var, o_con, o_glob, o_isi, o_and, o_or, o_not, o_ite, o_chain, e_var, e_rd, e_int, e_bl, e_non, e_str, e_glob, e_prim, e_isi, e_call, e_and, e_or, e_not, e_ite, ea_nil, ea_rd, ea_var, ea_con, ea_glob, ea_prim, ea_isi, ea_call, ea_and, ea_or, ea_not, ea_ite, ea_chain, ea_slc, ea_comp, ea_compif, r_var, r_prim, r_con, r_glob, r_call, r_isi, r_and, r_or, r_not, r_ite, r_chain, r_comp, r_compif, r_slc, ld_nil, ld_val, ld_own, ld_bor, ld_none, wp_nil, wp_c, tg_nm, tg_tup, tg_nil, tg_c, e_chain, es_cont, es_brk, es_pass, p_min2, p_max2, p_l0, p_l1, p_l2, p_l3, p_l4, p_is0, p_not0, n_non, n_tup, i_seq, q_lst, q_tup, q_ro, y_tt, y_tn, y_ii, y_bi, y_bb, y_lv, y_lb, oO_some, slotR, l_0, l_s, v_0, v_s, R.bind_ok, R.bind_bad, R.bind_exc, es_raise, es_expr, rf_exc, e_isC, isC_err, ea_isC, o_isC, r_isC, r_srt, o_srt, lk_here, pd_nil, pd_c, sl_d, sl_s, okD_d, okD_l, okS_d, okS_l, rf_val, rf_own, fz_val, fz_own, tr_bl, t_bl, t_int, p_add, p_sub, p_neg, p_eq, p_ne, p_lt, p_le, p_gt, p_ge, p_abs, p_int, p_gcd, p_i0, p_i1, p_i2, p_i3, p_len2, p_len3, p_len4, p_t3, p_t4, p_t2, List.map, List.cons_append, List.nil_append, List.append_nil, List.length_cons, List.length_nil, List.replicate, if_true, if_false, Bool.false_eq_true, Nat.reduceAdd, Nat.reduceSub, decide_eq_true_eq, eq_self, decide_true, Bool.not_true, Bool.not_false, Int.reduceEq, Int.reduceLT, Int.reduceLE, decide_false, p_mul _ _ m1, p_mul _ _ m3, f, h, decide_false]
theorem den_over0 (a : Int × Int) (d : Int) : f_over.den [.val (fr a), .val (.tup [.int 0, .int d])] = .exc ⟨"BadNumber", [], []⟩ := by
  refine den_exc (e := [some (.val (fr a)), some (.val (.tup [.int 0, .int d]))]) rfl ?_
  simp only [b_over, es_nil, es_cons, es_asgN, es_asgT, es_par, es_if, es_for, es_ret, es_retN, o_prim, o_call, o_var, o_con, o_glob, o_isi, o_and, o_or, o_not, o_ite, o_chain, e_var, e_rd, e_int, e_bl, e_non, e_str, e_glob, e_prim, e_isi, e_call, e_and, e_or, e_not, e_ite, ea_nil, ea_rd, ea_var, ea_con, ea_glob, ea_prim, ea_isi, ea_call, ea_and, ea_or, ea_not, ea_ite, ea_chain, ea_slc, ea_comp, ea_compif, r_var, r_prim, r_con, r_glob, r_call, r_isi, r_and, r_or, r_not, r_ite, r_chain, r_comp, r_compif, r_slc, ld_nil, ld_val, ld_own, ld_bor, ld_none, wp_nil, wp_c, tg_nm, tg_tup, tg_nil, tg_c, e_chain, es_cont, es_brk, es_pass, p_min2, p_max2, p_l0, p_l1, p_l2, p_l3, p_l4, p_is0, p_not0, n_non, n_tup, i_seq, q_lst, q_tup, q_ro, y_tt, y_tn, y_ii, y_bi, y_bb, y_lv, y_lb, oO_some, slotR, l_0, l_s, v_0, v_s, R.bind_ok, R.bind_bad, R.bind_exc, es_raise, es_expr, rf_exc, e_isC, isC_err, ea_isC, o_isC, r_isC, r_srt, o_srt, lk_here, pd_nil, pd_c, sl_d, sl_s, okD_d, okD_l, okS_d, okS_l, rf_val, rf_own, fz_val, fz_own, tr_bl, t_bl, t_int, p_add, p_sub, p_neg, p_eq, p_ne, p_lt, p_le, p_gt, p_ge, p_abs, p_int, p_gcd, p_i0, p_i1, p_i2, p_i3, p_len2, p_len3, p_len4, p_t3, p_t4, p_t2, List.map, List.cons_append, List.nil_append, List.append_nil, List.length_cons, List.length_nil, List.replicate, if_true, if_false, Bool.false_eq_true, Nat.reduceAdd, Nat.reduceSub, decide_eq_true_eq, eq_self, decide_true, Bool.not_true, Bool.not_false, Int.reduceEq, Int.reduceLT, Int.reduceLE, decide_false]
theorem den_below (ha : Q j a) (hb : Q k b) (l : j + k ≤ 9000000) : f_below.den [.val (fr a), .val (fr b)] = .ok (.val (.bl (decide (a.1 * b.2 < b.1 * a.2)))) := by
  have m1 := mulOk_of ha.b1 hb.b2 (by omega)
  have m2 := mulOk_of hb.b1 ha.b2 (by omega)
  refine den_of rfl ?_
  simp only [b_below, es_nil, es_cons, es_asgN, es_asgT, es_par, es_if, es_for, es_ret, es_retN, o_prim, o_call, o_var, o_con, o_glob, o_isi, o_and, o_or, o_not, o_ite, o_chain, e_var, e_rd, e_int, e_bl, e_non, e_str, e_glob, e_prim, e_isi, e_call, e_and, e_or, e_not, e_ite, ea_nil, ea_rd, ea_var, ea_con, ea_glob, ea_prim, ea_isi, ea_call, ea_and, ea_or, ea_not, ea_ite, ea_chain, ea_slc, ea_comp, ea_compif, r_var, r_prim, r_con, r_glob, r_call, r_isi, r_and, r_or, r_not, r_ite, r_chain, r_comp, r_compif, r_slc, ld_nil, ld_val, ld_own, ld_bor, ld_none, wp_nil, wp_c, tg_nm, tg_tup, tg_nil, tg_c, e_chain, es_cont, es_brk, es_pass, p_min2, p_max2, p_l0, p_l1, p_l2, p_l3, p_l4, p_is0, p_not0, n_non, n_tup, i_seq, q_lst, q_tup, q_ro, y_tt, y_tn, y_ii, y_bi, y_bb, y_lv, y_lb, oO_some, slotR, l_0, l_s, v_0, v_s, R.bind_ok, R.bind_bad, R.bind_exc, es_raise, es_expr, rf_exc, e_isC, isC_err, ea_isC, o_isC, r_isC, r_srt, o_srt, lk_here, pd_nil, pd_c, sl_d, sl_s, okD_d, okD_l, okS_d, okS_l, rf_val, rf_own, fz_val, fz_own, tr_bl, t_bl, t_int, p_add, p_sub, p_neg, p_eq, p_ne, p_lt, p_le, p_gt, p_ge, p_abs, p_int, p_gcd, p_i0, p_i1, p_i2, p_i3, p_len2, p_len3, p_len4, p_t3, p_t4, p_t2, List.map, List.cons_append, List.nil_append, List.append_nil, List.length_cons, List.length_nil, List.replicate, if_true, if_false, Bool.false_eq_true, Nat.reduceAdd, Nat.reduceSub, decide_eq_true_eq, eq_self, decide_true, Bool.not_true, Bool.not_false, Int.reduceEq, Int.reduceLT, Int.reduceLE, decide_false, p_mul _ _ m1, p_mul _ _ m2]
theorem den_at_most (ha : Q j a) (hb : Q k b) (l : j + k ≤ 9000000) : f_at_most.den [.val (fr a), .val (fr b)] = .ok (.val (.bl (decide (a.1 * b.2 ≤ b.1 * a.2)))) := by
  have m1 := mulOk_of ha.b1 hb.b2 (by omega)
  have m2 := mulOk_of hb.b1 ha.b2 (by omega)
  refine den_of rfl ?_
  simp only [b_at_most, es_nil, es_cons, es_asgN, es_asgT, es_par, es_if, es_for, es_ret, es_retN, o_prim, o_call, o_var, o_con, o_glob, o_isi, o_and, o_or, o_not, o_ite, o_chain, e_var, e_rd, e_int, e_bl, e_non, e_str, e_glob, e_prim, e_isi, e_call, e_and, e_or, e_not, e_ite, ea_nil, ea_rd, ea_var, ea_con, ea_glob, ea_prim, ea_isi, ea_call, ea_and, ea_or, ea_not, ea_ite, ea_chain, ea_slc, ea_comp, ea_compif, r_var, r_prim, r_con, r_glob, r_call, r_isi, r_and, r_or, r_not, r_ite, r_chain, r_comp, r_compif, r_slc, ld_nil, ld_val, ld_own, ld_bor, ld_none, wp_nil, wp_c, tg_nm, tg_tup, tg_nil, tg_c, e_chain, es_cont, es_brk, es_pass, p_min2, p_max2, p_l0, p_l1, p_l2, p_l3, p_l4, p_is0, p_not0, n_non, n_tup, i_seq, q_lst, q_tup, q_ro, y_tt, y_tn, y_ii, y_bi, y_bb, y_lv, y_lb, oO_some, slotR, l_0, l_s, v_0, v_s, R.bind_ok, R.bind_bad, R.bind_exc, es_raise, es_expr, rf_exc, e_isC, isC_err, ea_isC, o_isC, r_isC, r_srt, o_srt, lk_here, pd_nil, pd_c, sl_d, sl_s, okD_d, okD_l, okS_d, okS_l, rf_val, rf_own, fz_val, fz_own, tr_bl, t_bl, t_int, p_add, p_sub, p_neg, p_eq, p_ne, p_lt, p_le, p_gt, p_ge, p_abs, p_int, p_gcd, p_i0, p_i1, p_i2, p_i3, p_len2, p_len3, p_len4, p_t3, p_t4, p_t2, List.map, List.cons_append, List.nil_append, List.append_nil, List.length_cons, List.length_nil, List.replicate, if_true, if_false, Bool.false_eq_true, Nat.reduceAdd, Nat.reduceSub, decide_eq_true_eq, eq_self, decide_true, Bool.not_true, Bool.not_false, Int.reduceEq, Int.reduceLT, Int.reduceLE, decide_false, p_mul _ _ m1, p_mul _ _ m2]
theorem den_smaller (ha : Q j a) (hb : Q k b) (l : j + k ≤ 9000000) : f_smaller.den [.val (fr a), .val (fr b)] = .ok (.val (fr (if b.1 * a.2 < a.1 * b.2 then b else a))) := by
  have f := den_below hb ha (by omega)
  refine den_of rfl ?_
  by_cases q : b.1 * a.2 < a.1 * b.2
  · rw [decide_eq_true q] at f
    rw [if_pos q]
    simp only [b_smaller, es_nil, es_cons, es_asgN, es_asgT, es_par, es_if, es_for, es_ret, es_retN, o_prim, o_call, o_var, o_con, o_glob, o_isi, o_and, o_or, o_not, o_ite, o_chain, e_var, e_rd, e_int, e_bl, e_non, e_str, e_glob, e_prim, e_isi, e_call, e_and, e_or, e_not, e_ite, ea_nil, ea_rd, ea_var, ea_con, ea_glob, ea_prim, ea_isi, ea_call, ea_and, ea_or, ea_not, ea_ite, ea_chain, ea_slc, ea_comp, ea_compif, r_var, r_prim, r_con, r_glob, r_call, r_isi, r_and, r_or, r_not, r_ite, r_chain, r_comp, r_compif, r_slc, ld_nil, ld_val, ld_own, ld_bor, ld_none, wp_nil, wp_c, tg_nm, tg_tup, tg_nil, tg_c, e_chain, es_cont, es_brk, es_pass, p_min2, p_max2, p_l0, p_l1, p_l2, p_l3, p_l4, p_is0, p_not0, n_non, n_tup, i_seq, q_lst, q_tup, q_ro, y_tt, y_tn, y_ii, y_bi, y_bb, y_lv, y_lb, oO_some, slotR, l_0, l_s, v_0, v_s, R.bind_ok, R.bind_bad, R.bind_exc, es_raise, es_expr, rf_exc, e_isC, isC_err, ea_isC, o_isC, r_isC, r_srt, o_srt, lk_here, pd_nil, pd_c, sl_d, sl_s, okD_d, okD_l, okS_d, okS_l, rf_val, rf_own, fz_val, fz_own, tr_bl, t_bl, t_int, p_add, p_sub, p_neg, p_eq, p_ne, p_lt, p_le, p_gt, p_ge, p_abs, p_int, p_gcd, p_i0, p_i1, p_i2, p_i3, p_len2, p_len3, p_len4, p_t3, p_t4, p_t2, List.map, List.cons_append, List.nil_append, List.append_nil, List.length_cons, List.length_nil, List.replicate, if_true, if_false, Bool.false_eq_true, Nat.reduceAdd, Nat.reduceSub, decide_eq_true_eq, eq_self, decide_true, Bool.not_true, Bool.not_false, Int.reduceEq, Int.reduceLT, Int.reduceLE, decide_false, f]
  · rw [decide_eq_false q] at f
    rw [if_neg q]
    simp only [b_smaller, es_nil, es_cons, es_asgN, es_asgT, es_par, es_if, es_for, es_ret, es_retN, o_prim, o_call, o_var, o_con, o_glob, o_isi, o_and, o_or, o_not, o_ite, o_chain, e_var, e_rd, e_int, e_bl, e_non, e_str, e_glob, e_prim, e_isi, e_call, e_and, e_or, e_not, e_ite, ea_nil, ea_rd, ea_var, ea_con, ea_glob, ea_prim, ea_isi, ea_call, ea_and, ea_or, ea_not, ea_ite, ea_chain, ea_slc, ea_comp, ea_compif, r_var, r_prim, r_con, r_glob, r_call, r_isi, r_and, r_or, r_not, r_ite, r_chain, r_comp, r_compif, r_slc, ld_nil, ld_val, ld_own, ld_bor, ld_none, wp_nil, wp_c, tg_nm, tg_tup, tg_nil, tg_c, e_chain, es_cont, es_brk, es_pass, p_min2, p_max2, p_l0, p_l1, p_l2, p_l3, p_l4, p_is0, p_not0, n_non, n_tup, i_seq, q_lst, q_tup, q_ro, y_tt, y_tn, y_ii, y_bi, y_bb, y_lv, y_lb, oO_some, slotR, l_0, l_s, v_0, v_s, R.bind_ok, R.bind_bad, R.bind_exc, es_raise, es_expr, rf_exc, e_isC, isC_err, ea_isC, o_isC, r_isC, r_srt, o_srt, lk_here, pd_nil, pd_c, sl_d, sl_s, okD_d, okD_l, okS_d, okS_l, rf_val, rf_own, fz_val, fz_own, tr_bl, t_bl, t_int, p_add, p_sub, p_neg, p_eq, p_ne, p_lt, p_le, p_gt, p_ge, p_abs, p_int, p_gcd, p_i0, p_i1, p_i2, p_i3, p_len2, p_len3, p_len4, p_t3, p_t4, p_t2, List.map, List.cons_append, List.nil_append, List.append_nil, List.length_cons, List.length_nil, List.replicate, if_true, if_false, Bool.false_eq_true, Nat.reduceAdd, Nat.reduceSub, decide_eq_true_eq, eq_self, decide_true, Bool.not_true, Bool.not_false, Int.reduceEq, Int.reduceLT, Int.reduceLE, decide_false, f]
theorem den_larger (ha : Q j a) (hb : Q k b) (l : j + k ≤ 9000000) : f_larger.den [.val (fr a), .val (fr b)] = .ok (.val (fr (if a.1 * b.2 < b.1 * a.2 then b else a))) := by
  have f := den_below ha hb l
  refine den_of rfl ?_
  by_cases q : a.1 * b.2 < b.1 * a.2
  · rw [decide_eq_true q] at f
    rw [if_pos q]
    simp only [b_larger, es_nil, es_cons, es_asgN, es_asgT, es_par, es_if, es_for, es_ret, es_retN, o_prim, o_call, o_var, o_con, o_glob, o_isi, o_and, o_or, o_not, o_ite, o_chain, e_var, e_rd, e_int, e_bl, e_non, e_str, e_glob, e_prim, e_isi, e_call, e_and, e_or, e_not, e_ite, ea_nil, ea_rd, ea_var, ea_con, ea_glob, ea_prim, ea_isi, ea_call, ea_and, ea_or, ea_not, ea_ite, ea_chain, ea_slc, ea_comp, ea_compif, r_var, r_prim, r_con, r_glob, r_call, r_isi, r_and, r_or, r_not, r_ite, r_chain, r_comp, r_compif, r_slc, ld_nil, ld_val, ld_own, ld_bor, ld_none, wp_nil, wp_c, tg_nm, tg_tup, tg_nil, tg_c, e_chain, es_cont, es_brk, es_pass, p_min2, p_max2, p_l0, p_l1, p_l2, p_l3, p_l4, p_is0, p_not0, n_non, n_tup, i_seq, q_lst, q_tup, q_ro, y_tt, y_tn, y_ii, y_bi, y_bb, y_lv, y_lb, oO_some, slotR, l_0, l_s, v_0, v_s, R.bind_ok, R.bind_bad, R.bind_exc, es_raise, es_expr, rf_exc, e_isC, isC_err, ea_isC, o_isC, r_isC, r_srt, o_srt, lk_here, pd_nil, pd_c, sl_d, sl_s, okD_d, okD_l, okS_d, okS_l, rf_val, rf_own, fz_val, fz_own, tr_bl, t_bl, t_int, p_add, p_sub, p_neg, p_eq, p_ne, p_lt, p_le, p_gt, p_ge, p_abs, p_int, p_gcd, p_i0, p_i1, p_i2, p_i3, p_len2, p_len3, p_len4, p_t3, p_t4, p_t2, List.map, List.cons_append, List.nil_append, List.append_nil, List.length_cons, List.length_nil, List.replicate, if_true, if_false, Bool.false_eq_true, Nat.reduceAdd, Nat.reduceSub, decide_eq_true_eq, eq_self, decide_true, Bool.not_true, Bool.not_false, Int.reduceEq, Int.reduceLT, Int.reduceLE, decide_false, f]
  · rw [decide_eq_false q] at f
    rw [if_neg q]
    simp only [b_larger, es_nil, es_cons, es_asgN, es_asgT, es_par, es_if, es_for, es_ret, es_retN, o_prim, o_call, o_var, o_con, o_glob, o_isi, o_and, o_or, o_not, o_ite, o_chain, e_var, e_rd, e_int, e_bl, e_non, e_str, e_glob, e_prim, e_isi, e_call, e_and, e_or, e_not, e_ite, ea_nil, ea_rd, ea_var, ea_con, ea_glob, ea_prim, ea_isi, ea_call, ea_and, ea_or, ea_not, ea_ite, ea_chain, ea_slc, ea_comp, ea_compif, r_var, r_prim, r_con, r_glob, r_call, r_isi, r_and, r_or, r_not, r_ite, r_chain, r_comp, r_compif, r_slc, ld_nil, ld_val, ld_own, ld_bor, ld_none, wp_nil, wp_c, tg_nm, tg_tup, tg_nil, tg_c, e_chain, es_cont, es_brk, es_pass, p_min2, p_max2, p_l0, p_l1, p_l2, p_l3, p_l4, p_is0, p_not0, n_non, n_tup, i_seq, q_lst, q_tup, q_ro, y_tt, y_tn, y_ii, y_bi, y_bb, y_lv, y_lb, oO_some, slotR, l_0, l_s, v_0, v_s, R.bind_ok, R.bind_bad, R.bind_exc, es_raise, es_expr, rf_exc, e_isC, isC_err, ea_isC, o_isC, r_isC, r_srt, o_srt, lk_here, pd_nil, pd_c, sl_d, sl_s, okD_d, okD_l, okS_d, okS_l, rf_val, rf_own, fz_val, fz_own, tr_bl, t_bl, t_int, p_add, p_sub, p_neg, p_eq, p_ne, p_lt, p_le, p_gt, p_ge, p_abs, p_int, p_gcd, p_i0, p_i1, p_i2, p_i3, p_len2, p_len3, p_len4, p_t3, p_t4, p_t2, List.map, List.cons_append, List.nil_append, List.append_nil, List.length_cons, List.length_nil, List.replicate, if_true, if_false, Bool.false_eq_true, Nat.reduceAdd, Nat.reduceSub, decide_eq_true_eq, eq_self, decide_true, Bool.not_true, Bool.not_false, Int.reduceEq, Int.reduceLT, Int.reduceLE, decide_false, f]
theorem q_half : Q 2 ((1, 2) : Int × Int) := ⟨by decide, bd_lit rfl, bd_lit rfl, by decide⟩
theorem q_zero : Q 1 ((0, 1) : Int × Int) := ⟨by decide, bd_lit rfl, bd_lit rfl, by decide⟩
theorem q_one : Q 1 ((1, 1) : Int × Int) := ⟨by decide, bd_lit rfl, bd_lit rfl, by decide⟩
theorem den_middle (ha : Q j a) (hb : Q k b) (l : j + k ≤ 8000000) : f_middle.den [.val (fr a), .val (fr b)] = .ok (.val (fr (qtimes (qplus a b) (1, 2)))) := by
  have f := den_plus ha hb (by omega)
  have g := den_times (q_plus ha hb) q_half (by omega)
  refine den_of rfl ?_
  simp only [b_middle, es_nil, es_cons, es_asgN, es_asgT, es_par, es_if, es_for, es_ret, es_retN, o_prim, o_call, o_var, o_con, o_glob, o_isi, o_and, o_or, o_not, o_ite, o_chain, e_var, e_rd, e_int, e_bl, e_non, e_str, e_glob, e_prim, e_isi, e_call, e_and, e_or, e_not, e_ite, ea_nil, ea_rd, ea_var, ea_con, ea_glob, ea_prim, ea_isi, ea_call, ea_and, ea_or, ea_not, ea_ite, ea_chain, ea_slc, ea_comp, ea_compif, r_var, r_prim, r_con, r_glob, r_call, r_isi, r_and, r_or, r_not, r_ite, r_chain, r_comp, r_compif, r_slc, ld_nil, ld_val, ld_own, ld_bor, ld_none, wp_nil, wp_c, tg_nm, tg_tup, tg_nil, tg_c, e_chain, es_cont, es_brk, es_pass, p_min2, p_max2, p_l0, p_l1, p_l2, p_l3, p_l4, p_is0, p_not0, n_non, n_tup, i_seq, q_lst, q_tup, q_ro, y_tt, y_tn, y_ii, y_bi, y_bb, y_lv, y_lb, oO_some, slotR, l_0, l_s, v_0, v_s, R.bind_ok, R.bind_bad, R.bind_exc, es_raise, es_expr, rf_exc, e_isC, isC_err, ea_isC, o_isC, r_isC, r_srt, o_srt, lk_here, pd_nil, pd_c, sl_d, sl_s, okD_d, okD_l, okS_d, okS_l, rf_val, rf_own, fz_val, fz_own, tr_bl, t_bl, t_int, p_add, p_sub, p_neg, p_eq, p_ne, p_lt, p_le, p_gt, p_ge, p_abs, p_int, p_gcd, p_i0, p_i1, p_i2, p_i3, p_len2, p_len3, p_len4, p_t3, p_t4, p_t2, List.map, List.cons_append, List.nil_append, List.append_nil, List.length_cons, List.length_nil, List.replicate, if_true, if_false, Bool.false_eq_true, Nat.reduceAdd, Nat.reduceSub, decide_eq_true_eq, eq_self, decide_true, Bool.not_true, Bool.not_false, Int.reduceEq, Int.reduceLT, Int.reduceLE, decide_false, f, g]
theorem den_round_up (h : 0 < a.2) : f_round_up.den [.val (fr a)] = .ok (.val (.int (-((-a.1).fdiv a.2)))) := by
  refine den_of rfl ?_
  simp only [b_round_up, es_nil, es_cons, es_asgN, es_asgT, es_par, es_if, es_for, es_ret, es_retN, o_prim, o_call, o_var, o_con, o_glob, o_isi, o_and, o_or, o_not, o_ite, o_chain, e_var, e_rd, e_int, e_bl, e_non, e_str, e_glob, e_prim, e_isi, e_call, e_and, e_or, e_not, e_ite, ea_nil, ea_rd, ea_var, ea_con, ea_glob, ea_prim, ea_isi, ea_call, ea_and, ea_or, ea_not, ea_ite, ea_chain, ea_slc, ea_comp, ea_compif, r_var, r_prim, r_con, r_glob, r_call, r_isi, r_and, r_or, r_not, r_ite, r_chain, r_comp, r_compif, r_slc, ld_nil, ld_val, ld_own, ld_bor, ld_none, wp_nil, wp_c, tg_nm, tg_tup, tg_nil, tg_c, e_chain, es_cont, es_brk, es_pass, p_min2, p_max2, p_l0, p_l1, p_l2, p_l3, p_l4, p_is0, p_not0, n_non, n_tup, i_seq, q_lst, q_tup, q_ro, y_tt, y_tn, y_ii, y_bi, y_bb, y_lv, y_lb, oO_some, slotR, l_0, l_s, v_0, v_s, R.bind_ok, R.bind_bad, R.bind_exc, es_raise, es_expr, rf_exc, e_isC, isC_err, ea_isC, o_isC, r_isC, r_srt, o_srt, lk_here, pd_nil, pd_c, sl_d, sl_s, okD_d, okD_l, okS_d, okS_l, rf_val, rf_own, fz_val, fz_own, tr_bl, t_bl, t_int, p_add, p_sub, p_neg, p_eq, p_ne, p_lt, p_le, p_gt, p_ge, p_abs, p_int, p_gcd, p_i0, p_i1, p_i2, p_i3, p_len2, p_len3, p_len4, p_t3, p_t4, p_t2, List.map, List.cons_append, List.nil_append, List.append_nil, List.length_cons, List.length_nil, List.replicate, if_true, if_false, Bool.false_eq_true, Nat.reduceAdd, Nat.reduceSub, decide_eq_true_eq, eq_self, decide_true, Bool.not_true, Bool.not_false, Int.reduceEq, Int.reduceLT, Int.reduceLE, decide_false, p_fdiv _ _ (show a.2 ≠ 0 by omega)]
end
/-! sums and powers -/
def qsum (l : List (Int × Int)) : Int × Int := l.foldl qplus (0, 1)
theorem q_fold : ∀ (l : List (Int × Int)) {k : Nat} {s : Int × Int} {i : Nat}, Q i s → (∀ a ∈ l, Q k a) → Q (i + l.length * (k + 1)) (l.foldl qplus s)
  | [], k, s, i, h, _ => by simpa using h
  | a :: l, k, s, i, h, hl => by
    have := q_fold l (q_plus h (hl a (List.mem_cons_self ..))) fun x hx => hl x (List.mem_cons_of_mem _ hx)
    refine this.mono ?_
    rw [List.length_cons, Nat.add_mul]
    omega
abbrev frs (l : List (Int × Int)) : List D := l.map fr
theorem take_fold {α β : Type} (f : β → α → β) (s : β) {l : List α} {i : Nat} {x : α} (h : l[i]? = some x) : (l.take (i + 1)).foldl f s = f ((l.take i).foldl f s) x := by
  rw [List.take_add_one, h, List.foldl_append]
  rfl
theorem den_total {k : Nat} {l : List (Int × Int)} (h : ∀ a ∈ l, Q k a) (hl : l.length * (k + 1) ≤ 4000000) : f_total.den [.val (.lst (frs l))] = .ok (.val (fr (qsum l))) := by
  refine den_of rfl ?_
  unfold b_total
  refine step (e2 := [some (.val (.lst (frs l))), some (.val (fr (0, 1))), none]) (by simp only [es_nil, es_cons, es_asgN, es_asgT, es_par, es_if, es_for, es_ret, es_retN, o_prim, o_call, o_var, o_con, o_glob, o_isi, o_and, o_or, o_not, o_ite, o_chain, e_var, e_rd, e_int, e_bl, e_non, e_str, e_glob, e_prim, e_isi, e_call, e_and, e_or, e_not, e_ite, ea_nil, ea_rd, ea_var, ea_con, ea_glob, ea_prim, ea_isi, ea_call, ea_and, ea_or, ea_not, ea_ite, ea_chain, ea_slc, ea_comp, ea_compif, r_var, r_prim, r_con, r_glob, r_call, r_isi, r_and, r_or, r_not, r_ite, r_chain, r_comp, r_compif, r_slc, ld_nil, ld_val, ld_own, ld_bor, ld_none, wp_nil, wp_c, tg_nm, tg_tup, tg_nil, tg_c, e_chain, es_cont, es_brk, es_pass, p_min2, p_max2, p_l0, p_l1, p_l2, p_l3, p_l4, p_is0, p_not0, n_non, n_tup, i_seq, q_lst, q_tup, q_ro, y_tt, y_tn, y_ii, y_bi, y_bb, y_lv, y_lb, oO_some, slotR, l_0, l_s, v_0, v_s, R.bind_ok, R.bind_bad, R.bind_exc, es_raise, es_expr, rf_exc, e_isC, isC_err, ea_isC, o_isC, r_isC, r_srt, o_srt, lk_here, pd_nil, pd_c, sl_d, sl_s, okD_d, okD_l, okS_d, okS_l, rf_val, rf_own, fz_val, fz_own, tr_bl, t_bl, t_int, p_add, p_sub, p_neg, p_eq, p_ne, p_lt, p_le, p_gt, p_ge, p_abs, p_int, p_gcd, p_i0, p_i1, p_i2, p_i3, p_len2, p_len3, p_len4, p_t3, p_t4, p_t2, List.map, List.cons_append, List.nil_append, List.append_nil, List.length_cons, List.length_nil, List.replicate, if_true, if_false, Bool.false_eq_true, Nat.reduceAdd, Nat.reduceSub, decide_eq_true_eq, eq_self, decide_true, Bool.not_true, Bool.not_false, Int.reduceEq, Int.reduceLT, Int.reduceLE, decide_false]) ?_
  refine stepE_count (P := fun R => R = .ok (.rt (.val (fr (qsum l))))) (fun a : Int × Int => fr a) (fun i e => ∃ x, e = [some (.val (.lst (frs l))), some (.val (fr ((l.take i).foldl qplus (0, 1)))), x]) l (e1 := [some (.val (.lst (frs l))), some (.val (fr (0, 1))), none]) rfl ?_ ⟨_, rfl⟩ ?_
  · rintro i a ha e ⟨x, rfl⟩
    have hi : i < l.length := by
      by_cases q : i < l.length
      · exact q
      · rw [List.getElem?_eq_none (by omega)] at ha; cases ha
    have hs := q_fold (l.take i) (k := k) q_zero fun y hy => h y (List.mem_of_mem_take hy)
    rw [List.length_take, Nat.min_eq_left (by omega)] at hs
    have ha' := h a (List.mem_of_getElem? ha)
    have b1 : i * (k + 1) ≤ l.length * (k + 1) := Nat.mul_le_mul_right _ (by omega)
    have b2 : k + 1 ≤ l.length * (k + 1) := Nat.le_mul_of_pos_left _ (by omega)
    have f := den_plus hs ha' (by omega)
    refine ⟨_, [some (.val (.lst (frs l))), some (.val (fr ((l.take (i + 1)).foldl qplus (0, 1)))), some (.val (fr a))], rfl, .inl ?_, _, rfl⟩
    rw [take_fold qplus (0, 1) ha]
    simp only [es_nil, es_cons, es_asgN, es_asgT, es_par, es_if, es_for, es_ret, es_retN, o_prim, o_call, o_var, o_con, o_glob, o_isi, o_and, o_or, o_not, o_ite, o_chain, e_var, e_rd, e_int, e_bl, e_non, e_str, e_glob, e_prim, e_isi, e_call, e_and, e_or, e_not, e_ite, ea_nil, ea_rd, ea_var, ea_con, ea_glob, ea_prim, ea_isi, ea_call, ea_and, ea_or, ea_not, ea_ite, ea_chain, ea_slc, ea_comp, ea_compif, r_var, r_prim, r_con, r_glob, r_call, r_isi, r_and, r_or, r_not, r_ite, r_chain, r_comp, r_compif, r_slc, ld_nil, ld_val, ld_own, ld_bor, ld_none, wp_nil, wp_c, tg_nm, tg_tup, tg_nil, tg_c, e_chain, es_cont, es_brk, es_pass, p_min2, p_max2, p_l0, p_l1, p_l2, p_l3, p_l4, p_is0, p_not0, n_non, n_tup, i_seq, q_lst, q_tup, q_ro, y_tt, y_tn, y_ii, y_bi, y_bb, y_lv, y_lb, oO_some, slotR, l_0, l_s, v_0, v_s, R.bind_ok, R.bind_bad, R.bind_exc, es_raise, es_expr, rf_exc, e_isC, isC_err, ea_isC, o_isC, r_isC, r_srt, o_srt, lk_here, pd_nil, pd_c, sl_d, sl_s, okD_d, okD_l, okS_d, okS_l, rf_val, rf_own, fz_val, fz_own, tr_bl, t_bl, t_int, p_add, p_sub, p_neg, p_eq, p_ne, p_lt, p_le, p_gt, p_ge, p_abs, p_int, p_gcd, p_i0, p_i1, p_i2, p_i3, p_len2, p_len3, p_len4, p_t3, p_t4, p_t2, List.map, List.cons_append, List.nil_append, List.append_nil, List.length_cons, List.length_nil, List.replicate, if_true, if_false, Bool.false_eq_true, Nat.reduceAdd, Nat.reduceSub, decide_eq_true_eq, eq_self, decide_true, Bool.not_true, Bool.not_false, Int.reduceEq, Int.reduceLT, Int.reduceLE, decide_false, f]
  · rintro e ⟨x, rfl⟩
    rw [List.take_length]
    simp only [es_nil, es_cons, es_asgN, es_asgT, es_par, es_if, es_for, es_ret, es_retN, o_prim, o_call, o_var, o_con, o_glob, o_isi, o_and, o_or, o_not, o_ite, o_chain, e_var, e_rd, e_int, e_bl, e_non, e_str, e_glob, e_prim, e_isi, e_call, e_and, e_or, e_not, e_ite, ea_nil, ea_rd, ea_var, ea_con, ea_glob, ea_prim, ea_isi, ea_call, ea_and, ea_or, ea_not, ea_ite, ea_chain, ea_slc, ea_comp, ea_compif, r_var, r_prim, r_con, r_glob, r_call, r_isi, r_and, r_or, r_not, r_ite, r_chain, r_comp, r_compif, r_slc, ld_nil, ld_val, ld_own, ld_bor, ld_none, wp_nil, wp_c, tg_nm, tg_tup, tg_nil, tg_c, e_chain, es_cont, es_brk, es_pass, p_min2, p_max2, p_l0, p_l1, p_l2, p_l3, p_l4, p_is0, p_not0, n_non, n_tup, i_seq, q_lst, q_tup, q_ro, y_tt, y_tn, y_ii, y_bi, y_bb, y_lv, y_lb, oO_some, slotR, l_0, l_s, v_0, v_s, R.bind_ok, R.bind_bad, R.bind_exc, es_raise, es_expr, rf_exc, e_isC, isC_err, ea_isC, o_isC, r_isC, r_srt, o_srt, lk_here, pd_nil, pd_c, sl_d, sl_s, okD_d, okD_l, okS_d, okS_l, rf_val, rf_own, fz_val, fz_own, tr_bl, t_bl, t_int, p_add, p_sub, p_neg, p_eq, p_ne, p_lt, p_le, p_gt, p_ge, p_abs, p_int, p_gcd, p_i0, p_i1, p_i2, p_i3, p_len2, p_len3, p_len4, p_t3, p_t4, p_t2, List.map, List.cons_append, List.nil_append, List.append_nil, List.length_cons, List.length_nil, List.replicate, if_true, if_false, Bool.false_eq_true, Nat.reduceAdd, Nat.reduceSub, decide_eq_true_eq, eq_self, decide_true, Bool.not_true, Bool.not_false, Int.reduceEq, Int.reduceLT, Int.reduceLE, decide_false]
    rfl
/-- a to the k -/
def qpow (a : Int × Int) : Nat → Int × Int
  | 0 => (1, 1)
  | k + 1 => qtimes (qpow a k) a
theorem q_pow {k : Nat} {a : Int × Int} (h : Q k a) : ∀ n, Q (1 + n * k) (qpow a n)
  | 0 => by show Q _ ((1, 1) : Int × Int); exact q_one.mono (by omega)
  | n + 1 => (q_times (q_pow h n) h).mono (by rw [Nat.add_mul]; omega)
theorem den_power {k n : Nat} {a : Int × Int} (h : Q k a) (hn : n ≤ 1000) (hk : k ≤ 8000) : f_power.den [.val (fr a), .val (.int (n : Int))] = .ok (.val (fr (qpow a n))) := by
  refine den_of rfl ?_
  unfold b_power
  refine step (e2 := [some (.val (fr a)), some (.val (.int (n : Int))), some (.val (fr (1, 1))), none]) (by simp only [es_nil, es_cons, es_asgN, es_asgT, es_par, es_if, es_for, es_ret, es_retN, o_prim, o_call, o_var, o_con, o_glob, o_isi, o_and, o_or, o_not, o_ite, o_chain, e_var, e_rd, e_int, e_bl, e_non, e_str, e_glob, e_prim, e_isi, e_call, e_and, e_or, e_not, e_ite, ea_nil, ea_rd, ea_var, ea_con, ea_glob, ea_prim, ea_isi, ea_call, ea_and, ea_or, ea_not, ea_ite, ea_chain, ea_slc, ea_comp, ea_compif, r_var, r_prim, r_con, r_glob, r_call, r_isi, r_and, r_or, r_not, r_ite, r_chain, r_comp, r_compif, r_slc, ld_nil, ld_val, ld_own, ld_bor, ld_none, wp_nil, wp_c, tg_nm, tg_tup, tg_nil, tg_c, e_chain, es_cont, es_brk, es_pass, p_min2, p_max2, p_l0, p_l1, p_l2, p_l3, p_l4, p_is0, p_not0, n_non, n_tup, i_seq, q_lst, q_tup, q_ro, y_tt, y_tn, y_ii, y_bi, y_bb, y_lv, y_lb, oO_some, slotR, l_0, l_s, v_0, v_s, R.bind_ok, R.bind_bad, R.bind_exc, es_raise, es_expr, rf_exc, e_isC, isC_err, ea_isC, o_isC, r_isC, r_srt, o_srt, lk_here, pd_nil, pd_c, sl_d, sl_s, okD_d, okD_l, okS_d, okS_l, rf_val, rf_own, fz_val, fz_own, tr_bl, t_bl, t_int, p_add, p_sub, p_neg, p_eq, p_ne, p_lt, p_le, p_gt, p_ge, p_abs, p_int, p_gcd, p_i0, p_i1, p_i2, p_i3, p_len2, p_len3, p_len4, p_t3, p_t4, p_t2, List.map, List.cons_append, List.nil_append, List.append_nil, List.length_cons, List.length_nil, List.replicate, if_true, if_false, Bool.false_eq_true, Nat.reduceAdd, Nat.reduceSub, decide_eq_true_eq, eq_self, decide_true, Bool.not_true, Bool.not_false, Int.reduceEq, Int.reduceLT, Int.reduceLE, decide_false]) ?_
  refine stepE_count (P := fun R => R = .ok (.rt (.val (fr (qpow a n))))) (fun (k : Nat) => D.int (k : Int)) (fun i e => ∃ x, e = [some (.val (fr a)), some (.val (.int (n : Int))), some (.val (fr (qpow a i))), x]) (List.range n) (e1 := [some (.val (fr a)), some (.val (.int (n : Int))), some (.val (fr (1, 1))), none])
    (i_rngN (q := [.d (.int (n : Int))]) (by simp only [es_nil, es_cons, es_asgN, es_asgT, es_par, es_if, es_for, es_ret, es_retN, o_prim, o_call, o_var, o_con, o_glob, o_isi, o_and, o_or, o_not, o_ite, o_chain, e_var, e_rd, e_int, e_bl, e_non, e_str, e_glob, e_prim, e_isi, e_call, e_and, e_or, e_not, e_ite, ea_nil, ea_rd, ea_var, ea_con, ea_glob, ea_prim, ea_isi, ea_call, ea_and, ea_or, ea_not, ea_ite, ea_chain, ea_slc, ea_comp, ea_compif, r_var, r_prim, r_con, r_glob, r_call, r_isi, r_and, r_or, r_not, r_ite, r_chain, r_comp, r_compif, r_slc, ld_nil, ld_val, ld_own, ld_bor, ld_none, wp_nil, wp_c, tg_nm, tg_tup, tg_nil, tg_c, e_chain, es_cont, es_brk, es_pass, p_min2, p_max2, p_l0, p_l1, p_l2, p_l3, p_l4, p_is0, p_not0, n_non, n_tup, i_seq, q_lst, q_tup, q_ro, y_tt, y_tn, y_ii, y_bi, y_bb, y_lv, y_lb, oO_some, slotR, l_0, l_s, v_0, v_s, R.bind_ok, R.bind_bad, R.bind_exc, es_raise, es_expr, rf_exc, e_isC, isC_err, ea_isC, o_isC, r_isC, r_srt, o_srt, lk_here, pd_nil, pd_c, sl_d, sl_s, okD_d, okD_l, okS_d, okS_l, rf_val, rf_own, fz_val, fz_own, tr_bl, t_bl, t_int, p_add, p_sub, p_neg, p_eq, p_ne, p_lt, p_le, p_gt, p_ge, p_abs, p_int, p_gcd, p_i0, p_i1, p_i2, p_i3, p_len2, p_len3, p_len4, p_t3, p_t4, p_t2, List.map, List.cons_append, List.nil_append, List.append_nil, List.length_cons, List.length_nil, List.replicate, if_true, if_false, Bool.false_eq_true, Nat.reduceAdd, Nat.reduceSub, decide_eq_true_eq, eq_self, decide_true, Bool.not_true, Bool.not_false, Int.reduceEq, Int.reduceLT, Int.reduceLE, decide_false]) rfl (by omega)) ?_ ⟨_, rfl⟩ ?_
  · rintro i x hx e ⟨y, rfl⟩
    obtain ⟨rfl, hi⟩ := range_at hx
    have b : x * k ≤ 1000 * 8000 := Nat.mul_le_mul (by omega) hk
    have f := den_times (q_pow h x) h (by omega)
    refine ⟨_, [some (.val (fr a)), some (.val (.int (n : Int))), some (.val (fr (qpow a (x + 1)))), some (.val (.int (x : Int)))], rfl, .inl ?_, _, rfl⟩
    simp only [es_nil, es_cons, es_asgN, es_asgT, es_par, es_if, es_for, es_ret, es_retN, o_prim, o_call, o_var, o_con, o_glob, o_isi, o_and, o_or, o_not, o_ite, o_chain, e_var, e_rd, e_int, e_bl, e_non, e_str, e_glob, e_prim, e_isi, e_call, e_and, e_or, e_not, e_ite, ea_nil, ea_rd, ea_var, ea_con, ea_glob, ea_prim, ea_isi, ea_call, ea_and, ea_or, ea_not, ea_ite, ea_chain, ea_slc, ea_comp, ea_compif, r_var, r_prim, r_con, r_glob, r_call, r_isi, r_and, r_or, r_not, r_ite, r_chain, r_comp, r_compif, r_slc, ld_nil, ld_val, ld_own, ld_bor, ld_none, wp_nil, wp_c, tg_nm, tg_tup, tg_nil, tg_c, e_chain, es_cont, es_brk, es_pass, p_min2, p_max2, p_l0, p_l1, p_l2, p_l3, p_l4, p_is0, p_not0, n_non, n_tup, i_seq, q_lst, q_tup, q_ro, y_tt, y_tn, y_ii, y_bi, y_bb, y_lv, y_lb, oO_some, slotR, l_0, l_s, v_0, v_s, R.bind_ok, R.bind_bad, R.bind_exc, es_raise, es_expr, rf_exc, e_isC, isC_err, ea_isC, o_isC, r_isC, r_srt, o_srt, lk_here, pd_nil, pd_c, sl_d, sl_s, okD_d, okD_l, okS_d, okS_l, rf_val, rf_own, fz_val, fz_own, tr_bl, t_bl, t_int, p_add, p_sub, p_neg, p_eq, p_ne, p_lt, p_le, p_gt, p_ge, p_abs, p_int, p_gcd, p_i0, p_i1, p_i2, p_i3, p_len2, p_len3, p_len4, p_t3, p_t4, p_t2, List.map, List.cons_append, List.nil_append, List.append_nil, List.length_cons, List.length_nil, List.replicate, if_true, if_false, Bool.false_eq_true, Nat.reduceAdd, Nat.reduceSub, decide_eq_true_eq, eq_self, decide_true, Bool.not_true, Bool.not_false, Int.reduceEq, Int.reduceLT, Int.reduceLE, decide_false, f]
    rfl
  · rintro e ⟨x, rfl⟩
    rw [List.length_range]
    simp only [es_nil, es_cons, es_asgN, es_asgT, es_par, es_if, es_for, es_ret, es_retN, o_prim, o_call, o_var, o_con, o_glob, o_isi, o_and, o_or, o_not, o_ite, o_chain, e_var, e_rd, e_int, e_bl, e_non, e_str, e_glob, e_prim, e_isi, e_call, e_and, e_or, e_not, e_ite, ea_nil, ea_rd, ea_var, ea_con, ea_glob, ea_prim, ea_isi, ea_call, ea_and, ea_or, ea_not, ea_ite, ea_chain, ea_slc, ea_comp, ea_compif, r_var, r_prim, r_con, r_glob, r_call, r_isi, r_and, r_or, r_not, r_ite, r_chain, r_comp, r_compif, r_slc, ld_nil, ld_val, ld_own, ld_bor, ld_none, wp_nil, wp_c, tg_nm, tg_tup, tg_nil, tg_c, e_chain, es_cont, es_brk, es_pass, p_min2, p_max2, p_l0, p_l1, p_l2, p_l3, p_l4, p_is0, p_not0, n_non, n_tup, i_seq, q_lst, q_tup, q_ro, y_tt, y_tn, y_ii, y_bi, y_bb, y_lv, y_lb, oO_some, slotR, l_0, l_s, v_0, v_s, R.bind_ok, R.bind_bad, R.bind_exc, es_raise, es_expr, rf_exc, e_isC, isC_err, ea_isC, o_isC, r_isC, r_srt, o_srt, lk_here, pd_nil, pd_c, sl_d, sl_s, okD_d, okD_l, okS_d, okS_l, rf_val, rf_own, fz_val, fz_own, tr_bl, t_bl, t_int, p_add, p_sub, p_neg, p_eq, p_ne, p_lt, p_le, p_gt, p_ge, p_abs, p_int, p_gcd, p_i0, p_i1, p_i2, p_i3, p_len2, p_len3, p_len4, p_t3, p_t4, p_t2, List.map, List.cons_append, List.nil_append, List.append_nil, List.length_cons, List.length_nil, List.replicate, if_true, if_false, Bool.false_eq_true, Nat.reduceAdd, Nat.reduceSub, decide_eq_true_eq, eq_self, decide_true, Bool.not_true, Bool.not_false, Int.reduceEq, Int.reduceLT, Int.reduceLE, decide_false]
/-! ### in rising order -/
/-- a is not above b -/
def leF (a b : Int × Int) : Prop := a.1 * b.2 ≤ b.1 * a.2
instance : DecidableRel leF := fun a b => inferInstanceAs (Decidable (a.1 * b.2 ≤ b.1 * a.2))
def insA (x : Int × Int) : List (Int × Int) → List (Int × Int)
  | [] => [x]
  | y :: r => if leF x y then x :: y :: r else y :: insA x r
def asc : List (Int × Int) → List (Int × Int)
  | [] => []
  | x :: r => insA x (asc r)
theorem insA_mem {x p : Int × Int} : ∀ {l : List (Int × Int)}, p ∈ insA x l ↔ p = x ∨ p ∈ l
  | [] => by simp [insA]
  | y :: r => by
    unfold insA
    split
    · simp
    · rw [List.mem_cons, insA_mem, List.mem_cons]
      constructor
      · rintro (h | h | h) <;> simp [h]
      · rintro (h | h | h) <;> simp [h]
theorem asc_mem {p : Int × Int} : ∀ {l : List (Int × Int)}, p ∈ asc l ↔ p ∈ l
  | [] => by simp [asc]
  | x :: r => by unfold asc; rw [insA_mem, asc_mem, List.mem_cons]
theorem insA_len {x : Int × Int} : ∀ {l : List (Int × Int)}, (insA x l).length = l.length + 1
  | [] => rfl
  | y :: r => by
    unfold insA
    split
    · rfl
    · rw [List.length_cons, insA_len, List.length_cons]
theorem asc_len : ∀ {l : List (Int × Int)}, (asc l).length = l.length
  | [] => rfl
  | x :: r => by unfold asc; rw [insA_len, asc_len, List.length_cons]
/-- c is a common multiple -/
structure Com (c : Int) (l : List (Int × Int)) : Prop where
  pos : 0 < c
  dvd : ∀ a ∈ l, 0 < a.2 ∧ a.2 ∣ c
abbrev keyF (c : Int) (a : Int × Int) : Int := a.1 * c.fdiv a.2
theorem key_le {c : Int} {a b : Int × Int} (hc : 0 < c) (ha : 0 < a.2 ∧ a.2 ∣ c) (hb : 0 < b.2 ∧ b.2 ∣ c) : keyF c a ≤ keyF c b ↔ leF a b := by
  obtain ⟨u, hu⟩ := ha.2
  obtain ⟨v, hv⟩ := hb.2
  have e1 : c.fdiv a.2 = u := by rw [Int.fdiv_eq_ediv_of_nonneg _ (Int.le_of_lt ha.1), hu, Int.mul_ediv_cancel_left _ (by omega)]
  have e2 : c.fdiv b.2 = v := by rw [Int.fdiv_eq_ediv_of_nonneg _ (Int.le_of_lt hb.1), hv, Int.mul_ediv_cancel_left _ (by omega)]
  unfold keyF leF
  rw [e1, e2]
  have hp : 0 < a.2 * b.2 := Int.mul_pos ha.1 hb.1
  have k1 : a.1 * u * (a.2 * b.2) = a.1 * b.2 * c := by rw [hu]; grind
  have k2 : b.1 * v * (a.2 * b.2) = b.1 * a.2 * c := by rw [hv]; grind
  constructor
  · intro h
    have := Int.mul_le_mul_of_nonneg_right h (Int.le_of_lt hp)
    rw [k1, k2] at this
    exact Int.le_of_mul_le_mul_right this hc
  · intro h
    have := Int.mul_le_mul_of_nonneg_right h (Int.le_of_lt hc)
    rw [← k1, ← k2] at this
    exact Int.le_of_mul_le_mul_right this hp
abbrev keyed (c : Int) (l : List (Int × Int)) : List (Int × D) := l.map fun a => (keyF c a, fr a)
theorem insA_key {c : Int} {x : Int × Int} : ∀ {l : List (Int × Int)}, Com c (x :: l) → insK (keyF c x, fr x) (keyed c l) = keyed c (insA x l)
  | [], _ => rfl
  | y :: r, h => by
    have e := key_le h.pos (h.dvd x (by simp)) (h.dvd y (by simp))
    unfold insA
    show (if keyF c x ≤ keyF c y then (keyF c x, fr x) :: (keyF c y, fr y) :: keyed c r else (keyF c y, fr y) :: insK (keyF c x, fr x) (keyed c r)) = _
    by_cases q : leF x y
    · rw [if_pos (e.mpr q), if_pos q]; rfl
    · rw [if_neg (fun z => q (e.mp z)), if_neg q, insA_key ⟨h.pos, fun a ha => h.dvd a (by simp at ha ⊢; rcases ha with z | z <;> simp [z])⟩]; rfl
theorem asc_key {c : Int} : ∀ {l : List (Int × Int)}, Com c l → sortK (keyed c l) = keyed c (asc l)
  | [], _ => rfl
  | x :: r, h => by
    have h2 : Com c r := ⟨h.pos, fun a ha => h.dvd a (List.mem_cons_of_mem _ ha)⟩
    show insK (keyF c x, fr x) (sortK (keyed c r)) = _
    rw [asc_key h2]
    exact insA_key ⟨h.pos, fun a ha => h.dvd a (by
      rcases List.mem_cons.mp ha with z | z
      · simp [z]
      · exact List.mem_cons_of_mem _ (asc_mem.mp z))⟩
def lcms (l : List (Int × Int)) : Int := l.foldl (fun c a => ((Int.lcm c a.2 : Nat) : Int)) 1
theorem lcm_bd {j k : Nat} {a b : Int} (h : Bd j a) (q : Bd k b) : Bd (j + k) ((Int.lcm a b : Nat) : Int) := by
  unfold Bd at *
  rw [Int.natAbs_natCast]
  rcases Nat.eq_zero_or_pos (Int.lcm a b) with z | z
  · rw [z]; exact Nat.pow_pos (by decide)
  · have h1 : Int.lcm a b ≤ a.natAbs * b.natAbs := by
      show Nat.lcm a.natAbs b.natAbs ≤ _
      rcases Nat.eq_zero_or_pos (a.natAbs * b.natAbs) with y | y
      · rcases Nat.mul_eq_zero.mp y with w | w <;> rw [w] <;> simp
      · exact Nat.le_of_dvd y (Nat.lcm_dvd (Nat.dvd_mul_right _ _) (Nat.dvd_mul_left _ _))
    rw [Nat.pow_add]
    refine Nat.lt_of_le_of_lt h1 ?_
    rcases Nat.eq_zero_or_pos b.natAbs with y | y
    · rw [y, Nat.mul_zero]; exact Nat.mul_pos (Nat.pow_pos (by decide)) (Nat.pow_pos (by decide))
    · exact Nat.lt_of_lt_of_le (Nat.mul_lt_mul_of_pos_right h y) (Nat.mul_le_mul_left _ (Nat.le_of_lt q))
theorem lcms_fold : ∀ (l : List (Int × Int)) {k i : Nat} {c : Int}, 0 < c → Bd i c → (∀ a ∈ l, Q k a) → 0 < l.foldl (fun c a => ((Int.lcm c a.2 : Nat) : Int)) c ∧ Bd (i + l.length * k) (l.foldl (fun c a => ((Int.lcm c a.2 : Nat) : Int)) c) ∧
    c ∣ l.foldl (fun c a => ((Int.lcm c a.2 : Nat) : Int)) c ∧ ∀ a ∈ l, a.2 ∣ l.foldl (fun c a => ((Int.lcm c a.2 : Nat) : Int)) c
  | [], k, i, c, h, b, _ => ⟨h, by simpa using b, Int.dvd_refl _, fun a ha => by simp at ha⟩
  | x :: l, k, i, c, h, b, hl => by
    have hx := hl x (List.mem_cons_self ..)
    have hp : 0 < ((Int.lcm c x.2 : Nat) : Int) := by
      have := Int.lcm_pos (show c ≠ 0 by omega) (show x.2 ≠ 0 by have := hx.pos; omega)
      omega
    obtain ⟨r1, r2, r3, r4⟩ := lcms_fold l hp (lcm_bd b hx.b2) fun a ha => hl a (List.mem_cons_of_mem _ ha)
    refine ⟨r1, r2.mono (by rw [List.length_cons, Nat.add_mul]; omega), Int.dvd_trans (Int.dvd_lcm_left ..) r3, fun a ha => ?_⟩
    rcases List.mem_cons.mp ha with e | e
    · rw [e]; exact Int.dvd_trans (Int.dvd_lcm_right ..) r3
    · exact r4 a e
theorem p_lcm {a b : Int} {j k : Nat} (h : Bd j a) (q : Bd k b) (hj : j ≤ 13000) (hk : k ≤ 13000) : evPrim .lcm [.val (.int a), .val (.int b)] = .d (.int (Int.lcm a b)) := by
  have h1 := (h.mono hj).log2 (by decide)
  have h2 := (q.mono hk).log2 (by decide)
  show (if decide (a.natAbs.log2 < 13000) && decide (b.natAbs.log2 < 13000) then Pr.d (.int (Int.lcm a b)) else .bad) = _
  rw [decide_eq_true h1, decide_eq_true h2]
  rfl
theorem keysD_frs {c : Int} : ∀ {l : List (Int × Int)}, (∀ a ∈ l, a.2 ≠ 0 ∧ mulOk a.1 (c.fdiv a.2) = true) → keysD c (frs l) = some (l.map (keyF c))
  | [], _ => rfl
  | a :: l, h => by
    have ha := h a (List.mem_cons_self ..)
    have ih := keysD_frs (c := c) (l := l) fun x hx => h x (List.mem_cons_of_mem _ hx)
    have k1 : keyD c (fr a) = some (keyF c a) := by
      show (if decide (a.2 ≠ 0) && mulOk a.1 (c.fdiv a.2) then some (a.1 * c.fdiv a.2) else none) = _
      rw [decide_eq_true ha.1, ha.2]
      rfl
    show (match keyD c (fr a), keysD c (frs l) with | some k, some ks => some (k :: ks) | _, _ => none) = _
    rw [k1, ih]
    rfl
theorem srt_frs {k : Nat} {c : Int} {l : List (Int × Int)} (hc : Com c l) (h : ∀ a ∈ l, Q k a) (bc : Bd 1000000 c) (hk : k ≤ 1000000) (hl : l.length ≤ lim) : srtD c (frs l) = .l (frs (asc l)) := by
  have h1 := keysD_frs (c := c) (l := l) fun a ha => ⟨by have := (h a ha).pos; omega, mulOk_of (h a ha).b1 (bc.fdiv _) (by omega)⟩
  unfold srtD
  rw [h1]
  dsimp only
  rw [if_pos (by simpa using hl)]
  have e : (l.map (keyF c)).zip (frs l) = keyed c l := by
    unfold frs keyed
    rw [List.zip_map']
  rw [e, asc_key hc]
  simp [keyed, frs, List.map_map, Function.comp_def]
theorem den_ascending {k : Nat} {l : List (Int × Int)} (h : ∀ a ∈ l, Q k a) (hl : l.length * k ≤ 12000) (h2 : l.length ≤ 1000) (hk : k ≤ 12000) : f_ascending.den [.val (.lst (frs l))] = .ok (.own (frs (asc l))) := by
  refine den_own rfl ?_
  unfold b_ascending
  refine step (e2 := [some (.val (.lst (frs l))), some (.val (.int 1)), none]) (by simp only [es_nil, es_cons, es_asgN, es_asgT, es_par, es_if, es_for, es_ret, es_retN, o_prim, o_call, o_var, o_con, o_glob, o_isi, o_and, o_or, o_not, o_ite, o_chain, e_var, e_rd, e_int, e_bl, e_non, e_str, e_glob, e_prim, e_isi, e_call, e_and, e_or, e_not, e_ite, ea_nil, ea_rd, ea_var, ea_con, ea_glob, ea_prim, ea_isi, ea_call, ea_and, ea_or, ea_not, ea_ite, ea_chain, ea_slc, ea_comp, ea_compif, r_var, r_prim, r_con, r_glob, r_call, r_isi, r_and, r_or, r_not, r_ite, r_chain, r_comp, r_compif, r_slc, ld_nil, ld_val, ld_own, ld_bor, ld_none, wp_nil, wp_c, tg_nm, tg_tup, tg_nil, tg_c, e_chain, es_cont, es_brk, es_pass, p_min2, p_max2, p_l0, p_l1, p_l2, p_l3, p_l4, p_is0, p_not0, n_non, n_tup, i_seq, q_lst, q_tup, q_ro, y_tt, y_tn, y_ii, y_bi, y_bb, y_lv, y_lb, oO_some, slotR, l_0, l_s, v_0, v_s, R.bind_ok, R.bind_bad, R.bind_exc, es_raise, es_expr, rf_exc, e_isC, isC_err, ea_isC, o_isC, r_isC, r_srt, o_srt, lk_here, pd_nil, pd_c, sl_d, sl_s, okD_d, okD_l, okS_d, okS_l, rf_val, rf_own, fz_val, fz_own, tr_bl, t_bl, t_int, p_add, p_sub, p_neg, p_eq, p_ne, p_lt, p_le, p_gt, p_ge, p_abs, p_int, p_gcd, p_i0, p_i1, p_i2, p_i3, p_len2, p_len3, p_len4, p_t3, p_t4, p_t2, List.map, List.cons_append, List.nil_append, List.append_nil, List.length_cons, List.length_nil, List.replicate, if_true, if_false, Bool.false_eq_true, Nat.reduceAdd, Nat.reduceSub, decide_eq_true_eq, eq_self, decide_true, Bool.not_true, Bool.not_false, Int.reduceEq, Int.reduceLT, Int.reduceLE, decide_false]) ?_
  refine stepE_count (P := fun R => R = .ok (.rt (.own (frs (asc l))))) (fun a : Int × Int => fr a) (fun i e => ∃ x, e = [some (.val (.lst (frs l))), some (.val (.int (lcms (l.take i)))), x]) l (e1 := [some (.val (.lst (frs l))), some (.val (.int 1)), none]) rfl ?_ ⟨_, rfl⟩ ?_
  · rintro i a ha e ⟨x, rfl⟩
    have hi : i < l.length := by
      by_cases q : i < l.length
      · exact q
      · rw [List.getElem?_eq_none (by omega)] at ha; cases ha
    obtain ⟨_, b, _⟩ := lcms_fold (l.take i) (k := k) (i := 1) (c := 1) (by decide) (bd_lit rfl) fun y hy => h y (List.mem_of_mem_take hy)
    rw [List.length_take, Nat.min_eq_left (by omega)] at b
    have b1 : i * k ≤ l.length * k := Nat.mul_le_mul_right _ (by omega)
    have f := p_lcm b (h a (List.mem_of_getElem? ha)).b2 (by omega) (by omega)
    refine ⟨_, [some (.val (.lst (frs l))), some (.val (.int (lcms (l.take (i + 1))))), some (.val (fr a))], rfl, .inl ?_, _, rfl⟩
    unfold lcms
    rw [take_fold _ 1 ha]
    simp only [es_nil, es_cons, es_asgN, es_asgT, es_par, es_if, es_for, es_ret, es_retN, o_prim, o_call, o_var, o_con, o_glob, o_isi, o_and, o_or, o_not, o_ite, o_chain, e_var, e_rd, e_int, e_bl, e_non, e_str, e_glob, e_prim, e_isi, e_call, e_and, e_or, e_not, e_ite, ea_nil, ea_rd, ea_var, ea_con, ea_glob, ea_prim, ea_isi, ea_call, ea_and, ea_or, ea_not, ea_ite, ea_chain, ea_slc, ea_comp, ea_compif, r_var, r_prim, r_con, r_glob, r_call, r_isi, r_and, r_or, r_not, r_ite, r_chain, r_comp, r_compif, r_slc, ld_nil, ld_val, ld_own, ld_bor, ld_none, wp_nil, wp_c, tg_nm, tg_tup, tg_nil, tg_c, e_chain, es_cont, es_brk, es_pass, p_min2, p_max2, p_l0, p_l1, p_l2, p_l3, p_l4, p_is0, p_not0, n_non, n_tup, i_seq, q_lst, q_tup, q_ro, y_tt, y_tn, y_ii, y_bi, y_bb, y_lv, y_lb, oO_some, slotR, l_0, l_s, v_0, v_s, R.bind_ok, R.bind_bad, R.bind_exc, es_raise, es_expr, rf_exc, e_isC, isC_err, ea_isC, o_isC, r_isC, r_srt, o_srt, lk_here, pd_nil, pd_c, sl_d, sl_s, okD_d, okD_l, okS_d, okS_l, rf_val, rf_own, fz_val, fz_own, tr_bl, t_bl, t_int, p_add, p_sub, p_neg, p_eq, p_ne, p_lt, p_le, p_gt, p_ge, p_abs, p_int, p_gcd, p_i0, p_i1, p_i2, p_i3, p_len2, p_len3, p_len4, p_t3, p_t4, p_t2, List.map, List.cons_append, List.nil_append, List.append_nil, List.length_cons, List.length_nil, List.replicate, if_true, if_false, Bool.false_eq_true, Nat.reduceAdd, Nat.reduceSub, decide_eq_true_eq, eq_self, decide_true, Bool.not_true, Bool.not_false, Int.reduceEq, Int.reduceLT, Int.reduceLE, decide_false, f]
  · rintro e ⟨x, rfl⟩
    rw [List.take_length]
    obtain ⟨p, b, _, d⟩ := lcms_fold l (k := k) (i := 1) (c := 1) (by decide) (bd_lit rfl) h
    have s := srt_frs (k := k) (c := lcms l) ⟨p, fun a ha => ⟨(h a ha).pos, d a ha⟩⟩ h (b.mono (by omega)) (by omega) (by unfold lim; omega)
    have s2 : srtP 0 1 [some (.val (.lst (frs l))), some (.val (.int (lcms l))), x] = .l (frs (asc l)) := s
    simp only [es_nil, es_cons, es_asgN, es_asgT, es_par, es_if, es_for, es_ret, es_retN, o_prim, o_call, o_var, o_con, o_glob, o_isi, o_and, o_or, o_not, o_ite, o_chain, e_var, e_rd, e_int, e_bl, e_non, e_str, e_glob, e_prim, e_isi, e_call, e_and, e_or, e_not, e_ite, ea_nil, ea_rd, ea_var, ea_con, ea_glob, ea_prim, ea_isi, ea_call, ea_and, ea_or, ea_not, ea_ite, ea_chain, ea_slc, ea_comp, ea_compif, r_var, r_prim, r_con, r_glob, r_call, r_isi, r_and, r_or, r_not, r_ite, r_chain, r_comp, r_compif, r_slc, ld_nil, ld_val, ld_own, ld_bor, ld_none, wp_nil, wp_c, tg_nm, tg_tup, tg_nil, tg_c, e_chain, es_cont, es_brk, es_pass, p_min2, p_max2, p_l0, p_l1, p_l2, p_l3, p_l4, p_is0, p_not0, n_non, n_tup, i_seq, q_lst, q_tup, q_ro, y_tt, y_tn, y_ii, y_bi, y_bb, y_lv, y_lb, oO_some, slotR, l_0, l_s, v_0, v_s, R.bind_ok, R.bind_bad, R.bind_exc, es_raise, es_expr, rf_exc, e_isC, isC_err, ea_isC, o_isC, r_isC, r_srt, o_srt, lk_here, pd_nil, pd_c, sl_d, sl_s, okD_d, okD_l, okS_d, okS_l, rf_val, rf_own, fz_val, fz_own, tr_bl, t_bl, t_int, p_add, p_sub, p_neg, p_eq, p_ne, p_lt, p_le, p_gt, p_ge, p_abs, p_int, p_gcd, p_i0, p_i1, p_i2, p_i3, p_len2, p_len3, p_len4, p_t3, p_t4, p_t2, List.map, List.cons_append, List.nil_append, List.append_nil, List.length_cons, List.length_nil, List.replicate, if_true, if_false, Bool.false_eq_true, Nat.reduceAdd, Nat.reduceSub, decide_eq_true_eq, eq_self, decide_true, Bool.not_true, Bool.not_false, Int.reduceEq, Int.reduceLT, Int.reduceLE, decide_false, s2]

/-! ### what the laws have in common -/
def cell (ns : List Int) (i : Int) : Int := ns.getD i.toNat 0
theorem den_cell {ns : List Int} {i : Int} (h : 0 ≤ i) : f__law_cell.den [.val (.ro (ns.map D.int)), .val (.int i)] = .ok (.val (.int (cell ns i))) := by
  refine den_of rfl ?_
  obtain ⟨k, rfl⟩ : ∃ k : Nat, i = k := ⟨i.toNat, by omega⟩
  by_cases q : k < ns.length
  · have e : evPrim .idx [.val (.ro (ns.map D.int)), .val (.int (k : Int))] = .d (.int (cell ns k)) := by
      rw [p_idxR, atD_nat _ _ (by simpa using q)]
      unfold cell
      simp only [Int.toNat_natCast, List.getElem?_map, List.getD_eq_getElem?_getD, List.getElem?_eq_getElem q]
      rfl
    have q' : (k : Int) < ((ns.map D.int).length : Int) := by simpa using q
    simp only [b__law_cell, es_nil, es_cons, es_asgN, es_asgT, es_par, es_if, es_for, es_ret, es_retN, o_prim, o_call, o_var, o_con, o_glob, o_isi, o_and, o_or, o_not, o_ite, o_chain, e_var, e_rd, e_int, e_bl, e_non, e_str, e_glob, e_prim, e_isi, e_call, e_and, e_or, e_not, e_ite, ea_nil, ea_rd, ea_var, ea_con, ea_glob, ea_prim, ea_isi, ea_call, ea_and, ea_or, ea_not, ea_ite, ea_chain, ea_slc, ea_comp, ea_compif, r_var, r_prim, r_con, r_glob, r_call, r_isi, r_and, r_or, r_not, r_ite, r_chain, r_comp, r_compif, r_slc, ld_nil, ld_val, ld_own, ld_bor, ld_none, wp_nil, wp_c, tg_nm, tg_tup, tg_nil, tg_c, e_chain, es_cont, es_brk, es_pass, p_min2, p_max2, p_l0, p_l1, p_l2, p_l3, p_l4, p_is0, p_not0, n_non, n_tup, i_seq, q_lst, q_tup, q_ro, y_tt, y_tn, y_ii, y_bi, y_bb, y_lv, y_lb, oO_some, slotR, l_0, l_s, v_0, v_s, R.bind_ok, R.bind_bad, R.bind_exc, es_raise, es_expr, rf_exc, e_isC, isC_err, ea_isC, o_isC, r_isC, r_srt, o_srt, lk_here, pd_nil, pd_c, sl_d, sl_s, okD_d, okD_l, okS_d, okS_l, rf_val, rf_own, fz_val, fz_own, tr_bl, t_bl, t_int, p_add, p_sub, p_neg, p_eq, p_ne, p_lt, p_le, p_gt, p_ge, p_abs, p_int, p_gcd, p_i0, p_i1, p_i2, p_i3, p_len2, p_len3, p_len4, p_t3, p_t4, p_t2, List.map, List.cons_append, List.nil_append, List.append_nil, List.length_cons, List.length_nil, List.replicate, if_true, if_false, Bool.false_eq_true, Nat.reduceAdd, Nat.reduceSub, decide_eq_true_eq, eq_self, decide_true, Bool.not_true, Bool.not_false, Int.reduceEq, Int.reduceLT, Int.reduceLE, decide_false, p_lenR, q', e]
  · have q' : ¬ (k : Int) < ((ns.map D.int).length : Int) := by simpa using q
    have z : cell ns k = 0 := by unfold cell; rw [List.getD_eq_getElem?_getD, List.getElem?_eq_none (by simpa using q)]; rfl
    simp only [b__law_cell, es_nil, es_cons, es_asgN, es_asgT, es_par, es_if, es_for, es_ret, es_retN, o_prim, o_call, o_var, o_con, o_glob, o_isi, o_and, o_or, o_not, o_ite, o_chain, e_var, e_rd, e_int, e_bl, e_non, e_str, e_glob, e_prim, e_isi, e_call, e_and, e_or, e_not, e_ite, ea_nil, ea_rd, ea_var, ea_con, ea_glob, ea_prim, ea_isi, ea_call, ea_and, ea_or, ea_not, ea_ite, ea_chain, ea_slc, ea_comp, ea_compif, r_var, r_prim, r_con, r_glob, r_call, r_isi, r_and, r_or, r_not, r_ite, r_chain, r_comp, r_compif, r_slc, ld_nil, ld_val, ld_own, ld_bor, ld_none, wp_nil, wp_c, tg_nm, tg_tup, tg_nil, tg_c, e_chain, es_cont, es_brk, es_pass, p_min2, p_max2, p_l0, p_l1, p_l2, p_l3, p_l4, p_is0, p_not0, n_non, n_tup, i_seq, q_lst, q_tup, q_ro, y_tt, y_tn, y_ii, y_bi, y_bb, y_lv, y_lb, oO_some, slotR, l_0, l_s, v_0, v_s, R.bind_ok, R.bind_bad, R.bind_exc, es_raise, es_expr, rf_exc, e_isC, isC_err, ea_isC, o_isC, r_isC, r_srt, o_srt, lk_here, pd_nil, pd_c, sl_d, sl_s, okD_d, okD_l, okS_d, okS_l, rf_val, rf_own, fz_val, fz_own, tr_bl, t_bl, t_int, p_add, p_sub, p_neg, p_eq, p_ne, p_lt, p_le, p_gt, p_ge, p_abs, p_int, p_gcd, p_i0, p_i1, p_i2, p_i3, p_len2, p_len3, p_len4, p_t3, p_t4, p_t2, List.map, List.cons_append, List.nil_append, List.append_nil, List.length_cons, List.length_nil, List.replicate, if_true, if_false, Bool.false_eq_true, Nat.reduceAdd, Nat.reduceSub, decide_eq_true_eq, eq_self, decide_true, Bool.not_true, Bool.not_false, Int.reduceEq, Int.reduceLT, Int.reduceLE, decide_false, p_lenR, q', decide_false, z]
abbrev lwhile : Stm := .while (.prim .gt (.cons (.rd 3 "b") (.cons (.con (.int 0)) .nil))) (.cons (.asg (.nm 4 "c") (.prim .sub (.cons (.rd 2 "a") (.cons (.prim .mul (.cons (.prim .fdiv (.cons (.rd 2 "a") (.cons (.rd 3 "b") .nil))) (.cons (.var 3 "b") .nil))) .nil))))
  (.cons (.asg (.nm 2 "a") (.var 3 "b"))
  (.cons (.asg (.nm 3 "b") (.var 4 "c"))
  .nil)))
theorem loop_lowest {k : Nat} (hk : k ≤ 10000000) (n d : Option Sl) : ∀ (m : Nat) (a b : Int) (c : Option Sl), b.toNat ≤ m → 0 ≤ a → 0 ≤ b → Bd k a → Bd k b →
    ∃ c', evS lwhile [n, d, some (.val (.int a)), some (.val (.int b)), c] = .ok (.nx [n, d, some (.val (.int (Int.gcd a b))), some (.val (.int 0)), c']) := by
  intro m a b c hm ha hb h1 h2
  rw [es_while]
  suffices q : ∃ j c', loopN _ _ j [n, d, some (.val (.int a)), some (.val (.int b)), c] = some (.ok (.nx [n, d, some (.val (.int (Int.gcd a b))), some (.val (.int 0)), c'])) by
    obtain ⟨j, c', q⟩ := q
    exact ⟨c', whileD_of q⟩
  induction m generalizing a b c with
  | zero =>
    have hb0 : b = 0 := by omega
    subst hb0
    refine ⟨1, c, ?_⟩
    have hg : ((Int.gcd a 0 : Nat) : Int) = a := by rw [Int.gcd_zero_right]; omega
    rw [hg]
    refine loopN_done ?_
    simp only [es_nil, es_cons, es_asgN, es_asgT, es_par, es_if, es_for, es_ret, es_retN, o_prim, o_call, o_var, o_con, o_glob, o_isi, o_and, o_or, o_not, o_ite, o_chain, e_var, e_rd, e_int, e_bl, e_non, e_str, e_glob, e_prim, e_isi, e_call, e_and, e_or, e_not, e_ite, ea_nil, ea_rd, ea_var, ea_con, ea_glob, ea_prim, ea_isi, ea_call, ea_and, ea_or, ea_not, ea_ite, ea_chain, ea_slc, ea_comp, ea_compif, r_var, r_prim, r_con, r_glob, r_call, r_isi, r_and, r_or, r_not, r_ite, r_chain, r_comp, r_compif, r_slc, ld_nil, ld_val, ld_own, ld_bor, ld_none, wp_nil, wp_c, tg_nm, tg_tup, tg_nil, tg_c, e_chain, es_cont, es_brk, es_pass, p_min2, p_max2, p_l0, p_l1, p_l2, p_l3, p_l4, p_is0, p_not0, n_non, n_tup, i_seq, q_lst, q_tup, q_ro, y_tt, y_tn, y_ii, y_bi, y_bb, y_lv, y_lb, oO_some, slotR, l_0, l_s, v_0, v_s, R.bind_ok, R.bind_bad, R.bind_exc, es_raise, es_expr, rf_exc, e_isC, isC_err, ea_isC, o_isC, r_isC, r_srt, o_srt, lk_here, pd_nil, pd_c, sl_d, sl_s, okD_d, okD_l, okS_d, okS_l, rf_val, rf_own, fz_val, fz_own, tr_bl, t_bl, t_int, p_add, p_sub, p_neg, p_eq, p_ne, p_lt, p_le, p_gt, p_ge, p_abs, p_int, p_gcd, p_i0, p_i1, p_i2, p_i3, p_len2, p_len3, p_len4, p_t3, p_t4, p_t2, List.map, List.cons_append, List.nil_append, List.append_nil, List.length_cons, List.length_nil, List.replicate, if_true, if_false, Bool.false_eq_true, Nat.reduceAdd, Nat.reduceSub, decide_eq_true_eq, eq_self, decide_true, Bool.not_true, Bool.not_false, Int.reduceEq, Int.reduceLT, Int.reduceLE, decide_false, Int.lt_irrefl, decide_false]
  | succ m ih =>
    by_cases hb0 : b = 0
    · subst hb0
      refine ⟨1, c, ?_⟩
      have hg : ((Int.gcd a 0 : Nat) : Int) = a := by rw [Int.gcd_zero_right]; omega
      rw [hg]
      refine loopN_done ?_
      simp only [es_nil, es_cons, es_asgN, es_asgT, es_par, es_if, es_for, es_ret, es_retN, o_prim, o_call, o_var, o_con, o_glob, o_isi, o_and, o_or, o_not, o_ite, o_chain, e_var, e_rd, e_int, e_bl, e_non, e_str, e_glob, e_prim, e_isi, e_call, e_and, e_or, e_not, e_ite, ea_nil, ea_rd, ea_var, ea_con, ea_glob, ea_prim, ea_isi, ea_call, ea_and, ea_or, ea_not, ea_ite, ea_chain, ea_slc, ea_comp, ea_compif, r_var, r_prim, r_con, r_glob, r_call, r_isi, r_and, r_or, r_not, r_ite, r_chain, r_comp, r_compif, r_slc, ld_nil, ld_val, ld_own, ld_bor, ld_none, wp_nil, wp_c, tg_nm, tg_tup, tg_nil, tg_c, e_chain, es_cont, es_brk, es_pass, p_min2, p_max2, p_l0, p_l1, p_l2, p_l3, p_l4, p_is0, p_not0, n_non, n_tup, i_seq, q_lst, q_tup, q_ro, y_tt, y_tn, y_ii, y_bi, y_bb, y_lv, y_lb, oO_some, slotR, l_0, l_s, v_0, v_s, R.bind_ok, R.bind_bad, R.bind_exc, es_raise, es_expr, rf_exc, e_isC, isC_err, ea_isC, o_isC, r_isC, r_srt, o_srt, lk_here, pd_nil, pd_c, sl_d, sl_s, okD_d, okD_l, okS_d, okS_l, rf_val, rf_own, fz_val, fz_own, tr_bl, t_bl, t_int, p_add, p_sub, p_neg, p_eq, p_ne, p_lt, p_le, p_gt, p_ge, p_abs, p_int, p_gcd, p_i0, p_i1, p_i2, p_i3, p_len2, p_len3, p_len4, p_t3, p_t4, p_t2, List.map, List.cons_append, List.nil_append, List.append_nil, List.length_cons, List.length_nil, List.replicate, if_true, if_false, Bool.false_eq_true, Nat.reduceAdd, Nat.reduceSub, decide_eq_true_eq, eq_self, decide_true, Bool.not_true, Bool.not_false, Int.reduceEq, Int.reduceLT, Int.reduceLE, decide_false, Int.lt_irrefl, decide_false]
    · have hp : 0 < b := by omega
      have e := euclid_step ha hp
      have l1 := Int.emod_nonneg a hb0
      have l2 := Int.emod_lt_of_pos a hp
      obtain ⟨j, c', q⟩ := ih b (a % b) (some (.val (.int (a % b)))) (by omega) hb l1 h2 (h2.of_le (by omega))
      refine ⟨j + 1, c', ?_⟩
      rw [gcd_step] at q
      have m1 := mulOk_of (h1.fdiv b) h2 (by omega)
      refine loopN_step (e1 := [n, d, some (.val (.int a)), some (.val (.int b)), c]) (e2 := [n, d, some (.val (.int b)), some (.val (.int (a % b))), some (.val (.int (a % b)))]) ?_ ?_ q
      · simp only [es_nil, es_cons, es_asgN, es_asgT, es_par, es_if, es_for, es_ret, es_retN, o_prim, o_call, o_var, o_con, o_glob, o_isi, o_and, o_or, o_not, o_ite, o_chain, e_var, e_rd, e_int, e_bl, e_non, e_str, e_glob, e_prim, e_isi, e_call, e_and, e_or, e_not, e_ite, ea_nil, ea_rd, ea_var, ea_con, ea_glob, ea_prim, ea_isi, ea_call, ea_and, ea_or, ea_not, ea_ite, ea_chain, ea_slc, ea_comp, ea_compif, r_var, r_prim, r_con, r_glob, r_call, r_isi, r_and, r_or, r_not, r_ite, r_chain, r_comp, r_compif, r_slc, ld_nil, ld_val, ld_own, ld_bor, ld_none, wp_nil, wp_c, tg_nm, tg_tup, tg_nil, tg_c, e_chain, es_cont, es_brk, es_pass, p_min2, p_max2, p_l0, p_l1, p_l2, p_l3, p_l4, p_is0, p_not0, n_non, n_tup, i_seq, q_lst, q_tup, q_ro, y_tt, y_tn, y_ii, y_bi, y_bb, y_lv, y_lb, oO_some, slotR, l_0, l_s, v_0, v_s, R.bind_ok, R.bind_bad, R.bind_exc, es_raise, es_expr, rf_exc, e_isC, isC_err, ea_isC, o_isC, r_isC, r_srt, o_srt, lk_here, pd_nil, pd_c, sl_d, sl_s, okD_d, okD_l, okS_d, okS_l, rf_val, rf_own, fz_val, fz_own, tr_bl, t_bl, t_int, p_add, p_sub, p_neg, p_eq, p_ne, p_lt, p_le, p_gt, p_ge, p_abs, p_int, p_gcd, p_i0, p_i1, p_i2, p_i3, p_len2, p_len3, p_len4, p_t3, p_t4, p_t2, List.map, List.cons_append, List.nil_append, List.append_nil, List.length_cons, List.length_nil, List.replicate, if_true, if_false, Bool.false_eq_true, Nat.reduceAdd, Nat.reduceSub, decide_eq_true_eq, eq_self, decide_true, Bool.not_true, Bool.not_false, Int.reduceEq, Int.reduceLT, Int.reduceLE, decide_false, hp]
      · simp only [es_nil, es_cons, es_asgN, es_asgT, es_par, es_if, es_for, es_ret, es_retN, o_prim, o_call, o_var, o_con, o_glob, o_isi, o_and, o_or, o_not, o_ite, o_chain, e_var, e_rd, e_int, e_bl, e_non, e_str, e_glob, e_prim, e_isi, e_call, e_and, e_or, e_not, e_ite, ea_nil, ea_rd, ea_var, ea_con, ea_glob, ea_prim, ea_isi, ea_call, ea_and, ea_or, ea_not, ea_ite, ea_chain, ea_slc, ea_comp, ea_compif, r_var, r_prim, r_con, r_glob, r_call, r_isi, r_and, r_or, r_not, r_ite, r_chain, r_comp, r_compif, r_slc, ld_nil, ld_val, ld_own, ld_bor, ld_none, wp_nil, wp_c, tg_nm, tg_tup, tg_nil, tg_c, e_chain, es_cont, es_brk, es_pass, p_min2, p_max2, p_l0, p_l1, p_l2, p_l3, p_l4, p_is0, p_not0, n_non, n_tup, i_seq, q_lst, q_tup, q_ro, y_tt, y_tn, y_ii, y_bi, y_bb, y_lv, y_lb, oO_some, slotR, l_0, l_s, v_0, v_s, R.bind_ok, R.bind_bad, R.bind_exc, es_raise, es_expr, rf_exc, e_isC, isC_err, ea_isC, o_isC, r_isC, r_srt, o_srt, lk_here, pd_nil, pd_c, sl_d, sl_s, okD_d, okD_l, okS_d, okS_l, rf_val, rf_own, fz_val, fz_own, tr_bl, t_bl, t_int, p_add, p_sub, p_neg, p_eq, p_ne, p_lt, p_le, p_gt, p_ge, p_abs, p_int, p_gcd, p_i0, p_i1, p_i2, p_i3, p_len2, p_len3, p_len4, p_t3, p_t4, p_t2, List.map, List.cons_append, List.nil_append, List.append_nil, List.length_cons, List.length_nil, List.replicate, if_true, if_false, Bool.false_eq_true, Nat.reduceAdd, Nat.reduceSub, decide_eq_true_eq, eq_self, decide_true, Bool.not_true, Bool.not_false, Int.reduceEq, Int.reduceLT, Int.reduceLE, decide_false, p_fdiv _ _ hb0, p_mul _ _ m1, e]
theorem den_lowest {k : Nat} {n d : Int} (h : d ≠ 0) (h1 : Bd k n) (h2 : Bd k d) (hk : k ≤ 10000000) : f__law_lowest.den [.val (.int n), .val (.int d)] = .ok (.val (fr (lw n d))) := by
  have main : ∀ n d : Int, 0 < d → Bd k n → Bd k d → ∀ e : En, e = [some (.val (.int n)), some (.val (.int d)), none, none, none] → evSs (.cons (.asg (.nm 2 "a") (.prim .abs (.cons (.rd 0 "n") .nil))) (.cons (.asg (.nm 3 "b") (.var 1 "d")) (.cons lwhile
      (.cons (.ret (.prim .tup (.cons (.prim .fdiv (.cons (.rd 0 "n") (.cons (.rd 2 "a") .nil))) (.cons (.prim .fdiv (.cons (.rd 1 "d") (.cons (.rd 2 "a") .nil))) .nil)))) .nil)))) e = .ok (.rt (.val (fr (low n d)))) := by
    rintro n d h h1 h2 e rfl
    obtain ⟨c', e⟩ := loop_lowest hk (some (.val (.int n))) (some (.val (.int d))) d.toNat _ d none (Nat.le_refl _) (abs_nn n) (by omega) h1.abs h2
    rw [gcd_abs] at e
    have hg : (Int.gcd n d : Int) ≠ 0 := by
      have := gcd_pos (n := n) h
      omega
    simp only [es_nil, es_cons, es_asgN, es_asgT, es_par, es_if, es_for, es_ret, es_retN, o_prim, o_call, o_var, o_con, o_glob, o_isi, o_and, o_or, o_not, o_ite, o_chain, e_var, e_rd, e_int, e_bl, e_non, e_str, e_glob, e_prim, e_isi, e_call, e_and, e_or, e_not, e_ite, ea_nil, ea_rd, ea_var, ea_con, ea_glob, ea_prim, ea_isi, ea_call, ea_and, ea_or, ea_not, ea_ite, ea_chain, ea_slc, ea_comp, ea_compif, r_var, r_prim, r_con, r_glob, r_call, r_isi, r_and, r_or, r_not, r_ite, r_chain, r_comp, r_compif, r_slc, ld_nil, ld_val, ld_own, ld_bor, ld_none, wp_nil, wp_c, tg_nm, tg_tup, tg_nil, tg_c, e_chain, es_cont, es_brk, es_pass, p_min2, p_max2, p_l0, p_l1, p_l2, p_l3, p_l4, p_is0, p_not0, n_non, n_tup, i_seq, q_lst, q_tup, q_ro, y_tt, y_tn, y_ii, y_bi, y_bb, y_lv, y_lb, oO_some, slotR, l_0, l_s, v_0, v_s, R.bind_ok, R.bind_bad, R.bind_exc, es_raise, es_expr, rf_exc, e_isC, isC_err, ea_isC, o_isC, r_isC, r_srt, o_srt, lk_here, pd_nil, pd_c, sl_d, sl_s, okD_d, okD_l, okS_d, okS_l, rf_val, rf_own, fz_val, fz_own, tr_bl, t_bl, t_int, p_add, p_sub, p_neg, p_eq, p_ne, p_lt, p_le, p_gt, p_ge, p_abs, p_int, p_gcd, p_i0, p_i1, p_i2, p_i3, p_len2, p_len3, p_len4, p_t3, p_t4, p_t2, List.map, List.cons_append, List.nil_append, List.append_nil, List.length_cons, List.length_nil, List.replicate, if_true, if_false, Bool.false_eq_true, Nat.reduceAdd, Nat.reduceSub, decide_eq_true_eq, eq_self, decide_true, Bool.not_true, Bool.not_false, Int.reduceEq, Int.reduceLT, Int.reduceLE, decide_false, e, p_fdiv _ _ hg]
    rfl
  refine den_of rfl ?_
  unfold b__law_lowest
  by_cases q : d < 0
  · rw [lw_neg q]
    refine step (e2 := [some (.val (.int (-n))), some (.val (.int (-d))), none, none, none]) (by simp only [es_nil, es_cons, es_asgN, es_asgT, es_par, es_if, es_for, es_ret, es_retN, o_prim, o_call, o_var, o_con, o_glob, o_isi, o_and, o_or, o_not, o_ite, o_chain, e_var, e_rd, e_int, e_bl, e_non, e_str, e_glob, e_prim, e_isi, e_call, e_and, e_or, e_not, e_ite, ea_nil, ea_rd, ea_var, ea_con, ea_glob, ea_prim, ea_isi, ea_call, ea_and, ea_or, ea_not, ea_ite, ea_chain, ea_slc, ea_comp, ea_compif, r_var, r_prim, r_con, r_glob, r_call, r_isi, r_and, r_or, r_not, r_ite, r_chain, r_comp, r_compif, r_slc, ld_nil, ld_val, ld_own, ld_bor, ld_none, wp_nil, wp_c, tg_nm, tg_tup, tg_nil, tg_c, e_chain, es_cont, es_brk, es_pass, p_min2, p_max2, p_l0, p_l1, p_l2, p_l3, p_l4, p_is0, p_not0, n_non, n_tup, i_seq, q_lst, q_tup, q_ro, y_tt, y_tn, y_ii, y_bi, y_bb, y_lv, y_lb, oO_some, slotR, l_0, l_s, v_0, v_s, R.bind_ok, R.bind_bad, R.bind_exc, es_raise, es_expr, rf_exc, e_isC, isC_err, ea_isC, o_isC, r_isC, r_srt, o_srt, lk_here, pd_nil, pd_c, sl_d, sl_s, okD_d, okD_l, okS_d, okS_l, rf_val, rf_own, fz_val, fz_own, tr_bl, t_bl, t_int, p_add, p_sub, p_neg, p_eq, p_ne, p_lt, p_le, p_gt, p_ge, p_abs, p_int, p_gcd, p_i0, p_i1, p_i2, p_i3, p_len2, p_len3, p_len4, p_t3, p_t4, p_t2, List.map, List.cons_append, List.nil_append, List.append_nil, List.length_cons, List.length_nil, List.replicate, if_true, if_false, Bool.false_eq_true, Nat.reduceAdd, Nat.reduceSub, decide_eq_true_eq, eq_self, decide_true, Bool.not_true, Bool.not_false, Int.reduceEq, Int.reduceLT, Int.reduceLE, decide_false, q]) ?_
    exact main (-n) (-d) (by omega) h1.neg h2.neg _ rfl
  · rw [lw_pos (by omega)]
    refine step (e2 := [some (.val (.int n)), some (.val (.int d)), none, none, none]) (by simp only [es_nil, es_cons, es_asgN, es_asgT, es_par, es_if, es_for, es_ret, es_retN, o_prim, o_call, o_var, o_con, o_glob, o_isi, o_and, o_or, o_not, o_ite, o_chain, e_var, e_rd, e_int, e_bl, e_non, e_str, e_glob, e_prim, e_isi, e_call, e_and, e_or, e_not, e_ite, ea_nil, ea_rd, ea_var, ea_con, ea_glob, ea_prim, ea_isi, ea_call, ea_and, ea_or, ea_not, ea_ite, ea_chain, ea_slc, ea_comp, ea_compif, r_var, r_prim, r_con, r_glob, r_call, r_isi, r_and, r_or, r_not, r_ite, r_chain, r_comp, r_compif, r_slc, ld_nil, ld_val, ld_own, ld_bor, ld_none, wp_nil, wp_c, tg_nm, tg_tup, tg_nil, tg_c, e_chain, es_cont, es_brk, es_pass, p_min2, p_max2, p_l0, p_l1, p_l2, p_l3, p_l4, p_is0, p_not0, n_non, n_tup, i_seq, q_lst, q_tup, q_ro, y_tt, y_tn, y_ii, y_bi, y_bb, y_lv, y_lb, oO_some, slotR, l_0, l_s, v_0, v_s, R.bind_ok, R.bind_bad, R.bind_exc, es_raise, es_expr, rf_exc, e_isC, isC_err, ea_isC, o_isC, r_isC, r_srt, o_srt, lk_here, pd_nil, pd_c, sl_d, sl_s, okD_d, okD_l, okS_d, okS_l, rf_val, rf_own, fz_val, fz_own, tr_bl, t_bl, t_int, p_add, p_sub, p_neg, p_eq, p_ne, p_lt, p_le, p_gt, p_ge, p_abs, p_int, p_gcd, p_i0, p_i1, p_i2, p_i3, p_len2, p_len3, p_len4, p_t3, p_t4, p_t2, List.map, List.cons_append, List.nil_append, List.append_nil, List.length_cons, List.length_nil, List.replicate, if_true, if_false, Bool.false_eq_true, Nat.reduceAdd, Nat.reduceSub, decide_eq_true_eq, eq_self, decide_true, Bool.not_true, Bool.not_false, Int.reduceEq, Int.reduceLT, Int.reduceLE, decide_false, q, decide_false]) ?_
    exact main n d (by omega) h1 h2 _ rfl
theorem den_is_whole (n : Int) : f__law_is_whole.den [.val (.int n)] = .ok (.val (.bl true)) := by
  refine den_of rfl ?_
  simp only [b__law_is_whole, es_nil, es_cons, es_asgN, es_asgT, es_par, es_if, es_for, es_ret, es_retN, o_prim, o_call, o_var, o_con, o_glob, o_isi, o_and, o_or, o_not, o_ite, o_chain, e_var, e_rd, e_int, e_bl, e_non, e_str, e_glob, e_prim, e_isi, e_call, e_and, e_or, e_not, e_ite, ea_nil, ea_rd, ea_var, ea_con, ea_glob, ea_prim, ea_isi, ea_call, ea_and, ea_or, ea_not, ea_ite, ea_chain, ea_slc, ea_comp, ea_compif, r_var, r_prim, r_con, r_glob, r_call, r_isi, r_and, r_or, r_not, r_ite, r_chain, r_comp, r_compif, r_slc, ld_nil, ld_val, ld_own, ld_bor, ld_none, wp_nil, wp_c, tg_nm, tg_tup, tg_nil, tg_c, e_chain, es_cont, es_brk, es_pass, p_min2, p_max2, p_l0, p_l1, p_l2, p_l3, p_l4, p_is0, p_not0, n_non, n_tup, i_seq, q_lst, q_tup, q_ro, y_tt, y_tn, y_ii, y_bi, y_bb, y_lv, y_lb, oO_some, slotR, l_0, l_s, v_0, v_s, R.bind_ok, R.bind_bad, R.bind_exc, es_raise, es_expr, rf_exc, e_isC, isC_err, ea_isC, o_isC, r_isC, r_srt, o_srt, lk_here, pd_nil, pd_c, sl_d, sl_s, okD_d, okD_l, okS_d, okS_l, rf_val, rf_own, fz_val, fz_own, tr_bl, t_bl, t_int, p_add, p_sub, p_neg, p_eq, p_ne, p_lt, p_le, p_gt, p_ge, p_abs, p_int, p_gcd, p_i0, p_i1, p_i2, p_i3, p_len2, p_len3, p_len4, p_t3, p_t4, p_t2, List.map, List.cons_append, List.nil_append, List.append_nil, List.length_cons, List.length_nil, List.replicate, if_true, if_false, Bool.false_eq_true, Nat.reduceAdd, Nat.reduceSub, decide_eq_true_eq, eq_self, decide_true, Bool.not_true, Bool.not_false, Int.reduceEq, Int.reduceLT, Int.reduceLE, decide_false]
theorem p_eqfr (a b : Int × Int) : evPrim .eq [.val (fr a), .val (fr b)] = .d (.bl (a.1 == b.1 && (a.2 == b.2 && true))) := rfl
theorem den_same {k : Nat} {n d : Int} (h : d ≠ 0) (h1 : Bd k n) (h2 : Bd k d) (hk : k ≤ 10000000) {a : Int × Int} (e : a = lw n d) : f__law_same.den [.val (fr a), .val (.int n), .val (.int d)] = .ok (.val (.bl true)) := by
  subst e
  have f := den_lowest h h1 h2 hk
  refine den_of rfl ?_
  simp only [b__law_same, es_nil, es_cons, es_asgN, es_asgT, es_par, es_if, es_for, es_ret, es_retN, o_prim, o_call, o_var, o_con, o_glob, o_isi, o_and, o_or, o_not, o_ite, o_chain, e_var, e_rd, e_int, e_bl, e_non, e_str, e_glob, e_prim, e_isi, e_call, e_and, e_or, e_not, e_ite, ea_nil, ea_rd, ea_var, ea_con, ea_glob, ea_prim, ea_isi, ea_call, ea_and, ea_or, ea_not, ea_ite, ea_chain, ea_slc, ea_comp, ea_compif, r_var, r_prim, r_con, r_glob, r_call, r_isi, r_and, r_or, r_not, r_ite, r_chain, r_comp, r_compif, r_slc, ld_nil, ld_val, ld_own, ld_bor, ld_none, wp_nil, wp_c, tg_nm, tg_tup, tg_nil, tg_c, e_chain, es_cont, es_brk, es_pass, p_min2, p_max2, p_l0, p_l1, p_l2, p_l3, p_l4, p_is0, p_not0, n_non, n_tup, i_seq, q_lst, q_tup, q_ro, y_tt, y_tn, y_ii, y_bi, y_bb, y_lv, y_lb, oO_some, slotR, l_0, l_s, v_0, v_s, R.bind_ok, R.bind_bad, R.bind_exc, es_raise, es_expr, rf_exc, e_isC, isC_err, ea_isC, o_isC, r_isC, r_srt, o_srt, lk_here, pd_nil, pd_c, sl_d, sl_s, okD_d, okD_l, okS_d, okS_l, rf_val, rf_own, fz_val, fz_own, tr_bl, t_bl, t_int, p_add, p_sub, p_neg, p_eq, p_ne, p_lt, p_le, p_gt, p_ge, p_abs, p_int, p_gcd, p_i0, p_i1, p_i2, p_i3, p_len2, p_len3, p_len4, p_t3, p_t4, p_t2, List.map, List.cons_append, List.nil_append, List.append_nil, List.length_cons, List.length_nil, List.replicate, if_true, if_false, Bool.false_eq_true, Nat.reduceAdd, Nat.reduceSub, decide_eq_true_eq, eq_self, decide_true, Bool.not_true, Bool.not_false, Int.reduceEq, Int.reduceLT, Int.reduceLE, decide_false, den_is_whole, f, p_eqfr, beq_self_eq_true, Bool.and_self]
theorem den_says (x : Bool) : f__law_says.den [.val (.bl x), .val (.bl x)] = .ok (.val (.bl true)) := by
  refine den_of rfl ?_
  simp only [b__law_says, es_nil, es_cons, es_asgN, es_asgT, es_par, es_if, es_for, es_ret, es_retN, o_prim, o_call, o_var, o_con, o_glob, o_isi, o_and, o_or, o_not, o_ite, o_chain, e_var, e_rd, e_int, e_bl, e_non, e_str, e_glob, e_prim, e_isi, e_call, e_and, e_or, e_not, e_ite, ea_nil, ea_rd, ea_var, ea_con, ea_glob, ea_prim, ea_isi, ea_call, ea_and, ea_or, ea_not, ea_ite, ea_chain, ea_slc, ea_comp, ea_compif, r_var, r_prim, r_con, r_glob, r_call, r_isi, r_and, r_or, r_not, r_ite, r_chain, r_comp, r_compif, r_slc, ld_nil, ld_val, ld_own, ld_bor, ld_none, wp_nil, wp_c, tg_nm, tg_tup, tg_nil, tg_c, e_chain, es_cont, es_brk, es_pass, p_min2, p_max2, p_l0, p_l1, p_l2, p_l3, p_l4, p_is0, p_not0, n_non, n_tup, i_seq, q_lst, q_tup, q_ro, y_tt, y_tn, y_ii, y_bi, y_bb, y_lv, y_lb, oO_some, slotR, l_0, l_s, v_0, v_s, R.bind_ok, R.bind_bad, R.bind_exc, es_raise, es_expr, rf_exc, e_isC, isC_err, ea_isC, o_isC, r_isC, r_srt, o_srt, lk_here, pd_nil, pd_c, sl_d, sl_s, okD_d, okD_l, okS_d, okS_l, rf_val, rf_own, fz_val, fz_own, tr_bl, t_bl, t_int, p_add, p_sub, p_neg, p_eq, p_ne, p_lt, p_le, p_gt, p_ge, p_abs, p_int, p_gcd, p_i0, p_i1, p_i2, p_i3, p_len2, p_len3, p_len4, p_t3, p_t4, p_t2, List.map, List.cons_append, List.nil_append, List.append_nil, List.length_cons, List.length_nil, List.replicate, if_true, if_false, Bool.false_eq_true, Nat.reduceAdd, Nat.reduceSub, decide_eq_true_eq, eq_self, decide_true, Bool.not_true, Bool.not_false, Int.reduceEq, Int.reduceLT, Int.reduceLE, decide_false, p_eqb, beq_self_eq_true]
abbrev B40 : Int := 10000000000000000000000000000000000000000
def whole (z : Int) : Int := if (if z < 0 then -z else z) < 1000000 then z.fmod 41 - 20 else z.fmod (2 * B40 - 1) - B40 + 1
theorem pow6 : evPrim .pow [.val (.int 10), .val (.int 6)] = .d (.int 1000000) := by rfl
theorem pow40 : evPrim .pow [.val (.int 10), .val (.int 40)] = .d (.int B40) := by rfl
theorem den_whole {z : Int} : f__law_whole.den [.val (.int z)] = .ok (.val (.int (whole z))) := by
  refine den_of rfl ?_
  have m : mulOk 2 B40 = true := mulOk_l (by decide)
  unfold whole
  by_cases q : (if z < 0 then -z else z) < 1000000
  · rw [if_pos q]
    simp only [b__law_whole, es_nil, es_cons, es_asgN, es_asgT, es_par, es_if, es_for, es_ret, es_retN, o_prim, o_call, o_var, o_con, o_glob, o_isi, o_and, o_or, o_not, o_ite, o_chain, e_var, e_rd, e_int, e_bl, e_non, e_str, e_glob, e_prim, e_isi, e_call, e_and, e_or, e_not, e_ite, ea_nil, ea_rd, ea_var, ea_con, ea_glob, ea_prim, ea_isi, ea_call, ea_and, ea_or, ea_not, ea_ite, ea_chain, ea_slc, ea_comp, ea_compif, r_var, r_prim, r_con, r_glob, r_call, r_isi, r_and, r_or, r_not, r_ite, r_chain, r_comp, r_compif, r_slc, ld_nil, ld_val, ld_own, ld_bor, ld_none, wp_nil, wp_c, tg_nm, tg_tup, tg_nil, tg_c, e_chain, es_cont, es_brk, es_pass, p_min2, p_max2, p_l0, p_l1, p_l2, p_l3, p_l4, p_is0, p_not0, n_non, n_tup, i_seq, q_lst, q_tup, q_ro, y_tt, y_tn, y_ii, y_bi, y_bb, y_lv, y_lb, oO_some, slotR, l_0, l_s, v_0, v_s, R.bind_ok, R.bind_bad, R.bind_exc, es_raise, es_expr, rf_exc, e_isC, isC_err, ea_isC, o_isC, r_isC, r_srt, o_srt, lk_here, pd_nil, pd_c, sl_d, sl_s, okD_d, okD_l, okS_d, okS_l, rf_val, rf_own, fz_val, fz_own, tr_bl, t_bl, t_int, p_add, p_sub, p_neg, p_eq, p_ne, p_lt, p_le, p_gt, p_ge, p_abs, p_int, p_gcd, p_i0, p_i1, p_i2, p_i3, p_len2, p_len3, p_len4, p_t3, p_t4, p_t2, List.map, List.cons_append, List.nil_append, List.append_nil, List.length_cons, List.length_nil, List.replicate, if_true, if_false, Bool.false_eq_true, Nat.reduceAdd, Nat.reduceSub, decide_eq_true_eq, eq_self, decide_true, Bool.not_true, Bool.not_false, Int.reduceEq, Int.reduceLT, Int.reduceLE, decide_false, pow6, q, p_mod z 41 (by decide)]
  · rw [if_neg q]
    simp only [b__law_whole, es_nil, es_cons, es_asgN, es_asgT, es_par, es_if, es_for, es_ret, es_retN, o_prim, o_call, o_var, o_con, o_glob, o_isi, o_and, o_or, o_not, o_ite, o_chain, e_var, e_rd, e_int, e_bl, e_non, e_str, e_glob, e_prim, e_isi, e_call, e_and, e_or, e_not, e_ite, ea_nil, ea_rd, ea_var, ea_con, ea_glob, ea_prim, ea_isi, ea_call, ea_and, ea_or, ea_not, ea_ite, ea_chain, ea_slc, ea_comp, ea_compif, r_var, r_prim, r_con, r_glob, r_call, r_isi, r_and, r_or, r_not, r_ite, r_chain, r_comp, r_compif, r_slc, ld_nil, ld_val, ld_own, ld_bor, ld_none, wp_nil, wp_c, tg_nm, tg_tup, tg_nil, tg_c, e_chain, es_cont, es_brk, es_pass, p_min2, p_max2, p_l0, p_l1, p_l2, p_l3, p_l4, p_is0, p_not0, n_non, n_tup, i_seq, q_lst, q_tup, q_ro, y_tt, y_tn, y_ii, y_bi, y_bb, y_lv, y_lb, oO_some, slotR, l_0, l_s, v_0, v_s, R.bind_ok, R.bind_bad, R.bind_exc, es_raise, es_expr, rf_exc, e_isC, isC_err, ea_isC, o_isC, r_isC, r_srt, o_srt, lk_here, pd_nil, pd_c, sl_d, sl_s, okD_d, okD_l, okS_d, okS_l, rf_val, rf_own, fz_val, fz_own, tr_bl, t_bl, t_int, p_add, p_sub, p_neg, p_eq, p_ne, p_lt, p_le, p_gt, p_ge, p_abs, p_int, p_gcd, p_i0, p_i1, p_i2, p_i3, p_len2, p_len3, p_len4, p_t3, p_t4, p_t2, List.map, List.cons_append, List.nil_append, List.append_nil, List.length_cons, List.length_nil, List.replicate, if_true, if_false, Bool.false_eq_true, Nat.reduceAdd, Nat.reduceSub, decide_eq_true_eq, eq_self, decide_true, Bool.not_true, Bool.not_false, Int.reduceEq, Int.reduceLT, Int.reduceLE, decide_false, pow6, pow40, q, decide_false, p_mul _ _ m, p_mod z (2 * B40 - 1) (by decide)]
theorem whole_bd (z : Int) : Bd 134 (whole z) := by
  unfold whole Bd
  have e : (2 : Nat) ^ 134 = 21778071482940061661655974875633165533184 := by decide
  rw [e]
  have hB : B40 = 10000000000000000000000000000000000000000 := rfl
  by_cases q : (if z < 0 then -z else z) < 1000000
  · rw [if_pos q]
    have h1 := Int.fmod_nonneg_of_pos z (b := 41) (by decide)
    have h2 := Int.fmod_lt_of_pos z (b := 41) (by decide)
    omega
  · rw [if_neg q]
    have h1 := Int.fmod_nonneg_of_pos z (b := 2 * B40 - 1) (by decide)
    have h2 := Int.fmod_lt_of_pos z (b := 2 * B40 - 1) (by decide)
    omega
end Fx
set_option Elab.async false
set_option linter.all false
set_option maxRecDepth 100000
namespace K86
open PySem Ev Fx
noncomputable def b__law_due_error : Stms := (.cons (.ite (.or (.isC "NoGain" [("BadNumber", false)] (.cons (.rd 0 "e") .nil)) (.or (.isC "Outside" [("BadNumber", false)] (.cons (.rd 0 "e") .nil)) (.isC "TooMany" [("BadNumber", false)] (.cons (.rd 0 "e") .nil)))) (.cons (.ret (.con (.bool false)))
  .nil) .nil)
  (.cons (.ret (.and (.isC "BadNumber" [("BadNumber", true)] (.cons (.rd 0 "e") .nil)) (.isC "ValueError" [("BadNumber", true)] (.cons (.rd 0 "e") .nil))))
  .nil))
noncomputable def f__law_due_error : Fn := ⟨1, 1, b__law_due_error⟩
noncomputable def b__law_refusals : Stms := (.cons (.tryC "SettleError" [("BadNumber", true)] (some (2, "e")) (.cons (.expr (.call "frac" f_frac.den [] (.cons (.var 0 "n") (.cons (.con (.int 0)) .nil))))
  (.cons (.ret (.con (.bool false)))
  .nil)) (.cons (.ite (.not (.call "_law_due_error" f__law_due_error.den [] (.cons (.var 2 "e") .nil))) (.cons (.ret (.con (.bool false)))
  .nil) .nil)
  .nil))
  (.cons (.tryC "SettleError" [("BadNumber", true)] (some (2, "e")) (.cons (.expr (.call "over" f_over.den [] (.cons (.var 1 "a") (.cons (.prim .tup (.cons (.con (.int 0)) (.cons (.con (.int 1)) .nil))) .nil))))
  (.cons (.ret (.con (.bool false)))
  .nil)) (.cons (.ret (.call "_law_due_error" f__law_due_error.den [] (.cons (.var 2 "e") .nil)))
  .nil))
  .nil))
noncomputable def f__law_refusals : Fn := ⟨2, 3, b__law_refusals⟩
noncomputable def b__law_sums : Stms := (.cons (.ite (.not (.call "_law_same" f__law_same.den [] (.cons (.call "plus" f_plus.den [] (.cons (.var 4 "a") (.cons (.var 5 "b") .nil))) (.cons (.prim .add (.cons (.prim .mul (.cons (.var 0 "n") (.cons (.var 3 "e") .nil))) (.cons (.prim .mul (.cons (.var 2 "m") (.cons (.var 1 "d") .nil))) .nil))) (.cons (.prim .mul (.cons (.var 1 "d") (.cons (.var 3 "e") .nil))) .nil))))) (.cons (.ret (.con (.bool false)))
  .nil) .nil)
  (.cons (.ite (.not (.call "_law_same" f__law_same.den [] (.cons (.call "minus" f_minus.den [] (.cons (.var 4 "a") (.cons (.var 5 "b") .nil))) (.cons (.prim .sub (.cons (.prim .mul (.cons (.var 0 "n") (.cons (.var 3 "e") .nil))) (.cons (.prim .mul (.cons (.var 2 "m") (.cons (.var 1 "d") .nil))) .nil))) (.cons (.prim .mul (.cons (.var 1 "d") (.cons (.var 3 "e") .nil))) .nil))))) (.cons (.ret (.con (.bool false)))
  .nil) .nil)
  (.cons (.ite (.not (.call "_law_same" f__law_same.den [] (.cons (.call "times" f_times.den [] (.cons (.var 4 "a") (.cons (.var 5 "b") .nil))) (.cons (.prim .mul (.cons (.var 0 "n") (.cons (.var 2 "m") .nil))) (.cons (.prim .mul (.cons (.var 1 "d") (.cons (.var 3 "e") .nil))) .nil))))) (.cons (.ret (.con (.bool false)))
  .nil) .nil)
  (.cons (.ite (.and (.prim .ne (.cons (.rd 2 "m") (.cons (.con (.int 0)) .nil))) (.not (.call "_law_same" f__law_same.den [] (.cons (.call "over" f_over.den [] (.cons (.var 4 "a") (.cons (.var 5 "b") .nil))) (.cons (.prim .mul (.cons (.var 0 "n") (.cons (.var 3 "e") .nil))) (.cons (.prim .mul (.cons (.var 1 "d") (.cons (.var 2 "m") .nil))) .nil)))))) (.cons (.ret (.con (.bool false)))
  .nil) .nil)
  (.cons (.ret (.call "_law_same" f__law_same.den [] (.cons (.call "middle" f_middle.den [] (.cons (.var 4 "a") (.cons (.var 5 "b") .nil))) (.cons (.prim .add (.cons (.prim .mul (.cons (.var 0 "n") (.cons (.var 3 "e") .nil))) (.cons (.prim .mul (.cons (.var 2 "m") (.cons (.var 1 "d") .nil))) .nil))) (.cons (.prim .mul (.cons (.prim .mul (.cons (.con (.int 2)) (.cons (.var 1 "d") .nil))) (.cons (.var 3 "e") .nil))) .nil)))))
  .nil)))))
noncomputable def f__law_sums : Fn := ⟨6, 6, b__law_sums⟩
noncomputable def b__law_order : Stms := (.cons (.asg (.nm 6 "lead") (.prim .mul (.cons (.prim .mul (.cons (.prim .sub (.cons (.prim .mul (.cons (.var 0 "n") (.cons (.var 3 "e") .nil))) (.cons (.prim .mul (.cons (.var 2 "m") (.cons (.var 1 "d") .nil))) .nil))) (.cons (.var 1 "d") .nil))) (.cons (.var 3 "e") .nil))))
  (.cons (.ite (.or (.not (.call "_law_says" f__law_says.den [] (.cons (.call "below" f_below.den [] (.cons (.var 4 "a") (.cons (.var 5 "b") .nil))) (.cons (.prim .lt (.cons (.rd 6 "lead") (.cons (.con (.int 0)) .nil))) .nil)))) (.not (.call "_law_says" f__law_says.den [] (.cons (.call "at_most" f_at_most.den [] (.cons (.var 4 "a") (.cons (.var 5 "b") .nil))) (.cons (.prim .le (.cons (.rd 6 "lead") (.cons (.con (.int 0)) .nil))) .nil))))) (.cons (.ret (.con (.bool false)))
  .nil) .nil)
  (.cons (.ite (.or (.not (.call "_law_says" f__law_says.den [] (.cons (.call "below" f_below.den [] (.cons (.var 4 "a") (.cons (.var 4 "a") .nil))) (.cons (.con (.bool false)) .nil)))) (.not (.call "_law_says" f__law_says.den [] (.cons (.call "at_most" f_at_most.den [] (.cons (.var 4 "a") (.cons (.var 4 "a") .nil))) (.cons (.con (.bool true)) .nil))))) (.cons (.ret (.con (.bool false)))
  .nil) .nil)
  (.cons (.asg (.nm 7 "low") (.prim .tup (.cons (.var 0 "n") (.cons (.var 1 "d") .nil))))
  (.cons (.asg (.nm 8 "high") (.prim .tup (.cons (.var 2 "m") (.cons (.var 3 "e") .nil))))
  (.cons (.ite (.prim .gt (.cons (.rd 6 "lead") (.cons (.con (.int 0)) .nil))) (.cons (.asg (.nm 7 "low") (.prim .tup (.cons (.var 2 "m") (.cons (.var 3 "e") .nil))))
  (.cons (.asg (.nm 8 "high") (.prim .tup (.cons (.var 0 "n") (.cons (.var 1 "d") .nil))))
  .nil)) .nil)
  (.cons (.ret (.and (.call "_law_same" f__law_same.den [] (.cons (.call "smaller" f_smaller.den [] (.cons (.var 4 "a") (.cons (.var 5 "b") .nil))) (.cons (.prim .idx (.cons (.rd 7 "low") (.cons (.con (.int 0)) .nil))) (.cons (.prim .idx (.cons (.rd 7 "low") (.cons (.con (.int 1)) .nil))) .nil)))) (.call "_law_same" f__law_same.den [] (.cons (.call "larger" f_larger.den [] (.cons (.var 4 "a") (.cons (.var 5 "b") .nil))) (.cons (.prim .idx (.cons (.rd 8 "high") (.cons (.con (.int 0)) .nil))) (.cons (.prim .idx (.cons (.rd 8 "high") (.cons (.con (.int 1)) .nil))) .nil))))))
  .nil)))))))
noncomputable def f__law_order : Fn := ⟨6, 9, b__law_order⟩
noncomputable def b__law_rounded : Stms := (.cons (.asg (.nm 3 "k") (.call "round_up" f_round_up.den [] (.cons (.var 2 "a") .nil)))
  (.cons (.ite (.not (.call "_law_is_whole" f__law_is_whole.den [] (.cons (.var 3 "k") .nil))) (.cons (.ret (.con (.bool false)))
  .nil) .nil)
  (.cons (.asg (.nm 4 "low") (.call "_law_lowest" f__law_lowest.den [] (.cons (.var 0 "n") (.cons (.var 1 "d") .nil))))
  (.cons (.ret (.and (.prim .ge (.cons (.prim .mul (.cons (.var 3 "k") (.cons (.prim .idx (.cons (.rd 4 "low") (.cons (.con (.int 1)) .nil))) .nil))) (.cons (.prim .idx (.cons (.rd 4 "low") (.cons (.con (.int 0)) .nil))) .nil))) (.prim .lt (.cons (.prim .mul (.cons (.prim .sub (.cons (.rd 3 "k") (.cons (.con (.int 1)) .nil))) (.cons (.prim .idx (.cons (.rd 4 "low") (.cons (.con (.int 1)) .nil))) .nil))) (.cons (.prim .idx (.cons (.rd 4 "low") (.cons (.con (.int 0)) .nil))) .nil)))))
  .nil))))
noncomputable def f__law_rounded : Fn := ⟨3, 5, b__law_rounded⟩
noncomputable def b__law_powers : Stms := (.cons (.asg (.nm 3 "top") (.con (.int 1)))
  (.cons (.asg (.nm 4 "bottom") (.con (.int 1)))
  (.cons (.for (.nm 5 "k") (.rng (.cons (.con (.int 7)) .nil)) (.cons (.ite (.not (.call "_law_same" f__law_same.den [] (.cons (.call "power" f_power.den [] (.cons (.var 2 "a") (.cons (.var 5 "k") .nil))) (.cons (.var 3 "top") (.cons (.var 4 "bottom") .nil))))) (.cons (.ret (.con (.bool false)))
  .nil) .nil)
  (.cons (.asg (.nm 3 "top") (.prim .mul (.cons (.var 3 "top") (.cons (.var 0 "n") .nil))))
  (.cons (.asg (.nm 4 "bottom") (.prim .mul (.cons (.var 4 "bottom") (.cons (.var 1 "d") .nil))))
  .nil))))
  (.cons (.ret (.con (.bool true)))
  .nil))))
noncomputable def f__law_powers : Fn := ⟨3, 6, b__law_powers⟩
noncomputable def b__law_sorted : Stms := (.cons (.asg (.nm 1 "row") (.prim .lst .nil))
  (.cons (.for (.nm 2 "number") (.seq (.var 0 "numbers")) (.cons (.asg (.nm 3 "k") (.prim .len (.cons (.rd 1 "row") .nil)))
  (.cons (.while (.and (.prim .gt (.cons (.rd 3 "k") (.cons (.con (.int 0)) .nil))) (.prim .lt (.cons (.prim .mul (.cons (.prim .idx (.cons (.rd 2 "number") (.cons (.con (.int 0)) .nil))) (.cons (.prim .idx (.cons (.prim .idx (.cons (.rd 1 "row") (.cons (.prim .sub (.cons (.rd 3 "k") (.cons (.con (.int 1)) .nil))) .nil))) (.cons (.con (.int 1)) .nil))) .nil))) (.cons (.prim .mul (.cons (.prim .idx (.cons (.prim .idx (.cons (.rd 1 "row") (.cons (.prim .sub (.cons (.rd 3 "k") (.cons (.con (.int 1)) .nil))) .nil))) (.cons (.con (.int 0)) .nil))) (.cons (.prim .idx (.cons (.rd 2 "number") (.cons (.con (.int 1)) .nil))) .nil))) .nil)))) (.cons (.asg (.nm 3 "k") (.prim .sub (.cons (.rd 3 "k") (.cons (.con (.int 1)) .nil))))
  .nil))
  (.cons (.asg (.nm 1 "row") (.prim .add (.cons (.prim .add (.cons (.slc (.rd 1 "row") .none (.some (.var 3 "k"))) (.cons (.prim .lst (.cons (.var 2 "number") .nil)) .nil))) (.cons (.slc (.rd 1 "row") (.some (.var 3 "k")) .none) .nil))))
  .nil))))
  (.cons (.ret (.var 1 "row"))
  .nil)))
noncomputable def f__law_sorted : Fn := ⟨1, 4, b__law_sorted⟩
noncomputable def b__law_lists : Stms := (.cons (.asg (.nm 2 "top") (.con (.int 0)))
  (.cons (.asg (.nm 3 "bottom") (.con (.int 1)))
  (.cons (.for (.nm 4 "number") (.seq (.var 1 "numbers")) (.cons (.asg (.nm 2 "top") (.prim .add (.cons (.prim .mul (.cons (.var 2 "top") (.cons (.prim .idx (.cons (.rd 4 "number") (.cons (.con (.int 1)) .nil))) .nil))) (.cons (.prim .mul (.cons (.prim .idx (.cons (.rd 4 "number") (.cons (.con (.int 0)) .nil))) (.cons (.var 3 "bottom") .nil))) .nil))))
  (.cons (.asg (.nm 3 "bottom") (.prim .mul (.cons (.var 3 "bottom") (.cons (.prim .idx (.cons (.rd 4 "number") (.cons (.con (.int 1)) .nil))) .nil))))
  (.cons (.asg (.nm 7 "low") (.call "_law_lowest" f__law_lowest.den [] (.cons (.var 2 "top") (.cons (.var 3 "bottom") .nil))))
  (.cons (.asg (.nm 2 "top") (.prim .idx (.cons (.rd 7 "low") (.cons (.con (.int 0)) .nil))))
  (.cons (.asg (.nm 3 "bottom") (.prim .idx (.cons (.rd 7 "low") (.cons (.con (.int 1)) .nil))))
  .nil))))))
  (.cons (.asg (.nm 5 "handed") (.prim .list (.cons (.rd 1 "numbers") .nil)))
  (.cons (.ite (.or (.not (.call "_law_same" f__law_same.den [] (.cons (.call "total" f_total.den [] (.cons (.var 5 "handed") .nil)) (.cons (.var 2 "top") (.cons (.var 3 "bottom") .nil))))) (.prim .ne (.cons (.rd 5 "handed") (.cons (.rd 1 "numbers") .nil)))) (.cons (.ret (.con (.bool false)))
  .nil) .nil)
  (.cons (.asg (.nm 6 "told") (.call "ascending" f_ascending.den [] (.cons (.var 5 "handed") .nil)))
  (.cons (.ite (.or (.not (.isi .list (.cons (.rd 6 "told") .nil))) (.prim .ne (.cons (.rd 5 "handed") (.cons (.rd 1 "numbers") .nil)))) (.cons (.ret (.con (.bool false)))
  .nil) .nil)
  (.cons (.for (.nm 4 "number") (.seq (.var 6 "told")) (.cons (.ite (.or (.not (.isi .tuple (.cons (.rd 4 "number") .nil))) (.prim .ne (.cons (.prim .len (.cons (.rd 4 "number") .nil)) (.cons (.con (.int 2)) .nil)))) (.cons (.ret (.con (.bool false)))
  .nil) .nil)
  (.cons (.ite (.or (.not (.call "_law_is_whole" f__law_is_whole.den [] (.cons (.prim .idx (.cons (.rd 4 "number") (.cons (.con (.int 0)) .nil))) .nil))) (.not (.call "_law_is_whole" f__law_is_whole.den [] (.cons (.prim .idx (.cons (.rd 4 "number") (.cons (.con (.int 1)) .nil))) .nil)))) (.cons (.ret (.con (.bool false)))
  .nil) .nil)
  .nil)))
  (.cons (.ret (.prim .eq (.cons (.rd 6 "told") (.cons (.call "_law_sorted" f__law_sorted.den [] (.cons (.var 1 "numbers") .nil)) .nil))))
  .nil)))))))))
noncomputable def f__law_lists : Fn := ⟨2, 8, b__law_lists⟩
noncomputable def b_law : Stms := (.cons (.ite (.or (.prim .ne (.cons (.glob "ZERO" (.tup [(.int 0), (.int 1)])) (.cons (.prim .tup (.cons (.con (.int 0)) (.cons (.con (.int 1)) .nil))) .nil))) (.or (.prim .ne (.cons (.glob "ONE" (.tup [(.int 1), (.int 1)])) (.cons (.prim .tup (.cons (.con (.int 1)) (.cons (.con (.int 1)) .nil))) .nil))) (.prim .ne (.cons (.glob "HALF" (.tup [(.int 1), (.int 2)])) (.cons (.prim .tup (.cons (.con (.int 1)) (.cons (.con (.int 2)) .nil))) .nil))))) (.cons (.ret (.con (.bool false)))
  .nil) .nil)
  (.cons (.asg (.nm 1 "n") (.call "_law_whole" f__law_whole.den [] (.cons (.call "_law_cell" f__law_cell.den [] (.cons (.var 0 "script") (.cons (.con (.int 0)) .nil))) .nil)))
  (.cons (.asg (.nm 2 "d") (.call "_law_whole" f__law_whole.den [] (.cons (.call "_law_cell" f__law_cell.den [] (.cons (.var 0 "script") (.cons (.con (.int 1)) .nil))) .nil)))
  (.cons (.asg (.nm 3 "m") (.call "_law_whole" f__law_whole.den [] (.cons (.call "_law_cell" f__law_cell.den [] (.cons (.var 0 "script") (.cons (.con (.int 2)) .nil))) .nil)))
  (.cons (.asg (.nm 4 "e") (.call "_law_whole" f__law_whole.den [] (.cons (.call "_law_cell" f__law_cell.den [] (.cons (.var 0 "script") (.cons (.con (.int 3)) .nil))) .nil)))
  (.cons (.ite (.prim .eq (.cons (.rd 2 "d") (.cons (.con (.int 0)) .nil))) (.cons (.asg (.nm 2 "d") (.prim .neg (.cons (.con (.int 7)) .nil)))
  .nil) .nil)
  (.cons (.ite (.prim .eq (.cons (.rd 4 "e") (.cons (.con (.int 0)) .nil))) (.cons (.asg (.nm 4 "e") (.con (.int 9)))
  .nil) .nil)
  (.cons (.ite (.or (.not (.call "_law_same" f__law_same.den [] (.cons (.call "frac" f_frac.den [] (.cons (.var 1 "n") (.cons (.var 2 "d") .nil))) (.cons (.var 1 "n") (.cons (.var 2 "d") .nil))))) (.or (.not (.call "_law_same" f__law_same.den [] (.cons (.call "frac" f_frac.den [] (.cons (.var 3 "m") (.cons (.var 4 "e") .nil))) (.cons (.var 3 "m") (.cons (.var 4 "e") .nil))))) (.not (.call "_law_same" f__law_same.den [] (.cons (.call "frac" f_frac.den [(.int 1)] (.cons (.var 1 "n") .nil)) (.cons (.var 1 "n") (.cons (.con (.int 1)) .nil))))))) (.cons (.ret (.con (.bool false)))
  .nil) .nil)
  (.cons (.asg (.nm 5 "a") (.call "_law_lowest" f__law_lowest.den [] (.cons (.var 1 "n") (.cons (.var 2 "d") .nil))))
  (.cons (.asg (.nm 6 "b") (.call "_law_lowest" f__law_lowest.den [] (.cons (.var 3 "m") (.cons (.var 4 "e") .nil))))
  (.cons (.ite (.or (.not (.call "_law_refusals" f__law_refusals.den [] (.cons (.var 1 "n") (.cons (.var 5 "a") .nil)))) (.or (.not (.call "_law_sums" f__law_sums.den [] (.cons (.var 1 "n") (.cons (.var 2 "d") (.cons (.var 3 "m") (.cons (.var 4 "e") (.cons (.var 5 "a") (.cons (.var 6 "b") .nil)))))))) (.not (.call "_law_order" f__law_order.den [] (.cons (.var 1 "n") (.cons (.var 2 "d") (.cons (.var 3 "m") (.cons (.var 4 "e") (.cons (.var 5 "a") (.cons (.var 6 "b") .nil)))))))))) (.cons (.ret (.con (.bool false)))
  .nil) .nil)
  (.cons (.ite (.or (.not (.call "_law_rounded" f__law_rounded.den [] (.cons (.var 1 "n") (.cons (.var 2 "d") (.cons (.var 5 "a") .nil))))) (.not (.call "_law_powers" f__law_powers.den [] (.cons (.var 1 "n") (.cons (.var 2 "d") (.cons (.var 5 "a") .nil)))))) (.cons (.ret (.con (.bool false)))
  .nil) .nil)
  (.cons (.asg (.nm 7 "numbers") (.prim .lst (.cons (.var 5 "a") (.cons (.var 6 "b") .nil))))
  (.cons (.for (.nm 8 "cell") (.seq (.slc (.rd 0 "script") (.some (.con (.int 4))) (.some (.con (.int 63))))) (.cons (.append 7 "numbers" (.call "_law_lowest" f__law_lowest.den [] (.cons (.prim .sub (.cons (.prim .mod (.cons (.prim .int (.cons (.rd 8 "cell") .nil)) (.cons (.con (.int 2001)) .nil))) (.cons (.con (.int 1000)) .nil))) (.cons (.prim .add (.cons (.con (.int 1)) (.cons (.prim .mod (.cons (.prim .int (.cons (.prim .fdiv (.cons (.rd 8 "cell") (.cons (.con (.int 2001)) .nil))) .nil)) (.cons (.con (.int 12)) .nil))) .nil))) .nil))))
  .nil))
  (.cons (.ite (.not (.call "_law_lists" f__law_lists.den [] (.cons (.var 0 "script") (.cons (.var 7 "numbers") .nil)))) (.cons (.ret (.con (.bool false)))
  .nil) .nil)
  (.cons (.ret (.call "_law_lists" f__law_lists.den [] (.cons (.var 0 "script") (.cons (.slc (.rd 7 "numbers") (.some (.con (.int 2))) .none) .nil))))
  .nil))))))))))))))))
noncomputable def f_law : Fn := ⟨1, 9, b_law⟩
end K86
set_option Elab.async false
set_option linter.all false
set_option maxRecDepth 100000
namespace K86
open PySem Ev Fx
/-! ### errors -/
theorem den_due_error : f__law_due_error.den [.val (.err "BadNumber" [] [])] = .ok (.val (.bl true)) := by
  refine den_of rfl ?_
  simp only [b__law_due_error, es_nil, es_cons, es_asgN, es_asgT, es_par, es_if, es_for, es_ret, es_retN, o_prim, o_call, o_var, o_con, o_glob, o_isi, o_and, o_or, o_not, o_ite, o_chain, e_var, e_rd, e_int, e_bl, e_non, e_str, e_glob, e_prim, e_isi, e_call, e_and, e_or, e_not, e_ite, ea_nil, ea_rd, ea_var, ea_con, ea_glob, ea_prim, ea_isi, ea_call, ea_and, ea_or, ea_not, ea_ite, ea_chain, ea_slc, ea_comp, ea_compif, r_var, r_prim, r_con, r_glob, r_call, r_isi, r_and, r_or, r_not, r_ite, r_chain, r_comp, r_compif, r_slc, ld_nil, ld_val, ld_own, ld_bor, ld_none, wp_nil, wp_c, tg_nm, tg_tup, tg_nil, tg_c, e_chain, es_cont, es_brk, es_pass, p_min2, p_max2, p_l0, p_l1, p_l2, p_l3, p_l4, p_is0, p_not0, n_non, n_tup, i_seq, q_lst, q_tup, q_ro, y_tt, y_tn, y_ii, y_bi, y_bb, y_lv, y_lb, oO_some, slotR, l_0, l_s, v_0, v_s, R.bind_ok, R.bind_bad, R.bind_exc, es_raise, es_expr, rf_exc, e_isC, isC_err, ea_isC, o_isC, r_isC, r_srt, o_srt, lk_here, pd_nil, pd_c, sl_d, sl_s, okD_d, okD_l, okS_d, okS_l, rf_val, rf_own, fz_val, fz_own, tr_bl, t_bl, t_int, p_add, p_sub, p_neg, p_eq, p_ne, p_lt, p_le, p_gt, p_ge, p_abs, p_int, p_gcd, p_i0, p_i1, p_i2, p_i3, p_len2, p_len3, p_len4, p_t3, p_t4, p_t2, List.map, List.cons_append, List.nil_append, List.append_nil, List.length_cons, List.length_nil, List.replicate, if_true, if_false, Bool.false_eq_true, Nat.reduceAdd, Nat.reduceSub, decide_eq_true_eq, eq_self, decide_true, Bool.not_true, Bool.not_false, Int.reduceEq, Int.reduceLT, Int.reduceLE, decide_false]
theorem try_on {c : Str} {tbl : List (Str × Bool)} {i : Nat} {y : Str} {a b : Stms} {e e2 : En} {x : Exn} (h : evSs a e = .exc x e2) (hl : tbl.lookup x.cls = some true) : evS (.tryC c tbl (some (i, y)) a b) e = tryD (some (i, y)) (evSs b (sv e2 i (some (.val (.err x.cls x.ns x.vs))))) := by
  rw [es_try, h]
  dsimp only
  rw [hl]
theorem den_refusals (n : Int) (a : Int × Int) : f__law_refusals.den [.val (.int n), .val (fr a)] = .ok (.val (.bl true)) := by
  refine den_of rfl ?_
  unfold b__law_refusals
  refine step (e2 := [some (.val (.int n)), some (.val (fr a)), none]) ?_ ?_
  · refine (try_on (x := ⟨"BadNumber", [], []⟩) (e2 := [some (.val (.int n)), some (.val (fr a)), none]) ?_ (by simp)).trans ?_
    · simp only [es_nil, es_cons, es_asgN, es_asgT, es_par, es_if, es_for, es_ret, es_retN, o_prim, o_call, o_var, o_con, o_glob, o_isi, o_and, o_or, o_not, o_ite, o_chain, e_var, e_rd, e_int, e_bl, e_non, e_str, e_glob, e_prim, e_isi, e_call, e_and, e_or, e_not, e_ite, ea_nil, ea_rd, ea_var, ea_con, ea_glob, ea_prim, ea_isi, ea_call, ea_and, ea_or, ea_not, ea_ite, ea_chain, ea_slc, ea_comp, ea_compif, r_var, r_prim, r_con, r_glob, r_call, r_isi, r_and, r_or, r_not, r_ite, r_chain, r_comp, r_compif, r_slc, ld_nil, ld_val, ld_own, ld_bor, ld_none, wp_nil, wp_c, tg_nm, tg_tup, tg_nil, tg_c, e_chain, es_cont, es_brk, es_pass, p_min2, p_max2, p_l0, p_l1, p_l2, p_l3, p_l4, p_is0, p_not0, n_non, n_tup, i_seq, q_lst, q_tup, q_ro, y_tt, y_tn, y_ii, y_bi, y_bb, y_lv, y_lb, oO_some, slotR, l_0, l_s, v_0, v_s, R.bind_ok, R.bind_bad, R.bind_exc, es_raise, es_expr, rf_exc, e_isC, isC_err, ea_isC, o_isC, r_isC, r_srt, o_srt, lk_here, pd_nil, pd_c, sl_d, sl_s, okD_d, okD_l, okS_d, okS_l, rf_val, rf_own, fz_val, fz_own, tr_bl, t_bl, t_int, p_add, p_sub, p_neg, p_eq, p_ne, p_lt, p_le, p_gt, p_ge, p_abs, p_int, p_gcd, p_i0, p_i1, p_i2, p_i3, p_len2, p_len3, p_len4, p_t3, p_t4, p_t2, List.map, List.cons_append, List.nil_append, List.append_nil, List.length_cons, List.length_nil, List.replicate, if_true, if_false, Bool.false_eq_true, Nat.reduceAdd, Nat.reduceSub, decide_eq_true_eq, eq_self, decide_true, Bool.not_true, Bool.not_false, Int.reduceEq, Int.reduceLT, Int.reduceLE, decide_false, den_frac0]
    · simp only [es_nil, es_cons, es_asgN, es_asgT, es_par, es_if, es_for, es_ret, es_retN, o_prim, o_call, o_var, o_con, o_glob, o_isi, o_and, o_or, o_not, o_ite, o_chain, e_var, e_rd, e_int, e_bl, e_non, e_str, e_glob, e_prim, e_isi, e_call, e_and, e_or, e_not, e_ite, ea_nil, ea_rd, ea_var, ea_con, ea_glob, ea_prim, ea_isi, ea_call, ea_and, ea_or, ea_not, ea_ite, ea_chain, ea_slc, ea_comp, ea_compif, r_var, r_prim, r_con, r_glob, r_call, r_isi, r_and, r_or, r_not, r_ite, r_chain, r_comp, r_compif, r_slc, ld_nil, ld_val, ld_own, ld_bor, ld_none, wp_nil, wp_c, tg_nm, tg_tup, tg_nil, tg_c, e_chain, es_cont, es_brk, es_pass, p_min2, p_max2, p_l0, p_l1, p_l2, p_l3, p_l4, p_is0, p_not0, n_non, n_tup, i_seq, q_lst, q_tup, q_ro, y_tt, y_tn, y_ii, y_bi, y_bb, y_lv, y_lb, oO_some, slotR, l_0, l_s, v_0, v_s, R.bind_ok, R.bind_bad, R.bind_exc, es_raise, es_expr, rf_exc, e_isC, isC_err, ea_isC, o_isC, r_isC, r_srt, o_srt, lk_here, pd_nil, pd_c, sl_d, sl_s, okD_d, okD_l, okS_d, okS_l, rf_val, rf_own, fz_val, fz_own, tr_bl, t_bl, t_int, p_add, p_sub, p_neg, p_eq, p_ne, p_lt, p_le, p_gt, p_ge, p_abs, p_int, p_gcd, p_i0, p_i1, p_i2, p_i3, p_len2, p_len3, p_len4, p_t3, p_t4, p_t2, List.map, List.cons_append, List.nil_append, List.append_nil, List.length_cons, List.length_nil, List.replicate, if_true, if_false, Bool.false_eq_true, Nat.reduceAdd, Nat.reduceSub, decide_eq_true_eq, eq_self, decide_true, Bool.not_true, Bool.not_false, Int.reduceEq, Int.reduceLT, Int.reduceLE, decide_false, den_due_error]
      rfl
  · refine step_rt ?_
    refine (try_on (x := ⟨"BadNumber", [], []⟩) (e2 := [some (.val (.int n)), some (.val (fr a)), none]) ?_ (by simp)).trans ?_
    · simp only [es_nil, es_cons, es_asgN, es_asgT, es_par, es_if, es_for, es_ret, es_retN, o_prim, o_call, o_var, o_con, o_glob, o_isi, o_and, o_or, o_not, o_ite, o_chain, e_var, e_rd, e_int, e_bl, e_non, e_str, e_glob, e_prim, e_isi, e_call, e_and, e_or, e_not, e_ite, ea_nil, ea_rd, ea_var, ea_con, ea_glob, ea_prim, ea_isi, ea_call, ea_and, ea_or, ea_not, ea_ite, ea_chain, ea_slc, ea_comp, ea_compif, r_var, r_prim, r_con, r_glob, r_call, r_isi, r_and, r_or, r_not, r_ite, r_chain, r_comp, r_compif, r_slc, ld_nil, ld_val, ld_own, ld_bor, ld_none, wp_nil, wp_c, tg_nm, tg_tup, tg_nil, tg_c, e_chain, es_cont, es_brk, es_pass, p_min2, p_max2, p_l0, p_l1, p_l2, p_l3, p_l4, p_is0, p_not0, n_non, n_tup, i_seq, q_lst, q_tup, q_ro, y_tt, y_tn, y_ii, y_bi, y_bb, y_lv, y_lb, oO_some, slotR, l_0, l_s, v_0, v_s, R.bind_ok, R.bind_bad, R.bind_exc, es_raise, es_expr, rf_exc, e_isC, isC_err, ea_isC, o_isC, r_isC, r_srt, o_srt, lk_here, pd_nil, pd_c, sl_d, sl_s, okD_d, okD_l, okS_d, okS_l, rf_val, rf_own, fz_val, fz_own, tr_bl, t_bl, t_int, p_add, p_sub, p_neg, p_eq, p_ne, p_lt, p_le, p_gt, p_ge, p_abs, p_int, p_gcd, p_i0, p_i1, p_i2, p_i3, p_len2, p_len3, p_len4, p_t3, p_t4, p_t2, List.map, List.cons_append, List.nil_append, List.append_nil, List.length_cons, List.length_nil, List.replicate, if_true, if_false, Bool.false_eq_true, Nat.reduceAdd, Nat.reduceSub, decide_eq_true_eq, eq_self, decide_true, Bool.not_true, Bool.not_false, Int.reduceEq, Int.reduceLT, Int.reduceLE, decide_false, den_over0]
    · simp only [es_nil, es_cons, es_asgN, es_asgT, es_par, es_if, es_for, es_ret, es_retN, o_prim, o_call, o_var, o_con, o_glob, o_isi, o_and, o_or, o_not, o_ite, o_chain, e_var, e_rd, e_int, e_bl, e_non, e_str, e_glob, e_prim, e_isi, e_call, e_and, e_or, e_not, e_ite, ea_nil, ea_rd, ea_var, ea_con, ea_glob, ea_prim, ea_isi, ea_call, ea_and, ea_or, ea_not, ea_ite, ea_chain, ea_slc, ea_comp, ea_compif, r_var, r_prim, r_con, r_glob, r_call, r_isi, r_and, r_or, r_not, r_ite, r_chain, r_comp, r_compif, r_slc, ld_nil, ld_val, ld_own, ld_bor, ld_none, wp_nil, wp_c, tg_nm, tg_tup, tg_nil, tg_c, e_chain, es_cont, es_brk, es_pass, p_min2, p_max2, p_l0, p_l1, p_l2, p_l3, p_l4, p_is0, p_not0, n_non, n_tup, i_seq, q_lst, q_tup, q_ro, y_tt, y_tn, y_ii, y_bi, y_bb, y_lv, y_lb, oO_some, slotR, l_0, l_s, v_0, v_s, R.bind_ok, R.bind_bad, R.bind_exc, es_raise, es_expr, rf_exc, e_isC, isC_err, ea_isC, o_isC, r_isC, r_srt, o_srt, lk_here, pd_nil, pd_c, sl_d, sl_s, okD_d, okD_l, okS_d, okS_l, rf_val, rf_own, fz_val, fz_own, tr_bl, t_bl, t_int, p_add, p_sub, p_neg, p_eq, p_ne, p_lt, p_le, p_gt, p_ge, p_abs, p_int, p_gcd, p_i0, p_i1, p_i2, p_i3, p_len2, p_len3, p_len4, p_t3, p_t4, p_t2, List.map, List.cons_append, List.nil_append, List.append_nil, List.length_cons, List.length_nil, List.replicate, if_true, if_false, Bool.false_eq_true, Nat.reduceAdd, Nat.reduceSub, decide_eq_true_eq, eq_self, decide_true, Bool.not_true, Bool.not_false, Int.reduceEq, Int.reduceLT, Int.reduceLE, decide_false, den_due_error]
      rfl
/-! ### sums -/
section
variable {n d m e : Int}
theorem eq_plus (hd : d ≠ 0) (he : e ≠ 0) : qplus (lw n d) (lw m e) = lw (n * e + m * d) (d * e) := by
  have q1 := lw_cross (n := n) hd
  have q2 := lw_cross (n := m) he
  have p1 := (lw_Q (k := n.natAbs + d.natAbs) hd (n := n) (Nat.lt_of_le_of_lt (Nat.le_add_right _ _) Nat.lt_two_pow_self) (Nat.lt_of_le_of_lt (Nat.le_add_left _ _) Nat.lt_two_pow_self)).pos
  have p2 := (lw_Q (k := m.natAbs + e.natAbs) he (n := m) (Nat.lt_of_le_of_lt (Nat.le_add_right _ _) Nat.lt_two_pow_self) (Nat.lt_of_le_of_lt (Nat.le_add_left _ _) Nat.lt_two_pow_self)).pos
  generalize lw n d = a at *
  generalize lw m e = b at *
  have pp := Int.mul_pos p1 p2
  refine (lw_pos pp).symm.trans ?_
  exact lw_eq (by omega) (Int.mul_ne_zero hd he) (by grind)
theorem pos_lw (hd : d ≠ 0) : 0 < (lw n d).2 := (lw_Q (k := n.natAbs + d.natAbs) hd (n := n) (Nat.lt_of_le_of_lt (Nat.le_add_right _ _) Nat.lt_two_pow_self) (Nat.lt_of_le_of_lt (Nat.le_add_left _ _) Nat.lt_two_pow_self)).pos
theorem eq_minus (hd : d ≠ 0) (he : e ≠ 0) : qminus (lw n d) (lw m e) = lw (n * e - m * d) (d * e) := by
  have q1 := lw_cross (n := n) hd
  have q2 := lw_cross (n := m) he
  have p1 := pos_lw (n := n) hd
  have p2 := pos_lw (n := m) he
  generalize lw n d = a at *
  generalize lw m e = b at *
  have pp := Int.mul_pos p1 p2
  refine (lw_pos pp).symm.trans ?_
  exact lw_eq (by omega) (Int.mul_ne_zero hd he) (by grind)
theorem eq_times (hd : d ≠ 0) (he : e ≠ 0) : qtimes (lw n d) (lw m e) = lw (n * m) (d * e) := by
  have q1 := lw_cross (n := n) hd
  have q2 := lw_cross (n := m) he
  have p1 := pos_lw (n := n) hd
  have p2 := pos_lw (n := m) he
  generalize lw n d = a at *
  generalize lw m e = b at *
  have pp := Int.mul_pos p1 p2
  refine (lw_pos pp).symm.trans ?_
  exact lw_eq (by omega) (Int.mul_ne_zero hd he) (by grind)
theorem lw_fst_ne (he : e ≠ 0) (hm : m ≠ 0) : (lw m e).1 ≠ 0 := fun z => by
  have q2 := lw_cross (n := m) he
  have p2 := pos_lw (n := m) he
  rw [z, Int.zero_mul] at q2
  rcases Int.mul_eq_zero.mp q2.symm with w | w <;> omega
theorem eq_over (hd : d ≠ 0) (he : e ≠ 0) (hm : m ≠ 0) : qover (lw n d) (lw m e) = lw (n * e) (d * m) := by
  have q1 := lw_cross (n := n) hd
  have q2 := lw_cross (n := m) he
  have p1 := pos_lw (n := n) hd
  have n2 := lw_fst_ne he hm
  generalize lw n d = a at *
  generalize lw m e = b at *
  exact lw_eq (Int.mul_ne_zero (by omega) n2) (Int.mul_ne_zero hd hm) (by grind)
theorem half_lw : ((1, 2) : Int × Int) = lw 1 2 := by decide
theorem eq_middle (hd : d ≠ 0) (he : e ≠ 0) : qtimes (qplus (lw n d) (lw m e)) (1, 2) = lw (n * e + m * d) (2 * d * e) := by
  rw [eq_plus hd he, half_lw, eq_times (Int.mul_ne_zero hd he) (by decide)]
  have hde := Int.mul_ne_zero hd he
  exact lw_eq (Int.mul_ne_zero hde (by decide)) (Int.mul_ne_zero (Int.mul_ne_zero (by decide) hd) he) (by grind)
structure In (n d m e : Int) : Prop where
  bn : Bd 134 n
  bd : Bd 134 d
  bm : Bd 134 m
  be : Bd 134 e
  hd : d ≠ 0
  he : e ≠ 0
theorem den_sums (h : In n d m e) : f__law_sums.den [.val (.int n), .val (.int d), .val (.int m), .val (.int e), .val (fr (lw n d)), .val (fr (lw m e))] = .ok (.val (.bl true)) := by
  have qa := lw_Q h.hd h.bn h.bd
  have qb := lw_Q h.he h.bm h.be
  have m1 := mulOk_of h.bn h.be (by decide)
  have m2 := mulOk_of h.bm h.bd (by decide)
  have m3 := mulOk_of h.bd h.be (by decide)
  have m4 := mulOk_of h.bn h.bm (by decide)
  have m5 := mulOk_of h.bd h.bm (by decide)
  have m6 : mulOk 2 d = true := mulOk_l (by decide)
  have b2 : Bd 136 (2 * d) := (bd_lit (k := 2) rfl : Bd 2 2).mul h.bd
  have m7 := mulOk_of b2 h.be (by decide)
  have hde := Int.mul_ne_zero h.hd h.he
  have ne := h.bn.mul h.be
  have md := h.bm.mul h.bd
  have de := h.bd.mul h.be
  have s1 := den_same hde (ne.add md) (de.mono (by decide)) (by decide) (eq_plus (n := n) (m := m) h.hd h.he)
  have s2 := den_same hde (ne.sub md) (de.mono (by decide)) (by decide) (eq_minus (n := n) (m := m) h.hd h.he)
  have s3 := den_same hde (h.bn.mul h.bm) de (by decide) (eq_times (n := n) (m := m) h.hd h.he)
  have s5 := den_same (Int.mul_ne_zero (Int.mul_ne_zero (by decide) h.hd) h.he) ((ne.add md).mono (by decide)) (b2.mul h.be) (by decide) (eq_middle (n := n) (m := m) h.hd h.he)
  have f1 := den_plus qa qb (by decide)
  have f2 := den_minus qa qb (by decide)
  have f3 := den_times qa qb (by decide)
  have f5 := den_middle qa qb (by decide)
  refine den_of rfl ?_
  by_cases hm : m = 0
  · simp only [b__law_sums, es_nil, es_cons, es_asgN, es_asgT, es_par, es_if, es_for, es_ret, es_retN, o_prim, o_call, o_var, o_con, o_glob, o_isi, o_and, o_or, o_not, o_ite, o_chain, e_var, e_rd, e_int, e_bl, e_non, e_str, e_glob, e_prim, e_isi, e_call, e_and, e_or, e_not, e_ite, ea_nil, ea_rd, ea_var, ea_con, ea_glob, ea_prim, ea_isi, ea_call, ea_and, ea_or, ea_not, ea_ite, ea_chain, ea_slc, ea_comp, ea_compif, r_var, r_prim, r_con, r_glob, r_call, r_isi, r_and, r_or, r_not, r_ite, r_chain, r_comp, r_compif, r_slc, ld_nil, ld_val, ld_own, ld_bor, ld_none, wp_nil, wp_c, tg_nm, tg_tup, tg_nil, tg_c, e_chain, es_cont, es_brk, es_pass, p_min2, p_max2, p_l0, p_l1, p_l2, p_l3, p_l4, p_is0, p_not0, n_non, n_tup, i_seq, q_lst, q_tup, q_ro, y_tt, y_tn, y_ii, y_bi, y_bb, y_lv, y_lb, oO_some, slotR, l_0, l_s, v_0, v_s, R.bind_ok, R.bind_bad, R.bind_exc, es_raise, es_expr, rf_exc, e_isC, isC_err, ea_isC, o_isC, r_isC, r_srt, o_srt, lk_here, pd_nil, pd_c, sl_d, sl_s, okD_d, okD_l, okS_d, okS_l, rf_val, rf_own, fz_val, fz_own, tr_bl, t_bl, t_int, p_add, p_sub, p_neg, p_eq, p_ne, p_lt, p_le, p_gt, p_ge, p_abs, p_int, p_gcd, p_i0, p_i1, p_i2, p_i3, p_len2, p_len3, p_len4, p_t3, p_t4, p_t2, List.map, List.cons_append, List.nil_append, List.append_nil, List.length_cons, List.length_nil, List.replicate, if_true, if_false, Bool.false_eq_true, Nat.reduceAdd, Nat.reduceSub, decide_eq_true_eq, eq_self, decide_true, Bool.not_true, Bool.not_false, Int.reduceEq, Int.reduceLT, Int.reduceLE, decide_false, p_mul _ _ m1, p_mul _ _ m2, p_mul _ _ m3, p_mul _ _ m4, p_mul _ _ m5, p_mul _ _ m6, p_mul _ _ m7, f1, f2, f3, f5, s1, s2, s3, s5, hm]
    subst hm
    simp only [es_nil, es_cons, es_asgN, es_asgT, es_par, es_if, es_for, es_ret, es_retN, o_prim, o_call, o_var, o_con, o_glob, o_isi, o_and, o_or, o_not, o_ite, o_chain, e_var, e_rd, e_int, e_bl, e_non, e_str, e_glob, e_prim, e_isi, e_call, e_and, e_or, e_not, e_ite, ea_nil, ea_rd, ea_var, ea_con, ea_glob, ea_prim, ea_isi, ea_call, ea_and, ea_or, ea_not, ea_ite, ea_chain, ea_slc, ea_comp, ea_compif, r_var, r_prim, r_con, r_glob, r_call, r_isi, r_and, r_or, r_not, r_ite, r_chain, r_comp, r_compif, r_slc, ld_nil, ld_val, ld_own, ld_bor, ld_none, wp_nil, wp_c, tg_nm, tg_tup, tg_nil, tg_c, e_chain, es_cont, es_brk, es_pass, p_min2, p_max2, p_l0, p_l1, p_l2, p_l3, p_l4, p_is0, p_not0, n_non, n_tup, i_seq, q_lst, q_tup, q_ro, y_tt, y_tn, y_ii, y_bi, y_bb, y_lv, y_lb, oO_some, slotR, l_0, l_s, v_0, v_s, R.bind_ok, R.bind_bad, R.bind_exc, es_raise, es_expr, rf_exc, e_isC, isC_err, ea_isC, o_isC, r_isC, r_srt, o_srt, lk_here, pd_nil, pd_c, sl_d, sl_s, okD_d, okD_l, okS_d, okS_l, rf_val, rf_own, fz_val, fz_own, tr_bl, t_bl, t_int, p_add, p_sub, p_neg, p_eq, p_ne, p_lt, p_le, p_gt, p_ge, p_abs, p_int, p_gcd, p_i0, p_i1, p_i2, p_i3, p_len2, p_len3, p_len4, p_t3, p_t4, p_t2, List.map, List.cons_append, List.nil_append, List.append_nil, List.length_cons, List.length_nil, List.replicate, if_true, if_false, Bool.false_eq_true, Nat.reduceAdd, Nat.reduceSub, decide_eq_true_eq, eq_self, decide_true, Bool.not_true, Bool.not_false, Int.reduceEq, Int.reduceLT, Int.reduceLE, decide_false, p_mul _ _ m1, p_mul _ _ m2, p_mul _ _ m3, p_mul _ _ m4, p_mul _ _ m5, p_mul _ _ m6, p_mul _ _ m7, f1, f2, f3, f5, s1, s2, s3, s5]
  · have f4 := den_over qa qb (by decide) (lw_fst_ne h.he hm)
    have s4 := den_same (Int.mul_ne_zero h.hd hm) ne (h.bd.mul h.bm) (by decide) (eq_over (n := n) h.hd h.he hm)
    simp only [b__law_sums, es_nil, es_cons, es_asgN, es_asgT, es_par, es_if, es_for, es_ret, es_retN, o_prim, o_call, o_var, o_con, o_glob, o_isi, o_and, o_or, o_not, o_ite, o_chain, e_var, e_rd, e_int, e_bl, e_non, e_str, e_glob, e_prim, e_isi, e_call, e_and, e_or, e_not, e_ite, ea_nil, ea_rd, ea_var, ea_con, ea_glob, ea_prim, ea_isi, ea_call, ea_and, ea_or, ea_not, ea_ite, ea_chain, ea_slc, ea_comp, ea_compif, r_var, r_prim, r_con, r_glob, r_call, r_isi, r_and, r_or, r_not, r_ite, r_chain, r_comp, r_compif, r_slc, ld_nil, ld_val, ld_own, ld_bor, ld_none, wp_nil, wp_c, tg_nm, tg_tup, tg_nil, tg_c, e_chain, es_cont, es_brk, es_pass, p_min2, p_max2, p_l0, p_l1, p_l2, p_l3, p_l4, p_is0, p_not0, n_non, n_tup, i_seq, q_lst, q_tup, q_ro, y_tt, y_tn, y_ii, y_bi, y_bb, y_lv, y_lb, oO_some, slotR, l_0, l_s, v_0, v_s, R.bind_ok, R.bind_bad, R.bind_exc, es_raise, es_expr, rf_exc, e_isC, isC_err, ea_isC, o_isC, r_isC, r_srt, o_srt, lk_here, pd_nil, pd_c, sl_d, sl_s, okD_d, okD_l, okS_d, okS_l, rf_val, rf_own, fz_val, fz_own, tr_bl, t_bl, t_int, p_add, p_sub, p_neg, p_eq, p_ne, p_lt, p_le, p_gt, p_ge, p_abs, p_int, p_gcd, p_i0, p_i1, p_i2, p_i3, p_len2, p_len3, p_len4, p_t3, p_t4, p_t2, List.map, List.cons_append, List.nil_append, List.append_nil, List.length_cons, List.length_nil, List.replicate, if_true, if_false, Bool.false_eq_true, Nat.reduceAdd, Nat.reduceSub, decide_eq_true_eq, eq_self, decide_true, Bool.not_true, Bool.not_false, Int.reduceEq, Int.reduceLT, Int.reduceLE, decide_false, p_mul _ _ m1, p_mul _ _ m2, p_mul _ _ m3, p_mul _ _ m4, p_mul _ _ m5, p_mul _ _ m6, p_mul _ _ m7, f1, f2, f3, f4, f5, s1, s2, s3, s4, s5, hm, decide_false]
/-! ### order -/
theorem sign_eq {x y p q : Int} (hp : 0 < p) (hq : 0 < q) (h : x * p = y * q) : (x < 0 ↔ y < 0) ∧ (x ≤ 0 ↔ y ≤ 0) := by
  have a : ∀ x p : Int, 0 < p → (x < 0 ↔ x * p < 0) ∧ (x ≤ 0 ↔ x * p ≤ 0) := fun x p hp => by
    refine ⟨⟨fun h => Int.mul_neg_of_neg_of_pos h hp, fun h => ?_⟩, ⟨fun h => Int.mul_nonpos_of_nonpos_of_nonneg h (Int.le_of_lt hp), fun h => ?_⟩⟩
    · rcases Int.lt_or_le x 0 with z | z
      · exact z
      · have := Int.mul_nonneg z (Int.le_of_lt hp); omega
    · rcases Int.lt_or_le 0 x with z | z
      · have := Int.mul_pos z hp; omega
      · exact z
  rw [(a x p hp).1, (a x p hp).2, (a y q hq).1, (a y q hq).2, h]
  exact ⟨Iff.rfl, Iff.rfl⟩
theorem lead_sign (hd : d ≠ 0) (he : e ≠ 0) : ((lw n d).1 * (lw m e).2 - (lw m e).1 * (lw n d).2 < 0 ↔ (n * e - m * d) * d * e < 0) ∧ ((lw n d).1 * (lw m e).2 - (lw m e).1 * (lw n d).2 ≤ 0 ↔ (n * e - m * d) * d * e ≤ 0) := by
  have q1 := lw_cross (n := n) hd
  have q2 := lw_cross (n := m) he
  have p1 := pos_lw (n := n) hd
  have p2 := pos_lw (n := m) he
  generalize lw n d = a at *
  generalize lw m e = b at *
  have hde := Int.mul_ne_zero hd he
  have sq : 0 < (d * e) * (d * e) := by
    rcases Int.lt_or_gt_of_ne hde with z | z
    · exact Int.mul_pos_of_neg_of_neg z z
    · exact Int.mul_pos z z
  exact sign_eq sq (Int.mul_pos p1 p2) (by grind)
theorem den_order (h : In n d m e) : f__law_order.den [.val (.int n), .val (.int d), .val (.int m), .val (.int e), .val (fr (lw n d)), .val (fr (lw m e))] = .ok (.val (.bl true)) := by
  have qa := lw_Q h.hd h.bn h.bd
  have qb := lw_Q h.he h.bm h.be
  have m1 := mulOk_of h.bn h.be (by decide)
  have m2 := mulOk_of h.bm h.bd (by decide)
  have bs := (h.bn.mul h.be).sub (h.bm.mul h.bd)
  have m3 := mulOk_of bs h.bd (by decide)
  have m4 := mulOk_of (bs.mul h.bd) h.be (by decide)
  have ls := lead_sign (n := n) (m := m) h.hd h.he
  have f1 := den_below qa qb (by decide)
  have f2 := den_at_most qa qb (by decide)
  have f3 := den_below qa qa (by decide)
  have f4 := den_at_most qa qa (by decide)
  have f5 := den_smaller qa qb (by decide)
  have f6 := den_larger qa qb (by decide)
  have sa := den_same h.hd h.bn h.bd (by decide) (a := lw n d) rfl
  have sb := den_same h.he h.bm h.be (by decide) (a := lw m e) rfl
  generalize lw n d = a at *
  generalize lw m e = b at *
  generalize hl : (n * e - m * d) * d * e = lead at *
  rw [show decide (a.1 * b.2 < b.1 * a.2) = decide (lead < 0) from decide_eq_decide.mpr (by rw [← ls.1]; omega)] at f1
  rw [show decide (a.1 * b.2 ≤ b.1 * a.2) = decide (lead ≤ 0) from decide_eq_decide.mpr (by rw [← ls.2]; omega)] at f2
  rw [show decide (a.1 * a.2 < a.1 * a.2) = false from decide_eq_false (by omega)] at f3
  rw [show decide (a.1 * a.2 ≤ a.1 * a.2) = true from decide_eq_true (by omega)] at f4
  refine den_of rfl ?_
  by_cases q : 0 < lead
  · rw [if_pos (by have := ls.2; omega)] at f5
    by_cases q2 : a.1 * b.2 < b.1 * a.2
    · have := ls.1; omega
    · rw [if_neg q2] at f6
      simp only [b__law_order, es_nil, es_cons, es_asgN, es_asgT, es_par, es_if, es_for, es_ret, es_retN, o_prim, o_call, o_var, o_con, o_glob, o_isi, o_and, o_or, o_not, o_ite, o_chain, e_var, e_rd, e_int, e_bl, e_non, e_str, e_glob, e_prim, e_isi, e_call, e_and, e_or, e_not, e_ite, ea_nil, ea_rd, ea_var, ea_con, ea_glob, ea_prim, ea_isi, ea_call, ea_and, ea_or, ea_not, ea_ite, ea_chain, ea_slc, ea_comp, ea_compif, r_var, r_prim, r_con, r_glob, r_call, r_isi, r_and, r_or, r_not, r_ite, r_chain, r_comp, r_compif, r_slc, ld_nil, ld_val, ld_own, ld_bor, ld_none, wp_nil, wp_c, tg_nm, tg_tup, tg_nil, tg_c, e_chain, es_cont, es_brk, es_pass, p_min2, p_max2, p_l0, p_l1, p_l2, p_l3, p_l4, p_is0, p_not0, n_non, n_tup, i_seq, q_lst, q_tup, q_ro, y_tt, y_tn, y_ii, y_bi, y_bb, y_lv, y_lb, oO_some, slotR, l_0, l_s, v_0, v_s, R.bind_ok, R.bind_bad, R.bind_exc, es_raise, es_expr, rf_exc, e_isC, isC_err, ea_isC, o_isC, r_isC, r_srt, o_srt, lk_here, pd_nil, pd_c, sl_d, sl_s, okD_d, okD_l, okS_d, okS_l, rf_val, rf_own, fz_val, fz_own, tr_bl, t_bl, t_int, p_add, p_sub, p_neg, p_eq, p_ne, p_lt, p_le, p_gt, p_ge, p_abs, p_int, p_gcd, p_i0, p_i1, p_i2, p_i3, p_len2, p_len3, p_len4, p_t3, p_t4, p_t2, List.map, List.cons_append, List.nil_append, List.append_nil, List.length_cons, List.length_nil, List.replicate, if_true, if_false, Bool.false_eq_true, Nat.reduceAdd, Nat.reduceSub, decide_eq_true_eq, eq_self, decide_true, Bool.not_true, Bool.not_false, Int.reduceEq, Int.reduceLT, Int.reduceLE, decide_false, p_mul _ _ m1, p_mul _ _ m2, p_mul _ _ m3, p_mul _ _ m4, hl, f1, f2, f3, f4, f5, f6, den_says, sa, sb, q]
  · rw [if_neg (by have := ls.2; omega)] at f5
    by_cases q2 : a.1 * b.2 < b.1 * a.2
    · rw [if_pos q2] at f6
      simp only [b__law_order, es_nil, es_cons, es_asgN, es_asgT, es_par, es_if, es_for, es_ret, es_retN, o_prim, o_call, o_var, o_con, o_glob, o_isi, o_and, o_or, o_not, o_ite, o_chain, e_var, e_rd, e_int, e_bl, e_non, e_str, e_glob, e_prim, e_isi, e_call, e_and, e_or, e_not, e_ite, ea_nil, ea_rd, ea_var, ea_con, ea_glob, ea_prim, ea_isi, ea_call, ea_and, ea_or, ea_not, ea_ite, ea_chain, ea_slc, ea_comp, ea_compif, r_var, r_prim, r_con, r_glob, r_call, r_isi, r_and, r_or, r_not, r_ite, r_chain, r_comp, r_compif, r_slc, ld_nil, ld_val, ld_own, ld_bor, ld_none, wp_nil, wp_c, tg_nm, tg_tup, tg_nil, tg_c, e_chain, es_cont, es_brk, es_pass, p_min2, p_max2, p_l0, p_l1, p_l2, p_l3, p_l4, p_is0, p_not0, n_non, n_tup, i_seq, q_lst, q_tup, q_ro, y_tt, y_tn, y_ii, y_bi, y_bb, y_lv, y_lb, oO_some, slotR, l_0, l_s, v_0, v_s, R.bind_ok, R.bind_bad, R.bind_exc, es_raise, es_expr, rf_exc, e_isC, isC_err, ea_isC, o_isC, r_isC, r_srt, o_srt, lk_here, pd_nil, pd_c, sl_d, sl_s, okD_d, okD_l, okS_d, okS_l, rf_val, rf_own, fz_val, fz_own, tr_bl, t_bl, t_int, p_add, p_sub, p_neg, p_eq, p_ne, p_lt, p_le, p_gt, p_ge, p_abs, p_int, p_gcd, p_i0, p_i1, p_i2, p_i3, p_len2, p_len3, p_len4, p_t3, p_t4, p_t2, List.map, List.cons_append, List.nil_append, List.append_nil, List.length_cons, List.length_nil, List.replicate, if_true, if_false, Bool.false_eq_true, Nat.reduceAdd, Nat.reduceSub, decide_eq_true_eq, eq_self, decide_true, Bool.not_true, Bool.not_false, Int.reduceEq, Int.reduceLT, Int.reduceLE, decide_false, p_mul _ _ m1, p_mul _ _ m2, p_mul _ _ m3, p_mul _ _ m4, hl, f1, f2, f3, f4, f5, f6, den_says, sa, sb, q, decide_false]
    · have e2 : a = b := eq_of_cross qa.pos qb.pos qa.cop qb.cop (by have := ls.2; omega)
      rw [if_neg q2] at f6
      rw [← e2] at sb
      simp only [b__law_order, es_nil, es_cons, es_asgN, es_asgT, es_par, es_if, es_for, es_ret, es_retN, o_prim, o_call, o_var, o_con, o_glob, o_isi, o_and, o_or, o_not, o_ite, o_chain, e_var, e_rd, e_int, e_bl, e_non, e_str, e_glob, e_prim, e_isi, e_call, e_and, e_or, e_not, e_ite, ea_nil, ea_rd, ea_var, ea_con, ea_glob, ea_prim, ea_isi, ea_call, ea_and, ea_or, ea_not, ea_ite, ea_chain, ea_slc, ea_comp, ea_compif, r_var, r_prim, r_con, r_glob, r_call, r_isi, r_and, r_or, r_not, r_ite, r_chain, r_comp, r_compif, r_slc, ld_nil, ld_val, ld_own, ld_bor, ld_none, wp_nil, wp_c, tg_nm, tg_tup, tg_nil, tg_c, e_chain, es_cont, es_brk, es_pass, p_min2, p_max2, p_l0, p_l1, p_l2, p_l3, p_l4, p_is0, p_not0, n_non, n_tup, i_seq, q_lst, q_tup, q_ro, y_tt, y_tn, y_ii, y_bi, y_bb, y_lv, y_lb, oO_some, slotR, l_0, l_s, v_0, v_s, R.bind_ok, R.bind_bad, R.bind_exc, es_raise, es_expr, rf_exc, e_isC, isC_err, ea_isC, o_isC, r_isC, r_srt, o_srt, lk_here, pd_nil, pd_c, sl_d, sl_s, okD_d, okD_l, okS_d, okS_l, rf_val, rf_own, fz_val, fz_own, tr_bl, t_bl, t_int, p_add, p_sub, p_neg, p_eq, p_ne, p_lt, p_le, p_gt, p_ge, p_abs, p_int, p_gcd, p_i0, p_i1, p_i2, p_i3, p_len2, p_len3, p_len4, p_t3, p_t4, p_t2, List.map, List.cons_append, List.nil_append, List.append_nil, List.length_cons, List.length_nil, List.replicate, if_true, if_false, Bool.false_eq_true, Nat.reduceAdd, Nat.reduceSub, decide_eq_true_eq, eq_self, decide_true, Bool.not_true, Bool.not_false, Int.reduceEq, Int.reduceLT, Int.reduceLE, decide_false, p_mul _ _ m1, p_mul _ _ m2, p_mul _ _ m3, p_mul _ _ m4, hl, f1, f2, f3, f4, f5, f6, den_says, sa, sb, q, decide_false]
/-! ### rounding, powers -/
theorem den_rounded (hd : d ≠ 0) (h1 : Bd 134 n) (h2 : Bd 134 d) : f__law_rounded.den [.val (.int n), .val (.int d), .val (fr (lw n d))] = .ok (.val (.bl true)) := by
  have qa := lw_Q hd h1 h2
  have f := den_lowest hd h1 h2 (by decide)
  have r := den_round_up qa.pos
  generalize lw n d = a at *
  have hp := qa.pos
  have e : (-a.1).fdiv a.2 = (-a.1) / a.2 := Int.fdiv_eq_ediv_of_nonneg _ (Int.le_of_lt hp)
  rw [e] at r
  have k1 := Int.ediv_mul_le (-a.1) (show a.2 ≠ 0 by omega)
  have k2 := Int.lt_ediv_add_one_mul_self (-a.1) hp
  have bk : Bd 134 (-((-a.1) / a.2)) := by rw [← e]; exact (qa.b1.neg.fdiv _).neg
  generalize (-a.1) / a.2 = q at *
  have m1 := mulOk_of bk qa.b2 (by decide)
  have bk1 : Bd 135 (-q - 1) := bk.sub ((bd_lit (k := 1) rfl).mono (by decide))
  have m2 := mulOk_of bk1 qa.b2 (by decide)
  have c1 : a.1 ≤ -q * a.2 := by rw [Int.neg_mul]; omega
  have c2 : (-q - 1) * a.2 < a.1 := by
    rw [Int.add_mul] at k2
    rw [Int.sub_mul, Int.neg_mul]
    omega
  refine den_of rfl ?_
  simp only [b__law_rounded, es_nil, es_cons, es_asgN, es_asgT, es_par, es_if, es_for, es_ret, es_retN, o_prim, o_call, o_var, o_con, o_glob, o_isi, o_and, o_or, o_not, o_ite, o_chain, e_var, e_rd, e_int, e_bl, e_non, e_str, e_glob, e_prim, e_isi, e_call, e_and, e_or, e_not, e_ite, ea_nil, ea_rd, ea_var, ea_con, ea_glob, ea_prim, ea_isi, ea_call, ea_and, ea_or, ea_not, ea_ite, ea_chain, ea_slc, ea_comp, ea_compif, r_var, r_prim, r_con, r_glob, r_call, r_isi, r_and, r_or, r_not, r_ite, r_chain, r_comp, r_compif, r_slc, ld_nil, ld_val, ld_own, ld_bor, ld_none, wp_nil, wp_c, tg_nm, tg_tup, tg_nil, tg_c, e_chain, es_cont, es_brk, es_pass, p_min2, p_max2, p_l0, p_l1, p_l2, p_l3, p_l4, p_is0, p_not0, n_non, n_tup, i_seq, q_lst, q_tup, q_ro, y_tt, y_tn, y_ii, y_bi, y_bb, y_lv, y_lb, oO_some, slotR, l_0, l_s, v_0, v_s, R.bind_ok, R.bind_bad, R.bind_exc, es_raise, es_expr, rf_exc, e_isC, isC_err, ea_isC, o_isC, r_isC, r_srt, o_srt, lk_here, pd_nil, pd_c, sl_d, sl_s, okD_d, okD_l, okS_d, okS_l, rf_val, rf_own, fz_val, fz_own, tr_bl, t_bl, t_int, p_add, p_sub, p_neg, p_eq, p_ne, p_lt, p_le, p_gt, p_ge, p_abs, p_int, p_gcd, p_i0, p_i1, p_i2, p_i3, p_len2, p_len3, p_len4, p_t3, p_t4, p_t2, List.map, List.cons_append, List.nil_append, List.append_nil, List.length_cons, List.length_nil, List.replicate, if_true, if_false, Bool.false_eq_true, Nat.reduceAdd, Nat.reduceSub, decide_eq_true_eq, eq_self, decide_true, Bool.not_true, Bool.not_false, Int.reduceEq, Int.reduceLT, Int.reduceLE, decide_false, r, den_is_whole, f, p_mul _ _ m1, p_mul _ _ m2, c1, c2]
theorem pow_bd {x : Int} (h : Bd 134 x) : ∀ k : Nat, Bd (1 + 134 * k) (x ^ k)
  | 0 => by rw [Int.pow_zero]; exact (bd_lit (k := 1) rfl).mono (by omega)
  | k + 1 => by rw [Int.pow_succ]; exact ((pow_bd h k).mul h).mono (by omega)
theorem pow_ne {x : Int} (h : x ≠ 0) : ∀ k : Nat, x ^ k ≠ 0
  | 0 => by rw [Int.pow_zero]; decide
  | k + 1 => by rw [Int.pow_succ]; exact Int.mul_ne_zero (pow_ne h k) h
theorem eq_pow (hd : d ≠ 0) : ∀ k : Nat, qpow (lw n d) k = lw (n ^ k) (d ^ k)
  | 0 => by rw [Int.pow_zero, Int.pow_zero]; rfl
  | k + 1 => by
    rw [Int.pow_succ, Int.pow_succ]
    show qtimes (qpow (lw n d) k) (lw n d) = _
    rw [eq_pow hd k]
    exact eq_times (pow_ne hd k) hd
theorem turn_powers {x N M : Int} {A : D} (f : f_power.den [.val A, .val (.int x)] = .ok (.val (fr (lw N M)))) (s : f__law_same.den [.val (fr (lw N M)), .val (.int N), .val (.int M)] = .ok (.val (.bl true))) :
  evS (.ite (.not (.call "_law_same" f__law_same.den [] (.cons (.call "power" f_power.den [] (.cons (.var 2 "a") (.cons (.var 5 "k") .nil))) (.cons (.var 3 "top") (.cons (.var 4 "bottom") .nil))))) (.cons (.ret (.con (.bool false))) .nil) .nil) [some (.val (.int n)), some (.val (.int d)), some (.val A), some (.val (.int N)), some (.val (.int M)), some (.val (.int x))] = .ok (.nx [some (.val (.int n)), some (.val (.int d)), some (.val A), some (.val (.int N)), some (.val (.int M)), some (.val (.int x))]) := by
  simp only [es_nil, es_cons, es_asgN, es_asgT, es_par, es_if, es_for, es_ret, es_retN, o_prim, o_call, o_var, o_con, o_glob, o_isi, o_and, o_or, o_not, o_ite, o_chain, e_var, e_rd, e_int, e_bl, e_non, e_str, e_glob, e_prim, e_isi, e_call, e_and, e_or, e_not, e_ite, ea_nil, ea_rd, ea_var, ea_con, ea_glob, ea_prim, ea_isi, ea_call, ea_and, ea_or, ea_not, ea_ite, ea_chain, ea_slc, ea_comp, ea_compif, r_var, r_prim, r_con, r_glob, r_call, r_isi, r_and, r_or, r_not, r_ite, r_chain, r_comp, r_compif, r_slc, ld_nil, ld_val, ld_own, ld_bor, ld_none, wp_nil, wp_c, tg_nm, tg_tup, tg_nil, tg_c, e_chain, es_cont, es_brk, es_pass, p_min2, p_max2, p_l0, p_l1, p_l2, p_l3, p_l4, p_is0, p_not0, n_non, n_tup, i_seq, q_lst, q_tup, q_ro, y_tt, y_tn, y_ii, y_bi, y_bb, y_lv, y_lb, oO_some, slotR, l_0, l_s, v_0, v_s, R.bind_ok, R.bind_bad, R.bind_exc, es_raise, es_expr, rf_exc, e_isC, isC_err, ea_isC, o_isC, r_isC, r_srt, o_srt, lk_here, pd_nil, pd_c, sl_d, sl_s, okD_d, okD_l, okS_d, okS_l, rf_val, rf_own, fz_val, fz_own, tr_bl, t_bl, t_int, p_add, p_sub, p_neg, p_eq, p_ne, p_lt, p_le, p_gt, p_ge, p_abs, p_int, p_gcd, p_i0, p_i1, p_i2, p_i3, p_len2, p_len3, p_len4, p_t3, p_t4, p_t2, List.map, List.cons_append, List.nil_append, List.append_nil, List.length_cons, List.length_nil, List.replicate, if_true, if_false, Bool.false_eq_true, Nat.reduceAdd, Nat.reduceSub, decide_eq_true_eq, eq_self, decide_true, Bool.not_true, Bool.not_false, Int.reduceEq, Int.reduceLT, Int.reduceLE, decide_false, f, s]
theorem den_powers (hd : d ≠ 0) (h1 : Bd 134 n) (h2 : Bd 134 d) : f__law_powers.den [.val (.int n), .val (.int d), .val (fr (lw n d))] = .ok (.val (.bl true)) := by
  have qa := lw_Q hd h1 h2
  refine den_of rfl ?_
  unfold b__law_powers
  refine step (e2 := [some (.val (.int n)), some (.val (.int d)), some (.val (fr (lw n d))), some (.val (.int 1)), none, none]) (by simp only [es_nil, es_cons, es_asgN, es_asgT, es_par, es_if, es_for, es_ret, es_retN, o_prim, o_call, o_var, o_con, o_glob, o_isi, o_and, o_or, o_not, o_ite, o_chain, e_var, e_rd, e_int, e_bl, e_non, e_str, e_glob, e_prim, e_isi, e_call, e_and, e_or, e_not, e_ite, ea_nil, ea_rd, ea_var, ea_con, ea_glob, ea_prim, ea_isi, ea_call, ea_and, ea_or, ea_not, ea_ite, ea_chain, ea_slc, ea_comp, ea_compif, r_var, r_prim, r_con, r_glob, r_call, r_isi, r_and, r_or, r_not, r_ite, r_chain, r_comp, r_compif, r_slc, ld_nil, ld_val, ld_own, ld_bor, ld_none, wp_nil, wp_c, tg_nm, tg_tup, tg_nil, tg_c, e_chain, es_cont, es_brk, es_pass, p_min2, p_max2, p_l0, p_l1, p_l2, p_l3, p_l4, p_is0, p_not0, n_non, n_tup, i_seq, q_lst, q_tup, q_ro, y_tt, y_tn, y_ii, y_bi, y_bb, y_lv, y_lb, oO_some, slotR, l_0, l_s, v_0, v_s, R.bind_ok, R.bind_bad, R.bind_exc, es_raise, es_expr, rf_exc, e_isC, isC_err, ea_isC, o_isC, r_isC, r_srt, o_srt, lk_here, pd_nil, pd_c, sl_d, sl_s, okD_d, okD_l, okS_d, okS_l, rf_val, rf_own, fz_val, fz_own, tr_bl, t_bl, t_int, p_add, p_sub, p_neg, p_eq, p_ne, p_lt, p_le, p_gt, p_ge, p_abs, p_int, p_gcd, p_i0, p_i1, p_i2, p_i3, p_len2, p_len3, p_len4, p_t3, p_t4, p_t2, List.map, List.cons_append, List.nil_append, List.append_nil, List.length_cons, List.length_nil, List.replicate, if_true, if_false, Bool.false_eq_true, Nat.reduceAdd, Nat.reduceSub, decide_eq_true_eq, eq_self, decide_true, Bool.not_true, Bool.not_false, Int.reduceEq, Int.reduceLT, Int.reduceLE, decide_false]) ?_
  refine step (e2 := [some (.val (.int n)), some (.val (.int d)), some (.val (fr (lw n d))), some (.val (.int 1)), some (.val (.int 1)), none]) (by simp only [es_nil, es_cons, es_asgN, es_asgT, es_par, es_if, es_for, es_ret, es_retN, o_prim, o_call, o_var, o_con, o_glob, o_isi, o_and, o_or, o_not, o_ite, o_chain, e_var, e_rd, e_int, e_bl, e_non, e_str, e_glob, e_prim, e_isi, e_call, e_and, e_or, e_not, e_ite, ea_nil, ea_rd, ea_var, ea_con, ea_glob, ea_prim, ea_isi, ea_call, ea_and, ea_or, ea_not, ea_ite, ea_chain, ea_slc, ea_comp, ea_compif, r_var, r_prim, r_con, r_glob, r_call, r_isi, r_and, r_or, r_not, r_ite, r_chain, r_comp, r_compif, r_slc, ld_nil, ld_val, ld_own, ld_bor, ld_none, wp_nil, wp_c, tg_nm, tg_tup, tg_nil, tg_c, e_chain, es_cont, es_brk, es_pass, p_min2, p_max2, p_l0, p_l1, p_l2, p_l3, p_l4, p_is0, p_not0, n_non, n_tup, i_seq, q_lst, q_tup, q_ro, y_tt, y_tn, y_ii, y_bi, y_bb, y_lv, y_lb, oO_some, slotR, l_0, l_s, v_0, v_s, R.bind_ok, R.bind_bad, R.bind_exc, es_raise, es_expr, rf_exc, e_isC, isC_err, ea_isC, o_isC, r_isC, r_srt, o_srt, lk_here, pd_nil, pd_c, sl_d, sl_s, okD_d, okD_l, okS_d, okS_l, rf_val, rf_own, fz_val, fz_own, tr_bl, t_bl, t_int, p_add, p_sub, p_neg, p_eq, p_ne, p_lt, p_le, p_gt, p_ge, p_abs, p_int, p_gcd, p_i0, p_i1, p_i2, p_i3, p_len2, p_len3, p_len4, p_t3, p_t4, p_t2, List.map, List.cons_append, List.nil_append, List.append_nil, List.length_cons, List.length_nil, List.replicate, if_true, if_false, Bool.false_eq_true, Nat.reduceAdd, Nat.reduceSub, decide_eq_true_eq, eq_self, decide_true, Bool.not_true, Bool.not_false, Int.reduceEq, Int.reduceLT, Int.reduceLE, decide_false]) ?_
  refine stepE_count (P := fun R => R = .ok (.rt (.val (.bl true)))) (fun (k : Nat) => D.int (k : Int)) (fun i e => ∃ x, e = [some (.val (.int n)), some (.val (.int d)), some (.val (fr (lw n d))), some (.val (.int (n ^ i))), some (.val (.int (d ^ i))), x]) (List.range 7) (e1 := [some (.val (.int n)), some (.val (.int d)), some (.val (fr (lw n d))), some (.val (.int 1)), some (.val (.int 1)), none])
    (i_rngN (n := 7) (q := [.d (.int 7)]) (by simp only [es_nil, es_cons, es_asgN, es_asgT, es_par, es_if, es_for, es_ret, es_retN, o_prim, o_call, o_var, o_con, o_glob, o_isi, o_and, o_or, o_not, o_ite, o_chain, e_var, e_rd, e_int, e_bl, e_non, e_str, e_glob, e_prim, e_isi, e_call, e_and, e_or, e_not, e_ite, ea_nil, ea_rd, ea_var, ea_con, ea_glob, ea_prim, ea_isi, ea_call, ea_and, ea_or, ea_not, ea_ite, ea_chain, ea_slc, ea_comp, ea_compif, r_var, r_prim, r_con, r_glob, r_call, r_isi, r_and, r_or, r_not, r_ite, r_chain, r_comp, r_compif, r_slc, ld_nil, ld_val, ld_own, ld_bor, ld_none, wp_nil, wp_c, tg_nm, tg_tup, tg_nil, tg_c, e_chain, es_cont, es_brk, es_pass, p_min2, p_max2, p_l0, p_l1, p_l2, p_l3, p_l4, p_is0, p_not0, n_non, n_tup, i_seq, q_lst, q_tup, q_ro, y_tt, y_tn, y_ii, y_bi, y_bb, y_lv, y_lb, oO_some, slotR, l_0, l_s, v_0, v_s, R.bind_ok, R.bind_bad, R.bind_exc, es_raise, es_expr, rf_exc, e_isC, isC_err, ea_isC, o_isC, r_isC, r_srt, o_srt, lk_here, pd_nil, pd_c, sl_d, sl_s, okD_d, okD_l, okS_d, okS_l, rf_val, rf_own, fz_val, fz_own, tr_bl, t_bl, t_int, p_add, p_sub, p_neg, p_eq, p_ne, p_lt, p_le, p_gt, p_ge, p_abs, p_int, p_gcd, p_i0, p_i1, p_i2, p_i3, p_len2, p_len3, p_len4, p_t3, p_t4, p_t2, List.map, List.cons_append, List.nil_append, List.append_nil, List.length_cons, List.length_nil, List.replicate, if_true, if_false, Bool.false_eq_true, Nat.reduceAdd, Nat.reduceSub, decide_eq_true_eq, eq_self, decide_true, Bool.not_true, Bool.not_false, Int.reduceEq, Int.reduceLT, Int.reduceLE, decide_false]) rfl (by decide)) ?_ ⟨none, by rw [Int.pow_zero, Int.pow_zero]⟩ ?_
  · rintro i x hx e ⟨y, rfl⟩
    obtain ⟨rfl, hi⟩ := range_at hx
    have f := den_power qa (n := x) (by omega) (by decide)
    rw [eq_pow hd x] at f
    have b1 := (pow_bd h1 x).mono (show 1 + 134 * x ≤ 1000 by omega)
    have b2 := (pow_bd h2 x).mono (show 1 + 134 * x ≤ 1000 by omega)
    have m1 := mulOk_of b1 h1 (by decide)
    have m2 := mulOk_of b2 h2 (by decide)
    have s := den_same (pow_ne hd x) b1 b2 (by decide) (a := lw (n ^ x) (d ^ x)) rfl
    refine ⟨_, [some (.val (.int n)), some (.val (.int d)), some (.val (fr (lw n d))), some (.val (.int (n ^ (x + 1)))), some (.val (.int (d ^ (x + 1)))), some (.val (.int (x : Int)))], rfl, .inl ?_, _, rfl⟩
    rw [Int.pow_succ, Int.pow_succ]
    generalize n ^ x = N at *
    generalize d ^ x = M at *
    refine step (turn_powers f s) ?_
    refine step (e2 := [some (.val (.int n)), some (.val (.int d)), some (.val (fr (lw n d))), some (.val (.int (N * n))), some (.val (.int M)), some (.val (.int (x : Int)))]) (by simp only [es_nil, es_cons, es_asgN, es_asgT, es_par, es_if, es_for, es_ret, es_retN, o_prim, o_call, o_var, o_con, o_glob, o_isi, o_and, o_or, o_not, o_ite, o_chain, e_var, e_rd, e_int, e_bl, e_non, e_str, e_glob, e_prim, e_isi, e_call, e_and, e_or, e_not, e_ite, ea_nil, ea_rd, ea_var, ea_con, ea_glob, ea_prim, ea_isi, ea_call, ea_and, ea_or, ea_not, ea_ite, ea_chain, ea_slc, ea_comp, ea_compif, r_var, r_prim, r_con, r_glob, r_call, r_isi, r_and, r_or, r_not, r_ite, r_chain, r_comp, r_compif, r_slc, ld_nil, ld_val, ld_own, ld_bor, ld_none, wp_nil, wp_c, tg_nm, tg_tup, tg_nil, tg_c, e_chain, es_cont, es_brk, es_pass, p_min2, p_max2, p_l0, p_l1, p_l2, p_l3, p_l4, p_is0, p_not0, n_non, n_tup, i_seq, q_lst, q_tup, q_ro, y_tt, y_tn, y_ii, y_bi, y_bb, y_lv, y_lb, oO_some, slotR, l_0, l_s, v_0, v_s, R.bind_ok, R.bind_bad, R.bind_exc, es_raise, es_expr, rf_exc, e_isC, isC_err, ea_isC, o_isC, r_isC, r_srt, o_srt, lk_here, pd_nil, pd_c, sl_d, sl_s, okD_d, okD_l, okS_d, okS_l, rf_val, rf_own, fz_val, fz_own, tr_bl, t_bl, t_int, p_add, p_sub, p_neg, p_eq, p_ne, p_lt, p_le, p_gt, p_ge, p_abs, p_int, p_gcd, p_i0, p_i1, p_i2, p_i3, p_len2, p_len3, p_len4, p_t3, p_t4, p_t2, List.map, List.cons_append, List.nil_append, List.append_nil, List.length_cons, List.length_nil, List.replicate, if_true, if_false, Bool.false_eq_true, Nat.reduceAdd, Nat.reduceSub, decide_eq_true_eq, eq_self, decide_true, Bool.not_true, Bool.not_false, Int.reduceEq, Int.reduceLT, Int.reduceLE, decide_false, p_mul _ _ m1]) ?_
    simp only [es_nil, es_cons, es_asgN, es_asgT, es_par, es_if, es_for, es_ret, es_retN, o_prim, o_call, o_var, o_con, o_glob, o_isi, o_and, o_or, o_not, o_ite, o_chain, e_var, e_rd, e_int, e_bl, e_non, e_str, e_glob, e_prim, e_isi, e_call, e_and, e_or, e_not, e_ite, ea_nil, ea_rd, ea_var, ea_con, ea_glob, ea_prim, ea_isi, ea_call, ea_and, ea_or, ea_not, ea_ite, ea_chain, ea_slc, ea_comp, ea_compif, r_var, r_prim, r_con, r_glob, r_call, r_isi, r_and, r_or, r_not, r_ite, r_chain, r_comp, r_compif, r_slc, ld_nil, ld_val, ld_own, ld_bor, ld_none, wp_nil, wp_c, tg_nm, tg_tup, tg_nil, tg_c, e_chain, es_cont, es_brk, es_pass, p_min2, p_max2, p_l0, p_l1, p_l2, p_l3, p_l4, p_is0, p_not0, n_non, n_tup, i_seq, q_lst, q_tup, q_ro, y_tt, y_tn, y_ii, y_bi, y_bb, y_lv, y_lb, oO_some, slotR, l_0, l_s, v_0, v_s, R.bind_ok, R.bind_bad, R.bind_exc, es_raise, es_expr, rf_exc, e_isC, isC_err, ea_isC, o_isC, r_isC, r_srt, o_srt, lk_here, pd_nil, pd_c, sl_d, sl_s, okD_d, okD_l, okS_d, okS_l, rf_val, rf_own, fz_val, fz_own, tr_bl, t_bl, t_int, p_add, p_sub, p_neg, p_eq, p_ne, p_lt, p_le, p_gt, p_ge, p_abs, p_int, p_gcd, p_i0, p_i1, p_i2, p_i3, p_len2, p_len3, p_len4, p_t3, p_t4, p_t2, List.map, List.cons_append, List.nil_append, List.append_nil, List.length_cons, List.length_nil, List.replicate, if_true, if_false, Bool.false_eq_true, Nat.reduceAdd, Nat.reduceSub, decide_eq_true_eq, eq_self, decide_true, Bool.not_true, Bool.not_false, Int.reduceEq, Int.reduceLT, Int.reduceLE, decide_false, p_mul _ _ m2]
  · rintro e ⟨x, rfl⟩
    simp only [es_nil, es_cons, es_asgN, es_asgT, es_par, es_if, es_for, es_ret, es_retN, o_prim, o_call, o_var, o_con, o_glob, o_isi, o_and, o_or, o_not, o_ite, o_chain, e_var, e_rd, e_int, e_bl, e_non, e_str, e_glob, e_prim, e_isi, e_call, e_and, e_or, e_not, e_ite, ea_nil, ea_rd, ea_var, ea_con, ea_glob, ea_prim, ea_isi, ea_call, ea_and, ea_or, ea_not, ea_ite, ea_chain, ea_slc, ea_comp, ea_compif, r_var, r_prim, r_con, r_glob, r_call, r_isi, r_and, r_or, r_not, r_ite, r_chain, r_comp, r_compif, r_slc, ld_nil, ld_val, ld_own, ld_bor, ld_none, wp_nil, wp_c, tg_nm, tg_tup, tg_nil, tg_c, e_chain, es_cont, es_brk, es_pass, p_min2, p_max2, p_l0, p_l1, p_l2, p_l3, p_l4, p_is0, p_not0, n_non, n_tup, i_seq, q_lst, q_tup, q_ro, y_tt, y_tn, y_ii, y_bi, y_bb, y_lv, y_lb, oO_some, slotR, l_0, l_s, v_0, v_s, R.bind_ok, R.bind_bad, R.bind_exc, es_raise, es_expr, rf_exc, e_isC, isC_err, ea_isC, o_isC, r_isC, r_srt, o_srt, lk_here, pd_nil, pd_c, sl_d, sl_s, okD_d, okD_l, okS_d, okS_l, rf_val, rf_own, fz_val, fz_own, tr_bl, t_bl, t_int, p_add, p_sub, p_neg, p_eq, p_ne, p_lt, p_le, p_gt, p_ge, p_abs, p_int, p_gcd, p_i0, p_i1, p_i2, p_i3, p_len2, p_len3, p_len4, p_t3, p_t4, p_t2, List.map, List.cons_append, List.nil_append, List.append_nil, List.length_cons, List.length_nil, List.replicate, if_true, if_false, Bool.false_eq_true, Nat.reduceAdd, Nat.reduceSub, decide_eq_true_eq, eq_self, decide_true, Bool.not_true, Bool.not_false, Int.reduceEq, Int.reduceLT, Int.reduceLE, decide_false]
end
end K86
set_option Elab.async false
set_option linter.all false
set_option maxRecDepth 100000
namespace K86
open PySem Ev Fx
/-! ### cuts -/
theorem cut_take {xs : List D} {k : Nat} (h : k ≤ xs.length) : cutD xs none (some (k : Int)) = xs.take k := by
  unfold cutD
  rw [HT.sIx_none, HT.sIx_nat, Nat.min_eq_left h, Nat.sub_zero, List.drop_zero]
theorem cut_drop {xs : List D} {k : Nat} (h : k ≤ xs.length) : cutD xs (some (k : Int)) none = xs.drop k := by
  unfold cutD
  rw [HT.sIx_none, HT.sIx_nat, Nat.min_eq_left h]
  exact List.take_of_length_le (by rw [List.length_drop]; omega)
theorem p_cut {s : Sl} {xs : List D} {lo hi : Option Int} (h : s.rs = some xs) (hl : xs.length ≤ lim) : pCut s lo hi = .l (cutD xs lo hi) := by
  unfold pCut
  rw [h]
  dsimp only
  unfold newL
  rw [if_pos]
  refine Nat.le_trans ?_ hl
  unfold cutD
  exact Nat.le_trans (List.length_take_le' ..) (by rw [List.length_drop]; omega)
theorem p_addL {x y : List D} (h : x.length + y.length ≤ lim) : evPrim .add [.val (.lst x), .val (.lst y)] = .l (x ++ y) := by
  show newL (x ++ y) = _
  unfold newL
  rw [if_pos (by rw [List.length_append]; exact h)]
/-! ### the law's sort -/
abbrev ltF (a b : Int × Int) : Prop := a.1 * b.2 < b.1 * a.2
/-- where x goes: behind the last that is not above it -/
def spot (x : Int × Int) (r : List (Int × Int)) : Nat → Nat
  | 0 => 0
  | k + 1 => if ltF x (r.getD k (0, 1)) then spot x r k else k + 1
theorem spot_le (x : Int × Int) (r : List (Int × Int)) : ∀ k, spot x r k ≤ k
  | 0 => Nat.le_refl _
  | k + 1 => by
    unfold spot
    split
    · exact Nat.le_trans (spot_le x r k) (Nat.le_succ _)
    · exact Nat.le_refl _
theorem spot_above (x : Int × Int) (r : List (Int × Int)) : ∀ k i, spot x r k ≤ i → i < k → ltF x (r.getD i (0, 1))
  | 0, i, _, h => by omega
  | k + 1, i, h, hi => by
    unfold spot at h
    split at h
    · next q =>
      by_cases z : i = k
      · rw [z]; exact q
      · exact spot_above x r k i h (by omega)
    · omega
theorem spot_below (x : Int × Int) (r : List (Int × Int)) : ∀ k, 0 < spot x r k → ¬ ltF x (r.getD (spot x r k - 1) (0, 1))
  | 0, h => by simp [spot] at h
  | k + 1, h => by
    unfold spot at h ⊢
    split at h
    · next q => rw [if_pos q]; exact spot_below x r k h
    · next q => rw [if_neg q]; exact q
def insB (x : Int × Int) (r : List (Int × Int)) : List (Int × Int) := r.take (spot x r r.length) ++ [x] ++ r.drop (spot x r r.length)
theorem frs_inj {c : Int} : ∀ {l m : List (Int × Int)}, keyed c l = keyed c m → l = m
  | [], [], _ => rfl
  | [], _ :: _, h => by simp [keyed] at h
  | _ :: _, [], h => by simp [keyed] at h
  | a :: l, b :: m, h => by
    simp only [keyed, List.map_cons, List.cons.injEq, Prod.mk.injEq, D.tup.injEq, D.int.injEq, and_true] at h
    obtain ⟨⟨_, h1, h2⟩, h3⟩ := h
    rw [frs_inj h3, Prod.ext h1 h2]
theorem insB_asc {c : Int} {x : Int × Int} {p : List (Int × Int)} (hc : Com c (p ++ [x])) : insB x (asc p) = asc (p ++ [x]) := by
  have hp : Com c p := ⟨hc.pos, fun a ha => hc.dvd a (List.mem_append_left _ ha)⟩
  have ek := asc_key hp
  have pw := sortK_pw (keyed c p)
  have fl := fun k => sortK_filter (c := k) (keyed c p)
  rw [ek] at pw fl
  have dv : ∀ a ∈ asc p, 0 < a.2 ∧ a.2 ∣ c := fun a ha => hp.dvd a (asc_mem.mp ha)
  have dx := hc.dvd x (by simp)
  generalize hr : asc p = r at *
  have sl := spot_le x r r.length
  have sa := spot_above x r r.length
  have sb := spot_below x r r.length
  unfold insB
  generalize hk : spot x r r.length = k at *
  have low : ∀ a ∈ r.take k, keyF c a ≤ keyF c x := fun a ha => by
    obtain ⟨i, hi, e⟩ := List.getElem_of_mem ha
    rw [List.length_take, Nat.min_eq_left sl] at hi
    have h1 := sb (by omega)
    have lk : k - 1 < r.length := by omega
    have e1 : r.getD (k - 1) (0, 1) = r[k - 1] := by rw [List.getD_eq_getElem?_getD, List.getElem?_eq_getElem lk]; rfl
    rw [e1] at h1
    have h2 : leF r[k - 1] x := by unfold leF; unfold ltF at h1; omega
    have h3 := (key_le hc.pos (dv _ (List.getElem_mem lk)) dx).mpr h2
    have e2 : a = r[i]'(by omega) := by rw [← e, List.getElem_take]
    rw [e2]
    refine Int.le_trans ?_ h3
    by_cases z : i = k - 1
    · subst z; exact Int.le_refl _
    · have := List.pairwise_iff_getElem.mp pw i (k - 1) (by simp [keyed]; omega) (by simp [keyed]; omega) (by omega)
      simpa [keyed] using this
  have high : ∀ a ∈ r.drop k, keyF c x < keyF c a := fun a ha => by
    obtain ⟨i, hi, e⟩ := List.getElem_of_mem ha
    rw [List.length_drop] at hi
    have lt : k + i < r.length := by omega
    have h1 := sa (k + i) (by omega) lt
    have e1 : r.getD (k + i) (0, 1) = r[k + i] := by rw [List.getD_eq_getElem?_getD, List.getElem?_eq_getElem lt]; rfl
    rw [e1] at h1
    have e2 : a = r[k + i] := by rw [← e, List.getElem_drop]
    rw [e2]
    have h2 : ¬ leF r[k + i] x := by unfold leF; unfold ltF at h1; omega
    have := mt (key_le hc.pos (dv _ (List.getElem_mem lt)) dx).mp h2
    omega
  refine frs_inj (c := c) ?_
  rw [← asc_key hc]
  refine sortK_of ?_ fun q => ?_
  · have pw1 : (keyed c (r.take k)).Pairwise (fun p q => p.1 ≤ q.1) := by
      have := pw.sublist (List.Sublist.map _ (List.take_sublist k r))
      exact this
    have pw2 : (keyed c (r.drop k)).Pairwise (fun p q => p.1 ≤ q.1) := pw.sublist (List.Sublist.map _ (List.drop_sublist k r))
    unfold keyed
    rw [List.map_append, List.map_append, List.append_assoc]
    refine List.pairwise_append.mpr ⟨pw1, List.pairwise_append.mpr ⟨by simp, pw2, fun a ha b hb => ?_⟩, fun a ha b hb => ?_⟩
    · simp at ha
      obtain ⟨b', hb', rfl⟩ := List.mem_map.mp hb
      rw [ha]
      exact Int.le_of_lt (high b' hb')
    · obtain ⟨a', ha', rfl⟩ := List.mem_map.mp ha
      rcases List.mem_append.mp hb with z | z
      · simp at z; rw [z]; exact low a' ha'
      · obtain ⟨b', hb', rfl⟩ := List.mem_map.mp z
        exact Int.le_trans (low a' ha') (Int.le_of_lt (high b' hb'))
  · have f0 := fl q
    rw [show keyed c (p ++ [x]) = keyed c p ++ keyed c [x] from List.map_append, List.filter_append, ← f0]
    have e0 : keyed c r = keyed c (r.take k) ++ keyed c (r.drop k) := by unfold keyed; rw [← List.map_append, List.take_append_drop]
    rw [e0, show keyed c (r.take k ++ [x] ++ r.drop k) = keyed c (r.take k) ++ keyed c [x] ++ keyed c (r.drop k) by unfold keyed; rw [List.map_append, List.map_append]]
    rw [List.filter_append, List.filter_append, List.filter_append, List.append_assoc, List.append_assoc]
    congr 1
    by_cases z : keyF c x = q
    · have : (keyed c (r.drop k)).filter (fun p => p.1 == q) = [] := by
        rw [List.filter_eq_nil_iff]
        intro a ha
        obtain ⟨a', ha', rfl⟩ := List.mem_map.mp ha
        have := high a' ha'
        simp
        omega
      rw [this, List.append_nil, List.nil_append]
    · have : (keyed c [x]).filter (fun p => p.1 == q) = [] := by simp [keyed, z]
      rw [this, List.nil_append, List.append_nil]
abbrev swhile : Stm := (.while (.and (.prim .gt (.cons (.rd 3 "k") (.cons (.con (.int 0)) .nil))) (.prim .lt (.cons (.prim .mul (.cons (.prim .idx (.cons (.rd 2 "number") (.cons (.con (.int 0)) .nil))) (.cons (.prim .idx (.cons (.prim .idx (.cons (.rd 1 "row") (.cons (.prim .sub (.cons (.rd 3 "k") (.cons (.con (.int 1)) .nil))) .nil))) (.cons (.con (.int 1)) .nil))) .nil))) (.cons (.prim .mul (.cons (.prim .idx (.cons (.prim .idx (.cons (.rd 1 "row") (.cons (.prim .sub (.cons (.rd 3 "k") (.cons (.con (.int 1)) .nil))) .nil))) (.cons (.con (.int 0)) .nil))) (.cons (.prim .idx (.cons (.rd 2 "number") (.cons (.con (.int 1)) .nil))) .nil))) .nil)))) (.cons (.asg (.nm 3 "k") (.prim .sub (.cons (.rd 3 "k") (.cons (.con (.int 1)) .nil))))
  .nil))
theorem p_rowB {r : List (Int × Int)} {k : Nat} (h : k < r.length) : evPrim .idx [.bor (frs r), .val (.int (k : Int))] = .d (fr (r.getD k (0, 1))) := by
  rw [p_idxB, at_map fr (k := k) (x := r.getD k (0, 1)) (by rw [List.getD_eq_getElem?_getD, List.getElem?_eq_getElem h]; rfl)]
  rfl
theorem loop_sort {q : Nat} (hq : q ≤ 1000000) {x : Int × Int} (hx : Q q x) {r : List (Int × Int)} (hr : ∀ a ∈ r, Q q a) (s0 : Option Sl) : ∀ k : Nat, k ≤ r.length →
    evS swhile [s0, some (.own (frs r)), some (.val (fr x)), some (.val (.int (k : Int)))] = .ok (.nx [s0, some (.own (frs r)), some (.val (fr x)), some (.val (.int ((spot x r k : Nat) : Int)))]) := by
  intro k hk
  rw [es_while]
  suffices z : ∃ j, loopN _ _ j [s0, some (.own (frs r)), some (.val (fr x)), some (.val (.int (k : Int)))] = some (.ok (.nx [s0, some (.own (frs r)), some (.val (fr x)), some (.val (.int ((spot x r k : Nat) : Int)))])) by
    obtain ⟨j, z⟩ := z
    exact whileD_of z
  induction k with
  | zero =>
    refine ⟨1, loopN_done (e1 := [s0, some (.own (frs r)), some (.val (fr x)), some (.val (.int 0))]) ?_⟩
    show (R.bind (evE _ [s0, some (.own (frs r)), some (.val (fr x)), some (.val (.int 0))]) fun p => truthR p.1 p.2) = _
    simp only [es_nil, es_cons, es_asgN, es_asgT, es_par, es_if, es_for, es_ret, es_retN, o_prim, o_call, o_var, o_con, o_glob, o_isi, o_and, o_or, o_not, o_ite, o_chain, e_var, e_rd, e_int, e_bl, e_non, e_str, e_glob, e_prim, e_isi, e_call, e_and, e_or, e_not, e_ite, ea_nil, ea_rd, ea_var, ea_con, ea_glob, ea_prim, ea_isi, ea_call, ea_and, ea_or, ea_not, ea_ite, ea_chain, ea_slc, ea_comp, ea_compif, r_var, r_prim, r_con, r_glob, r_call, r_isi, r_and, r_or, r_not, r_ite, r_chain, r_comp, r_compif, r_slc, ld_nil, ld_val, ld_own, ld_bor, ld_none, wp_nil, wp_c, tg_nm, tg_tup, tg_nil, tg_c, e_chain, es_cont, es_brk, es_pass, p_min2, p_max2, p_l0, p_l1, p_l2, p_l3, p_l4, p_is0, p_not0, n_non, n_tup, i_seq, q_lst, q_tup, q_ro, y_tt, y_tn, y_ii, y_bi, y_bb, y_lv, y_lb, oO_some, slotR, l_0, l_s, v_0, v_s, R.bind_ok, R.bind_bad, R.bind_exc, es_raise, es_expr, rf_exc, e_isC, isC_err, ea_isC, o_isC, r_isC, r_srt, o_srt, lk_here, pd_nil, pd_c, sl_d, sl_s, okD_d, okD_l, okS_d, okS_l, rf_val, rf_own, fz_val, fz_own, tr_bl, t_bl, t_int, p_add, p_sub, p_neg, p_eq, p_ne, p_lt, p_le, p_gt, p_ge, p_abs, p_int, p_gcd, p_i0, p_i1, p_i2, p_i3, p_len2, p_len3, p_len4, p_t3, p_t4, p_t2, List.map, List.cons_append, List.nil_append, List.append_nil, List.length_cons, List.length_nil, List.replicate, if_true, if_false, Bool.false_eq_true, Nat.reduceAdd, Nat.reduceSub, decide_eq_true_eq, eq_self, decide_true, Bool.not_true, Bool.not_false, Int.reduceEq, Int.reduceLT, Int.reduceLE, decide_false, Int.lt_irrefl, decide_false]
  | succ k ih =>
    obtain ⟨j, z⟩ := ih (by omega)
    have hm : r.getD k (0, 1) ∈ r := by
      rw [List.getD_eq_getElem?_getD, List.getElem?_eq_getElem (show k < r.length by omega)]
      exact List.getElem_mem _
    have hy := hr _ hm
    have ix := p_rowB (r := r) (k := k) (by omega)
    have e1 : ((k + 1 : Nat) : Int) - 1 = (k : Int) := by omega
    have g0 : (0 : Int) < ((k + 1 : Nat) : Int) := by omega
    unfold spot
    generalize r.getD k (0, 1) = y at *
    have m1 := mulOk_of hx.b1 hy.b2 (by omega)
    have m2 := mulOk_of hy.b1 hx.b2 (by omega)
    by_cases c : ltF x y
    · rw [if_pos c]
      refine ⟨j + 1, loopN_step (e1 := [s0, some (.own (frs r)), some (.val (fr x)), some (.val (.int ((k + 1 : Nat) : Int)))]) (e2 := [s0, some (.own (frs r)), some (.val (fr x)), some (.val (.int (k : Int)))]) ?_ ?_ z⟩
      · simp only [es_nil, es_cons, es_asgN, es_asgT, es_par, es_if, es_for, es_ret, es_retN, o_prim, o_call, o_var, o_con, o_glob, o_isi, o_and, o_or, o_not, o_ite, o_chain, e_var, e_rd, e_int, e_bl, e_non, e_str, e_glob, e_prim, e_isi, e_call, e_and, e_or, e_not, e_ite, ea_nil, ea_rd, ea_var, ea_con, ea_glob, ea_prim, ea_isi, ea_call, ea_and, ea_or, ea_not, ea_ite, ea_chain, ea_slc, ea_comp, ea_compif, r_var, r_prim, r_con, r_glob, r_call, r_isi, r_and, r_or, r_not, r_ite, r_chain, r_comp, r_compif, r_slc, ld_nil, ld_val, ld_own, ld_bor, ld_none, wp_nil, wp_c, tg_nm, tg_tup, tg_nil, tg_c, e_chain, es_cont, es_brk, es_pass, p_min2, p_max2, p_l0, p_l1, p_l2, p_l3, p_l4, p_is0, p_not0, n_non, n_tup, i_seq, q_lst, q_tup, q_ro, y_tt, y_tn, y_ii, y_bi, y_bb, y_lv, y_lb, oO_some, slotR, l_0, l_s, v_0, v_s, R.bind_ok, R.bind_bad, R.bind_exc, es_raise, es_expr, rf_exc, e_isC, isC_err, ea_isC, o_isC, r_isC, r_srt, o_srt, lk_here, pd_nil, pd_c, sl_d, sl_s, okD_d, okD_l, okS_d, okS_l, rf_val, rf_own, fz_val, fz_own, tr_bl, t_bl, t_int, p_add, p_sub, p_neg, p_eq, p_ne, p_lt, p_le, p_gt, p_ge, p_abs, p_int, p_gcd, p_i0, p_i1, p_i2, p_i3, p_len2, p_len3, p_len4, p_t3, p_t4, p_t2, List.map, List.cons_append, List.nil_append, List.append_nil, List.length_cons, List.length_nil, List.replicate, if_true, if_false, Bool.false_eq_true, Nat.reduceAdd, Nat.reduceSub, decide_eq_true_eq, eq_self, decide_true, Bool.not_true, Bool.not_false, Int.reduceEq, Int.reduceLT, Int.reduceLE, decide_false, g0, e1, ix, p_mul _ _ m1, p_mul _ _ m2, decide_eq_true c]
      · simp only [es_nil, es_cons, es_asgN, es_asgT, es_par, es_if, es_for, es_ret, es_retN, o_prim, o_call, o_var, o_con, o_glob, o_isi, o_and, o_or, o_not, o_ite, o_chain, e_var, e_rd, e_int, e_bl, e_non, e_str, e_glob, e_prim, e_isi, e_call, e_and, e_or, e_not, e_ite, ea_nil, ea_rd, ea_var, ea_con, ea_glob, ea_prim, ea_isi, ea_call, ea_and, ea_or, ea_not, ea_ite, ea_chain, ea_slc, ea_comp, ea_compif, r_var, r_prim, r_con, r_glob, r_call, r_isi, r_and, r_or, r_not, r_ite, r_chain, r_comp, r_compif, r_slc, ld_nil, ld_val, ld_own, ld_bor, ld_none, wp_nil, wp_c, tg_nm, tg_tup, tg_nil, tg_c, e_chain, es_cont, es_brk, es_pass, p_min2, p_max2, p_l0, p_l1, p_l2, p_l3, p_l4, p_is0, p_not0, n_non, n_tup, i_seq, q_lst, q_tup, q_ro, y_tt, y_tn, y_ii, y_bi, y_bb, y_lv, y_lb, oO_some, slotR, l_0, l_s, v_0, v_s, R.bind_ok, R.bind_bad, R.bind_exc, es_raise, es_expr, rf_exc, e_isC, isC_err, ea_isC, o_isC, r_isC, r_srt, o_srt, lk_here, pd_nil, pd_c, sl_d, sl_s, okD_d, okD_l, okS_d, okS_l, rf_val, rf_own, fz_val, fz_own, tr_bl, t_bl, t_int, p_add, p_sub, p_neg, p_eq, p_ne, p_lt, p_le, p_gt, p_ge, p_abs, p_int, p_gcd, p_i0, p_i1, p_i2, p_i3, p_len2, p_len3, p_len4, p_t3, p_t4, p_t2, List.map, List.cons_append, List.nil_append, List.append_nil, List.length_cons, List.length_nil, List.replicate, if_true, if_false, Bool.false_eq_true, Nat.reduceAdd, Nat.reduceSub, decide_eq_true_eq, eq_self, decide_true, Bool.not_true, Bool.not_false, Int.reduceEq, Int.reduceLT, Int.reduceLE, decide_false, e1]
    · rw [if_neg c]
      refine ⟨1, loopN_done ?_⟩
      simp only [es_nil, es_cons, es_asgN, es_asgT, es_par, es_if, es_for, es_ret, es_retN, o_prim, o_call, o_var, o_con, o_glob, o_isi, o_and, o_or, o_not, o_ite, o_chain, e_var, e_rd, e_int, e_bl, e_non, e_str, e_glob, e_prim, e_isi, e_call, e_and, e_or, e_not, e_ite, ea_nil, ea_rd, ea_var, ea_con, ea_glob, ea_prim, ea_isi, ea_call, ea_and, ea_or, ea_not, ea_ite, ea_chain, ea_slc, ea_comp, ea_compif, r_var, r_prim, r_con, r_glob, r_call, r_isi, r_and, r_or, r_not, r_ite, r_chain, r_comp, r_compif, r_slc, ld_nil, ld_val, ld_own, ld_bor, ld_none, wp_nil, wp_c, tg_nm, tg_tup, tg_nil, tg_c, e_chain, es_cont, es_brk, es_pass, p_min2, p_max2, p_l0, p_l1, p_l2, p_l3, p_l4, p_is0, p_not0, n_non, n_tup, i_seq, q_lst, q_tup, q_ro, y_tt, y_tn, y_ii, y_bi, y_bb, y_lv, y_lb, oO_some, slotR, l_0, l_s, v_0, v_s, R.bind_ok, R.bind_bad, R.bind_exc, es_raise, es_expr, rf_exc, e_isC, isC_err, ea_isC, o_isC, r_isC, r_srt, o_srt, lk_here, pd_nil, pd_c, sl_d, sl_s, okD_d, okD_l, okS_d, okS_l, rf_val, rf_own, fz_val, fz_own, tr_bl, t_bl, t_int, p_add, p_sub, p_neg, p_eq, p_ne, p_lt, p_le, p_gt, p_ge, p_abs, p_int, p_gcd, p_i0, p_i1, p_i2, p_i3, p_len2, p_len3, p_len4, p_t3, p_t4, p_t2, List.map, List.cons_append, List.nil_append, List.append_nil, List.length_cons, List.length_nil, List.replicate, if_true, if_false, Bool.false_eq_true, Nat.reduceAdd, Nat.reduceSub, decide_eq_true_eq, eq_self, decide_true, Bool.not_true, Bool.not_false, Int.reduceEq, Int.reduceLT, Int.reduceLE, decide_false, g0, e1, ix, p_mul _ _ m1, p_mul _ _ m2, decide_eq_false c]
theorem insB_len (x : Int × Int) (r : List (Int × Int)) : (insB x r).length = r.length + 1 := by
  unfold insB
  have := spot_le x r r.length
  simp
  omega
theorem frs_insB (x : Int × Int) (r : List (Int × Int)) : frs (insB x r) = (frs r).take (spot x r r.length) ++ [fr x] ++ (frs r).drop (spot x r r.length) := by
  unfold insB frs
  rw [List.map_append, List.map_append, List.map_take, List.map_drop]
  rfl
abbrev srow : Stm := .asg (.nm 1 "row") (.prim .add (.cons (.prim .add (.cons (.slc (.rd 1 "row") .none (.some (.var 3 "k"))) (.cons (.prim .lst (.cons (.var 2 "number") .nil)) .nil))) (.cons (.slc (.rd 1 "row") (.some (.var 3 "k")) .none) .nil)))
theorem e_slcB {k i : Nat} {xs : List D} {y : Str} {lo hi : Oe} {e : En} {l h : Option Int} (h1 : lk e i = some (.own xs)) (h2 : evOI lo e = .ok (l, e)) (h3 : evOI hi e = .ok (h, e)) (hl : xs.length ≤ lim) : evE (.slc (.rd i y) lo hi) e = .ok (.lst (cutD xs l h), e) := by
  show R.bind (slotR i e) _ = _
  unfold slotR
  rw [h1]
  dsimp only
  rw [R.bind_ok, h2, R.bind_ok, h3, R.bind_ok]
  dsimp only
  have e1 : Pd.sl e (.slot i) = some (.bor xs) := by rw [sl_s, h1]
  rw [e1]
  dsimp only
  rw [p_cut (xs := xs) rfl hl]
  rfl
theorem row_ins {xs : List D} {d : D} {K : Int} {k : Nat} {s0 : Option Sl} (hK : K = (k : Int)) (hk : k ≤ xs.length) (hl : xs.length < lim) :
    evS srow [s0, some (.own xs), some (.val d), some (.val (.int K))] = .ok (.nx [s0, some (.own (xs.take k ++ [d] ++ xs.drop k)), some (.val d), some (.val (.int K))]) := by
  have o1 : ∀ e : En, e = [s0, some (.own xs), some (.val d), some (.val (.int K))] → evOI (.some (.var 3 "k")) e = .ok (some K, e) := by rintro e rfl; rfl
  have c1 := e_slcB (k := 0) (i := 1) (xs := xs) (y := "row") (lo := .none) (hi := .some (.var 3 "k")) (e := [s0, some (.own xs), some (.val d), some (.val (.int K))]) rfl rfl (o1 _ rfl) (by omega)
  have c2 := e_slcB (k := 0) (i := 1) (xs := xs) (y := "row") (lo := .some (.var 3 "k")) (hi := .none) (e := [s0, some (.own xs), some (.val d), some (.val (.int K))]) rfl (o1 _ rfl) rfl (by omega)
  rw [hK, cut_take hk, ← hK] at c1
  rw [hK, cut_drop hk, ← hK] at c2
  have l1 : (xs.take k).length = k := by rw [List.length_take, Nat.min_eq_left hk]
  have a1 := p_addL (x := xs.take k) (y := [d]) (by rw [l1]; simp; omega)
  have a2 := p_addL (x := xs.take k ++ [d]) (y := xs.drop k) (by rw [List.length_append, l1, List.length_drop]; simp; omega)
  simp only [es_nil, es_cons, es_asgN, es_asgT, es_par, es_if, es_for, es_ret, es_retN, o_prim, o_call, o_var, o_con, o_glob, o_isi, o_and, o_or, o_not, o_ite, o_chain, e_var, e_rd, e_int, e_bl, e_non, e_str, e_glob, e_prim, e_isi, e_call, e_and, e_or, e_not, e_ite, ea_nil, ea_rd, ea_var, ea_con, ea_glob, ea_prim, ea_isi, ea_call, ea_and, ea_or, ea_not, ea_ite, ea_chain, ea_slc, ea_comp, ea_compif, r_var, r_prim, r_con, r_glob, r_call, r_isi, r_and, r_or, r_not, r_ite, r_chain, r_comp, r_compif, r_slc, ld_nil, ld_val, ld_own, ld_bor, ld_none, wp_nil, wp_c, tg_nm, tg_tup, tg_nil, tg_c, e_chain, es_cont, es_brk, es_pass, p_min2, p_max2, p_l0, p_l1, p_l2, p_l3, p_l4, p_is0, p_not0, n_non, n_tup, i_seq, q_lst, q_tup, q_ro, y_tt, y_tn, y_ii, y_bi, y_bb, y_lv, y_lb, oO_some, slotR, l_0, l_s, v_0, v_s, R.bind_ok, R.bind_bad, R.bind_exc, es_raise, es_expr, rf_exc, e_isC, isC_err, ea_isC, o_isC, r_isC, r_srt, o_srt, lk_here, pd_nil, pd_c, sl_d, sl_s, okD_d, okD_l, okS_d, okS_l, rf_val, rf_own, fz_val, fz_own, tr_bl, t_bl, t_int, p_add, p_sub, p_neg, p_eq, p_ne, p_lt, p_le, p_gt, p_ge, p_abs, p_int, p_gcd, p_i0, p_i1, p_i2, p_i3, p_len2, p_len3, p_len4, p_t3, p_t4, p_t2, List.map, List.cons_append, List.nil_append, List.append_nil, List.length_cons, List.length_nil, List.replicate, if_true, if_false, Bool.false_eq_true, Nat.reduceAdd, Nat.reduceSub, decide_eq_true_eq, eq_self, decide_true, Bool.not_true, Bool.not_false, Int.reduceEq, Int.reduceLT, Int.reduceLE, decide_false, c1, c2, a1, a2]
theorem com_of {q : Nat} {l : List (Int × Int)} (h : ∀ a ∈ l, Q q a) : Com (lcms l) l := by
  obtain ⟨p, b, _, d⟩ := lcms_fold l (k := q) (i := 1) (c := 1) (by decide) (bd_lit rfl) h
  exact ⟨p, fun a ha => ⟨(h a ha).pos, d a ha⟩⟩
theorem den_sorted {q : Nat} (hq : q ≤ 1000000) {l : List (Int × Int)} (h : ∀ a ∈ l, Q q a) (hl : l.length ≤ 1000) : f__law_sorted.den [.val (.lst (frs l))] = .ok (.own (frs (asc l))) := by
  refine den_own rfl ?_
  unfold b__law_sorted
  refine step (e2 := [some (.val (.lst (frs l))), some (.own (frs [])), none, none]) (by simp only [es_nil, es_cons, es_asgN, es_asgT, es_par, es_if, es_for, es_ret, es_retN, o_prim, o_call, o_var, o_con, o_glob, o_isi, o_and, o_or, o_not, o_ite, o_chain, e_var, e_rd, e_int, e_bl, e_non, e_str, e_glob, e_prim, e_isi, e_call, e_and, e_or, e_not, e_ite, ea_nil, ea_rd, ea_var, ea_con, ea_glob, ea_prim, ea_isi, ea_call, ea_and, ea_or, ea_not, ea_ite, ea_chain, ea_slc, ea_comp, ea_compif, r_var, r_prim, r_con, r_glob, r_call, r_isi, r_and, r_or, r_not, r_ite, r_chain, r_comp, r_compif, r_slc, ld_nil, ld_val, ld_own, ld_bor, ld_none, wp_nil, wp_c, tg_nm, tg_tup, tg_nil, tg_c, e_chain, es_cont, es_brk, es_pass, p_min2, p_max2, p_l0, p_l1, p_l2, p_l3, p_l4, p_is0, p_not0, n_non, n_tup, i_seq, q_lst, q_tup, q_ro, y_tt, y_tn, y_ii, y_bi, y_bb, y_lv, y_lb, oO_some, slotR, l_0, l_s, v_0, v_s, R.bind_ok, R.bind_bad, R.bind_exc, es_raise, es_expr, rf_exc, e_isC, isC_err, ea_isC, o_isC, r_isC, r_srt, o_srt, lk_here, pd_nil, pd_c, sl_d, sl_s, okD_d, okD_l, okS_d, okS_l, rf_val, rf_own, fz_val, fz_own, tr_bl, t_bl, t_int, p_add, p_sub, p_neg, p_eq, p_ne, p_lt, p_le, p_gt, p_ge, p_abs, p_int, p_gcd, p_i0, p_i1, p_i2, p_i3, p_len2, p_len3, p_len4, p_t3, p_t4, p_t2, List.map, List.cons_append, List.nil_append, List.append_nil, List.length_cons, List.length_nil, List.replicate, if_true, if_false, Bool.false_eq_true, Nat.reduceAdd, Nat.reduceSub, decide_eq_true_eq, eq_self, decide_true, Bool.not_true, Bool.not_false, Int.reduceEq, Int.reduceLT, Int.reduceLE, decide_false]) ?_
  refine stepE_count (P := fun R => R = .ok (.rt (.own (frs (asc l))))) (fun a : Int × Int => fr a) (fun i e => ∃ x y, e = [some (.val (.lst (frs l))), some (.own (frs (asc (l.take i)))), x, y]) l (e1 := [some (.val (.lst (frs l))), some (.own (frs [])), none, none]) rfl ?_ ⟨_, _, rfl⟩ ?_
  · rintro i a ha e ⟨x, y, rfl⟩
    have hi : i < l.length := by
      by_cases q : i < l.length
      · exact q
      · rw [List.getElem?_eq_none (by omega)] at ha; cases ha
    have tk : l.take (i + 1) = l.take i ++ [a] := by rw [List.take_add_one, ha]; rfl
    have cm : Com (lcms (l.take (i + 1))) (l.take (i + 1)) := com_of (q := q) fun y hy => h y (List.mem_of_mem_take hy)
    rw [tk] at cm
    have ins := insB_asc cm
    rw [← tk] at ins
    have lr : (asc (l.take i)).length = i := by rw [asc_len, List.length_take, Nat.min_eq_left (by omega)]
    have hr : ∀ y ∈ asc (l.take i), Q q y := fun y hy => h y (List.mem_of_mem_take (asc_mem.mp hy))
    generalize asc (l.take i) = r at *
    have lp := loop_sort hq (h a (List.mem_of_getElem? ha)) hr (some (.val (.lst (frs l)))) r.length (Nat.le_refl _)
    have sl := spot_le a r r.length
    refine ⟨_, [some (.val (.lst (frs l))), some (.own (frs (insB a r))), some (.val (fr a)), some (.val (.int ((spot a r r.length : Nat) : Int)))], rfl, .inl ?_, _, _, by rw [ins]⟩
    refine step (e2 := [some (.val (.lst (frs l))), some (.own (frs r)), some (.val (fr a)), some (.val (.int (r.length : Int)))]) ?_ ?_
    · have p : evPrim .len [.bor (frs r)] = .d (.int (r.length : Int)) := by rw [p_lenB, List.length_map]
      generalize (r.length : Int) = L at p ⊢
      simp only [es_nil, es_cons, es_asgN, es_asgT, es_par, es_if, es_for, es_ret, es_retN, o_prim, o_call, o_var, o_con, o_glob, o_isi, o_and, o_or, o_not, o_ite, o_chain, e_var, e_rd, e_int, e_bl, e_non, e_str, e_glob, e_prim, e_isi, e_call, e_and, e_or, e_not, e_ite, ea_nil, ea_rd, ea_var, ea_con, ea_glob, ea_prim, ea_isi, ea_call, ea_and, ea_or, ea_not, ea_ite, ea_chain, ea_slc, ea_comp, ea_compif, r_var, r_prim, r_con, r_glob, r_call, r_isi, r_and, r_or, r_not, r_ite, r_chain, r_comp, r_compif, r_slc, ld_nil, ld_val, ld_own, ld_bor, ld_none, wp_nil, wp_c, tg_nm, tg_tup, tg_nil, tg_c, e_chain, es_cont, es_brk, es_pass, p_min2, p_max2, p_l0, p_l1, p_l2, p_l3, p_l4, p_is0, p_not0, n_non, n_tup, i_seq, q_lst, q_tup, q_ro, y_tt, y_tn, y_ii, y_bi, y_bb, y_lv, y_lb, oO_some, slotR, l_0, l_s, v_0, v_s, R.bind_ok, R.bind_bad, R.bind_exc, es_raise, es_expr, rf_exc, e_isC, isC_err, ea_isC, o_isC, r_isC, r_srt, o_srt, lk_here, pd_nil, pd_c, sl_d, sl_s, okD_d, okD_l, okS_d, okS_l, rf_val, rf_own, fz_val, fz_own, tr_bl, t_bl, t_int, p_add, p_sub, p_neg, p_eq, p_ne, p_lt, p_le, p_gt, p_ge, p_abs, p_int, p_gcd, p_i0, p_i1, p_i2, p_i3, p_len2, p_len3, p_len4, p_t3, p_t4, p_t2, List.map, List.cons_append, List.nil_append, List.append_nil, List.length_cons, List.length_nil, List.replicate, if_true, if_false, Bool.false_eq_true, Nat.reduceAdd, Nat.reduceSub, decide_eq_true_eq, eq_self, decide_true, Bool.not_true, Bool.not_false, Int.reduceEq, Int.reduceLT, Int.reduceLE, decide_false, p]
    refine step lp ?_
    rw [frs_insB]
    have ri := row_ins (xs := frs r) (d := fr a) (K := ((spot a r r.length : Nat) : Int)) (s0 := some (.val (.lst (frs l)))) rfl (by rw [List.length_map]; exact sl) (by rw [List.length_map]; unfold lim; omega)
    exact step ri rfl
  · rintro e ⟨x, y, rfl⟩
    rw [List.take_length]
    simp only [es_nil, es_cons, es_asgN, es_asgT, es_par, es_if, es_for, es_ret, es_retN, o_prim, o_call, o_var, o_con, o_glob, o_isi, o_and, o_or, o_not, o_ite, o_chain, e_var, e_rd, e_int, e_bl, e_non, e_str, e_glob, e_prim, e_isi, e_call, e_and, e_or, e_not, e_ite, ea_nil, ea_rd, ea_var, ea_con, ea_glob, ea_prim, ea_isi, ea_call, ea_and, ea_or, ea_not, ea_ite, ea_chain, ea_slc, ea_comp, ea_compif, r_var, r_prim, r_con, r_glob, r_call, r_isi, r_and, r_or, r_not, r_ite, r_chain, r_comp, r_compif, r_slc, ld_nil, ld_val, ld_own, ld_bor, ld_none, wp_nil, wp_c, tg_nm, tg_tup, tg_nil, tg_c, e_chain, es_cont, es_brk, es_pass, p_min2, p_max2, p_l0, p_l1, p_l2, p_l3, p_l4, p_is0, p_not0, n_non, n_tup, i_seq, q_lst, q_tup, q_ro, y_tt, y_tn, y_ii, y_bi, y_bb, y_lv, y_lb, oO_some, slotR, l_0, l_s, v_0, v_s, R.bind_ok, R.bind_bad, R.bind_exc, es_raise, es_expr, rf_exc, e_isC, isC_err, ea_isC, o_isC, r_isC, r_srt, o_srt, lk_here, pd_nil, pd_c, sl_d, sl_s, okD_d, okD_l, okS_d, okS_l, rf_val, rf_own, fz_val, fz_own, tr_bl, t_bl, t_int, p_add, p_sub, p_neg, p_eq, p_ne, p_lt, p_le, p_gt, p_ge, p_abs, p_int, p_gcd, p_i0, p_i1, p_i2, p_i3, p_len2, p_len3, p_len4, p_t3, p_t4, p_t2, List.map, List.cons_append, List.nil_append, List.append_nil, List.length_cons, List.length_nil, List.replicate, if_true, if_false, Bool.false_eq_true, Nat.reduceAdd, Nat.reduceSub, decide_eq_true_eq, eq_self, decide_true, Bool.not_true, Bool.not_false, Int.reduceEq, Int.reduceLT, Int.reduceLE, decide_false]
/-! ### lists -/
theorem p_listL {x : List D} (h : x.length ≤ lim) : evPrim .list [.val (.lst x)] = .l x := by
  show newL x = _
  unfold newL
  rw [if_pos h]
theorem fr_plain {n : Nat} (a : Int × Int) : (fr a).plain (n + 1) = true := by cases n <;> rfl
theorem frs_plain (l : List (Int × Int)) : (D.lst (frs l)).plain 60 = true := by
  show D.plainAll 59 (frs l) = true
  exact plainAll_map _ _ fun a _ => fr_plain a
theorem turn_told {a : Int × Int} {e : En} (h : e = [e.getD 0 none, e.getD 1 none, e.getD 2 none, e.getD 3 none, some (.val (fr a)), e.getD 5 none, e.getD 6 none, e.getD 7 none]) : True := trivial
theorem den_lists {l : List (Int × Int)} (sc : D) (h : ∀ a ∈ l, Q 134 a) (hl : l.length ≤ 80) : f__law_lists.den [.val sc, .val (.lst (frs l))] = .ok (.val (.bl true)) := by
  have tot := den_total h (by omega)
  have ascd := den_ascending h (by omega) (by omega) (by decide)
  have srt := den_sorted (by decide) h (by omega)
  have li := p_listL (x := frs l) (by rw [List.length_map]; unfold lim; omega)
  have n1 := ne_self_d (a := .bor (frs l)) (b := .val (.lst (frs l))) (d := .lst (frs l)) rfl rfl (frs_plain l)
  have n2 := ne_self_d (a := .val (.lst (frs l))) (b := .val (.lst (frs l))) (d := .lst (frs l)) rfl rfl (frs_plain l)
  have n3 := eq_self_d (a := .val (.lst (frs (asc l)))) (b := .val (.lst (frs (asc l)))) (d := .lst (frs (asc l))) rfl rfl (frs_plain _)
  refine den_of rfl ?_
  unfold b__law_lists
  refine step (e2 := [some (.val sc), some (.val (.lst (frs l))), some (.val (.int 0)), none, none, none, none, none]) (by simp only [es_nil, es_cons, es_asgN, es_asgT, es_par, es_if, es_for, es_ret, es_retN, o_prim, o_call, o_var, o_con, o_glob, o_isi, o_and, o_or, o_not, o_ite, o_chain, e_var, e_rd, e_int, e_bl, e_non, e_str, e_glob, e_prim, e_isi, e_call, e_and, e_or, e_not, e_ite, ea_nil, ea_rd, ea_var, ea_con, ea_glob, ea_prim, ea_isi, ea_call, ea_and, ea_or, ea_not, ea_ite, ea_chain, ea_slc, ea_comp, ea_compif, r_var, r_prim, r_con, r_glob, r_call, r_isi, r_and, r_or, r_not, r_ite, r_chain, r_comp, r_compif, r_slc, ld_nil, ld_val, ld_own, ld_bor, ld_none, wp_nil, wp_c, tg_nm, tg_tup, tg_nil, tg_c, e_chain, es_cont, es_brk, es_pass, p_min2, p_max2, p_l0, p_l1, p_l2, p_l3, p_l4, p_is0, p_not0, n_non, n_tup, i_seq, q_lst, q_tup, q_ro, y_tt, y_tn, y_ii, y_bi, y_bb, y_lv, y_lb, oO_some, slotR, l_0, l_s, v_0, v_s, R.bind_ok, R.bind_bad, R.bind_exc, es_raise, es_expr, rf_exc, e_isC, isC_err, ea_isC, o_isC, r_isC, r_srt, o_srt, lk_here, pd_nil, pd_c, sl_d, sl_s, okD_d, okD_l, okS_d, okS_l, rf_val, rf_own, fz_val, fz_own, tr_bl, t_bl, t_int, p_add, p_sub, p_neg, p_eq, p_ne, p_lt, p_le, p_gt, p_ge, p_abs, p_int, p_gcd, p_i0, p_i1, p_i2, p_i3, p_len2, p_len3, p_len4, p_t3, p_t4, p_t2, List.map, List.cons_append, List.nil_append, List.append_nil, List.length_cons, List.length_nil, List.replicate, if_true, if_false, Bool.false_eq_true, Nat.reduceAdd, Nat.reduceSub, decide_eq_true_eq, eq_self, decide_true, Bool.not_true, Bool.not_false, Int.reduceEq, Int.reduceLT, Int.reduceLE, decide_false]) ?_
  refine step (e2 := [some (.val sc), some (.val (.lst (frs l))), some (.val (.int 0)), some (.val (.int 1)), none, none, none, none]) (by simp only [es_nil, es_cons, es_asgN, es_asgT, es_par, es_if, es_for, es_ret, es_retN, o_prim, o_call, o_var, o_con, o_glob, o_isi, o_and, o_or, o_not, o_ite, o_chain, e_var, e_rd, e_int, e_bl, e_non, e_str, e_glob, e_prim, e_isi, e_call, e_and, e_or, e_not, e_ite, ea_nil, ea_rd, ea_var, ea_con, ea_glob, ea_prim, ea_isi, ea_call, ea_and, ea_or, ea_not, ea_ite, ea_chain, ea_slc, ea_comp, ea_compif, r_var, r_prim, r_con, r_glob, r_call, r_isi, r_and, r_or, r_not, r_ite, r_chain, r_comp, r_compif, r_slc, ld_nil, ld_val, ld_own, ld_bor, ld_none, wp_nil, wp_c, tg_nm, tg_tup, tg_nil, tg_c, e_chain, es_cont, es_brk, es_pass, p_min2, p_max2, p_l0, p_l1, p_l2, p_l3, p_l4, p_is0, p_not0, n_non, n_tup, i_seq, q_lst, q_tup, q_ro, y_tt, y_tn, y_ii, y_bi, y_bb, y_lv, y_lb, oO_some, slotR, l_0, l_s, v_0, v_s, R.bind_ok, R.bind_bad, R.bind_exc, es_raise, es_expr, rf_exc, e_isC, isC_err, ea_isC, o_isC, r_isC, r_srt, o_srt, lk_here, pd_nil, pd_c, sl_d, sl_s, okD_d, okD_l, okS_d, okS_l, rf_val, rf_own, fz_val, fz_own, tr_bl, t_bl, t_int, p_add, p_sub, p_neg, p_eq, p_ne, p_lt, p_le, p_gt, p_ge, p_abs, p_int, p_gcd, p_i0, p_i1, p_i2, p_i3, p_len2, p_len3, p_len4, p_t3, p_t4, p_t2, List.map, List.cons_append, List.nil_append, List.append_nil, List.length_cons, List.length_nil, List.replicate, if_true, if_false, Bool.false_eq_true, Nat.reduceAdd, Nat.reduceSub, decide_eq_true_eq, eq_self, decide_true, Bool.not_true, Bool.not_false, Int.reduceEq, Int.reduceLT, Int.reduceLE, decide_false]) ?_
  refine stepE_count (P := fun R => R = .ok (.rt (.val (.bl true)))) (fun a : Int × Int => fr a) (fun i e => ∃ x y, e = [some (.val sc), some (.val (.lst (frs l))), some (.val (.int (qsum (l.take i)).1)), some (.val (.int (qsum (l.take i)).2)), x, none, none, y]) l (e1 := [some (.val sc), some (.val (.lst (frs l))), some (.val (.int 0)), some (.val (.int 1)), none, none, none, none]) rfl ?_ ⟨_, _, rfl⟩ ?_
  · rintro i a ha e ⟨x, y, rfl⟩
    have hi : i < l.length := by
      by_cases q : i < l.length
      · exact q
      · rw [List.getElem?_eq_none (by omega)] at ha; cases ha
    have hs := q_fold (l.take i) (k := 134) q_zero fun y hy => h y (List.mem_of_mem_take hy)
    rw [List.length_take, Nat.min_eq_left (by omega)] at hs
    have ha' := h a (List.mem_of_getElem? ha)
    have tf : qsum (l.take (i + 1)) = qplus (qsum (l.take i)) a := take_fold qplus (0, 1) ha
    replace hs : Q (1 + i * (134 + 1)) (qsum (l.take i)) := hs
    rw [tf]
    generalize qsum (l.take i) = s at *
    have m1 := mulOk_of hs.b1 ha'.b2 (by omega)
    have m2 := mulOk_of ha'.b1 hs.b2 (by omega)
    have m3 := mulOk_of hs.b2 ha'.b2 (by omega)
    have pp := Int.mul_pos hs.pos ha'.pos
    have f := den_lowest (k := 1 + i * (134 + 1) + 134 + 1) (n := s.1 * a.2 + a.1 * s.2) (d := s.2 * a.2) (by omega) ((hs.b1.mul ha'.b2).add (by have := ha'.b1.mul hs.b2; rwa [Nat.add_comm] at this)) ((hs.b2.mul ha'.b2).mono (by omega)) (by omega)
    rw [lw_pos pp] at f
    refine ⟨_, [some (.val sc), some (.val (.lst (frs l))), some (.val (.int (qplus s a).1)), some (.val (.int (qplus s a).2)), some (.val (fr a)), none, none, some (.val (fr (qplus s a)))], rfl, .inl ?_, _, _, rfl⟩
    simp only [es_nil, es_cons, es_asgN, es_asgT, es_par, es_if, es_for, es_ret, es_retN, o_prim, o_call, o_var, o_con, o_glob, o_isi, o_and, o_or, o_not, o_ite, o_chain, e_var, e_rd, e_int, e_bl, e_non, e_str, e_glob, e_prim, e_isi, e_call, e_and, e_or, e_not, e_ite, ea_nil, ea_rd, ea_var, ea_con, ea_glob, ea_prim, ea_isi, ea_call, ea_and, ea_or, ea_not, ea_ite, ea_chain, ea_slc, ea_comp, ea_compif, r_var, r_prim, r_con, r_glob, r_call, r_isi, r_and, r_or, r_not, r_ite, r_chain, r_comp, r_compif, r_slc, ld_nil, ld_val, ld_own, ld_bor, ld_none, wp_nil, wp_c, tg_nm, tg_tup, tg_nil, tg_c, e_chain, es_cont, es_brk, es_pass, p_min2, p_max2, p_l0, p_l1, p_l2, p_l3, p_l4, p_is0, p_not0, n_non, n_tup, i_seq, q_lst, q_tup, q_ro, y_tt, y_tn, y_ii, y_bi, y_bb, y_lv, y_lb, oO_some, slotR, l_0, l_s, v_0, v_s, R.bind_ok, R.bind_bad, R.bind_exc, es_raise, es_expr, rf_exc, e_isC, isC_err, ea_isC, o_isC, r_isC, r_srt, o_srt, lk_here, pd_nil, pd_c, sl_d, sl_s, okD_d, okD_l, okS_d, okS_l, rf_val, rf_own, fz_val, fz_own, tr_bl, t_bl, t_int, p_add, p_sub, p_neg, p_eq, p_ne, p_lt, p_le, p_gt, p_ge, p_abs, p_int, p_gcd, p_i0, p_i1, p_i2, p_i3, p_len2, p_len3, p_len4, p_t3, p_t4, p_t2, List.map, List.cons_append, List.nil_append, List.append_nil, List.length_cons, List.length_nil, List.replicate, if_true, if_false, Bool.false_eq_true, Nat.reduceAdd, Nat.reduceSub, decide_eq_true_eq, eq_self, decide_true, Bool.not_true, Bool.not_false, Int.reduceEq, Int.reduceLT, Int.reduceLE, decide_false, p_mul _ _ m1, p_mul _ _ m2, p_mul _ _ m3, f]
  · rintro e ⟨x, y, rfl⟩
    rw [List.take_length]
    have hs : Q (1 + l.length * (134 + 1)) (qsum l) := q_fold l (k := 134) q_zero h
    have sm := den_same (k := 1 + l.length * (134 + 1)) (n := (qsum l).1) (d := (qsum l).2) (by have := hs.pos; omega) hs.b1 hs.b2 (by omega) (a := qsum l) (by rw [lw_pos hs.pos, hs.self])
    generalize qsum l = s at *
    refine step (e2 := [some (.val sc), some (.val (.lst (frs l))), some (.val (.int s.1)), some (.val (.int s.2)), x, some (.own (frs l)), none, y]) (by simp only [es_nil, es_cons, es_asgN, es_asgT, es_par, es_if, es_for, es_ret, es_retN, o_prim, o_call, o_var, o_con, o_glob, o_isi, o_and, o_or, o_not, o_ite, o_chain, e_var, e_rd, e_int, e_bl, e_non, e_str, e_glob, e_prim, e_isi, e_call, e_and, e_or, e_not, e_ite, ea_nil, ea_rd, ea_var, ea_con, ea_glob, ea_prim, ea_isi, ea_call, ea_and, ea_or, ea_not, ea_ite, ea_chain, ea_slc, ea_comp, ea_compif, r_var, r_prim, r_con, r_glob, r_call, r_isi, r_and, r_or, r_not, r_ite, r_chain, r_comp, r_compif, r_slc, ld_nil, ld_val, ld_own, ld_bor, ld_none, wp_nil, wp_c, tg_nm, tg_tup, tg_nil, tg_c, e_chain, es_cont, es_brk, es_pass, p_min2, p_max2, p_l0, p_l1, p_l2, p_l3, p_l4, p_is0, p_not0, n_non, n_tup, i_seq, q_lst, q_tup, q_ro, y_tt, y_tn, y_ii, y_bi, y_bb, y_lv, y_lb, oO_some, slotR, l_0, l_s, v_0, v_s, R.bind_ok, R.bind_bad, R.bind_exc, es_raise, es_expr, rf_exc, e_isC, isC_err, ea_isC, o_isC, r_isC, r_srt, o_srt, lk_here, pd_nil, pd_c, sl_d, sl_s, okD_d, okD_l, okS_d, okS_l, rf_val, rf_own, fz_val, fz_own, tr_bl, t_bl, t_int, p_add, p_sub, p_neg, p_eq, p_ne, p_lt, p_le, p_gt, p_ge, p_abs, p_int, p_gcd, p_i0, p_i1, p_i2, p_i3, p_len2, p_len3, p_len4, p_t3, p_t4, p_t2, List.map, List.cons_append, List.nil_append, List.append_nil, List.length_cons, List.length_nil, List.replicate, if_true, if_false, Bool.false_eq_true, Nat.reduceAdd, Nat.reduceSub, decide_eq_true_eq, eq_self, decide_true, Bool.not_true, Bool.not_false, Int.reduceEq, Int.reduceLT, Int.reduceLE, decide_false, li]) ?_
    refine step (e2 := [some (.val sc), some (.val (.lst (frs l))), some (.val (.int s.1)), some (.val (.int s.2)), x, some (.val (.lst (frs l))), none, y]) (by simp only [es_nil, es_cons, es_asgN, es_asgT, es_par, es_if, es_for, es_ret, es_retN, o_prim, o_call, o_var, o_con, o_glob, o_isi, o_and, o_or, o_not, o_ite, o_chain, e_var, e_rd, e_int, e_bl, e_non, e_str, e_glob, e_prim, e_isi, e_call, e_and, e_or, e_not, e_ite, ea_nil, ea_rd, ea_var, ea_con, ea_glob, ea_prim, ea_isi, ea_call, ea_and, ea_or, ea_not, ea_ite, ea_chain, ea_slc, ea_comp, ea_compif, r_var, r_prim, r_con, r_glob, r_call, r_isi, r_and, r_or, r_not, r_ite, r_chain, r_comp, r_compif, r_slc, ld_nil, ld_val, ld_own, ld_bor, ld_none, wp_nil, wp_c, tg_nm, tg_tup, tg_nil, tg_c, e_chain, es_cont, es_brk, es_pass, p_min2, p_max2, p_l0, p_l1, p_l2, p_l3, p_l4, p_is0, p_not0, n_non, n_tup, i_seq, q_lst, q_tup, q_ro, y_tt, y_tn, y_ii, y_bi, y_bb, y_lv, y_lb, oO_some, slotR, l_0, l_s, v_0, v_s, R.bind_ok, R.bind_bad, R.bind_exc, es_raise, es_expr, rf_exc, e_isC, isC_err, ea_isC, o_isC, r_isC, r_srt, o_srt, lk_here, pd_nil, pd_c, sl_d, sl_s, okD_d, okD_l, okS_d, okS_l, rf_val, rf_own, fz_val, fz_own, tr_bl, t_bl, t_int, p_add, p_sub, p_neg, p_eq, p_ne, p_lt, p_le, p_gt, p_ge, p_abs, p_int, p_gcd, p_i0, p_i1, p_i2, p_i3, p_len2, p_len3, p_len4, p_t3, p_t4, p_t2, List.map, List.cons_append, List.nil_append, List.append_nil, List.length_cons, List.length_nil, List.replicate, if_true, if_false, Bool.false_eq_true, Nat.reduceAdd, Nat.reduceSub, decide_eq_true_eq, eq_self, decide_true, Bool.not_true, Bool.not_false, Int.reduceEq, Int.reduceLT, Int.reduceLE, decide_false, tot, sm, n2]) ?_
    refine step (e2 := [some (.val sc), some (.val (.lst (frs l))), some (.val (.int s.1)), some (.val (.int s.2)), x, some (.val (.lst (frs l))), some (.own (frs (asc l))), y]) (by simp only [es_nil, es_cons, es_asgN, es_asgT, es_par, es_if, es_for, es_ret, es_retN, o_prim, o_call, o_var, o_con, o_glob, o_isi, o_and, o_or, o_not, o_ite, o_chain, e_var, e_rd, e_int, e_bl, e_non, e_str, e_glob, e_prim, e_isi, e_call, e_and, e_or, e_not, e_ite, ea_nil, ea_rd, ea_var, ea_con, ea_glob, ea_prim, ea_isi, ea_call, ea_and, ea_or, ea_not, ea_ite, ea_chain, ea_slc, ea_comp, ea_compif, r_var, r_prim, r_con, r_glob, r_call, r_isi, r_and, r_or, r_not, r_ite, r_chain, r_comp, r_compif, r_slc, ld_nil, ld_val, ld_own, ld_bor, ld_none, wp_nil, wp_c, tg_nm, tg_tup, tg_nil, tg_c, e_chain, es_cont, es_brk, es_pass, p_min2, p_max2, p_l0, p_l1, p_l2, p_l3, p_l4, p_is0, p_not0, n_non, n_tup, i_seq, q_lst, q_tup, q_ro, y_tt, y_tn, y_ii, y_bi, y_bb, y_lv, y_lb, oO_some, slotR, l_0, l_s, v_0, v_s, R.bind_ok, R.bind_bad, R.bind_exc, es_raise, es_expr, rf_exc, e_isC, isC_err, ea_isC, o_isC, r_isC, r_srt, o_srt, lk_here, pd_nil, pd_c, sl_d, sl_s, okD_d, okD_l, okS_d, okS_l, rf_val, rf_own, fz_val, fz_own, tr_bl, t_bl, t_int, p_add, p_sub, p_neg, p_eq, p_ne, p_lt, p_le, p_gt, p_ge, p_abs, p_int, p_gcd, p_i0, p_i1, p_i2, p_i3, p_len2, p_len3, p_len4, p_t3, p_t4, p_t2, List.map, List.cons_append, List.nil_append, List.append_nil, List.length_cons, List.length_nil, List.replicate, if_true, if_false, Bool.false_eq_true, Nat.reduceAdd, Nat.reduceSub, decide_eq_true_eq, eq_self, decide_true, Bool.not_true, Bool.not_false, Int.reduceEq, Int.reduceLT, Int.reduceLE, decide_false, ascd]) ?_
    refine step (e2 := [some (.val sc), some (.val (.lst (frs l))), some (.val (.int s.1)), some (.val (.int s.2)), x, some (.val (.lst (frs l))), some (.own (frs (asc l))), y]) (by simp only [es_nil, es_cons, es_asgN, es_asgT, es_par, es_if, es_for, es_ret, es_retN, o_prim, o_call, o_var, o_con, o_glob, o_isi, o_and, o_or, o_not, o_ite, o_chain, e_var, e_rd, e_int, e_bl, e_non, e_str, e_glob, e_prim, e_isi, e_call, e_and, e_or, e_not, e_ite, ea_nil, ea_rd, ea_var, ea_con, ea_glob, ea_prim, ea_isi, ea_call, ea_and, ea_or, ea_not, ea_ite, ea_chain, ea_slc, ea_comp, ea_compif, r_var, r_prim, r_con, r_glob, r_call, r_isi, r_and, r_or, r_not, r_ite, r_chain, r_comp, r_compif, r_slc, ld_nil, ld_val, ld_own, ld_bor, ld_none, wp_nil, wp_c, tg_nm, tg_tup, tg_nil, tg_c, e_chain, es_cont, es_brk, es_pass, p_min2, p_max2, p_l0, p_l1, p_l2, p_l3, p_l4, p_is0, p_not0, n_non, n_tup, i_seq, q_lst, q_tup, q_ro, y_tt, y_tn, y_ii, y_bi, y_bb, y_lv, y_lb, oO_some, slotR, l_0, l_s, v_0, v_s, R.bind_ok, R.bind_bad, R.bind_exc, es_raise, es_expr, rf_exc, e_isC, isC_err, ea_isC, o_isC, r_isC, r_srt, o_srt, lk_here, pd_nil, pd_c, sl_d, sl_s, okD_d, okD_l, okS_d, okS_l, rf_val, rf_own, fz_val, fz_own, tr_bl, t_bl, t_int, p_add, p_sub, p_neg, p_eq, p_ne, p_lt, p_le, p_gt, p_ge, p_abs, p_int, p_gcd, p_i0, p_i1, p_i2, p_i3, p_len2, p_len3, p_len4, p_t3, p_t4, p_t2, List.map, List.cons_append, List.nil_append, List.append_nil, List.length_cons, List.length_nil, List.replicate, if_true, if_false, Bool.false_eq_true, Nat.reduceAdd, Nat.reduceSub, decide_eq_true_eq, eq_self, decide_true, Bool.not_true, Bool.not_false, Int.reduceEq, Int.reduceLT, Int.reduceLE, decide_false, n2]) ?_
    refine step_all (fun a : Int × Int => fr a) (fun e => ∃ x, e = [some (.val sc), some (.val (.lst (frs l))), some (.val (.int s.1)), some (.val (.int s.2)), x, some (.val (.lst (frs l))), some (.val (.lst (frs (asc l)))), y]) (asc l) (e1 := [some (.val sc), some (.val (.lst (frs l))), some (.val (.int s.1)), some (.val (.int s.2)), x, some (.val (.lst (frs l))), some (.val (.lst (frs (asc l)))), y]) rfl ?_ ⟨_, rfl⟩ ?_
    · rintro a ha e ⟨x, rfl⟩
      refine ⟨_, [some (.val sc), some (.val (.lst (frs l))), some (.val (.int s.1)), some (.val (.int s.2)), some (.val (fr a)), some (.val (.lst (frs l))), some (.val (.lst (frs (asc l)))), y], rfl, .inl ?_, _, rfl⟩
      simp only [es_nil, es_cons, es_asgN, es_asgT, es_par, es_if, es_for, es_ret, es_retN, o_prim, o_call, o_var, o_con, o_glob, o_isi, o_and, o_or, o_not, o_ite, o_chain, e_var, e_rd, e_int, e_bl, e_non, e_str, e_glob, e_prim, e_isi, e_call, e_and, e_or, e_not, e_ite, ea_nil, ea_rd, ea_var, ea_con, ea_glob, ea_prim, ea_isi, ea_call, ea_and, ea_or, ea_not, ea_ite, ea_chain, ea_slc, ea_comp, ea_compif, r_var, r_prim, r_con, r_glob, r_call, r_isi, r_and, r_or, r_not, r_ite, r_chain, r_comp, r_compif, r_slc, ld_nil, ld_val, ld_own, ld_bor, ld_none, wp_nil, wp_c, tg_nm, tg_tup, tg_nil, tg_c, e_chain, es_cont, es_brk, es_pass, p_min2, p_max2, p_l0, p_l1, p_l2, p_l3, p_l4, p_is0, p_not0, n_non, n_tup, i_seq, q_lst, q_tup, q_ro, y_tt, y_tn, y_ii, y_bi, y_bb, y_lv, y_lb, oO_some, slotR, l_0, l_s, v_0, v_s, R.bind_ok, R.bind_bad, R.bind_exc, es_raise, es_expr, rf_exc, e_isC, isC_err, ea_isC, o_isC, r_isC, r_srt, o_srt, lk_here, pd_nil, pd_c, sl_d, sl_s, okD_d, okD_l, okS_d, okS_l, rf_val, rf_own, fz_val, fz_own, tr_bl, t_bl, t_int, p_add, p_sub, p_neg, p_eq, p_ne, p_lt, p_le, p_gt, p_ge, p_abs, p_int, p_gcd, p_i0, p_i1, p_i2, p_i3, p_len2, p_len3, p_len4, p_t3, p_t4, p_t2, List.map, List.cons_append, List.nil_append, List.append_nil, List.length_cons, List.length_nil, List.replicate, if_true, if_false, Bool.false_eq_true, Nat.reduceAdd, Nat.reduceSub, decide_eq_true_eq, eq_self, decide_true, Bool.not_true, Bool.not_false, Int.reduceEq, Int.reduceLT, Int.reduceLE, decide_false, den_is_whole]
    · rintro e ⟨x, rfl⟩
      simp only [es_nil, es_cons, es_asgN, es_asgT, es_par, es_if, es_for, es_ret, es_retN, o_prim, o_call, o_var, o_con, o_glob, o_isi, o_and, o_or, o_not, o_ite, o_chain, e_var, e_rd, e_int, e_bl, e_non, e_str, e_glob, e_prim, e_isi, e_call, e_and, e_or, e_not, e_ite, ea_nil, ea_rd, ea_var, ea_con, ea_glob, ea_prim, ea_isi, ea_call, ea_and, ea_or, ea_not, ea_ite, ea_chain, ea_slc, ea_comp, ea_compif, r_var, r_prim, r_con, r_glob, r_call, r_isi, r_and, r_or, r_not, r_ite, r_chain, r_comp, r_compif, r_slc, ld_nil, ld_val, ld_own, ld_bor, ld_none, wp_nil, wp_c, tg_nm, tg_tup, tg_nil, tg_c, e_chain, es_cont, es_brk, es_pass, p_min2, p_max2, p_l0, p_l1, p_l2, p_l3, p_l4, p_is0, p_not0, n_non, n_tup, i_seq, q_lst, q_tup, q_ro, y_tt, y_tn, y_ii, y_bi, y_bb, y_lv, y_lb, oO_some, slotR, l_0, l_s, v_0, v_s, R.bind_ok, R.bind_bad, R.bind_exc, es_raise, es_expr, rf_exc, e_isC, isC_err, ea_isC, o_isC, r_isC, r_srt, o_srt, lk_here, pd_nil, pd_c, sl_d, sl_s, okD_d, okD_l, okS_d, okS_l, rf_val, rf_own, fz_val, fz_own, tr_bl, t_bl, t_int, p_add, p_sub, p_neg, p_eq, p_ne, p_lt, p_le, p_gt, p_ge, p_abs, p_int, p_gcd, p_i0, p_i1, p_i2, p_i3, p_len2, p_len3, p_len4, p_t3, p_t4, p_t2, List.map, List.cons_append, List.nil_append, List.append_nil, List.length_cons, List.length_nil, List.replicate, if_true, if_false, Bool.false_eq_true, Nat.reduceAdd, Nat.reduceSub, decide_eq_true_eq, eq_self, decide_true, Bool.not_true, Bool.not_false, Int.reduceEq, Int.reduceLT, Int.reduceLE, decide_false, srt, n3]
end K86
set_option Elab.async false
set_option linter.all false
set_option maxRecDepth 100000
namespace K86
open PySem Ev Fx
theorem e_slcV {i : Nat} {v : D} {xs : List D} {y : Str} {lo hi : Oe} {e : En} {l h : Option Int} (h1 : lk e i = some (.val v)) (hr : (Sl.val v).rs = some xs) (h2 : evOI lo e = .ok (l, e)) (h3 : evOI hi e = .ok (h, e)) (hl : xs.length ≤ lim) : evE (.slc (.rd i y) lo hi) e = .ok (.lst (cutD xs l h), e) := by
  show R.bind (slotR i e) _ = _
  unfold slotR
  rw [h1]
  dsimp only
  rw [R.bind_ok, h2, R.bind_ok, h3, R.bind_ok]
  dsimp only
  have e1 : Pd.sl e (.slot i) = some (.val v) := by rw [sl_s, h1]
  rw [e1]
  dsimp only
  rw [p_cut hr hl]
  rfl
theorem cut_map {α : Type} (g : α → D) (xs : List α) (lo hi : Option Int) : ∃ ys : List α, cutD (xs.map g) lo hi = ys.map g ∧ ys.length ≤ xs.length := by
  unfold cutD
  rw [← List.map_drop, ← List.map_take]
  refine ⟨_, rfl, ?_⟩
  exact Nat.le_trans (List.length_take_le' ..) (by rw [List.length_drop]; omega)
def fixZ (v z : Int) : Int := if z = 0 then v else z
theorem fixZ_ne {v z : Int} (h : v ≠ 0) : fixZ v z ≠ 0 := by unfold fixZ; split <;> assumption
theorem fixZ_bd {v z : Int} {k : Nat} (h : Bd k v) (q : Bd k z) : Bd k (fixZ v z) := by unfold fixZ; split <;> assumption
theorem law_den : ∀ ns : List Int, ns.length ≤ 63 → (∀ z ∈ ns, Builtin.Int.intBits z ≤ 1048576) → f_law.den [.val (.ro (ns.map D.int))] = .ok (.val (.bl true)) := by
  intro ns hns _
  have c0 := den_cell (ns := ns) (i := 0) (by decide)
  have c1 := den_cell (ns := ns) (i := 1) (by decide)
  have c2 := den_cell (ns := ns) (i := 2) (by decide)
  have c3 := den_cell (ns := ns) (i := 3) (by decide)
  have w0 := den_whole (z := cell ns 0)
  have w1 := den_whole (z := cell ns 1)
  have w2 := den_whole (z := cell ns 2)
  have w3 := den_whole (z := cell ns 3)
  have b0 := whole_bd (cell ns 0)
  have b1 := whole_bd (cell ns 1)
  have b2 := whole_bd (cell ns 2)
  have b3 := whole_bd (cell ns 3)
  have I : In (whole (cell ns 0)) (fixZ (-7) (whole (cell ns 1))) (whole (cell ns 2)) (fixZ 9 (whole (cell ns 3))) :=
    ⟨b0, fixZ_bd ((bd_lit (k := 3) rfl : Bd 3 (-7)).mono (by decide)) b1, b2, fixZ_bd ((bd_lit (k := 4) rfl : Bd 4 9).mono (by decide)) b3, fixZ_ne (by decide), fixZ_ne (by decide)⟩
  generalize whole (cell ns 0) = n at *
  generalize whole (cell ns 1) = d0 at *
  generalize whole (cell ns 2) = m at *
  generalize whole (cell ns 3) = e0 at *
  obtain ⟨ys, hy, ly⟩ := cut_map D.int ns (some 4) (some 63)
  have lns : (ns.map D.int).length ≤ lim := by rw [List.length_map]; unfold lim; omega
  generalize hD : ns.map D.int = S at *
  have n0 : evPrim .ne [.val (.tup [.int 0, .int 1]), .val (.tup [.int 0, .int 1])] = .d (.bl false) := rfl
  have n1 : evPrim .ne [.val (.tup [.int 1, .int 1]), .val (.tup [.int 1, .int 1])] = .d (.bl false) := rfl
  have n2 : evPrim .ne [.val (.tup [.int 1, .int 2]), .val (.tup [.int 1, .int 2])] = .d (.bl false) := rfl
  refine den_of rfl ?_
  unfold b_law
  refine step (e2 := [some (.val (.ro S)), none, none, none, none, none, none, none, none]) (by simp only [es_nil, es_cons, es_asgN, es_asgT, es_par, es_if, es_for, es_ret, es_retN, o_prim, o_call, o_var, o_con, o_glob, o_isi, o_and, o_or, o_not, o_ite, o_chain, e_var, e_rd, e_int, e_bl, e_non, e_str, e_glob, e_prim, e_isi, e_call, e_and, e_or, e_not, e_ite, ea_nil, ea_rd, ea_var, ea_con, ea_glob, ea_prim, ea_isi, ea_call, ea_and, ea_or, ea_not, ea_ite, ea_chain, ea_slc, ea_comp, ea_compif, r_var, r_prim, r_con, r_glob, r_call, r_isi, r_and, r_or, r_not, r_ite, r_chain, r_comp, r_compif, r_slc, ld_nil, ld_val, ld_own, ld_bor, ld_none, wp_nil, wp_c, tg_nm, tg_tup, tg_nil, tg_c, e_chain, es_cont, es_brk, es_pass, p_min2, p_max2, p_l0, p_l1, p_l2, p_l3, p_l4, p_is0, p_not0, n_non, n_tup, i_seq, q_lst, q_tup, q_ro, y_tt, y_tn, y_ii, y_bi, y_bb, y_lv, y_lb, oO_some, slotR, l_0, l_s, v_0, v_s, R.bind_ok, R.bind_bad, R.bind_exc, es_raise, es_expr, rf_exc, e_isC, isC_err, ea_isC, o_isC, r_isC, r_srt, o_srt, lk_here, pd_nil, pd_c, sl_d, sl_s, okD_d, okD_l, okS_d, okS_l, rf_val, rf_own, fz_val, fz_own, tr_bl, t_bl, t_int, p_add, p_sub, p_neg, p_eq, p_ne, p_lt, p_le, p_gt, p_ge, p_abs, p_int, p_gcd, p_i0, p_i1, p_i2, p_i3, p_len2, p_len3, p_len4, p_t3, p_t4, p_t2, List.map, List.cons_append, List.nil_append, List.append_nil, List.length_cons, List.length_nil, List.replicate, if_true, if_false, Bool.false_eq_true, Nat.reduceAdd, Nat.reduceSub, decide_eq_true_eq, eq_self, decide_true, Bool.not_true, Bool.not_false, Int.reduceEq, Int.reduceLT, Int.reduceLE, decide_false, n0, n1, n2]) ?_
  refine step (e2 := [some (.val (.ro S)), some (.val (.int n)), none, none, none, none, none, none, none]) (by simp only [es_nil, es_cons, es_asgN, es_asgT, es_par, es_if, es_for, es_ret, es_retN, o_prim, o_call, o_var, o_con, o_glob, o_isi, o_and, o_or, o_not, o_ite, o_chain, e_var, e_rd, e_int, e_bl, e_non, e_str, e_glob, e_prim, e_isi, e_call, e_and, e_or, e_not, e_ite, ea_nil, ea_rd, ea_var, ea_con, ea_glob, ea_prim, ea_isi, ea_call, ea_and, ea_or, ea_not, ea_ite, ea_chain, ea_slc, ea_comp, ea_compif, r_var, r_prim, r_con, r_glob, r_call, r_isi, r_and, r_or, r_not, r_ite, r_chain, r_comp, r_compif, r_slc, ld_nil, ld_val, ld_own, ld_bor, ld_none, wp_nil, wp_c, tg_nm, tg_tup, tg_nil, tg_c, e_chain, es_cont, es_brk, es_pass, p_min2, p_max2, p_l0, p_l1, p_l2, p_l3, p_l4, p_is0, p_not0, n_non, n_tup, i_seq, q_lst, q_tup, q_ro, y_tt, y_tn, y_ii, y_bi, y_bb, y_lv, y_lb, oO_some, slotR, l_0, l_s, v_0, v_s, R.bind_ok, R.bind_bad, R.bind_exc, es_raise, es_expr, rf_exc, e_isC, isC_err, ea_isC, o_isC, r_isC, r_srt, o_srt, lk_here, pd_nil, pd_c, sl_d, sl_s, okD_d, okD_l, okS_d, okS_l, rf_val, rf_own, fz_val, fz_own, tr_bl, t_bl, t_int, p_add, p_sub, p_neg, p_eq, p_ne, p_lt, p_le, p_gt, p_ge, p_abs, p_int, p_gcd, p_i0, p_i1, p_i2, p_i3, p_len2, p_len3, p_len4, p_t3, p_t4, p_t2, List.map, List.cons_append, List.nil_append, List.append_nil, List.length_cons, List.length_nil, List.replicate, if_true, if_false, Bool.false_eq_true, Nat.reduceAdd, Nat.reduceSub, decide_eq_true_eq, eq_self, decide_true, Bool.not_true, Bool.not_false, Int.reduceEq, Int.reduceLT, Int.reduceLE, decide_false, c0, w0]) ?_
  refine step (e2 := [some (.val (.ro S)), some (.val (.int n)), some (.val (.int d0)), none, none, none, none, none, none]) (by simp only [es_nil, es_cons, es_asgN, es_asgT, es_par, es_if, es_for, es_ret, es_retN, o_prim, o_call, o_var, o_con, o_glob, o_isi, o_and, o_or, o_not, o_ite, o_chain, e_var, e_rd, e_int, e_bl, e_non, e_str, e_glob, e_prim, e_isi, e_call, e_and, e_or, e_not, e_ite, ea_nil, ea_rd, ea_var, ea_con, ea_glob, ea_prim, ea_isi, ea_call, ea_and, ea_or, ea_not, ea_ite, ea_chain, ea_slc, ea_comp, ea_compif, r_var, r_prim, r_con, r_glob, r_call, r_isi, r_and, r_or, r_not, r_ite, r_chain, r_comp, r_compif, r_slc, ld_nil, ld_val, ld_own, ld_bor, ld_none, wp_nil, wp_c, tg_nm, tg_tup, tg_nil, tg_c, e_chain, es_cont, es_brk, es_pass, p_min2, p_max2, p_l0, p_l1, p_l2, p_l3, p_l4, p_is0, p_not0, n_non, n_tup, i_seq, q_lst, q_tup, q_ro, y_tt, y_tn, y_ii, y_bi, y_bb, y_lv, y_lb, oO_some, slotR, l_0, l_s, v_0, v_s, R.bind_ok, R.bind_bad, R.bind_exc, es_raise, es_expr, rf_exc, e_isC, isC_err, ea_isC, o_isC, r_isC, r_srt, o_srt, lk_here, pd_nil, pd_c, sl_d, sl_s, okD_d, okD_l, okS_d, okS_l, rf_val, rf_own, fz_val, fz_own, tr_bl, t_bl, t_int, p_add, p_sub, p_neg, p_eq, p_ne, p_lt, p_le, p_gt, p_ge, p_abs, p_int, p_gcd, p_i0, p_i1, p_i2, p_i3, p_len2, p_len3, p_len4, p_t3, p_t4, p_t2, List.map, List.cons_append, List.nil_append, List.append_nil, List.length_cons, List.length_nil, List.replicate, if_true, if_false, Bool.false_eq_true, Nat.reduceAdd, Nat.reduceSub, decide_eq_true_eq, eq_self, decide_true, Bool.not_true, Bool.not_false, Int.reduceEq, Int.reduceLT, Int.reduceLE, decide_false, c1, w1]) ?_
  refine step (e2 := [some (.val (.ro S)), some (.val (.int n)), some (.val (.int d0)), some (.val (.int m)), none, none, none, none, none]) (by simp only [es_nil, es_cons, es_asgN, es_asgT, es_par, es_if, es_for, es_ret, es_retN, o_prim, o_call, o_var, o_con, o_glob, o_isi, o_and, o_or, o_not, o_ite, o_chain, e_var, e_rd, e_int, e_bl, e_non, e_str, e_glob, e_prim, e_isi, e_call, e_and, e_or, e_not, e_ite, ea_nil, ea_rd, ea_var, ea_con, ea_glob, ea_prim, ea_isi, ea_call, ea_and, ea_or, ea_not, ea_ite, ea_chain, ea_slc, ea_comp, ea_compif, r_var, r_prim, r_con, r_glob, r_call, r_isi, r_and, r_or, r_not, r_ite, r_chain, r_comp, r_compif, r_slc, ld_nil, ld_val, ld_own, ld_bor, ld_none, wp_nil, wp_c, tg_nm, tg_tup, tg_nil, tg_c, e_chain, es_cont, es_brk, es_pass, p_min2, p_max2, p_l0, p_l1, p_l2, p_l3, p_l4, p_is0, p_not0, n_non, n_tup, i_seq, q_lst, q_tup, q_ro, y_tt, y_tn, y_ii, y_bi, y_bb, y_lv, y_lb, oO_some, slotR, l_0, l_s, v_0, v_s, R.bind_ok, R.bind_bad, R.bind_exc, es_raise, es_expr, rf_exc, e_isC, isC_err, ea_isC, o_isC, r_isC, r_srt, o_srt, lk_here, pd_nil, pd_c, sl_d, sl_s, okD_d, okD_l, okS_d, okS_l, rf_val, rf_own, fz_val, fz_own, tr_bl, t_bl, t_int, p_add, p_sub, p_neg, p_eq, p_ne, p_lt, p_le, p_gt, p_ge, p_abs, p_int, p_gcd, p_i0, p_i1, p_i2, p_i3, p_len2, p_len3, p_len4, p_t3, p_t4, p_t2, List.map, List.cons_append, List.nil_append, List.append_nil, List.length_cons, List.length_nil, List.replicate, if_true, if_false, Bool.false_eq_true, Nat.reduceAdd, Nat.reduceSub, decide_eq_true_eq, eq_self, decide_true, Bool.not_true, Bool.not_false, Int.reduceEq, Int.reduceLT, Int.reduceLE, decide_false, c2, w2]) ?_
  refine step (e2 := [some (.val (.ro S)), some (.val (.int n)), some (.val (.int d0)), some (.val (.int m)), some (.val (.int e0)), none, none, none, none]) (by simp only [es_nil, es_cons, es_asgN, es_asgT, es_par, es_if, es_for, es_ret, es_retN, o_prim, o_call, o_var, o_con, o_glob, o_isi, o_and, o_or, o_not, o_ite, o_chain, e_var, e_rd, e_int, e_bl, e_non, e_str, e_glob, e_prim, e_isi, e_call, e_and, e_or, e_not, e_ite, ea_nil, ea_rd, ea_var, ea_con, ea_glob, ea_prim, ea_isi, ea_call, ea_and, ea_or, ea_not, ea_ite, ea_chain, ea_slc, ea_comp, ea_compif, r_var, r_prim, r_con, r_glob, r_call, r_isi, r_and, r_or, r_not, r_ite, r_chain, r_comp, r_compif, r_slc, ld_nil, ld_val, ld_own, ld_bor, ld_none, wp_nil, wp_c, tg_nm, tg_tup, tg_nil, tg_c, e_chain, es_cont, es_brk, es_pass, p_min2, p_max2, p_l0, p_l1, p_l2, p_l3, p_l4, p_is0, p_not0, n_non, n_tup, i_seq, q_lst, q_tup, q_ro, y_tt, y_tn, y_ii, y_bi, y_bb, y_lv, y_lb, oO_some, slotR, l_0, l_s, v_0, v_s, R.bind_ok, R.bind_bad, R.bind_exc, es_raise, es_expr, rf_exc, e_isC, isC_err, ea_isC, o_isC, r_isC, r_srt, o_srt, lk_here, pd_nil, pd_c, sl_d, sl_s, okD_d, okD_l, okS_d, okS_l, rf_val, rf_own, fz_val, fz_own, tr_bl, t_bl, t_int, p_add, p_sub, p_neg, p_eq, p_ne, p_lt, p_le, p_gt, p_ge, p_abs, p_int, p_gcd, p_i0, p_i1, p_i2, p_i3, p_len2, p_len3, p_len4, p_t3, p_t4, p_t2, List.map, List.cons_append, List.nil_append, List.append_nil, List.length_cons, List.length_nil, List.replicate, if_true, if_false, Bool.false_eq_true, Nat.reduceAdd, Nat.reduceSub, decide_eq_true_eq, eq_self, decide_true, Bool.not_true, Bool.not_false, Int.reduceEq, Int.reduceLT, Int.reduceLE, decide_false, c3, w3]) ?_
  refine step (e2 := [some (.val (.ro S)), some (.val (.int n)), some (.val (.int (fixZ (-7) d0))), some (.val (.int m)), some (.val (.int e0)), none, none, none, none]) (by
    unfold fixZ
    by_cases q : d0 = 0
    · rw [if_pos q]; simp only [es_nil, es_cons, es_asgN, es_asgT, es_par, es_if, es_for, es_ret, es_retN, o_prim, o_call, o_var, o_con, o_glob, o_isi, o_and, o_or, o_not, o_ite, o_chain, e_var, e_rd, e_int, e_bl, e_non, e_str, e_glob, e_prim, e_isi, e_call, e_and, e_or, e_not, e_ite, ea_nil, ea_rd, ea_var, ea_con, ea_glob, ea_prim, ea_isi, ea_call, ea_and, ea_or, ea_not, ea_ite, ea_chain, ea_slc, ea_comp, ea_compif, r_var, r_prim, r_con, r_glob, r_call, r_isi, r_and, r_or, r_not, r_ite, r_chain, r_comp, r_compif, r_slc, ld_nil, ld_val, ld_own, ld_bor, ld_none, wp_nil, wp_c, tg_nm, tg_tup, tg_nil, tg_c, e_chain, es_cont, es_brk, es_pass, p_min2, p_max2, p_l0, p_l1, p_l2, p_l3, p_l4, p_is0, p_not0, n_non, n_tup, i_seq, q_lst, q_tup, q_ro, y_tt, y_tn, y_ii, y_bi, y_bb, y_lv, y_lb, oO_some, slotR, l_0, l_s, v_0, v_s, R.bind_ok, R.bind_bad, R.bind_exc, es_raise, es_expr, rf_exc, e_isC, isC_err, ea_isC, o_isC, r_isC, r_srt, o_srt, lk_here, pd_nil, pd_c, sl_d, sl_s, okD_d, okD_l, okS_d, okS_l, rf_val, rf_own, fz_val, fz_own, tr_bl, t_bl, t_int, p_add, p_sub, p_neg, p_eq, p_ne, p_lt, p_le, p_gt, p_ge, p_abs, p_int, p_gcd, p_i0, p_i1, p_i2, p_i3, p_len2, p_len3, p_len4, p_t3, p_t4, p_t2, List.map, List.cons_append, List.nil_append, List.append_nil, List.length_cons, List.length_nil, List.replicate, if_true, if_false, Bool.false_eq_true, Nat.reduceAdd, Nat.reduceSub, decide_eq_true_eq, eq_self, decide_true, Bool.not_true, Bool.not_false, Int.reduceEq, Int.reduceLT, Int.reduceLE, decide_false, q]
    · rw [if_neg q]; simp only [es_nil, es_cons, es_asgN, es_asgT, es_par, es_if, es_for, es_ret, es_retN, o_prim, o_call, o_var, o_con, o_glob, o_isi, o_and, o_or, o_not, o_ite, o_chain, e_var, e_rd, e_int, e_bl, e_non, e_str, e_glob, e_prim, e_isi, e_call, e_and, e_or, e_not, e_ite, ea_nil, ea_rd, ea_var, ea_con, ea_glob, ea_prim, ea_isi, ea_call, ea_and, ea_or, ea_not, ea_ite, ea_chain, ea_slc, ea_comp, ea_compif, r_var, r_prim, r_con, r_glob, r_call, r_isi, r_and, r_or, r_not, r_ite, r_chain, r_comp, r_compif, r_slc, ld_nil, ld_val, ld_own, ld_bor, ld_none, wp_nil, wp_c, tg_nm, tg_tup, tg_nil, tg_c, e_chain, es_cont, es_brk, es_pass, p_min2, p_max2, p_l0, p_l1, p_l2, p_l3, p_l4, p_is0, p_not0, n_non, n_tup, i_seq, q_lst, q_tup, q_ro, y_tt, y_tn, y_ii, y_bi, y_bb, y_lv, y_lb, oO_some, slotR, l_0, l_s, v_0, v_s, R.bind_ok, R.bind_bad, R.bind_exc, es_raise, es_expr, rf_exc, e_isC, isC_err, ea_isC, o_isC, r_isC, r_srt, o_srt, lk_here, pd_nil, pd_c, sl_d, sl_s, okD_d, okD_l, okS_d, okS_l, rf_val, rf_own, fz_val, fz_own, tr_bl, t_bl, t_int, p_add, p_sub, p_neg, p_eq, p_ne, p_lt, p_le, p_gt, p_ge, p_abs, p_int, p_gcd, p_i0, p_i1, p_i2, p_i3, p_len2, p_len3, p_len4, p_t3, p_t4, p_t2, List.map, List.cons_append, List.nil_append, List.append_nil, List.length_cons, List.length_nil, List.replicate, if_true, if_false, Bool.false_eq_true, Nat.reduceAdd, Nat.reduceSub, decide_eq_true_eq, eq_self, decide_true, Bool.not_true, Bool.not_false, Int.reduceEq, Int.reduceLT, Int.reduceLE, decide_false, q, decide_false]) ?_
  refine step (e2 := [some (.val (.ro S)), some (.val (.int n)), some (.val (.int (fixZ (-7) d0))), some (.val (.int m)), some (.val (.int (fixZ 9 e0))), none, none, none, none]) (by
    unfold fixZ
    by_cases q : e0 = 0
    · rw [if_pos q]; simp only [es_nil, es_cons, es_asgN, es_asgT, es_par, es_if, es_for, es_ret, es_retN, o_prim, o_call, o_var, o_con, o_glob, o_isi, o_and, o_or, o_not, o_ite, o_chain, e_var, e_rd, e_int, e_bl, e_non, e_str, e_glob, e_prim, e_isi, e_call, e_and, e_or, e_not, e_ite, ea_nil, ea_rd, ea_var, ea_con, ea_glob, ea_prim, ea_isi, ea_call, ea_and, ea_or, ea_not, ea_ite, ea_chain, ea_slc, ea_comp, ea_compif, r_var, r_prim, r_con, r_glob, r_call, r_isi, r_and, r_or, r_not, r_ite, r_chain, r_comp, r_compif, r_slc, ld_nil, ld_val, ld_own, ld_bor, ld_none, wp_nil, wp_c, tg_nm, tg_tup, tg_nil, tg_c, e_chain, es_cont, es_brk, es_pass, p_min2, p_max2, p_l0, p_l1, p_l2, p_l3, p_l4, p_is0, p_not0, n_non, n_tup, i_seq, q_lst, q_tup, q_ro, y_tt, y_tn, y_ii, y_bi, y_bb, y_lv, y_lb, oO_some, slotR, l_0, l_s, v_0, v_s, R.bind_ok, R.bind_bad, R.bind_exc, es_raise, es_expr, rf_exc, e_isC, isC_err, ea_isC, o_isC, r_isC, r_srt, o_srt, lk_here, pd_nil, pd_c, sl_d, sl_s, okD_d, okD_l, okS_d, okS_l, rf_val, rf_own, fz_val, fz_own, tr_bl, t_bl, t_int, p_add, p_sub, p_neg, p_eq, p_ne, p_lt, p_le, p_gt, p_ge, p_abs, p_int, p_gcd, p_i0, p_i1, p_i2, p_i3, p_len2, p_len3, p_len4, p_t3, p_t4, p_t2, List.map, List.cons_append, List.nil_append, List.append_nil, List.length_cons, List.length_nil, List.replicate, if_true, if_false, Bool.false_eq_true, Nat.reduceAdd, Nat.reduceSub, decide_eq_true_eq, eq_self, decide_true, Bool.not_true, Bool.not_false, Int.reduceEq, Int.reduceLT, Int.reduceLE, decide_false, q]
    · rw [if_neg q]; simp only [es_nil, es_cons, es_asgN, es_asgT, es_par, es_if, es_for, es_ret, es_retN, o_prim, o_call, o_var, o_con, o_glob, o_isi, o_and, o_or, o_not, o_ite, o_chain, e_var, e_rd, e_int, e_bl, e_non, e_str, e_glob, e_prim, e_isi, e_call, e_and, e_or, e_not, e_ite, ea_nil, ea_rd, ea_var, ea_con, ea_glob, ea_prim, ea_isi, ea_call, ea_and, ea_or, ea_not, ea_ite, ea_chain, ea_slc, ea_comp, ea_compif, r_var, r_prim, r_con, r_glob, r_call, r_isi, r_and, r_or, r_not, r_ite, r_chain, r_comp, r_compif, r_slc, ld_nil, ld_val, ld_own, ld_bor, ld_none, wp_nil, wp_c, tg_nm, tg_tup, tg_nil, tg_c, e_chain, es_cont, es_brk, es_pass, p_min2, p_max2, p_l0, p_l1, p_l2, p_l3, p_l4, p_is0, p_not0, n_non, n_tup, i_seq, q_lst, q_tup, q_ro, y_tt, y_tn, y_ii, y_bi, y_bb, y_lv, y_lb, oO_some, slotR, l_0, l_s, v_0, v_s, R.bind_ok, R.bind_bad, R.bind_exc, es_raise, es_expr, rf_exc, e_isC, isC_err, ea_isC, o_isC, r_isC, r_srt, o_srt, lk_here, pd_nil, pd_c, sl_d, sl_s, okD_d, okD_l, okS_d, okS_l, rf_val, rf_own, fz_val, fz_own, tr_bl, t_bl, t_int, p_add, p_sub, p_neg, p_eq, p_ne, p_lt, p_le, p_gt, p_ge, p_abs, p_int, p_gcd, p_i0, p_i1, p_i2, p_i3, p_len2, p_len3, p_len4, p_t3, p_t4, p_t2, List.map, List.cons_append, List.nil_append, List.append_nil, List.length_cons, List.length_nil, List.replicate, if_true, if_false, Bool.false_eq_true, Nat.reduceAdd, Nat.reduceSub, decide_eq_true_eq, eq_self, decide_true, Bool.not_true, Bool.not_false, Int.reduceEq, Int.reduceLT, Int.reduceLE, decide_false, q, decide_false]) ?_
  generalize fixZ (-7) d0 = d at *
  generalize fixZ 9 e0 = e at *
  have fa := den_frac (n := n) I.hd
  have fb := den_frac (n := m) I.he
  have f1 := den_frac (n := n) (d := 1) (by decide)
  have sa := den_same I.hd I.bn I.bd (by decide) (a := lw n d) rfl
  have sb := den_same I.he I.bm I.be (by decide) (a := lw m e) rfl
  have s1 := den_same (n := n) (d := 1) (by decide) I.bn ((bd_lit (k := 1) rfl : Bd 1 1).mono (by decide)) (by decide) (a := lw n 1) rfl
  refine step (e2 := [some (.val (.ro S)), some (.val (.int n)), some (.val (.int d)), some (.val (.int m)), some (.val (.int e)), none, none, none, none]) (by simp only [es_nil, es_cons, es_asgN, es_asgT, es_par, es_if, es_for, es_ret, es_retN, o_prim, o_call, o_var, o_con, o_glob, o_isi, o_and, o_or, o_not, o_ite, o_chain, e_var, e_rd, e_int, e_bl, e_non, e_str, e_glob, e_prim, e_isi, e_call, e_and, e_or, e_not, e_ite, ea_nil, ea_rd, ea_var, ea_con, ea_glob, ea_prim, ea_isi, ea_call, ea_and, ea_or, ea_not, ea_ite, ea_chain, ea_slc, ea_comp, ea_compif, r_var, r_prim, r_con, r_glob, r_call, r_isi, r_and, r_or, r_not, r_ite, r_chain, r_comp, r_compif, r_slc, ld_nil, ld_val, ld_own, ld_bor, ld_none, wp_nil, wp_c, tg_nm, tg_tup, tg_nil, tg_c, e_chain, es_cont, es_brk, es_pass, p_min2, p_max2, p_l0, p_l1, p_l2, p_l3, p_l4, p_is0, p_not0, n_non, n_tup, i_seq, q_lst, q_tup, q_ro, y_tt, y_tn, y_ii, y_bi, y_bb, y_lv, y_lb, oO_some, slotR, l_0, l_s, v_0, v_s, R.bind_ok, R.bind_bad, R.bind_exc, es_raise, es_expr, rf_exc, e_isC, isC_err, ea_isC, o_isC, r_isC, r_srt, o_srt, lk_here, pd_nil, pd_c, sl_d, sl_s, okD_d, okD_l, okS_d, okS_l, rf_val, rf_own, fz_val, fz_own, tr_bl, t_bl, t_int, p_add, p_sub, p_neg, p_eq, p_ne, p_lt, p_le, p_gt, p_ge, p_abs, p_int, p_gcd, p_i0, p_i1, p_i2, p_i3, p_len2, p_len3, p_len4, p_t3, p_t4, p_t2, List.map, List.cons_append, List.nil_append, List.append_nil, List.length_cons, List.length_nil, List.replicate, if_true, if_false, Bool.false_eq_true, Nat.reduceAdd, Nat.reduceSub, decide_eq_true_eq, eq_self, decide_true, Bool.not_true, Bool.not_false, Int.reduceEq, Int.reduceLT, Int.reduceLE, decide_false, fa, fb, f1, sa, sb, s1]) ?_
  have la := den_lowest I.hd I.bn I.bd (by decide)
  have lb := den_lowest I.he I.bm I.be (by decide)
  refine step (e2 := [some (.val (.ro S)), some (.val (.int n)), some (.val (.int d)), some (.val (.int m)), some (.val (.int e)), some (.val (fr (lw n d))), none, none, none]) (by simp only [es_nil, es_cons, es_asgN, es_asgT, es_par, es_if, es_for, es_ret, es_retN, o_prim, o_call, o_var, o_con, o_glob, o_isi, o_and, o_or, o_not, o_ite, o_chain, e_var, e_rd, e_int, e_bl, e_non, e_str, e_glob, e_prim, e_isi, e_call, e_and, e_or, e_not, e_ite, ea_nil, ea_rd, ea_var, ea_con, ea_glob, ea_prim, ea_isi, ea_call, ea_and, ea_or, ea_not, ea_ite, ea_chain, ea_slc, ea_comp, ea_compif, r_var, r_prim, r_con, r_glob, r_call, r_isi, r_and, r_or, r_not, r_ite, r_chain, r_comp, r_compif, r_slc, ld_nil, ld_val, ld_own, ld_bor, ld_none, wp_nil, wp_c, tg_nm, tg_tup, tg_nil, tg_c, e_chain, es_cont, es_brk, es_pass, p_min2, p_max2, p_l0, p_l1, p_l2, p_l3, p_l4, p_is0, p_not0, n_non, n_tup, i_seq, q_lst, q_tup, q_ro, y_tt, y_tn, y_ii, y_bi, y_bb, y_lv, y_lb, oO_some, slotR, l_0, l_s, v_0, v_s, R.bind_ok, R.bind_bad, R.bind_exc, es_raise, es_expr, rf_exc, e_isC, isC_err, ea_isC, o_isC, r_isC, r_srt, o_srt, lk_here, pd_nil, pd_c, sl_d, sl_s, okD_d, okD_l, okS_d, okS_l, rf_val, rf_own, fz_val, fz_own, tr_bl, t_bl, t_int, p_add, p_sub, p_neg, p_eq, p_ne, p_lt, p_le, p_gt, p_ge, p_abs, p_int, p_gcd, p_i0, p_i1, p_i2, p_i3, p_len2, p_len3, p_len4, p_t3, p_t4, p_t2, List.map, List.cons_append, List.nil_append, List.append_nil, List.length_cons, List.length_nil, List.replicate, if_true, if_false, Bool.false_eq_true, Nat.reduceAdd, Nat.reduceSub, decide_eq_true_eq, eq_self, decide_true, Bool.not_true, Bool.not_false, Int.reduceEq, Int.reduceLT, Int.reduceLE, decide_false, la]) ?_
  refine step (e2 := [some (.val (.ro S)), some (.val (.int n)), some (.val (.int d)), some (.val (.int m)), some (.val (.int e)), some (.val (fr (lw n d))), some (.val (fr (lw m e))), none, none]) (by simp only [es_nil, es_cons, es_asgN, es_asgT, es_par, es_if, es_for, es_ret, es_retN, o_prim, o_call, o_var, o_con, o_glob, o_isi, o_and, o_or, o_not, o_ite, o_chain, e_var, e_rd, e_int, e_bl, e_non, e_str, e_glob, e_prim, e_isi, e_call, e_and, e_or, e_not, e_ite, ea_nil, ea_rd, ea_var, ea_con, ea_glob, ea_prim, ea_isi, ea_call, ea_and, ea_or, ea_not, ea_ite, ea_chain, ea_slc, ea_comp, ea_compif, r_var, r_prim, r_con, r_glob, r_call, r_isi, r_and, r_or, r_not, r_ite, r_chain, r_comp, r_compif, r_slc, ld_nil, ld_val, ld_own, ld_bor, ld_none, wp_nil, wp_c, tg_nm, tg_tup, tg_nil, tg_c, e_chain, es_cont, es_brk, es_pass, p_min2, p_max2, p_l0, p_l1, p_l2, p_l3, p_l4, p_is0, p_not0, n_non, n_tup, i_seq, q_lst, q_tup, q_ro, y_tt, y_tn, y_ii, y_bi, y_bb, y_lv, y_lb, oO_some, slotR, l_0, l_s, v_0, v_s, R.bind_ok, R.bind_bad, R.bind_exc, es_raise, es_expr, rf_exc, e_isC, isC_err, ea_isC, o_isC, r_isC, r_srt, o_srt, lk_here, pd_nil, pd_c, sl_d, sl_s, okD_d, okD_l, okS_d, okS_l, rf_val, rf_own, fz_val, fz_own, tr_bl, t_bl, t_int, p_add, p_sub, p_neg, p_eq, p_ne, p_lt, p_le, p_gt, p_ge, p_abs, p_int, p_gcd, p_i0, p_i1, p_i2, p_i3, p_len2, p_len3, p_len4, p_t3, p_t4, p_t2, List.map, List.cons_append, List.nil_append, List.append_nil, List.length_cons, List.length_nil, List.replicate, if_true, if_false, Bool.false_eq_true, Nat.reduceAdd, Nat.reduceSub, decide_eq_true_eq, eq_self, decide_true, Bool.not_true, Bool.not_false, Int.reduceEq, Int.reduceLT, Int.reduceLE, decide_false, lb]) ?_
  have r1 := den_refusals n (lw n d)
  have r2 := den_sums I
  have r3 := den_order I
  refine step (e2 := [some (.val (.ro S)), some (.val (.int n)), some (.val (.int d)), some (.val (.int m)), some (.val (.int e)), some (.val (fr (lw n d))), some (.val (fr (lw m e))), none, none]) (by simp only [es_nil, es_cons, es_asgN, es_asgT, es_par, es_if, es_for, es_ret, es_retN, o_prim, o_call, o_var, o_con, o_glob, o_isi, o_and, o_or, o_not, o_ite, o_chain, e_var, e_rd, e_int, e_bl, e_non, e_str, e_glob, e_prim, e_isi, e_call, e_and, e_or, e_not, e_ite, ea_nil, ea_rd, ea_var, ea_con, ea_glob, ea_prim, ea_isi, ea_call, ea_and, ea_or, ea_not, ea_ite, ea_chain, ea_slc, ea_comp, ea_compif, r_var, r_prim, r_con, r_glob, r_call, r_isi, r_and, r_or, r_not, r_ite, r_chain, r_comp, r_compif, r_slc, ld_nil, ld_val, ld_own, ld_bor, ld_none, wp_nil, wp_c, tg_nm, tg_tup, tg_nil, tg_c, e_chain, es_cont, es_brk, es_pass, p_min2, p_max2, p_l0, p_l1, p_l2, p_l3, p_l4, p_is0, p_not0, n_non, n_tup, i_seq, q_lst, q_tup, q_ro, y_tt, y_tn, y_ii, y_bi, y_bb, y_lv, y_lb, oO_some, slotR, l_0, l_s, v_0, v_s, R.bind_ok, R.bind_bad, R.bind_exc, es_raise, es_expr, rf_exc, e_isC, isC_err, ea_isC, o_isC, r_isC, r_srt, o_srt, lk_here, pd_nil, pd_c, sl_d, sl_s, okD_d, okD_l, okS_d, okS_l, rf_val, rf_own, fz_val, fz_own, tr_bl, t_bl, t_int, p_add, p_sub, p_neg, p_eq, p_ne, p_lt, p_le, p_gt, p_ge, p_abs, p_int, p_gcd, p_i0, p_i1, p_i2, p_i3, p_len2, p_len3, p_len4, p_t3, p_t4, p_t2, List.map, List.cons_append, List.nil_append, List.append_nil, List.length_cons, List.length_nil, List.replicate, if_true, if_false, Bool.false_eq_true, Nat.reduceAdd, Nat.reduceSub, decide_eq_true_eq, eq_self, decide_true, Bool.not_true, Bool.not_false, Int.reduceEq, Int.reduceLT, Int.reduceLE, decide_false, r1, r2, r3]) ?_
  have r4 := den_rounded I.hd I.bn I.bd
  have r5 := den_powers I.hd I.bn I.bd
  refine step (e2 := [some (.val (.ro S)), some (.val (.int n)), some (.val (.int d)), some (.val (.int m)), some (.val (.int e)), some (.val (fr (lw n d))), some (.val (fr (lw m e))), none, none]) (by simp only [es_nil, es_cons, es_asgN, es_asgT, es_par, es_if, es_for, es_ret, es_retN, o_prim, o_call, o_var, o_con, o_glob, o_isi, o_and, o_or, o_not, o_ite, o_chain, e_var, e_rd, e_int, e_bl, e_non, e_str, e_glob, e_prim, e_isi, e_call, e_and, e_or, e_not, e_ite, ea_nil, ea_rd, ea_var, ea_con, ea_glob, ea_prim, ea_isi, ea_call, ea_and, ea_or, ea_not, ea_ite, ea_chain, ea_slc, ea_comp, ea_compif, r_var, r_prim, r_con, r_glob, r_call, r_isi, r_and, r_or, r_not, r_ite, r_chain, r_comp, r_compif, r_slc, ld_nil, ld_val, ld_own, ld_bor, ld_none, wp_nil, wp_c, tg_nm, tg_tup, tg_nil, tg_c, e_chain, es_cont, es_brk, es_pass, p_min2, p_max2, p_l0, p_l1, p_l2, p_l3, p_l4, p_is0, p_not0, n_non, n_tup, i_seq, q_lst, q_tup, q_ro, y_tt, y_tn, y_ii, y_bi, y_bb, y_lv, y_lb, oO_some, slotR, l_0, l_s, v_0, v_s, R.bind_ok, R.bind_bad, R.bind_exc, es_raise, es_expr, rf_exc, e_isC, isC_err, ea_isC, o_isC, r_isC, r_srt, o_srt, lk_here, pd_nil, pd_c, sl_d, sl_s, okD_d, okD_l, okS_d, okS_l, rf_val, rf_own, fz_val, fz_own, tr_bl, t_bl, t_int, p_add, p_sub, p_neg, p_eq, p_ne, p_lt, p_le, p_gt, p_ge, p_abs, p_int, p_gcd, p_i0, p_i1, p_i2, p_i3, p_len2, p_len3, p_len4, p_t3, p_t4, p_t2, List.map, List.cons_append, List.nil_append, List.append_nil, List.length_cons, List.length_nil, List.replicate, if_true, if_false, Bool.false_eq_true, Nat.reduceAdd, Nat.reduceSub, decide_eq_true_eq, eq_self, decide_true, Bool.not_true, Bool.not_false, Int.reduceEq, Int.reduceLT, Int.reduceLE, decide_false, r4, r5]) ?_
  have qa := lw_Q I.hd I.bn I.bd
  have qb := lw_Q I.he I.bm I.be
  generalize lw n d = a at *
  generalize lw m e = b at *
  refine step (e2 := [some (.val (.ro S)), some (.val (.int n)), some (.val (.int d)), some (.val (.int m)), some (.val (.int e)), some (.val (fr a)), some (.val (fr b)), some (.own (frs [a, b])), none]) (by simp only [es_nil, es_cons, es_asgN, es_asgT, es_par, es_if, es_for, es_ret, es_retN, o_prim, o_call, o_var, o_con, o_glob, o_isi, o_and, o_or, o_not, o_ite, o_chain, e_var, e_rd, e_int, e_bl, e_non, e_str, e_glob, e_prim, e_isi, e_call, e_and, e_or, e_not, e_ite, ea_nil, ea_rd, ea_var, ea_con, ea_glob, ea_prim, ea_isi, ea_call, ea_and, ea_or, ea_not, ea_ite, ea_chain, ea_slc, ea_comp, ea_compif, r_var, r_prim, r_con, r_glob, r_call, r_isi, r_and, r_or, r_not, r_ite, r_chain, r_comp, r_compif, r_slc, ld_nil, ld_val, ld_own, ld_bor, ld_none, wp_nil, wp_c, tg_nm, tg_tup, tg_nil, tg_c, e_chain, es_cont, es_brk, es_pass, p_min2, p_max2, p_l0, p_l1, p_l2, p_l3, p_l4, p_is0, p_not0, n_non, n_tup, i_seq, q_lst, q_tup, q_ro, y_tt, y_tn, y_ii, y_bi, y_bb, y_lv, y_lb, oO_some, slotR, l_0, l_s, v_0, v_s, R.bind_ok, R.bind_bad, R.bind_exc, es_raise, es_expr, rf_exc, e_isC, isC_err, ea_isC, o_isC, r_isC, r_srt, o_srt, lk_here, pd_nil, pd_c, sl_d, sl_s, okD_d, okD_l, okS_d, okS_l, rf_val, rf_own, fz_val, fz_own, tr_bl, t_bl, t_int, p_add, p_sub, p_neg, p_eq, p_ne, p_lt, p_le, p_gt, p_ge, p_abs, p_int, p_gcd, p_i0, p_i1, p_i2, p_i3, p_len2, p_len3, p_len4, p_t3, p_t4, p_t2, List.map, List.cons_append, List.nil_append, List.append_nil, List.length_cons, List.length_nil, List.replicate, if_true, if_false, Bool.false_eq_true, Nat.reduceAdd, Nat.reduceSub, decide_eq_true_eq, eq_self, decide_true, Bool.not_true, Bool.not_false, Int.reduceEq, Int.reduceLT, Int.reduceLE, decide_false]) ?_
  refine stepE_count (P := fun R => R = .ok (.rt (.val (.bl true)))) D.int (fun i e2 => ∃ L x, (∀ p ∈ L, Q 134 p) ∧ L.length ≤ 2 + i ∧ 2 ≤ L.length ∧ e2 = [some (.val (.ro S)), some (.val (.int n)), some (.val (.int d)), some (.val (.int m)), some (.val (.int e)), some (.val (fr a)), some (.val (fr b)), some (.own (frs L)), x]) ys
    (e1 := [some (.val (.ro S)), some (.val (.int n)), some (.val (.int d)), some (.val (.int m)), some (.val (.int e)), some (.val (fr a)), some (.val (fr b)), some (.own (frs [a, b])), none]) ?_ ?_ ⟨[a, b], none, by simp; exact ⟨qa, qb⟩, by simp, by simp, rfl⟩ ?_
  · rw [i_seq, e_slcV (v := .ro S) (xs := S) (l := some 4) (h := some 63) rfl rfl rfl rfl lns, R.bind_ok, hy]
    rfl
  · rintro i z hz e2 ⟨L, x, hL, lL, l2, rfl⟩
    have hi : i < ys.length := by
      by_cases q : i < ys.length
      · exact q
      · rw [List.getElem?_eq_none (by omega)] at hz; cases hz
    have k1 := Int.fmod_nonneg_of_pos z (b := 2001) (by decide)
    have k2 := Int.fmod_lt_of_pos z (b := 2001) (by decide)
    have k3 := Int.fmod_nonneg_of_pos (z.fdiv 2001) (b := 12) (by decide)
    have k4 := Int.fmod_lt_of_pos (z.fdiv 2001) (b := 12) (by decide)
    have p1 := p_mod z 2001 (by decide)
    have p2 := p_fdiv z 2001 (by decide)
    have p3 := p_mod (z.fdiv 2001) 12 (by decide)
    generalize z.fmod 2001 = u at *
    generalize hv : z.fdiv 2001 = v0 at *
    generalize v0.fmod 12 = v at *
    have bu : Bd 11 (u - 1000) := by unfold Bd; omega
    have bv : Bd 11 (1 + v) := by unfold Bd; omega
    have lo := den_lowest (n := u - 1000) (d := 1 + v) (by omega) bu bv (by decide)
    have ql := lw_Q (n := u - 1000) (d := 1 + v) (by omega) bu bv
    generalize lw (u - 1000) (1 + v) = p at *
    refine ⟨_, [some (.val (.ro S)), some (.val (.int n)), some (.val (.int d)), some (.val (.int m)), some (.val (.int e)), some (.val (fr a)), some (.val (fr b)), some (.own (frs (L ++ [p]))), some (.val (.int z))], rfl, .inl ?_, L ++ [p], _, ?_, by simp; omega, by simp; omega, rfl⟩
    · refine step (es_app_of (ds := frs L) (ds2 := frs L) (d := fr p) (e2 := [some (.val (.ro S)), some (.val (.int n)), some (.val (.int d)), some (.val (.int m)), some (.val (.int e)), some (.val (fr a)), some (.val (fr b)), some (.own (frs L)), some (.val (.int z))]) rfl (by simp only [es_nil, es_cons, es_asgN, es_asgT, es_par, es_if, es_for, es_ret, es_retN, o_prim, o_call, o_var, o_con, o_glob, o_isi, o_and, o_or, o_not, o_ite, o_chain, e_var, e_rd, e_int, e_bl, e_non, e_str, e_glob, e_prim, e_isi, e_call, e_and, e_or, e_not, e_ite, ea_nil, ea_rd, ea_var, ea_con, ea_glob, ea_prim, ea_isi, ea_call, ea_and, ea_or, ea_not, ea_ite, ea_chain, ea_slc, ea_comp, ea_compif, r_var, r_prim, r_con, r_glob, r_call, r_isi, r_and, r_or, r_not, r_ite, r_chain, r_comp, r_compif, r_slc, ld_nil, ld_val, ld_own, ld_bor, ld_none, wp_nil, wp_c, tg_nm, tg_tup, tg_nil, tg_c, e_chain, es_cont, es_brk, es_pass, p_min2, p_max2, p_l0, p_l1, p_l2, p_l3, p_l4, p_is0, p_not0, n_non, n_tup, i_seq, q_lst, q_tup, q_ro, y_tt, y_tn, y_ii, y_bi, y_bb, y_lv, y_lb, oO_some, slotR, l_0, l_s, v_0, v_s, R.bind_ok, R.bind_bad, R.bind_exc, es_raise, es_expr, rf_exc, e_isC, isC_err, ea_isC, o_isC, r_isC, r_srt, o_srt, lk_here, pd_nil, pd_c, sl_d, sl_s, okD_d, okD_l, okS_d, okS_l, rf_val, rf_own, fz_val, fz_own, tr_bl, t_bl, t_int, p_add, p_sub, p_neg, p_eq, p_ne, p_lt, p_le, p_gt, p_ge, p_abs, p_int, p_gcd, p_i0, p_i1, p_i2, p_i3, p_len2, p_len3, p_len4, p_t3, p_t4, p_t2, List.map, List.cons_append, List.nil_append, List.append_nil, List.length_cons, List.length_nil, List.replicate, if_true, if_false, Bool.false_eq_true, Nat.reduceAdd, Nat.reduceSub, decide_eq_true_eq, eq_self, decide_true, Bool.not_true, Bool.not_false, Int.reduceEq, Int.reduceLT, Int.reduceLE, decide_false, p1, p2, p3, lo]) rfl (by rw [List.length_map]; unfold lim; omega)) ?_
      rw [show frs (L ++ [p]) = frs L ++ [fr p] from List.map_append]
      rfl
    · intro y hy
      rcases List.mem_append.mp hy with w | w
      · exact hL y w
      · simp at w
        rw [w]
        exact ql.mono (by decide)
  · rintro e2 ⟨L, x, hL, lL, l2, rfl⟩
    have g1 := den_lists (.ro S) hL (by omega)
    have g2 := den_lists (l := L.drop 2) (.ro S) (fun y hy => hL y (List.mem_of_mem_drop hy)) (by rw [List.length_drop]; omega)
    refine step (e2 := [some (.val (.ro S)), some (.val (.int n)), some (.val (.int d)), some (.val (.int m)), some (.val (.int e)), some (.val (fr a)), some (.val (fr b)), some (.val (.lst (frs L))), x]) (by simp only [es_nil, es_cons, es_asgN, es_asgT, es_par, es_if, es_for, es_ret, es_retN, o_prim, o_call, o_var, o_con, o_glob, o_isi, o_and, o_or, o_not, o_ite, o_chain, e_var, e_rd, e_int, e_bl, e_non, e_str, e_glob, e_prim, e_isi, e_call, e_and, e_or, e_not, e_ite, ea_nil, ea_rd, ea_var, ea_con, ea_glob, ea_prim, ea_isi, ea_call, ea_and, ea_or, ea_not, ea_ite, ea_chain, ea_slc, ea_comp, ea_compif, r_var, r_prim, r_con, r_glob, r_call, r_isi, r_and, r_or, r_not, r_ite, r_chain, r_comp, r_compif, r_slc, ld_nil, ld_val, ld_own, ld_bor, ld_none, wp_nil, wp_c, tg_nm, tg_tup, tg_nil, tg_c, e_chain, es_cont, es_brk, es_pass, p_min2, p_max2, p_l0, p_l1, p_l2, p_l3, p_l4, p_is0, p_not0, n_non, n_tup, i_seq, q_lst, q_tup, q_ro, y_tt, y_tn, y_ii, y_bi, y_bb, y_lv, y_lb, oO_some, slotR, l_0, l_s, v_0, v_s, R.bind_ok, R.bind_bad, R.bind_exc, es_raise, es_expr, rf_exc, e_isC, isC_err, ea_isC, o_isC, r_isC, r_srt, o_srt, lk_here, pd_nil, pd_c, sl_d, sl_s, okD_d, okD_l, okS_d, okS_l, rf_val, rf_own, fz_val, fz_own, tr_bl, t_bl, t_int, p_add, p_sub, p_neg, p_eq, p_ne, p_lt, p_le, p_gt, p_ge, p_abs, p_int, p_gcd, p_i0, p_i1, p_i2, p_i3, p_len2, p_len3, p_len4, p_t3, p_t4, p_t2, List.map, List.cons_append, List.nil_append, List.append_nil, List.length_cons, List.length_nil, List.replicate, if_true, if_false, Bool.false_eq_true, Nat.reduceAdd, Nat.reduceSub, decide_eq_true_eq, eq_self, decide_true, Bool.not_true, Bool.not_false, Int.reduceEq, Int.reduceLT, Int.reduceLE, decide_false, g1]) ?_
    have sl := e_slcV (i := 7) (y := "numbers") (v := .lst (frs L)) (xs := frs L) (l := some 2) (h := none) (lo := .some (.con (.int 2))) (hi := .none) (e := [some (.val (.ro S)), some (.val (.int n)), some (.val (.int d)), some (.val (.int m)), some (.val (.int e)), some (.val (fr a)), some (.val (fr b)), some (.val (.lst (frs L))), x]) rfl rfl rfl rfl (by rw [List.length_map]; unfold lim; omega)
    rw [show (some (2 : Int)) = some (((2 : Nat)) : Int) from rfl, cut_drop (by rw [List.length_map]; exact l2), ← List.map_drop] at sl
    simp only [es_nil, es_cons, es_asgN, es_asgT, es_par, es_if, es_for, es_ret, es_retN, o_prim, o_call, o_var, o_con, o_glob, o_isi, o_and, o_or, o_not, o_ite, o_chain, e_var, e_rd, e_int, e_bl, e_non, e_str, e_glob, e_prim, e_isi, e_call, e_and, e_or, e_not, e_ite, ea_nil, ea_rd, ea_var, ea_con, ea_glob, ea_prim, ea_isi, ea_call, ea_and, ea_or, ea_not, ea_ite, ea_chain, ea_slc, ea_comp, ea_compif, r_var, r_prim, r_con, r_glob, r_call, r_isi, r_and, r_or, r_not, r_ite, r_chain, r_comp, r_compif, r_slc, ld_nil, ld_val, ld_own, ld_bor, ld_none, wp_nil, wp_c, tg_nm, tg_tup, tg_nil, tg_c, e_chain, es_cont, es_brk, es_pass, p_min2, p_max2, p_l0, p_l1, p_l2, p_l3, p_l4, p_is0, p_not0, n_non, n_tup, i_seq, q_lst, q_tup, q_ro, y_tt, y_tn, y_ii, y_bi, y_bb, y_lv, y_lb, oO_some, slotR, l_0, l_s, v_0, v_s, R.bind_ok, R.bind_bad, R.bind_exc, es_raise, es_expr, rf_exc, e_isC, isC_err, ea_isC, o_isC, r_isC, r_srt, o_srt, lk_here, pd_nil, pd_c, sl_d, sl_s, okD_d, okD_l, okS_d, okS_l, rf_val, rf_own, fz_val, fz_own, tr_bl, t_bl, t_int, p_add, p_sub, p_neg, p_eq, p_ne, p_lt, p_le, p_gt, p_ge, p_abs, p_int, p_gcd, p_i0, p_i1, p_i2, p_i3, p_len2, p_len3, p_len4, p_t3, p_t4, p_t2, List.map, List.cons_append, List.nil_append, List.append_nil, List.length_cons, List.length_nil, List.replicate, if_true, if_false, Bool.false_eq_true, Nat.reduceAdd, Nat.reduceSub, decide_eq_true_eq, eq_self, decide_true, Bool.not_true, Bool.not_false, Int.reduceEq, Int.reduceLT, Int.reduceLE, decide_false, sl, g2]
end K86
set_option Elab.async false
set_option linter.all false
set_option maxRecDepth 100000
set_option maxHeartbeats 0
namespace K86
open PySem PySem.Spec PyProof.Rows L2 Ev Fx
def top (i : Nat) : Stmt := PySem.Challenge.pw_whattwosettle_k86_exact_fractions.main.body.getD i (.Pass ⟨0, 0, 0, 0⟩)
abbrev st_frac : Stmt := top 11
abbrev N_frac : List Str := ["n", "d", "shared"]
abbrev P_frac : List Str := ["n", "d"]
def dd_frac : He.DefD := ⟨("frac", none), "frac", "frac", defArgs st_frac, defBody st_frac, defScope st_frac, [(.int 1)], []⟩
theorem sc_frac : FnScope N_frac P_frac (defScope st_frac) := ⟨rfl, rfl, rfl, by decide +kernel, rfl, by decide +kernel, by decide +kernel⟩
theorem ok_frac : okSts N_frac (defScope st_frac) b_frac (defBody st_frac) = true := by kernel_rfl
abbrev st_plus : Stmt := top 12
abbrev N_plus : List Str := ["a", "b"]
abbrev P_plus : List Str := ["a", "b"]
def dd_plus : He.DefD := ⟨("plus", none), "plus", "plus", defArgs st_plus, defBody st_plus, defScope st_plus, [], []⟩
theorem sc_plus : FnScope N_plus P_plus (defScope st_plus) := ⟨rfl, rfl, rfl, by decide +kernel, rfl, by decide +kernel, by decide +kernel⟩
theorem ok_plus : okSts N_plus (defScope st_plus) b_plus (defBody st_plus) = true := by kernel_rfl
abbrev st_minus : Stmt := top 13
abbrev N_minus : List Str := ["a", "b"]
abbrev P_minus : List Str := ["a", "b"]
def dd_minus : He.DefD := ⟨("minus", none), "minus", "minus", defArgs st_minus, defBody st_minus, defScope st_minus, [], []⟩
theorem sc_minus : FnScope N_minus P_minus (defScope st_minus) := ⟨rfl, rfl, rfl, by decide +kernel, rfl, by decide +kernel, by decide +kernel⟩
theorem ok_minus : okSts N_minus (defScope st_minus) b_minus (defBody st_minus) = true := by kernel_rfl
abbrev st_times : Stmt := top 14
abbrev N_times : List Str := ["a", "b"]
abbrev P_times : List Str := ["a", "b"]
def dd_times : He.DefD := ⟨("times", none), "times", "times", defArgs st_times, defBody st_times, defScope st_times, [], []⟩
theorem sc_times : FnScope N_times P_times (defScope st_times) := ⟨rfl, rfl, rfl, by decide +kernel, rfl, by decide +kernel, by decide +kernel⟩
theorem ok_times : okSts N_times (defScope st_times) b_times (defBody st_times) = true := by kernel_rfl
abbrev st_over : Stmt := top 15
abbrev N_over : List Str := ["a", "b"]
abbrev P_over : List Str := ["a", "b"]
def dd_over : He.DefD := ⟨("over", none), "over", "over", defArgs st_over, defBody st_over, defScope st_over, [], []⟩
theorem sc_over : FnScope N_over P_over (defScope st_over) := ⟨rfl, rfl, rfl, by decide +kernel, rfl, by decide +kernel, by decide +kernel⟩
theorem ok_over : okSts N_over (defScope st_over) b_over (defBody st_over) = true := by kernel_rfl
abbrev st_below : Stmt := top 16
abbrev N_below : List Str := ["a", "b"]
abbrev P_below : List Str := ["a", "b"]
def dd_below : He.DefD := ⟨("below", none), "below", "below", defArgs st_below, defBody st_below, defScope st_below, [], []⟩
theorem sc_below : FnScope N_below P_below (defScope st_below) := ⟨rfl, rfl, rfl, by decide +kernel, rfl, by decide +kernel, by decide +kernel⟩
theorem ok_below : okSts N_below (defScope st_below) b_below (defBody st_below) = true := by kernel_rfl
abbrev st_at_most : Stmt := top 17
abbrev N_at_most : List Str := ["a", "b"]
abbrev P_at_most : List Str := ["a", "b"]
def dd_at_most : He.DefD := ⟨("at_most", none), "at_most", "at_most", defArgs st_at_most, defBody st_at_most, defScope st_at_most, [], []⟩
theorem sc_at_most : FnScope N_at_most P_at_most (defScope st_at_most) := ⟨rfl, rfl, rfl, by decide +kernel, rfl, by decide +kernel, by decide +kernel⟩
theorem ok_at_most : okSts N_at_most (defScope st_at_most) b_at_most (defBody st_at_most) = true := by kernel_rfl
abbrev st_smaller : Stmt := top 18
abbrev N_smaller : List Str := ["a", "b"]
abbrev P_smaller : List Str := ["a", "b"]
def dd_smaller : He.DefD := ⟨("smaller", none), "smaller", "smaller", defArgs st_smaller, defBody st_smaller, defScope st_smaller, [], []⟩
theorem sc_smaller : FnScope N_smaller P_smaller (defScope st_smaller) := ⟨rfl, rfl, rfl, by decide +kernel, rfl, by decide +kernel, by decide +kernel⟩
theorem ok_smaller : okSts N_smaller (defScope st_smaller) b_smaller (defBody st_smaller) = true := by kernel_rfl
abbrev st_larger : Stmt := top 19
abbrev N_larger : List Str := ["a", "b"]
abbrev P_larger : List Str := ["a", "b"]
def dd_larger : He.DefD := ⟨("larger", none), "larger", "larger", defArgs st_larger, defBody st_larger, defScope st_larger, [], []⟩
theorem sc_larger : FnScope N_larger P_larger (defScope st_larger) := ⟨rfl, rfl, rfl, by decide +kernel, rfl, by decide +kernel, by decide +kernel⟩
theorem ok_larger : okSts N_larger (defScope st_larger) b_larger (defBody st_larger) = true := by kernel_rfl
abbrev st_middle : Stmt := top 20
abbrev N_middle : List Str := ["a", "b"]
abbrev P_middle : List Str := ["a", "b"]
def dd_middle : He.DefD := ⟨("middle", none), "middle", "middle", defArgs st_middle, defBody st_middle, defScope st_middle, [], []⟩
theorem sc_middle : FnScope N_middle P_middle (defScope st_middle) := ⟨rfl, rfl, rfl, by decide +kernel, rfl, by decide +kernel, by decide +kernel⟩
theorem ok_middle : okSts N_middle (defScope st_middle) b_middle (defBody st_middle) = true := by kernel_rfl
abbrev st_total : Stmt := top 21
abbrev N_total : List Str := ["numbers", "result", "number"]
abbrev P_total : List Str := ["numbers"]
def dd_total : He.DefD := ⟨("total", none), "total", "total", defArgs st_total, defBody st_total, defScope st_total, [], []⟩
theorem sc_total : FnScope N_total P_total (defScope st_total) := ⟨rfl, rfl, rfl, by decide +kernel, rfl, by decide +kernel, by decide +kernel⟩
theorem ok_total : okSts N_total (defScope st_total) b_total (defBody st_total) = true := by kernel_rfl
abbrev st_power : Stmt := top 22
abbrev N_power : List Str := ["a", "k", "result", "_"]
abbrev P_power : List Str := ["a", "k"]
def dd_power : He.DefD := ⟨("power", none), "power", "power", defArgs st_power, defBody st_power, defScope st_power, [], []⟩
theorem sc_power : FnScope N_power P_power (defScope st_power) := ⟨rfl, rfl, rfl, by decide +kernel, rfl, by decide +kernel, by decide +kernel⟩
theorem ok_power : okSts N_power (defScope st_power) b_power (defBody st_power) = true := by kernel_rfl
abbrev st_round_up : Stmt := top 23
abbrev N_round_up : List Str := ["a"]
abbrev P_round_up : List Str := ["a"]
def dd_round_up : He.DefD := ⟨("round_up", none), "round_up", "round_up", defArgs st_round_up, defBody st_round_up, defScope st_round_up, [], []⟩
theorem sc_round_up : FnScope N_round_up P_round_up (defScope st_round_up) := ⟨rfl, rfl, rfl, by decide +kernel, rfl, by decide +kernel, by decide +kernel⟩
theorem ok_round_up : okSts N_round_up (defScope st_round_up) b_round_up (defBody st_round_up) = true := by kernel_rfl
abbrev st_ascending : Stmt := top 24
abbrev N_ascending : List Str := ["numbers", "common", "number"]
abbrev P_ascending : List Str := ["numbers"]
def dd_ascending : He.DefD := ⟨("ascending", none), "ascending", "ascending", defArgs st_ascending, defBody st_ascending, defScope st_ascending, [], []⟩
theorem sc_ascending : FnScope N_ascending P_ascending (defScope st_ascending) := ⟨rfl, rfl, rfl, by decide +kernel, rfl, by decide +kernel, by decide +kernel⟩
theorem ok_ascending : okSts N_ascending (defScope st_ascending) b_ascending (defBody st_ascending) = true := by kernel_rfl
abbrev st__law_cell : Stmt := top 26
abbrev N__law_cell : List Str := ["script", "k"]
abbrev P__law_cell : List Str := ["script", "k"]
def dd__law_cell : He.DefD := ⟨("_law_cell", none), "_law_cell", "_law_cell", defArgs st__law_cell, defBody st__law_cell, defScope st__law_cell, [], []⟩
theorem sc__law_cell : FnScope N__law_cell P__law_cell (defScope st__law_cell) := ⟨rfl, rfl, rfl, by decide +kernel, rfl, by decide +kernel, by decide +kernel⟩
theorem ok__law_cell : okSts N__law_cell (defScope st__law_cell) b__law_cell (defBody st__law_cell) = true := by kernel_rfl
abbrev st__law_whole : Stmt := top 27
abbrev N__law_whole : List Str := ["cell"]
abbrev P__law_whole : List Str := ["cell"]
def dd__law_whole : He.DefD := ⟨("_law_whole", none), "_law_whole", "_law_whole", defArgs st__law_whole, defBody st__law_whole, defScope st__law_whole, [], []⟩
theorem sc__law_whole : FnScope N__law_whole P__law_whole (defScope st__law_whole) := ⟨rfl, rfl, rfl, by decide +kernel, rfl, by decide +kernel, by decide +kernel⟩
theorem ok__law_whole : okSts N__law_whole (defScope st__law_whole) b__law_whole (defBody st__law_whole) = true := by kernel_rfl
abbrev st__law_lowest : Stmt := top 28
abbrev N__law_lowest : List Str := ["n", "d", "a", "b", "c"]
abbrev P__law_lowest : List Str := ["n", "d"]
def dd__law_lowest : He.DefD := ⟨("_law_lowest", none), "_law_lowest", "_law_lowest", defArgs st__law_lowest, defBody st__law_lowest, defScope st__law_lowest, [], []⟩
theorem sc__law_lowest : FnScope N__law_lowest P__law_lowest (defScope st__law_lowest) := ⟨rfl, rfl, rfl, by decide +kernel, rfl, by decide +kernel, by decide +kernel⟩
theorem ok__law_lowest : okSts N__law_lowest (defScope st__law_lowest) b__law_lowest (defBody st__law_lowest) = true := by kernel_rfl
abbrev st__law_is_whole : Stmt := top 29
abbrev N__law_is_whole : List Str := ["value"]
abbrev P__law_is_whole : List Str := ["value"]
def dd__law_is_whole : He.DefD := ⟨("_law_is_whole", none), "_law_is_whole", "_law_is_whole", defArgs st__law_is_whole, defBody st__law_is_whole, defScope st__law_is_whole, [], []⟩
theorem sc__law_is_whole : FnScope N__law_is_whole P__law_is_whole (defScope st__law_is_whole) := ⟨rfl, rfl, rfl, by decide +kernel, rfl, by decide +kernel, by decide +kernel⟩
theorem ok__law_is_whole : okSts N__law_is_whole (defScope st__law_is_whole) b__law_is_whole (defBody st__law_is_whole) = true := by kernel_rfl
abbrev st__law_same : Stmt := top 30
abbrev N__law_same : List Str := ["actual", "n", "d"]
abbrev P__law_same : List Str := ["actual", "n", "d"]
def dd__law_same : He.DefD := ⟨("_law_same", none), "_law_same", "_law_same", defArgs st__law_same, defBody st__law_same, defScope st__law_same, [], []⟩
theorem sc__law_same : FnScope N__law_same P__law_same (defScope st__law_same) := ⟨rfl, rfl, rfl, by decide +kernel, rfl, by decide +kernel, by decide +kernel⟩
theorem ok__law_same : okSts N__law_same (defScope st__law_same) b__law_same (defBody st__law_same) = true := by kernel_rfl
abbrev st__law_says : Stmt := top 31
abbrev N__law_says : List Str := ["actual", "due"]
abbrev P__law_says : List Str := ["actual", "due"]
def dd__law_says : He.DefD := ⟨("_law_says", none), "_law_says", "_law_says", defArgs st__law_says, defBody st__law_says, defScope st__law_says, [], []⟩
theorem sc__law_says : FnScope N__law_says P__law_says (defScope st__law_says) := ⟨rfl, rfl, rfl, by decide +kernel, rfl, by decide +kernel, by decide +kernel⟩
theorem ok__law_says : okSts N__law_says (defScope st__law_says) b__law_says (defBody st__law_says) = true := by kernel_rfl
abbrev st__law_due_error : Stmt := top 32
abbrev N__law_due_error : List Str := ["e"]
abbrev P__law_due_error : List Str := ["e"]
def dd__law_due_error : He.DefD := ⟨("_law_due_error", none), "_law_due_error", "_law_due_error", defArgs st__law_due_error, defBody st__law_due_error, defScope st__law_due_error, [], []⟩
theorem sc__law_due_error : FnScope N__law_due_error P__law_due_error (defScope st__law_due_error) := ⟨rfl, rfl, rfl, by decide +kernel, rfl, by decide +kernel, by decide +kernel⟩
theorem ok__law_due_error : okSts N__law_due_error (defScope st__law_due_error) b__law_due_error (defBody st__law_due_error) = true := by kernel_rfl
abbrev st__law_refusals : Stmt := top 33
abbrev N__law_refusals : List Str := ["n", "a", "e"]
abbrev P__law_refusals : List Str := ["n", "a"]
def dd__law_refusals : He.DefD := ⟨("_law_refusals", none), "_law_refusals", "_law_refusals", defArgs st__law_refusals, defBody st__law_refusals, defScope st__law_refusals, [], []⟩
theorem sc__law_refusals : FnScope N__law_refusals P__law_refusals (defScope st__law_refusals) := ⟨rfl, rfl, rfl, by decide +kernel, rfl, by decide +kernel, by decide +kernel⟩
theorem ok__law_refusals : okSts N__law_refusals (defScope st__law_refusals) b__law_refusals (defBody st__law_refusals) = true := by kernel_rfl
abbrev st__law_sums : Stmt := top 34
abbrev N__law_sums : List Str := ["n", "d", "m", "e", "a", "b"]
abbrev P__law_sums : List Str := ["n", "d", "m", "e", "a", "b"]
def dd__law_sums : He.DefD := ⟨("_law_sums", none), "_law_sums", "_law_sums", defArgs st__law_sums, defBody st__law_sums, defScope st__law_sums, [], []⟩
theorem sc__law_sums : FnScope N__law_sums P__law_sums (defScope st__law_sums) := ⟨rfl, rfl, rfl, by decide +kernel, rfl, by decide +kernel, by decide +kernel⟩
theorem ok__law_sums : okSts N__law_sums (defScope st__law_sums) b__law_sums (defBody st__law_sums) = true := by kernel_rfl
abbrev st__law_order : Stmt := top 35
abbrev N__law_order : List Str := ["n", "d", "m", "e", "a", "b", "lead", "low", "high"]
abbrev P__law_order : List Str := ["n", "d", "m", "e", "a", "b"]
def dd__law_order : He.DefD := ⟨("_law_order", none), "_law_order", "_law_order", defArgs st__law_order, defBody st__law_order, defScope st__law_order, [], []⟩
theorem sc__law_order : FnScope N__law_order P__law_order (defScope st__law_order) := ⟨rfl, rfl, rfl, by decide +kernel, rfl, by decide +kernel, by decide +kernel⟩
theorem ok__law_order : okSts N__law_order (defScope st__law_order) b__law_order (defBody st__law_order) = true := by kernel_rfl
abbrev st__law_rounded : Stmt := top 36
abbrev N__law_rounded : List Str := ["n", "d", "a", "k", "low"]
abbrev P__law_rounded : List Str := ["n", "d", "a"]
def dd__law_rounded : He.DefD := ⟨("_law_rounded", none), "_law_rounded", "_law_rounded", defArgs st__law_rounded, defBody st__law_rounded, defScope st__law_rounded, [], []⟩
theorem sc__law_rounded : FnScope N__law_rounded P__law_rounded (defScope st__law_rounded) := ⟨rfl, rfl, rfl, by decide +kernel, rfl, by decide +kernel, by decide +kernel⟩
theorem ok__law_rounded : okSts N__law_rounded (defScope st__law_rounded) b__law_rounded (defBody st__law_rounded) = true := by kernel_rfl
abbrev st__law_powers : Stmt := top 37
abbrev N__law_powers : List Str := ["n", "d", "a", "top", "bottom", "k"]
abbrev P__law_powers : List Str := ["n", "d", "a"]
def dd__law_powers : He.DefD := ⟨("_law_powers", none), "_law_powers", "_law_powers", defArgs st__law_powers, defBody st__law_powers, defScope st__law_powers, [], []⟩
theorem sc__law_powers : FnScope N__law_powers P__law_powers (defScope st__law_powers) := ⟨rfl, rfl, rfl, by decide +kernel, rfl, by decide +kernel, by decide +kernel⟩
theorem ok__law_powers : okSts N__law_powers (defScope st__law_powers) b__law_powers (defBody st__law_powers) = true := by kernel_rfl
abbrev st__law_sorted : Stmt := top 38
abbrev N__law_sorted : List Str := ["numbers", "row", "number", "k"]
abbrev P__law_sorted : List Str := ["numbers"]
def dd__law_sorted : He.DefD := ⟨("_law_sorted", none), "_law_sorted", "_law_sorted", defArgs st__law_sorted, defBody st__law_sorted, defScope st__law_sorted, [], []⟩
theorem sc__law_sorted : FnScope N__law_sorted P__law_sorted (defScope st__law_sorted) := ⟨rfl, rfl, rfl, by decide +kernel, rfl, by decide +kernel, by decide +kernel⟩
theorem ok__law_sorted : okSts N__law_sorted (defScope st__law_sorted) b__law_sorted (defBody st__law_sorted) = true := by kernel_rfl
abbrev st__law_lists : Stmt := top 39
abbrev N__law_lists : List Str := ["script", "numbers", "top", "bottom", "number", "handed", "told", "low"]
abbrev P__law_lists : List Str := ["script", "numbers"]
def dd__law_lists : He.DefD := ⟨("_law_lists", none), "_law_lists", "_law_lists", defArgs st__law_lists, defBody st__law_lists, defScope st__law_lists, [], []⟩
theorem sc__law_lists : FnScope N__law_lists P__law_lists (defScope st__law_lists) := ⟨rfl, rfl, rfl, by decide +kernel, rfl, by decide +kernel, by decide +kernel⟩
theorem ok__law_lists : okSts N__law_lists (defScope st__law_lists) b__law_lists (defBody st__law_lists) = true := by kernel_rfl
abbrev st_law : Stmt := top 40
abbrev N_law : List Str := ["script", "n", "d", "m", "e", "a", "b", "numbers", "cell"]
abbrev P_law : List Str := ["script"]
def dd_law : He.DefD := ⟨("law", none), "law", "law", defArgs st_law, defBody st_law, defScope st_law, [], []⟩
theorem sc_law : FnScope N_law P_law (defScope st_law) := ⟨rfl, rfl, rfl, by decide +kernel, rfl, by decide +kernel, by decide +kernel⟩
theorem ok_law : okSts N_law (defScope st_law) b_law (defBody st_law) = true := by kernel_rfl
def fns : List He.DefD := [dd_frac, dd_plus, dd_minus, dd_times, dd_over, dd_below, dd_at_most, dd_smaller, dd_larger, dd_middle, dd_total, dd_power, dd_round_up, dd_ascending, dd__law_cell, dd__law_whole, dd__law_lowest, dd__law_is_whole, dd__law_same, dd__law_says, dd__law_due_error, dd__law_refusals, dd__law_sums, dd__law_order, dd__law_rounded, dd__law_powers, dd__law_sorted, dd__law_lists, dd_law]
def fas : List He.Fa := [.glo "frac", .glo "plus", .glo "minus", .glo "times", .glo "over", .glo "below", .glo "at_most", .glo "smaller", .glo "larger", .glo "middle", .glo "total", .glo "power", .glo "round_up", .glo "ascending", .glo "_law_cell", .glo "_law_whole", .glo "_law_lowest", .glo "_law_is_whole", .glo "_law_same", .glo "_law_says", .glo "_law_due_error", .glo "_law_refusals", .glo "_law_sums", .glo "_law_order", .glo "_law_rounded", .glo "_law_powers", .glo "_law_sorted", .glo "_law_lists", .glo "law", .free "len", .free "abs", .free "int", .free "bool", .free "tuple", .free "list", .free "str", .free "min", .free "max", .free "sum", .free "any", .free "all", .free "range", .free "enumerate", .free "zip", .free "isinstance", .free "sorted", .free "reversed"]
def xfs (K : PySem.W.Frag) : List Bool := [isBlt "gcd" "math.gcd" K,
  isBlt "lcm" "math.lcm" K,
  errB K "BadNumber",
  glbD K "HALF" (.tup [(.int 1), (.int 2)]),
  glbD K "ZERO" (.tup [(.int 0), (.int 1)]),
  glbD K "ONE" (.tup [(.int 1), (.int 1)]),
  iscB K "ValueError" (some "ValueError") [("BadNumber", true)],
  iscB K "BadNumber" none [("BadNumber", true)],
  iscB K "TooMany" none [("BadNumber", false)],
  iscB K "Outside" none [("BadNumber", false)],
  iscB K "NoGain" none [("BadNumber", false)],
  exmB K "SettleError" [("BadNumber", true)],
  gloB K "ascending"]
def xf (K : PySem.W.Frag) : Bool := (xfs K).all id
abbrev tf : List He.Defn := [lamD]
abbrev R : PySem.W.OpenRow := PySem.W.OpenLaw.row PySem.Challenge.rw_whattwosettle_k86_exact_fractions
abbrev loose0 : List Str := ["gcd", "lcm", "__name__", "SettleError", "BadNumber", "NoGain", "Outside", "TooMany", "ZERO", "ONE", "HALF", "frac", "plus", "minus", "times", "over", "below", "at_most", "smaller", "larger", "middle", "total", "power", "round_up", "ascending", "_law_cell", "_law_whole", "_law_lowest", "_law_is_whole", "_law_same"]
abbrev loose1 : List Str := ["_law_says", "_law_due_error", "_law_refusals", "_law_sums", "_law_order", "_law_rounded", "_law_powers", "_law_sorted", "_law_lists"]
abbrev loose : List Str := loose0 ++ loose1
abbrev hk : PySem.W.Hook := He.hookX 4 fas fns [] tf xf
def ob (s : PySem.W.SharedT) := He.obsX 4 fas fns [] tf xf (HeadRun.getT s)
theorem ob_eq (s : PySem.W.SharedT) : ob s = hk.obs s.abs := He.obsX_eq (HeadRun.getT_eq s)
theorem run (w : World) : HeadRun.RunEqI R (PySem.W.view R.prog [0, 40]) hk ob 20000 loose w := by
  unfold HeadRun.RunEqI
  kernel_rfl
section
variable {P : Program} {w : World} {K : PySem.W.Frag} {h : Heap} {mg : Str → Option Value}
abbrev cs (K : PySem.W.Frag) : List (Addr × Addr) := [He.cT K lamD]
theorem tabs_in (c : He.SaysX fas fns [] tf xf w h K) : TabsIn K h (cs K) := ⟨fun p hp => by rw [List.mem_singleton.mp hp]; exact c.hd lamD List.mem_cons_self, fun p hp => by rw [List.mem_singleton.mp hp]; exact c.out lamD List.mem_cons_self, fun p hp => by rw [List.mem_singleton.mp hp]; exact c.empty lamD List.mem_cons_self, fun P q z => ⟨_, List.mem_cons_self, z.2.1.symm⟩⟩
theorem facts (X : K.In h) (M : h.Ns mainGlobals mg) (c : He.SaysD fas fns K) (cx : xf K = true) : (∀ x ∈ bltFree, mg x = none) ∧
  ∃ fd : FuncData, (∀ (s : Shared) (v : Value), BindsTo s fd ⟨[v], []⟩ [("script", v)]) ∧ ∀ base : Heap, Ground P mg base → (∀ p ∈ cs K, LamX.TabB base mg p.1 p.2) → FnOk P w K mg base (L2.CX P w) 37 (He.ga K "law") fd ["script"] (spOf K (m0 mg) f_law.den) := by
  have fr : ∀ x ∈ bltFree, mg x = none := by
    intro x hx
    simp only [bltFree, List.mem_cons, List.not_mem_nil, or_false] at hx
    rcases hx with rfl | rfl | rfl | rfl | rfl | rfl | rfl | rfl | rfl | rfl | rfl | rfl | rfl | rfl | rfl | rfl | rfl | rfl
    · exact He.free_ok X M (c.fact 29 (f := .free "len") rfl)
    · exact He.free_ok X M (c.fact 30 (f := .free "abs") rfl)
    · exact He.free_ok X M (c.fact 31 (f := .free "int") rfl)
    · exact He.free_ok X M (c.fact 32 (f := .free "bool") rfl)
    · exact He.free_ok X M (c.fact 33 (f := .free "tuple") rfl)
    · exact He.free_ok X M (c.fact 34 (f := .free "list") rfl)
    · exact He.free_ok X M (c.fact 35 (f := .free "str") rfl)
    · exact He.free_ok X M (c.fact 36 (f := .free "min") rfl)
    · exact He.free_ok X M (c.fact 37 (f := .free "max") rfl)
    · exact He.free_ok X M (c.fact 38 (f := .free "sum") rfl)
    · exact He.free_ok X M (c.fact 39 (f := .free "any") rfl)
    · exact He.free_ok X M (c.fact 40 (f := .free "all") rfl)
    · exact He.free_ok X M (c.fact 41 (f := .free "range") rfl)
    · exact He.free_ok X M (c.fact 42 (f := .free "enumerate") rfl)
    · exact He.free_ok X M (c.fact 43 (f := .free "zip") rfl)
    · exact He.free_ok X M (c.fact 44 (f := .free "isinstance") rfl)
    · exact He.free_ok X M (c.fact 45 (f := .free "sorted") rfl)
    · exact He.free_ok X M (c.fact 46 (f := .free "reversed") rfl)
  have g_gcd : mg "gcd" = some (.builtin "math.gcd") := isBlt_ok X M (List.all_eq_true.mp cx _ (List.mem_of_getElem? (i := 0) rfl))
  have g_lcm : mg "lcm" = some (.builtin "math.lcm") := isBlt_ok X M (List.all_eq_true.mp cx _ (List.mem_of_getElem? (i := 1) rfl))
  have x_err_BadNumber : ∀ base n hot me, ErrG ⟨P, w, K, mg, base, n, hot, me⟩ "BadNumber" := fun base n hot me => errB_ok X M (List.all_eq_true.mp cx _ (List.mem_of_getElem? (i := 2) rfl))
  have x_glb_HALF := glbD_ok X M (x := "HALF") (d := (.tup [(.int 1), (.int 2)])) (List.all_eq_true.mp cx _ (List.mem_of_getElem? (i := 3) rfl))
  have x_glb_ZERO := glbD_ok X M (x := "ZERO") (d := (.tup [(.int 0), (.int 1)])) (List.all_eq_true.mp cx _ (List.mem_of_getElem? (i := 4) rfl))
  have x_glb_ONE := glbD_ok X M (x := "ONE") (d := (.tup [(.int 1), (.int 1)])) (List.all_eq_true.mp cx _ (List.mem_of_getElem? (i := 5) rfl))
  have x_isc_ValueError : ∀ base n hot me, IsCG ⟨P, w, K, mg, base, n, hot, me⟩ "ValueError" [("BadNumber", true)] := fun base n hot me => iscB_ok (T := (some "ValueError")) X M (List.all_eq_true.mp cx _ (List.mem_of_getElem? (i := 6) rfl))
  have x_isc_BadNumber : ∀ base n hot me, IsCG ⟨P, w, K, mg, base, n, hot, me⟩ "BadNumber" [("BadNumber", true)] := fun base n hot me => iscB_ok (T := none) X M (List.all_eq_true.mp cx _ (List.mem_of_getElem? (i := 7) rfl))
  have x_isc_TooMany : ∀ base n hot me, IsCG ⟨P, w, K, mg, base, n, hot, me⟩ "TooMany" [("BadNumber", false)] := fun base n hot me => iscB_ok (T := none) X M (List.all_eq_true.mp cx _ (List.mem_of_getElem? (i := 8) rfl))
  have x_isc_Outside : ∀ base n hot me, IsCG ⟨P, w, K, mg, base, n, hot, me⟩ "Outside" [("BadNumber", false)] := fun base n hot me => iscB_ok (T := none) X M (List.all_eq_true.mp cx _ (List.mem_of_getElem? (i := 9) rfl))
  have x_isc_NoGain : ∀ base n hot me, IsCG ⟨P, w, K, mg, base, n, hot, me⟩ "NoGain" [("BadNumber", false)] := fun base n hot me => iscB_ok (T := none) X M (List.all_eq_true.mp cx _ (List.mem_of_getElem? (i := 10) rfl))
  have x_exm_SettleError : ∀ base n hot me, ErrT ⟨P, w, K, mg, base, n, hot, me⟩ "SettleError" [("BadNumber", true)] := fun base n hot me => exmB_ok X M (List.all_eq_true.mp cx _ (List.mem_of_getElem? (i := 11) rfl))
  have x_asc : IsTab K (He.cT K lamD).2 (lamQ ++ "<lambda>") := ⟨of_decide_eq_true (List.all_eq_true.mp cx _ (List.mem_of_getElem? (i := 12) rfl)), rfl, rfl⟩
  obtain ⟨fd_frac, F_frac⟩ := c.def_ 0 (d := dd_frac) rfl
  obtain ⟨fd_plus, F_plus⟩ := c.def_ 1 (d := dd_plus) rfl
  obtain ⟨fd_minus, F_minus⟩ := c.def_ 2 (d := dd_minus) rfl
  obtain ⟨fd_times, F_times⟩ := c.def_ 3 (d := dd_times) rfl
  obtain ⟨fd_over, F_over⟩ := c.def_ 4 (d := dd_over) rfl
  obtain ⟨fd_below, F_below⟩ := c.def_ 5 (d := dd_below) rfl
  obtain ⟨fd_at_most, F_at_most⟩ := c.def_ 6 (d := dd_at_most) rfl
  obtain ⟨fd_smaller, F_smaller⟩ := c.def_ 7 (d := dd_smaller) rfl
  obtain ⟨fd_larger, F_larger⟩ := c.def_ 8 (d := dd_larger) rfl
  obtain ⟨fd_middle, F_middle⟩ := c.def_ 9 (d := dd_middle) rfl
  obtain ⟨fd_total, F_total⟩ := c.def_ 10 (d := dd_total) rfl
  obtain ⟨fd_power, F_power⟩ := c.def_ 11 (d := dd_power) rfl
  obtain ⟨fd_round_up, F_round_up⟩ := c.def_ 12 (d := dd_round_up) rfl
  obtain ⟨fd_ascending, F_ascending⟩ := c.def_ 13 (d := dd_ascending) rfl
  obtain ⟨fd__law_cell, F__law_cell⟩ := c.def_ 14 (d := dd__law_cell) rfl
  obtain ⟨fd__law_whole, F__law_whole⟩ := c.def_ 15 (d := dd__law_whole) rfl
  obtain ⟨fd__law_lowest, F__law_lowest⟩ := c.def_ 16 (d := dd__law_lowest) rfl
  obtain ⟨fd__law_is_whole, F__law_is_whole⟩ := c.def_ 17 (d := dd__law_is_whole) rfl
  obtain ⟨fd__law_same, F__law_same⟩ := c.def_ 18 (d := dd__law_same) rfl
  obtain ⟨fd__law_says, F__law_says⟩ := c.def_ 19 (d := dd__law_says) rfl
  obtain ⟨fd__law_due_error, F__law_due_error⟩ := c.def_ 20 (d := dd__law_due_error) rfl
  obtain ⟨fd__law_refusals, F__law_refusals⟩ := c.def_ 21 (d := dd__law_refusals) rfl
  obtain ⟨fd__law_sums, F__law_sums⟩ := c.def_ 22 (d := dd__law_sums) rfl
  obtain ⟨fd__law_order, F__law_order⟩ := c.def_ 23 (d := dd__law_order) rfl
  obtain ⟨fd__law_rounded, F__law_rounded⟩ := c.def_ 24 (d := dd__law_rounded) rfl
  obtain ⟨fd__law_powers, F__law_powers⟩ := c.def_ 25 (d := dd__law_powers) rfl
  obtain ⟨fd__law_sorted, F__law_sorted⟩ := c.def_ 26 (d := dd__law_sorted) rfl
  obtain ⟨fd__law_lists, F__law_lists⟩ := c.def_ 27 (d := dd__law_lists) rfl
  obtain ⟨fd_law, F_law⟩ := c.def_ 28 (d := dd_law) rfl
  have bl := FunD.bindsA (ps := ["script"]) F_law fun _ _ _ _ _ _ us hl => match us, hl with | [_], _ => rfl
  refine ⟨fr, fd_law, fun s v => bl s [v] rfl, fun base G tb => ?_⟩
  have lamMe : (dd_ascending.qual ++ ".<locals>." : Str) = lamQ := rfl
  have x_tb : LamX.TabB base mg (He.cT K lamD).1 (He.cT K lamD).2 := tb _ List.mem_cons_self
  have q_frac : b_frac.good ⟨P, w, K, mg, base, 32, false, dd_frac.qual ++ ".<locals>."⟩ := by
    simp only [b_frac, Stms.good, Stm.good, Ex.good, Exs.good, Oe.good, Itr.good, goodP, Gd.heat, and_true, true_and, and_self, eq_self, g_gcd, x_err_BadNumber]
  have g_frac_0 : ∀ m, 33 ≤ m → ∀ me, FnG ⟨P, w, K, mg, base, m, false, me⟩ "frac" f_frac.den [] := fun m hm me => fnG_mono (me := me) hm (fnG_of (d := dd_frac) (n := 32) f_frac (vs := []) F_frac rfl sc_frac rfl rfl G (by decide) (fun z => absurd z (by decide +kernel)) q_frac ok_frac (He.glo_ok X M (c.fact 0 (f := .glo "frac") rfl)) (F_frac.binds1 2 1 (fun z => by cases z) rfl fun _ _ _ _ _ _ _ us its hl hi => match us, hl, its, hi with | [_, _], _, [_], _ => ⟨_, rfl, rfl⟩) (fun _ _ => .nil))
  have g_frac_1 : ∀ m, 33 ≤ m → ∀ me, FnG ⟨P, w, K, mg, base, m, false, me⟩ "frac" f_frac.den [(.int 1)] := fun m hm me => fnG_mono (me := me) hm (fnG_of (d := dd_frac) (n := 32) f_frac (vs := [(.int 1)]) F_frac rfl sc_frac rfl rfl G (by decide) (fun z => absurd z (by decide +kernel)) q_frac ok_frac (He.glo_ok X M (c.fact 0 (f := .glo "frac") rfl)) (F_frac.binds1 1 0 (fun z => by cases z) rfl fun _ _ _ _ _ _ _ us its hl hi => match us, hl, its, hi with | [_], _, [_], _ => ⟨_, rfl, rfl⟩) (fun _ _ => .cons (by constructor) (.nil)))
  have q_plus : b_plus.good ⟨P, w, K, mg, base, 33, false, dd_plus.qual ++ ".<locals>."⟩ := by
    simp only [b_plus, Stms.good, Stm.good, Ex.good, Exs.good, Oe.good, Itr.good, goodP, Gd.heat, and_true, true_and, and_self, eq_self, g_frac_0 33 (by decide)]
  have g_plus_0 : ∀ m, 34 ≤ m → ∀ me, FnG ⟨P, w, K, mg, base, m, false, me⟩ "plus" f_plus.den [] := fun m hm me => fnG_mono (me := me) hm (fnG_of (d := dd_plus) (n := 33) f_plus (vs := []) F_plus rfl sc_plus rfl rfl G (by decide) (fun z => absurd z (by decide +kernel)) q_plus ok_plus (He.glo_ok X M (c.fact 1 (f := .glo "plus") rfl)) ⟨[], .nil, F_plus.bindsN fun _ _ _ _ _ _ us hl => match us, hl with | [_, _], _ => rfl⟩ (fun _ _ => .nil))
  have q_minus : b_minus.good ⟨P, w, K, mg, base, 33, false, dd_minus.qual ++ ".<locals>."⟩ := by
    simp only [b_minus, Stms.good, Stm.good, Ex.good, Exs.good, Oe.good, Itr.good, goodP, Gd.heat, and_true, true_and, and_self, eq_self, g_frac_0 33 (by decide)]
  have g_minus_0 : ∀ m, 34 ≤ m → ∀ me, FnG ⟨P, w, K, mg, base, m, false, me⟩ "minus" f_minus.den [] := fun m hm me => fnG_mono (me := me) hm (fnG_of (d := dd_minus) (n := 33) f_minus (vs := []) F_minus rfl sc_minus rfl rfl G (by decide) (fun z => absurd z (by decide +kernel)) q_minus ok_minus (He.glo_ok X M (c.fact 2 (f := .glo "minus") rfl)) ⟨[], .nil, F_minus.bindsN fun _ _ _ _ _ _ us hl => match us, hl with | [_, _], _ => rfl⟩ (fun _ _ => .nil))
  have q_times : b_times.good ⟨P, w, K, mg, base, 33, false, dd_times.qual ++ ".<locals>."⟩ := by
    simp only [b_times, Stms.good, Stm.good, Ex.good, Exs.good, Oe.good, Itr.good, goodP, Gd.heat, and_true, true_and, and_self, eq_self, g_frac_0 33 (by decide)]
  have g_times_0 : ∀ m, 34 ≤ m → ∀ me, FnG ⟨P, w, K, mg, base, m, false, me⟩ "times" f_times.den [] := fun m hm me => fnG_mono (me := me) hm (fnG_of (d := dd_times) (n := 33) f_times (vs := []) F_times rfl sc_times rfl rfl G (by decide) (fun z => absurd z (by decide +kernel)) q_times ok_times (He.glo_ok X M (c.fact 3 (f := .glo "times") rfl)) ⟨[], .nil, F_times.bindsN fun _ _ _ _ _ _ us hl => match us, hl with | [_, _], _ => rfl⟩ (fun _ _ => .nil))
  have q_over : b_over.good ⟨P, w, K, mg, base, 33, false, dd_over.qual ++ ".<locals>."⟩ := by
    simp only [b_over, Stms.good, Stm.good, Ex.good, Exs.good, Oe.good, Itr.good, goodP, Gd.heat, and_true, true_and, and_self, eq_self, g_frac_0 33 (by decide), x_err_BadNumber]
  have g_over_0 : ∀ m, 34 ≤ m → ∀ me, FnG ⟨P, w, K, mg, base, m, false, me⟩ "over" f_over.den [] := fun m hm me => fnG_mono (me := me) hm (fnG_of (d := dd_over) (n := 33) f_over (vs := []) F_over rfl sc_over rfl rfl G (by decide) (fun z => absurd z (by decide +kernel)) q_over ok_over (He.glo_ok X M (c.fact 4 (f := .glo "over") rfl)) ⟨[], .nil, F_over.bindsN fun _ _ _ _ _ _ us hl => match us, hl with | [_, _], _ => rfl⟩ (fun _ _ => .nil))
  have q_below : b_below.good ⟨P, w, K, mg, base, 32, false, dd_below.qual ++ ".<locals>."⟩ := by
    simp only [b_below, Stms.good, Stm.good, Ex.good, Exs.good, Oe.good, Itr.good, goodP, Gd.heat, and_true, true_and, and_self, eq_self]
  have g_below_0 : ∀ m, 33 ≤ m → ∀ me, FnG ⟨P, w, K, mg, base, m, false, me⟩ "below" f_below.den [] := fun m hm me => fnG_mono (me := me) hm (fnG_of (d := dd_below) (n := 32) f_below (vs := []) F_below rfl sc_below rfl rfl G (by decide) (fun z => absurd z (by decide +kernel)) q_below ok_below (He.glo_ok X M (c.fact 5 (f := .glo "below") rfl)) ⟨[], .nil, F_below.bindsN fun _ _ _ _ _ _ us hl => match us, hl with | [_, _], _ => rfl⟩ (fun _ _ => .nil))
  have q_at_most : b_at_most.good ⟨P, w, K, mg, base, 32, false, dd_at_most.qual ++ ".<locals>."⟩ := by
    simp only [b_at_most, Stms.good, Stm.good, Ex.good, Exs.good, Oe.good, Itr.good, goodP, Gd.heat, and_true, true_and, and_self, eq_self]
  have g_at_most_0 : ∀ m, 33 ≤ m → ∀ me, FnG ⟨P, w, K, mg, base, m, false, me⟩ "at_most" f_at_most.den [] := fun m hm me => fnG_mono (me := me) hm (fnG_of (d := dd_at_most) (n := 32) f_at_most (vs := []) F_at_most rfl sc_at_most rfl rfl G (by decide) (fun z => absurd z (by decide +kernel)) q_at_most ok_at_most (He.glo_ok X M (c.fact 6 (f := .glo "at_most") rfl)) ⟨[], .nil, F_at_most.bindsN fun _ _ _ _ _ _ us hl => match us, hl with | [_, _], _ => rfl⟩ (fun _ _ => .nil))
  have q_smaller : b_smaller.good ⟨P, w, K, mg, base, 33, false, dd_smaller.qual ++ ".<locals>."⟩ := by
    simp only [b_smaller, Stms.good, Stm.good, Ex.good, Exs.good, Oe.good, Itr.good, goodP, Gd.heat, and_true, true_and, and_self, eq_self, g_below_0 33 (by decide)]
  have g_smaller_0 : ∀ m, 34 ≤ m → ∀ me, FnG ⟨P, w, K, mg, base, m, false, me⟩ "smaller" f_smaller.den [] := fun m hm me => fnG_mono (me := me) hm (fnG_of (d := dd_smaller) (n := 33) f_smaller (vs := []) F_smaller rfl sc_smaller rfl rfl G (by decide) (fun z => absurd z (by decide +kernel)) q_smaller ok_smaller (He.glo_ok X M (c.fact 7 (f := .glo "smaller") rfl)) ⟨[], .nil, F_smaller.bindsN fun _ _ _ _ _ _ us hl => match us, hl with | [_, _], _ => rfl⟩ (fun _ _ => .nil))
  have q_larger : b_larger.good ⟨P, w, K, mg, base, 33, false, dd_larger.qual ++ ".<locals>."⟩ := by
    simp only [b_larger, Stms.good, Stm.good, Ex.good, Exs.good, Oe.good, Itr.good, goodP, Gd.heat, and_true, true_and, and_self, eq_self, g_below_0 33 (by decide)]
  have g_larger_0 : ∀ m, 34 ≤ m → ∀ me, FnG ⟨P, w, K, mg, base, m, false, me⟩ "larger" f_larger.den [] := fun m hm me => fnG_mono (me := me) hm (fnG_of (d := dd_larger) (n := 33) f_larger (vs := []) F_larger rfl sc_larger rfl rfl G (by decide) (fun z => absurd z (by decide +kernel)) q_larger ok_larger (He.glo_ok X M (c.fact 8 (f := .glo "larger") rfl)) ⟨[], .nil, F_larger.bindsN fun _ _ _ _ _ _ us hl => match us, hl with | [_, _], _ => rfl⟩ (fun _ _ => .nil))
  have q_middle : b_middle.good ⟨P, w, K, mg, base, 34, false, dd_middle.qual ++ ".<locals>."⟩ := by
    simp only [b_middle, Stms.good, Stm.good, Ex.good, Exs.good, Oe.good, Itr.good, goodP, Gd.heat, and_true, true_and, and_self, eq_self, g_plus_0 34 (by decide), g_times_0 34 (by decide), x_glb_HALF]
  have g_middle_0 : ∀ m, 35 ≤ m → ∀ me, FnG ⟨P, w, K, mg, base, m, false, me⟩ "middle" f_middle.den [] := fun m hm me => fnG_mono (me := me) hm (fnG_of (d := dd_middle) (n := 34) f_middle (vs := []) F_middle rfl sc_middle rfl rfl G (by decide) (fun z => absurd z (by decide +kernel)) q_middle ok_middle (He.glo_ok X M (c.fact 9 (f := .glo "middle") rfl)) ⟨[], .nil, F_middle.bindsN fun _ _ _ _ _ _ us hl => match us, hl with | [_, _], _ => rfl⟩ (fun _ _ => .nil))
  have q_total : b_total.good ⟨P, w, K, mg, base, 34, false, dd_total.qual ++ ".<locals>."⟩ := by
    simp only [b_total, Stms.good, Stm.good, Ex.good, Exs.good, Oe.good, Itr.good, goodP, Gd.heat, and_true, true_and, and_self, eq_self, g_plus_0 34 (by decide), x_glb_ZERO]
  have g_total_0 : ∀ m, 35 ≤ m → ∀ me, FnG ⟨P, w, K, mg, base, m, false, me⟩ "total" f_total.den [] := fun m hm me => fnG_mono (me := me) hm (fnG_of (d := dd_total) (n := 34) f_total (vs := []) F_total rfl sc_total rfl rfl G (by decide) (fun z => absurd z (by decide +kernel)) q_total ok_total (He.glo_ok X M (c.fact 10 (f := .glo "total") rfl)) ⟨[], .nil, F_total.bindsN fun _ _ _ _ _ _ us hl => match us, hl with | [_], _ => rfl⟩ (fun _ _ => .nil))
  have q_power : b_power.good ⟨P, w, K, mg, base, 34, false, dd_power.qual ++ ".<locals>."⟩ := by
    simp only [b_power, Stms.good, Stm.good, Ex.good, Exs.good, Oe.good, Itr.good, goodP, Gd.heat, and_true, true_and, and_self, eq_self, g_times_0 34 (by decide), x_glb_ONE]
  have g_power_0 : ∀ m, 35 ≤ m → ∀ me, FnG ⟨P, w, K, mg, base, m, false, me⟩ "power" f_power.den [] := fun m hm me => fnG_mono (me := me) hm (fnG_of (d := dd_power) (n := 34) f_power (vs := []) F_power rfl sc_power rfl rfl G (by decide) (fun z => absurd z (by decide +kernel)) q_power ok_power (He.glo_ok X M (c.fact 11 (f := .glo "power") rfl)) ⟨[], .nil, F_power.bindsN fun _ _ _ _ _ _ us hl => match us, hl with | [_, _], _ => rfl⟩ (fun _ _ => .nil))
  have q_round_up : b_round_up.good ⟨P, w, K, mg, base, 32, false, dd_round_up.qual ++ ".<locals>."⟩ := by
    simp only [b_round_up, Stms.good, Stm.good, Ex.good, Exs.good, Oe.good, Itr.good, goodP, Gd.heat, and_true, true_and, and_self, eq_self]
  have g_round_up_0 : ∀ m, 33 ≤ m → ∀ me, FnG ⟨P, w, K, mg, base, m, false, me⟩ "round_up" f_round_up.den [] := fun m hm me => fnG_mono (me := me) hm (fnG_of (d := dd_round_up) (n := 32) f_round_up (vs := []) F_round_up rfl sc_round_up rfl rfl G (by decide) (fun z => absurd z (by decide +kernel)) q_round_up ok_round_up (He.glo_ok X M (c.fact 12 (f := .glo "round_up") rfl)) ⟨[], .nil, F_round_up.bindsN fun _ _ _ _ _ _ us hl => match us, hl with | [_], _ => rfl⟩ (fun _ _ => .nil))
  have q_ascending : b_ascending.good ⟨P, w, K, mg, base, 32, false, dd_ascending.qual ++ ".<locals>."⟩ := by
    simp only [b_ascending, Stms.good, Stm.good, Ex.good, Exs.good, Oe.good, Itr.good, goodP, Gd.heat, and_true, true_and, and_self, eq_self, g_lcm, x_asc, x_tb, lamMe]
  have g_ascending_0 : ∀ m, 33 ≤ m → ∀ me, FnG ⟨P, w, K, mg, base, m, false, me⟩ "ascending" f_ascending.den [] := fun m hm me => fnG_mono (me := me) hm (fnG_of (d := dd_ascending) (n := 32) f_ascending (vs := []) F_ascending rfl sc_ascending rfl rfl G (by decide) (fun _ => rfl) q_ascending ok_ascending (He.glo_ok X M (c.fact 13 (f := .glo "ascending") rfl)) ⟨[], .nil, F_ascending.bindsN fun _ _ _ _ _ _ us hl => match us, hl with | [_], _ => rfl⟩ (fun _ _ => .nil))
  have q__law_cell : b__law_cell.good ⟨P, w, K, mg, base, 32, false, dd__law_cell.qual ++ ".<locals>."⟩ := by
    simp only [b__law_cell, Stms.good, Stm.good, Ex.good, Exs.good, Oe.good, Itr.good, goodP, Gd.heat, and_true, true_and, and_self, eq_self]
  have g__law_cell_0 : ∀ m, 33 ≤ m → ∀ me, FnG ⟨P, w, K, mg, base, m, false, me⟩ "_law_cell" f__law_cell.den [] := fun m hm me => fnG_mono (me := me) hm (fnG_of (d := dd__law_cell) (n := 32) f__law_cell (vs := []) F__law_cell rfl sc__law_cell rfl rfl G (by decide) (fun z => absurd z (by decide +kernel)) q__law_cell ok__law_cell (He.glo_ok X M (c.fact 14 (f := .glo "_law_cell") rfl)) ⟨[], .nil, F__law_cell.bindsN fun _ _ _ _ _ _ us hl => match us, hl with | [_, _], _ => rfl⟩ (fun _ _ => .nil))
  have q__law_whole : b__law_whole.good ⟨P, w, K, mg, base, 32, false, dd__law_whole.qual ++ ".<locals>."⟩ := by
    simp only [b__law_whole, Stms.good, Stm.good, Ex.good, Exs.good, Oe.good, Itr.good, goodP, Gd.heat, and_true, true_and, and_self, eq_self]
  have g__law_whole_0 : ∀ m, 33 ≤ m → ∀ me, FnG ⟨P, w, K, mg, base, m, false, me⟩ "_law_whole" f__law_whole.den [] := fun m hm me => fnG_mono (me := me) hm (fnG_of (d := dd__law_whole) (n := 32) f__law_whole (vs := []) F__law_whole rfl sc__law_whole rfl rfl G (by decide) (fun z => absurd z (by decide +kernel)) q__law_whole ok__law_whole (He.glo_ok X M (c.fact 15 (f := .glo "_law_whole") rfl)) ⟨[], .nil, F__law_whole.bindsN fun _ _ _ _ _ _ us hl => match us, hl with | [_], _ => rfl⟩ (fun _ _ => .nil))
  have q__law_lowest : b__law_lowest.good ⟨P, w, K, mg, base, 32, false, dd__law_lowest.qual ++ ".<locals>."⟩ := by
    simp only [b__law_lowest, Stms.good, Stm.good, Ex.good, Exs.good, Oe.good, Itr.good, goodP, Gd.heat, and_true, true_and, and_self, eq_self]
  have g__law_lowest_0 : ∀ m, 33 ≤ m → ∀ me, FnG ⟨P, w, K, mg, base, m, false, me⟩ "_law_lowest" f__law_lowest.den [] := fun m hm me => fnG_mono (me := me) hm (fnG_of (d := dd__law_lowest) (n := 32) f__law_lowest (vs := []) F__law_lowest rfl sc__law_lowest rfl rfl G (by decide) (fun z => absurd z (by decide +kernel)) q__law_lowest ok__law_lowest (He.glo_ok X M (c.fact 16 (f := .glo "_law_lowest") rfl)) ⟨[], .nil, F__law_lowest.bindsN fun _ _ _ _ _ _ us hl => match us, hl with | [_, _], _ => rfl⟩ (fun _ _ => .nil))
  have q__law_is_whole : b__law_is_whole.good ⟨P, w, K, mg, base, 32, false, dd__law_is_whole.qual ++ ".<locals>."⟩ := by
    simp only [b__law_is_whole, Stms.good, Stm.good, Ex.good, Exs.good, Oe.good, Itr.good, goodP, Gd.heat, and_true, true_and, and_self, eq_self]
  have g__law_is_whole_0 : ∀ m, 33 ≤ m → ∀ me, FnG ⟨P, w, K, mg, base, m, false, me⟩ "_law_is_whole" f__law_is_whole.den [] := fun m hm me => fnG_mono (me := me) hm (fnG_of (d := dd__law_is_whole) (n := 32) f__law_is_whole (vs := []) F__law_is_whole rfl sc__law_is_whole rfl rfl G (by decide) (fun z => absurd z (by decide +kernel)) q__law_is_whole ok__law_is_whole (He.glo_ok X M (c.fact 17 (f := .glo "_law_is_whole") rfl)) ⟨[], .nil, F__law_is_whole.bindsN fun _ _ _ _ _ _ us hl => match us, hl with | [_], _ => rfl⟩ (fun _ _ => .nil))
  have q__law_same : b__law_same.good ⟨P, w, K, mg, base, 33, false, dd__law_same.qual ++ ".<locals>."⟩ := by
    simp only [b__law_same, Stms.good, Stm.good, Ex.good, Exs.good, Oe.good, Itr.good, goodP, Gd.heat, and_true, true_and, and_self, eq_self, g__law_is_whole_0 33 (by decide), g__law_lowest_0 33 (by decide)]
  have g__law_same_0 : ∀ m, 34 ≤ m → ∀ me, FnG ⟨P, w, K, mg, base, m, false, me⟩ "_law_same" f__law_same.den [] := fun m hm me => fnG_mono (me := me) hm (fnG_of (d := dd__law_same) (n := 33) f__law_same (vs := []) F__law_same rfl sc__law_same rfl rfl G (by decide) (fun z => absurd z (by decide +kernel)) q__law_same ok__law_same (He.glo_ok X M (c.fact 18 (f := .glo "_law_same") rfl)) ⟨[], .nil, F__law_same.bindsN fun _ _ _ _ _ _ us hl => match us, hl with | [_, _, _], _ => rfl⟩ (fun _ _ => .nil))
  have q__law_says : b__law_says.good ⟨P, w, K, mg, base, 32, false, dd__law_says.qual ++ ".<locals>."⟩ := by
    simp only [b__law_says, Stms.good, Stm.good, Ex.good, Exs.good, Oe.good, Itr.good, goodP, Gd.heat, and_true, true_and, and_self, eq_self]
  have g__law_says_0 : ∀ m, 33 ≤ m → ∀ me, FnG ⟨P, w, K, mg, base, m, false, me⟩ "_law_says" f__law_says.den [] := fun m hm me => fnG_mono (me := me) hm (fnG_of (d := dd__law_says) (n := 32) f__law_says (vs := []) F__law_says rfl sc__law_says rfl rfl G (by decide) (fun z => absurd z (by decide +kernel)) q__law_says ok__law_says (He.glo_ok X M (c.fact 19 (f := .glo "_law_says") rfl)) ⟨[], .nil, F__law_says.bindsN fun _ _ _ _ _ _ us hl => match us, hl with | [_, _], _ => rfl⟩ (fun _ _ => .nil))
  have q__law_due_error_hot : b__law_due_error.good ⟨P, w, K, mg, base, 32, true, dd__law_due_error.qual ++ ".<locals>."⟩ := by
    simp only [b__law_due_error, Stms.good, Stm.good, Ex.good, Exs.good, Oe.good, Itr.good, goodP, Gd.heat, and_true, true_and, and_self, eq_self, x_isc_ValueError, x_isc_BadNumber, x_isc_TooMany, x_isc_Outside, x_isc_NoGain]
  have g__law_due_error_0_hot : ∀ m, 33 ≤ m → ∀ me, FnG ⟨P, w, K, mg, base, m, true, me⟩ "_law_due_error" f__law_due_error.den [] := fun m hm me => fnG_mono (me := me) hm (fnG_of (d := dd__law_due_error) (n := 32) f__law_due_error (vs := []) F__law_due_error rfl sc__law_due_error rfl rfl G (by decide) (fun z => absurd z (by decide +kernel)) q__law_due_error_hot ok__law_due_error (He.glo_ok X M (c.fact 20 (f := .glo "_law_due_error") rfl)) ⟨[], .nil, F__law_due_error.bindsN fun _ _ _ _ _ _ us hl => match us, hl with | [_], _ => rfl⟩ (fun _ _ => .nil))
  have q__law_refusals : b__law_refusals.good ⟨P, w, K, mg, base, 34, false, dd__law_refusals.qual ++ ".<locals>."⟩ := by
    simp only [b__law_refusals, Stms.good, Stm.good, Ex.good, Exs.good, Oe.good, Itr.good, goodP, Gd.heat, and_true, true_and, and_self, eq_self, g_frac_0 34 (by decide), g_over_0 34 (by decide), g__law_due_error_0_hot 34 (by decide), x_exm_SettleError]
  have g__law_refusals_0 : ∀ m, 35 ≤ m → ∀ me, FnG ⟨P, w, K, mg, base, m, false, me⟩ "_law_refusals" f__law_refusals.den [] := fun m hm me => fnG_mono (me := me) hm (fnG_of (d := dd__law_refusals) (n := 34) f__law_refusals (vs := []) F__law_refusals rfl sc__law_refusals rfl rfl G (by decide) (fun z => absurd z (by decide +kernel)) q__law_refusals ok__law_refusals (He.glo_ok X M (c.fact 21 (f := .glo "_law_refusals") rfl)) ⟨[], .nil, F__law_refusals.bindsN fun _ _ _ _ _ _ us hl => match us, hl with | [_, _], _ => rfl⟩ (fun _ _ => .nil))
  have q__law_sums : b__law_sums.good ⟨P, w, K, mg, base, 35, false, dd__law_sums.qual ++ ".<locals>."⟩ := by
    simp only [b__law_sums, Stms.good, Stm.good, Ex.good, Exs.good, Oe.good, Itr.good, goodP, Gd.heat, and_true, true_and, and_self, eq_self, g__law_same_0 35 (by decide), g_middle_0 35 (by decide), g_minus_0 35 (by decide), g_over_0 35 (by decide), g_plus_0 35 (by decide), g_times_0 35 (by decide)]
  have g__law_sums_0 : ∀ m, 36 ≤ m → ∀ me, FnG ⟨P, w, K, mg, base, m, false, me⟩ "_law_sums" f__law_sums.den [] := fun m hm me => fnG_mono (me := me) hm (fnG_of (d := dd__law_sums) (n := 35) f__law_sums (vs := []) F__law_sums rfl sc__law_sums rfl rfl G (by decide) (fun z => absurd z (by decide +kernel)) q__law_sums ok__law_sums (He.glo_ok X M (c.fact 22 (f := .glo "_law_sums") rfl)) ⟨[], .nil, F__law_sums.bindsN fun _ _ _ _ _ _ us hl => match us, hl with | [_, _, _, _, _, _], _ => rfl⟩ (fun _ _ => .nil))
  have q__law_order : b__law_order.good ⟨P, w, K, mg, base, 34, false, dd__law_order.qual ++ ".<locals>."⟩ := by
    simp only [b__law_order, Stms.good, Stm.good, Ex.good, Exs.good, Oe.good, Itr.good, goodP, Gd.heat, and_true, true_and, and_self, eq_self, g__law_same_0 34 (by decide), g__law_says_0 34 (by decide), g_at_most_0 34 (by decide), g_below_0 34 (by decide), g_larger_0 34 (by decide), g_smaller_0 34 (by decide)]
  have g__law_order_0 : ∀ m, 35 ≤ m → ∀ me, FnG ⟨P, w, K, mg, base, m, false, me⟩ "_law_order" f__law_order.den [] := fun m hm me => fnG_mono (me := me) hm (fnG_of (d := dd__law_order) (n := 34) f__law_order (vs := []) F__law_order rfl sc__law_order rfl rfl G (by decide) (fun z => absurd z (by decide +kernel)) q__law_order ok__law_order (He.glo_ok X M (c.fact 23 (f := .glo "_law_order") rfl)) ⟨[], .nil, F__law_order.bindsN fun _ _ _ _ _ _ us hl => match us, hl with | [_, _, _, _, _, _], _ => rfl⟩ (fun _ _ => .nil))
  have q__law_rounded : b__law_rounded.good ⟨P, w, K, mg, base, 33, false, dd__law_rounded.qual ++ ".<locals>."⟩ := by
    simp only [b__law_rounded, Stms.good, Stm.good, Ex.good, Exs.good, Oe.good, Itr.good, goodP, Gd.heat, and_true, true_and, and_self, eq_self, g__law_is_whole_0 33 (by decide), g__law_lowest_0 33 (by decide), g_round_up_0 33 (by decide)]
  have g__law_rounded_0 : ∀ m, 34 ≤ m → ∀ me, FnG ⟨P, w, K, mg, base, m, false, me⟩ "_law_rounded" f__law_rounded.den [] := fun m hm me => fnG_mono (me := me) hm (fnG_of (d := dd__law_rounded) (n := 33) f__law_rounded (vs := []) F__law_rounded rfl sc__law_rounded rfl rfl G (by decide) (fun z => absurd z (by decide +kernel)) q__law_rounded ok__law_rounded (He.glo_ok X M (c.fact 24 (f := .glo "_law_rounded") rfl)) ⟨[], .nil, F__law_rounded.bindsN fun _ _ _ _ _ _ us hl => match us, hl with | [_, _, _], _ => rfl⟩ (fun _ _ => .nil))
  have q__law_powers : b__law_powers.good ⟨P, w, K, mg, base, 35, false, dd__law_powers.qual ++ ".<locals>."⟩ := by
    simp only [b__law_powers, Stms.good, Stm.good, Ex.good, Exs.good, Oe.good, Itr.good, goodP, Gd.heat, and_true, true_and, and_self, eq_self, g__law_same_0 35 (by decide), g_power_0 35 (by decide)]
  have g__law_powers_0 : ∀ m, 36 ≤ m → ∀ me, FnG ⟨P, w, K, mg, base, m, false, me⟩ "_law_powers" f__law_powers.den [] := fun m hm me => fnG_mono (me := me) hm (fnG_of (d := dd__law_powers) (n := 35) f__law_powers (vs := []) F__law_powers rfl sc__law_powers rfl rfl G (by decide) (fun z => absurd z (by decide +kernel)) q__law_powers ok__law_powers (He.glo_ok X M (c.fact 25 (f := .glo "_law_powers") rfl)) ⟨[], .nil, F__law_powers.bindsN fun _ _ _ _ _ _ us hl => match us, hl with | [_, _, _], _ => rfl⟩ (fun _ _ => .nil))
  have q__law_sorted : b__law_sorted.good ⟨P, w, K, mg, base, 32, false, dd__law_sorted.qual ++ ".<locals>."⟩ := by
    simp only [b__law_sorted, Stms.good, Stm.good, Ex.good, Exs.good, Oe.good, Itr.good, goodP, Gd.heat, and_true, true_and, and_self, eq_self]
  have g__law_sorted_0 : ∀ m, 33 ≤ m → ∀ me, FnG ⟨P, w, K, mg, base, m, false, me⟩ "_law_sorted" f__law_sorted.den [] := fun m hm me => fnG_mono (me := me) hm (fnG_of (d := dd__law_sorted) (n := 32) f__law_sorted (vs := []) F__law_sorted rfl sc__law_sorted rfl rfl G (by decide) (fun z => absurd z (by decide +kernel)) q__law_sorted ok__law_sorted (He.glo_ok X M (c.fact 26 (f := .glo "_law_sorted") rfl)) ⟨[], .nil, F__law_sorted.bindsN fun _ _ _ _ _ _ us hl => match us, hl with | [_], _ => rfl⟩ (fun _ _ => .nil))
  have q__law_lists : b__law_lists.good ⟨P, w, K, mg, base, 35, false, dd__law_lists.qual ++ ".<locals>."⟩ := by
    simp only [b__law_lists, Stms.good, Stm.good, Ex.good, Exs.good, Oe.good, Itr.good, goodP, Gd.heat, and_true, true_and, and_self, eq_self, g__law_is_whole_0 35 (by decide), g__law_lowest_0 35 (by decide), g__law_same_0 35 (by decide), g__law_sorted_0 35 (by decide), g_ascending_0 35 (by decide), g_total_0 35 (by decide)]
  have g__law_lists_0 : ∀ m, 36 ≤ m → ∀ me, FnG ⟨P, w, K, mg, base, m, false, me⟩ "_law_lists" f__law_lists.den [] := fun m hm me => fnG_mono (me := me) hm (fnG_of (d := dd__law_lists) (n := 35) f__law_lists (vs := []) F__law_lists rfl sc__law_lists rfl rfl G (by decide) (fun z => absurd z (by decide +kernel)) q__law_lists ok__law_lists (He.glo_ok X M (c.fact 27 (f := .glo "_law_lists") rfl)) ⟨[], .nil, F__law_lists.bindsN fun _ _ _ _ _ _ us hl => match us, hl with | [_, _], _ => rfl⟩ (fun _ _ => .nil))
  have q_law : b_law.good ⟨P, w, K, mg, base, 36, false, dd_law.qual ++ ".<locals>."⟩ := by
    simp only [b_law, Stms.good, Stm.good, Ex.good, Exs.good, Oe.good, Itr.good, goodP, Gd.heat, and_true, true_and, and_self, eq_self, g__law_cell_0 36 (by decide), g__law_lists_0 36 (by decide), g__law_lowest_0 36 (by decide), g__law_order_0 36 (by decide), g__law_powers_0 36 (by decide), g__law_refusals_0 36 (by decide), g__law_rounded_0 36 (by decide), g__law_same_0 36 (by decide), g__law_sums_0 36 (by decide), g__law_whole_0 36 (by decide), g_frac_0 36 (by decide), g_frac_1 36 (by decide), x_glb_HALF, x_glb_ONE, x_glb_ZERO]
  exact fn_sound f_law F_law sc_law rfl rfl G (by decide) (fun z => absurd z (by decide +kernel)) q_law ok_law
end
end K86
open PySem PySem.W PySem.Calls PyProof.Rows
theorem PySem.Challenge.cw_whattwosettle_k86_exact_fractions_holds : PySem.Challenge.rw_whattwosettle_k86_exact_fractions.Holds := by
  w_on; o_law
  refine HeadRun.head_imp (r := K86.R) (q := view K86.R.prog [0, 40]) (H := K86.hk) (ob := K86.ob) (M := 20000) (loose := K86.loose) (d := HeadRun.topDef K86.R.prog 40) (kwd := []) K86.ob_eq
    K86.run (by kernel_rfl) (by kernel_rfl) (by kernel_rfl) (by rfl) (by first | assumption | decide +kernel) (by decide +kernel) ⟨rfl, rfl, rfl, rfl, rfl, by decide +kernel⟩ ?hw ?hc
  case hw => w_witness2
  case hc =>
    refine Ev.walk_law (l := PySem.Challenge.rw_whattwosettle_k86_exact_fractions) (n := 63) (k := 37) (x := "script") (den := K86.f_law.den) rfl (by decide) (by kernel_rfl) ⟨rfl, by decide, by decide⟩ (by kernel_rfl) (by rfl) K86.law_den ?F
    intro w mg fa h Y G hmg0
    obtain ⟨K, KX, c⟩ := Y
    have hmg : mg ("law" : PySem.Str) = some (.ref fa) := by
      have e : (HeadRun.topDef K86.R.prog 40).name = ("law" : PySem.Str) := by kernel_rfl
      rw [← e]
      exact hmg0
    have e := hmg.symm.trans (He.glo_ok KX G (c.t.d.fact 28 (f := .glo "law") rfl))
    cases e
    obtain ⟨fr, fd, hb, hF⟩ := K86.facts (P := (PySem.Challenge.rw_whattwosettle_k86_exact_fractions).prog) (w := w) KX G c.t.d c.more
    exact ⟨K, fd, K86.cs K, KX, K86.tabs_in c, hb, fr, fun base _ _ gr tb => hF base gr tb⟩
